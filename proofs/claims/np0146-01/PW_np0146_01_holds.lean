import PyProof.Rows.All
import PyProof.SliceMore
import Wide.All
import OpenK.AllK
import PyProof.TupleOps
import PyProof.Rows.StrCase
import PyProof.AutoSeq1
import PyProof.ExcBaseAll.Exception
import PyProof.WalksMore
import PyProof.DictWalks
import PySem.Challenge.RW_np0146_01
set_option Elab.async false
set_option linter.all false
set_option genSizeOf false
set_option genSizeOfSpec false
set_option genInjectivity false
set_option genCtorIdx false
set_option bootstrap.genMatcherCode false
section
set_option maxRecDepth 100000
namespace Mine
section
theorem Φ:type_of%@Nat.le_of_ble_eq_true:=@Nat.le_of_ble_eq_true
theorem ej:type_of%@List.getElem?_eq_some_iff:=@List.getElem?_eq_some_iff
theorem ek:type_of%@List.prefix_refl:=@List.prefix_refl
theorem dx:type_of%@List.mem_cons:=@List.mem_cons
theorem ξ:type_of%@Nat.le_refl:=@Nat.le_refl
theorem dM:type_of%@List.all_eq_true:=@List.all_eq_true
theorem bC:type_of%@Nat.zero_le:=@Nat.zero_le
theorem bD:type_of%@Bool.and_eq_true_iff:=@Bool.and_eq_true_iff
theorem η:type_of%@Nat.le_trans:=@Nat.le_trans
theorem e_:type_of%@Bool.or_eq_true_iff:=@Bool.or_eq_true_iff
theorem Θ:type_of%@List.length_append:=@List.length_append
theorem aK:type_of%@Int.ofNat_le:=@Int.ofNat_le
theorem jU:type_of%@List.take_of_length_le:=@List.take_of_length_le
theorem b_:type_of%@List.length_map:=@List.length_map
theorem jV:type_of%@List.mem_singleton:=@List.mem_singleton
theorem jf:type_of%@List.mem_of_getElem?:=@List.mem_of_getElem?
theorem eC:type_of%@Int.natCast_nonneg:=@Int.natCast_nonneg
theorem kS:type_of%@List.mem_of_mem_take:=@List.mem_of_mem_take
theorem aP:type_of%@Nat.le_add_right:=@Nat.le_add_right
theorem jW:type_of%@List.getElem?_eq_getElem:=@List.getElem?_eq_getElem
theorem gn:type_of%@Nat.lt_trans:=@Nat.lt_trans
theorem fG:type_of%@Option.map_eq_some_iff:=@Option.map_eq_some_iff
theorem aX:type_of%@Nat.lt_of_le_of_lt:=@Nat.lt_of_le_of_lt
theorem eD:type_of%@Nat.ne_of_lt:=@Nat.ne_of_lt
theorem Ψ:type_of%@Nat.le_of_eq:=@Nat.le_of_eq
theorem kT:type_of%@Option.isNone_iff_eq_none:=@Option.isNone_iff_eq_none
theorem jg:type_of%@List.nodup_cons:=@List.nodup_cons
theorem ck:type_of%@List.append_nil:=@List.append_nil
theorem aN:type_of%@List.append_assoc:=@List.append_assoc
theorem bM:type_of%@Nat.add_le_add_right:=@Nat.add_le_add_right
theorem cY:type_of%@List.length_drop:=@List.length_drop
theorem bE:type_of%@Nat.le_of_lt:=@Nat.le_of_lt
theorem cZ:type_of%@List.isEmpty_iff:=@List.isEmpty_iff
theorem gu:type_of%@Nat.succ_pos:=@Nat.succ_pos
theorem ς:type_of%@Bool.false_ne_true:=@Bool.false_ne_true
theorem bW:type_of%@Nat.le_succ_of_le:=@Nat.le_succ_of_le
theorem gv:type_of%@Nat.le_succ:=@Nat.le_succ
theorem kU:type_of%@List.drop_eq_nil_of_le:=@List.drop_eq_nil_of_le
theorem eE:type_of%@List.getElem?_map:=@List.getElem?_map
theorem cJ:type_of%@Int.ofNat_lt:=@Int.ofNat_lt
theorem iD:type_of%@List.not_mem_nil:=@List.not_mem_nil
theorem gM:type_of%@Bool.and_true:=@Bool.and_true
theorem az:type_of%@Nat.add_le_add_left:=@Nat.add_le_add_left
theorem fc:type_of%@List.map_append:=@List.map_append
theorem bR:type_of%@Nat.zero_add:=@Nat.zero_add
theorem fH:type_of%@Nat.min_eq_left:=@Nat.min_eq_left
theorem iE:type_of%@Nat.le_of_succ_le:=@Nat.le_of_succ_le
theorem fJ:type_of%@List.take_append_drop:=@List.take_append_drop
theorem d6:type_of%@Nat.lt_of_lt_of_le:=@Nat.lt_of_lt_of_le
theorem jh:type_of%@List.any_eq_true:=@List.any_eq_true
theorem dN:type_of%@Nat.add_sub_cancel_left:=@Nat.add_sub_cancel_left
theorem fh:type_of%@Nat.lt_of_not_le:=@Nat.lt_of_not_le
theorem cA:type_of%@List.drop_drop:=@List.drop_drop
theorem aQ:type_of%@Nat.add_comm:=@Nat.add_comm
theorem fi:type_of%@Nat.lt_of_succ_lt_succ:=@Nat.lt_of_succ_lt_succ
theorem aA:type_of%@Nat.add_assoc:=@Nat.add_assoc
theorem iG:type_of%@Nat.add_right_comm:=@Nat.add_right_comm
theorem gx:type_of%@Bool.apply_cond:=@Bool.apply_cond
theorem dO:type_of%@Nat.one_le_of_lt:=@Nat.one_le_of_lt
theorem dG:type_of%@Nat.add_le_add:=@Nat.add_le_add
theorem c9:type_of%@List.mem_cons_self:=@List.mem_cons_self
theorem dP:type_of%@Nat.sub_add_cancel:=@Nat.sub_add_cancel
theorem fj:type_of%@Int.le_of_eq:=@Int.le_of_eq
theorem kW:type_of%@Nat.le_of_add_left_le:=@Nat.le_of_add_left_le
theorem ai:type_of%@Nat.le_add_left:=@Nat.le_add_left
theorem d7:type_of%@Nat.le_of_add_right_le:=@Nat.le_of_add_right_le
theorem cS:type_of%@List.mem_append_right:=@List.mem_append_right
theorem jX:type_of%@List.getLast?_concat:=@List.getLast?_concat
theorem jY:type_of%@List.dropLast_concat:=@List.dropLast_concat
theorem jZ:type_of%@Nat.le_of_succ_le_succ:=@Nat.le_of_succ_le_succ
theorem cU:type_of%@List.mem_append_left:=@List.mem_append_left
theorem ji:type_of%@Nat.mul_le_mul_left:=@Nat.mul_le_mul_left
section
variable{a b c d e f x y u v:Nat}
theorem bK(p:a<=b)(k:b+e<=a+f):e<=f:=by omega
theorem wK(p:a<=b)(q:c<=d)(k:b+d+e<=a+c+f):e<=f:=by omega
theorem wL(p:a<=b)(q:c<=d)(r:x<=y)(k:b+d+y+e<=a+c+x+f):e<=f:=by omega
theorem Ia(p:a=b)(k:b+e=a+f):e=f:=by omega
end
section
variable{a b c d e f x y u v:Int}
theorem fK(p:a<=b)(k:b+e<=a+f):e<=f:=by omega
theorem qO(p:a<=b)(q:c<=d)(k:b+d+e<=a+c+f):e<=f:=by omega
theorem wM(p:a<=b)(q:c<=d)(r:x<=y)(s:u<=v)(k:b+d+y+v+e<=a+c+x+u+f):e<=f:=by omega
theorem Ib(p:a<=b)(k:b+1<=a):False:=by omega
theorem eo(p:a<=b)(q:c<=d)(k:b+d+1<=a+c):False:=by omega
end
theorem nD{p:Nat->Prop}{c d:Nat}(h:p c)(k:¬p d):¬c=d:=λe=>k (e▸h)
theorem oV{p:Nat->Prop}{c d:Nat}(h:p c)(k:¬p d):¬d=c:=λe=>k (e.symm▸h)
theorem nC{f:Nat->Bool}{c d:Nat}(h:f c=true)(k:f d=false):¬c=d:=λe=>Bool.noConfusion (k.symm.trans (e▸h))
theorem nM{c d:Nat}{L:List Nat}(h:c∉L)(k:d∈L):¬c=d:=λe=>h (e▸k)
theorem nS{c:Nat}{L M:List Nat}(h:c∉L)(k:∀d∈M,d∈L):c∉M:=λm=>h (k c m)
noncomputable def AQ{α:Type}(P:α->Prop):List α->Prop
 |[]=>True
 |a::l=>P a∧AQ P l
theorem fL{α:Type}{P:α->Prop}:∀{L:List α} {x:α},x∈L->AQ P L->P x
 |_,_,.head _,h=>h.1
 |_,_,.tail _ m,h=>fL m h.2
end
section
theorem ah{α:Type}{x:α}{p:Prop}(h:Option.none=some x):p:=nomatch h
theorem aG{p:Prop}(h:false=true):p:=nomatch h
inductive V where
 |none|bool (b:Bool)|int (i:Int)|str (s:List Nat)
 |tup (vs:List V)|list (vs:List V)|dict (kvs:List (List Nat×V))|obj (k:Nat)
noncomputable def V.ctorIdx(x:V):Nat:=@V.casesOn (λ_=>Nat) x (0:Nat) (λ_=>(1:Nat)) (λ_=>(2:Nat)) (λ_=>(3:Nat)) (λ_=>(4:Nat)) (λ_=>(5:Nat)) (λ_=>(6:Nat)) (λ_=>(7:Nat))
set_option genCtorIdx true in
inductive ay where
 |text|tokens|levels|at|code|value|mE|level|ret|info|tR|line|extra
 deriving DecidableEq
set_option genCtorIdx true in
inductive c_ where
 |reader|raised
 deriving DecidableEq
structure O where
 cls:c_
 fs:List (ay×V)
inductive Slot where
 |un|v (x:V)|own (vs:List V)
noncomputable abbrev Loc:=List Slot
noncomputable abbrev Hp:=List O
set_option genCtorIdx true in
inductive fM where
 |add|sub|mul|fdiv|mod|pow
set_option genCtorIdx true in
inductive gy where
 |eq|ne|lt|le|gt|ge|is|jj|aj|fN
set_option genCtorIdx true in
inductive Bi where
 |len|ord|str|tuple
set_option genCtorIdx true in
inductive Mt where
 |lower|isalnum|isdigit|startswith|find|index|join|get
noncomputable abbrev Fn:=Fin 88
noncomputable def Fn.iH:Fn:=⟨0,Φ rfl⟩
noncomputable def Fn.error:Fn:=⟨1,Φ rfl⟩
noncomputable def Fn.isBlank:Fn:=⟨2,Φ rfl⟩
noncomputable def Fn.digit:Fn:=⟨3,Φ rfl⟩
noncomputable def Fn.digitsValue:Fn:=⟨4,Φ rfl⟩
noncomputable def Fn.baseOf:Fn:=⟨5,Φ rfl⟩
noncomputable def Fn.wholeOf:Fn:=⟨6,Φ rfl⟩
noncomputable def Fn.boolOf:Fn:=⟨7,Φ rfl⟩
noncomputable def Fn.mF:Fn:=⟨8,Φ rfl⟩
noncomputable def Fn.eG:Fn:=⟨9,Φ rfl⟩
noncomputable def Fn.wN:Fn:=⟨10,Φ rfl⟩
noncomputable def Fn.iI:Fn:=⟨11,Φ rfl⟩
noncomputable def Fn.readName:Fn:=⟨12,Φ rfl⟩
noncomputable def Fn.kX:Fn:=⟨13,Φ rfl⟩
noncomputable def Fn.brackets:Fn:=⟨14,Φ rfl⟩
noncomputable def Fn.j0:Fn:=⟨15,Φ rfl⟩
noncomputable def Fn.mG:Fn:=⟨16,Φ rfl⟩
noncomputable def Fn.bF:Fn:=⟨17,Φ rfl⟩
noncomputable def Fn.qP:Fn:=⟨18,Φ rfl⟩
noncomputable def Fn.oW:Fn:=⟨19,Φ rfl⟩
noncomputable def Fn.word:Fn:=⟨20,Φ rfl⟩
noncomputable def Fn.oX:Fn:=⟨21,Φ rfl⟩
noncomputable def Fn.hG:Fn:=⟨22,Φ rfl⟩
noncomputable def Fn.tS:Fn:=⟨23,Φ rfl⟩
noncomputable def Fn.oY:Fn:=⟨24,Φ rfl⟩
noncomputable def Fn.isDigit:Fn:=⟨25,Φ rfl⟩
noncomputable def Fn.runEnd:Fn:=⟨26,Φ rfl⟩
noncomputable def Fn.mH:Fn:=⟨27,Φ rfl⟩
noncomputable def Fn.oZ:Fn:=⟨28,Φ rfl⟩
noncomputable def Fn.qQ:Fn:=⟨29,Φ rfl⟩
noncomputable def Fn.tT:Fn:=⟨30,Φ rfl⟩
noncomputable def Fn.qR:Fn:=⟨31,Φ rfl⟩
noncomputable def Fn.gN:Fn:=⟨32,Φ rfl⟩
noncomputable def Fn.lex:Fn:=⟨33,Φ rfl⟩
noncomputable def Fn.levels:Fn:=⟨34,Φ rfl⟩
noncomputable def Fn.iJ:Fn:=⟨35,Φ rfl⟩
noncomputable def Fn.cn:Fn:=⟨36,Φ rfl⟩
noncomputable def Fn.eH:Fn:=⟨37,Φ rfl⟩
noncomputable def Fn.dc:Fn:=⟨38,Φ rfl⟩
noncomputable def Fn.fO:Fn:=⟨39,Φ rfl⟩
noncomputable def Fn.dQ:Fn:=⟨40,Φ rfl⟩
noncomputable def Fn.eI:Fn:=⟨41,Φ rfl⟩
noncomputable def Fn.mI:Fn:=⟨42,Φ rfl⟩
noncomputable def Fn.qS:Fn:=⟨43,Φ rfl⟩
noncomputable def Fn.missing:Fn:=⟨44,Φ rfl⟩
noncomputable def Fn.kY:Fn:=⟨45,Φ rfl⟩
noncomputable def Fn.iK:Fn:=⟨46,Φ rfl⟩
noncomputable def Fn.close:Fn:=⟨47,Φ rfl⟩
noncomputable def Fn.o4:Fn:=⟨48,Φ rfl⟩
noncomputable def Fn.qT:Fn:=⟨49,Φ rfl⟩
noncomputable def Fn.operand:Fn:=⟨50,Φ rfl⟩
noncomputable def Fn.prefixed:Fn:=⟨51,Φ rfl⟩
noncomputable def Fn.choice:Fn:=⟨52,Φ rfl⟩
noncomputable def Fn.joined:Fn:=⟨53,Φ rfl⟩
noncomputable def Fn.fP:Fn:=⟨54,Φ rfl⟩
noncomputable def Fn.o5:Fn:=⟨55,Φ rfl⟩
noncomputable def Fn.iL:Fn:=⟨56,Φ rfl⟩
noncomputable def Fn.iM:Fn:=⟨57,Φ rfl⟩
noncomputable def Fn.mJ:Fn:=⟨58,Φ rfl⟩
noncomputable def Fn.qU:Fn:=⟨59,Φ rfl⟩
noncomputable def Fn.qV:Fn:=⟨60,Φ rfl⟩
noncomputable def Fn.tU:Fn:=⟨61,Φ rfl⟩
noncomputable def Fn.j1:Fn:=⟨62,Φ rfl⟩
noncomputable def Fn.gA:Fn:=⟨63,Φ rfl⟩
noncomputable def Fn.kZ:Fn:=⟨64,Φ rfl⟩
noncomputable def Fn.j2:Fn:=⟨65,Φ rfl⟩
noncomputable def Fn.tW:Fn:=⟨66,Φ rfl⟩
noncomputable def Fn.o6:Fn:=⟨67,Φ rfl⟩
noncomputable def Fn.tX:Fn:=⟨68,Φ rfl⟩
noncomputable def Fn.mK:Fn:=⟨69,Φ rfl⟩
noncomputable def Fn.qW:Fn:=⟨70,Φ rfl⟩
noncomputable def Fn.eJ:Fn:=⟨71,Φ rfl⟩
noncomputable def Fn.fQ:Fn:=⟨72,Φ rfl⟩
noncomputable def Fn.j3:Fn:=⟨73,Φ rfl⟩
noncomputable def Fn.mL:Fn:=⟨74,Φ rfl⟩
noncomputable def Fn.qX:Fn:=⟨75,Φ rfl⟩
noncomputable def Fn.o7:Fn:=⟨76,Φ rfl⟩
noncomputable def Fn.tY:Fn:=⟨77,Φ rfl⟩
noncomputable def Fn.hH:Fn:=⟨78,Φ rfl⟩
noncomputable def Fn.o8:Fn:=⟨79,Φ rfl⟩
noncomputable def Fn.qY:Fn:=⟨80,Φ rfl⟩
noncomputable def Fn.o9:Fn:=⟨81,Φ rfl⟩
noncomputable def Fn.iN:Fn:=⟨82,Φ rfl⟩
noncomputable def Fn.cV:Fn:=⟨83,Φ rfl⟩
noncomputable def Fn.bH:Fn:=⟨84,Φ rfl⟩
noncomputable def Fn.j4:Fn:=⟨85,Φ rfl⟩
noncomputable def Fn.gB:Fn:=⟨86,Φ rfl⟩
noncomputable def Fn.eK:Fn:=⟨87,Φ rfl⟩
inductive E where
 |none|bool (b:Bool)|int (i:Int)|str (s:List Nat)
 |loc (i:Nat)
 |tup (es:List E)|lst (es:List E)|hJ (kvs:List (List Nat×E))
 |bin (op:fM) (a b:E)|neg (a:E)|not (a:E)
 |and (es:List E)|or (es:List E)
 |cmp (op:gy) (a b:E)|fR (o1 o2:gy) (a b c:E)
 |ite (c a b:E)
 |sub (a i:E)|ae (a:E) (lo hi:Option E)
 |call (f:Fn) (args:List E)
 |bi (b:Bi) (a:E)
 |met (m:Mt) (r:E) (args:List E)
 |app (x:Nat) (e:E)|pop (x:Nat)|ext (x:Nat) (es:List E)|fS (x:Nat)|k4 (x:Nat) (e:E)|mM (x:Nat)
 |attr (o:E) (f:ay)
 |ax (f:Fn) (o:E) (args:List E)
 |new (c:c_) (f:Fn) (args:List E)
 |mN (o v:E)
 |fm (n:Nat) (mO:List Nat) (cond elt:E)
 |comp (it:E) (mO:List Nat) (cond:Option E) (elt:E)
inductive S where
 |asg (x:Nat) (e:E)
 |own (x:Nat)
 |cK (xs:List Nat) (e:E)
 |fT (x y:Nat) (a b:E)
 |sat (o:E) (f:ay) (e:E)
 |j5 (o:E) (f:ay) (op:fM) (e:E)
 |aug (x:Nat) (op:fM) (e:E)
 |ex (e:E)
 |ifs (c:E) (t e:List S)
 |bu (c:E) (b:List S)
 |fU (x:Nat) (lo:Option E) (hi:E) (b:List S)
 |gO (x:Nat) (it:E) (b:List S)
 |ret (e:E)
 |cq (e:E)
 |gP (x:Nat) (f:Fn) (args:List E) (y:Nat) (fs:List ay)
 |brk
inductive Rs (α:Type)where
 |ok (a:α) (ρ:Loc) (h:Hp)
 |ex (k:Nat) (ρ:Loc) (h:Hp)
noncomputable abbrev M(α:Type):=Option (Rs α)
noncomputable def M.ζ{α β:Type}(m:M α)(f:α->Loc->Hp->M β):M β:=
 match m with
 |.none=>.none
 |some (.ok a ρ h)=>f a ρ h
 |some (.ex k ρ h)=>some (.ex k ρ h)
noncomputable def up{α:Type}(o:Option α)(ρ:Loc)(h:Hp):M α:=
 match o with
 |.none=>.none
 |some a=>some (.ok a ρ h)
noncomputable def dh{α:Type}(o:Option Bool)(a b:M α):M α:=match o with
 |.none=>.none
 |some true=>a
 |some false=>b
inductive CR where
 |ret (v:V) (h:Hp)
 |exc (k:Nat) (h:Hp)
noncomputable abbrev Δ:=Fn->List V->Hp->Option CR
noncomputable def qZ(r:Option CR)(n:Nat)(ρ:Loc):M V:=
 match r with
 |some (.ret .none h)=>some (.ok (.obj n) ρ h)
 |some (.exc k h)=>some (.ex k ρ h)
 |_=>Option.none
noncomputable def fp(r:Option CR)(ρ:Loc):M V:=
 match r with
 |.none=>.none
 |some (.ret v h)=>some (.ok v ρ h)
 |some (.exc k h)=>some (.ex k ρ h)
noncomputable def af:Nat:=1000000
noncomputable def ascii(s:List Nat):Bool:=s.all (· <128)
noncomputable def bS(s:List Nat):Option V:=if s.length<=af then some (.str s)else Option.none
noncomputable def wQ(s:List V):Option V:=if s.length<=af then some (.list s)else Option.none
section
variable{α:Type}(v:V)
noncomputable def AR(f:Bool->Option α):Option α:=match v with
 |.bool b=>f b
 |_=>Option.none
noncomputable def b6(f:Int->Option α):Option α:=match v with
 |.int i=>f i
 |_=>Option.none
noncomputable def fV(f:List Nat->Option α):Option α:=match v with
 |.str s=>f s
 |_=>Option.none
noncomputable def tZ(f:List V->Option α):Option α:=match v with
 |.tup s=>f s
 |_=>Option.none
noncomputable def q8(f:List V->Option α):Option α:=match v with
 |.list s=>f s
 |_=>Option.none
noncomputable def AS(f:List (List Nat×V)->Option α):Option α:=match v with
 |.dict s=>f s
 |_=>Option.none
noncomputable def k7(f:Nat->Option α):Option α:=match v with
 |.obj k=>f k
 |_=>Option.none
noncomputable def q9(f:Nat->Option α):Option α:=fV v λs=>match s with
 |[c]=>f c
 |_=>Option.none
noncomputable def q_(vs:List V)(o:Option α):Option α:=match vs with
 |[]=>o
 |_=>Option.none
noncomputable def rd(vs:List V)(f:V->Option α):Option α:=match vs with
 |[]=>Option.none
 |x::r=>q_ r (f x)
noncomputable def wR(vs:List V)(f:V->V->Option α):Option α:=match vs with
 |[]=>Option.none
 |x::r=>rd r (f x)
end
noncomputable def eL(i:Int):Bool:=decide (-2^64<i∧i<2^64)
noncomputable def t9(x y:V):Option V:=match x with
 |.int a=>b6 y λb=>some (.int (a+b))
 |.str a=>fV y λb=>bS (a++b)
 |.list a=>q8 y λb=>wQ (a++b)
 |_=>Option.none
noncomputable def dR(op:fM)(x y:V):Option V:=match op with
 |.add=>t9 x y
 |.sub=>b6 x λa=>b6 y λb=>some (.int (a - b))
 |.mul=>b6 x λa=>b6 y λb=>if eL b||eL a then some (.int (a*b))else Option.none
 |.fdiv=>b6 x λa=>b6 y λb=>if 0<b∧b<1000000 then some (.int (Int.fdiv a b))else Option.none
 |.mod=>b6 x λa=>b6 y λb=>if b≠0 then some (.int (Int.fmod a b))else Option.none
 |.pow=>b6 x λa=>b6 y λb=>if a=8∧0<=b∧b<10 then some (.int (a^b.toNat))else Option.none
noncomputable def wU(a:V):Bool:=match a with
 |.none=>true
 |_=>false
noncomputable def eqB(b:Bool)(w:V):Bool:=match w with
 |.bool c=>b==c
 |.int j=>(if b then 1 else 0)==j
 |_=>false
noncomputable def Ic(i:Int)(w:V):Bool:=match w with
 |.bool c=>i==(if c then 1 else 0)
 |.int j=>i==j
 |_=>false
noncomputable def wV(o:Option Bool):Bool:=o.getD false
mutual
noncomputable def V.eqv:V->V->Bool
 |.none,w=>wU w
 |.bool b,w=>eqB b w
 |.int i,w=>Ic i w
 |.str x,w=>wV (fV w λy=>some (x==y))
 |.tup xs,w=>wV (tZ w λys=>some (rf xs ys))
 |.list xs,w=>wV (q8 w λys=>some (rf xs ys))
 |.dict _,_=>false
 |.obj _,_=>false
noncomputable def rf:List V->List V->Bool
 |[],ys=>ys.isEmpty
 |x::xs,ys=>match ys with
  |y::ys=>V.eqv x y&&rf xs ys
  |[]=>false
end
mutual
noncomputable def V.plain:Nat->V->Bool
 |_,.none=>true
 |_,.bool _=>true
 |_,.int _=>true
 |_,.str _=>true
 |n,.tup vs=>match n with
  |0=>false
  |n+1=>dS n vs
 |n,.list vs=>match n with
  |0=>false
  |n+1=>dS n vs
 |_,.dict _=>false
 |_,.obj _=>false
noncomputable def dS:Nat->List V->Bool
 |_,[]=>true
 |n,v::vs=>V.plain n v&&dS n vs
end
noncomputable def et:Nat:=500
noncomputable def rh(a b:V):Option Bool:=if a.plain et&&b.plain et then some (a.eqv b)else Option.none
noncomputable def o_(a b:V):Option Bool:=
 match a with
 |.str x=>match b with
  |.str y=>some (x==y)
  |b=>rh (.str x) b
 |.int x=>match b with
  |.int y=>some (x==y)
  |b=>rh (.int x) b
 |a=>rh a b
noncomputable def findKey(k:List Nat):List (List Nat×V)->Option V
 |[]=>Option.none
 |(x,v)::r=>if k=x then some v else findKey k r
noncomputable def iO(a b:V):Option Bool:=
 match b with
 |.str y=>q9 a λc=>some (decide (c∈y))
 |.dict kvs=>fV a λx=>some (findKey x kvs).isSome
 |.tup vs=>if dS et vs&&a.plain et then some (vs.any λy=>y.eqv a)else Option.none
 |.list vs=>if dS et vs&&a.plain et then some (vs.any λy=>y.eqv a)else Option.none
 |_=>Option.none
noncomputable def AU(a b:V):Option Bool:=
 match b with
 |.none=>some (wU a)
 |_=>Option.none
noncomputable def aY(op:gy)(a b:V):Option Bool:=match op with
 |.eq=>o_ a b
 |.ne=>(o_ a b).map (!·)
 |.lt=>b6 a λx=>b6 b λy=>some (decide (x<y))
 |.le=>b6 a λx=>b6 b λy=>some (decide (x<=y))
 |.gt=>b6 a λx=>b6 b λy=>some (decide (y<x))
 |.ge=>b6 a λx=>b6 b λy=>some (decide (y<=x))
 |.is=>AU a b
 |.jj=>(AU a b).map (!·)
 |.aj=>iO a b
 |.fN=>(iO a b).map (!·)
noncomputable def a_(v:V):Option Bool:=AR v some
noncomputable def idx(n:Nat)(i:Int):Option Nat:=PySem.seqIndex? i n
noncomputable def υ(v w:V):Option V:=match v with
 |.str s=>b6 w λi=>(idx s.length i).bind λk=>s[k]?.map λc=>.str [c]
 |.tup vs=>b6 w λi=>(idx vs.length i).bind λk=>vs[k]?
 |.list vs=>b6 w λi=>(idx vs.length i).bind λk=>vs[k]?
 |.dict kvs=>fV w λk=>findKey k kvs
 |_=>Option.none
noncomputable def fW(n:Nat)(i:Int):Nat:=PySem.clipAt n i
noncomputable def mP{α:Type}(s:List α)(lo hi:Nat):List α:=(s.drop lo).take (hi - lo)
noncomputable def wW(v:V)(lo hi:Option Int):Option V:=
 match v with
 |.str s=>some (.str (mP s (lo.elim 0 (fW s.length)) (hi.elim s.length (fW s.length))))
 |.list s=>some (.list (mP s (lo.elim 0 (fW s.length)) (hi.elim s.length (fW s.length))))
 |_=>Option.none
noncomputable def aB(c:Nat):Nat:=if 65<=c∧c<=90 then c+32 else c
noncomputable def mQ(c:Nat):Bool:=decide (48<=c∧c<=57)
noncomputable def t_(c:Nat):Bool:=mQ c||decide (65<=c∧c<=90)||decide (97<=c∧c<=122)
noncomputable def eM(c:Nat)(s:List Nat)(k:Nat):Int:=
 match(s.drop k).findIdx? (· ==c)with
 |some j=>((k+j:Nat):Int)
 |.none=> -1
noncomputable def fX(sep:List Nat):List (List Nat)->List Nat
 |[]=>[]
 |[x]=>x
 |x::r=>x++sep++fX sep r
noncomputable def strsOf:List V->Option (List (List Nat))
 |[]=>some []
 |.str s::r=>(strsOf r).map (s::·)
 |_=>Option.none
noncomputable def eN(m:Mt)(x:V)(ys:List V):Option V:=match m with
 |.lower=>fV x λs=>q_ ys (if ascii s then some (.str (s.map aB))else Option.none)
 |.isalnum=>fV x λs=>q_ ys (if ascii s then some (.bool (!s.isEmpty&&s.all t_))else Option.none)
 |.isdigit=>fV x λs=>q_ ys (if ascii s then some (.bool (!s.isEmpty&&s.all mQ))else Option.none)
 |.startswith=>fV x λs=>rd ys λy=>fV y λt=>some (.bool (t.isPrefixOf s))
 |.find=>fV x λs=>wR ys λy z=>q9 y λc=>b6 z λi=>if 0<=i∧i<1000000000 then some (.int (eM c s i.toNat))else Option.none
 |.index=>fV x λs=>rd ys λy=>q9 y λc=>if eM c s 0≠ -1 then some (.int (eM c s 0))else Option.none
 |.join=>fV x λs=>rd ys λy=>q8 y λvs=>if s.length<=16 then(strsOf vs).bind λxs=>bS (fX s xs)else Option.none
 |.get=>AS x λkvs=>wR ys λy d=>fV y λk=>some ((findKey k kvs).getD d)
noncomputable def AV(v:V):Bool:=match v with
 |.str _=>true
 |_=>false
noncomputable def Ie(v:V):Bool:=match v with
 |.dict _=>true
 |_=>false
noncomputable def ua(m:Mt)(v:V):Bool:=match m with
 |.get=>Ie v
 |_=>AV v
noncomputable def gC(n:Nat):List Nat:=(Nat.toDigits 10 n).map Char.toNat
noncomputable def AW(v:V):Option V:=match v with
 |.str s=>some (.int s.length)
 |.tup s=>some (.int s.length)
 |.list s=>some (.int s.length)
 |_=>Option.none
noncomputable def k8(b:Bi)(v:V):Option V:=match b with
 |.len=>AW v
 |.ord=>q9 v λc=>some (.int c)
 |.str=>b6 v λi=>if 0<=i∧i.natAbs.log2<1920 then some (.str (gC i.toNat))else Option.none
 |.tuple=>q8 v λvs=>some (.tup vs)
noncomputable def jm(f:ay):List (ay×V)->Option V
 |[]=>Option.none
 |(g,v)::r=>if f=g then some v else jm f r
noncomputable def iP(f:ay)(x:V):List (ay×V)->List (ay×V)
 |[]=>[(f,x)]
 |(g,v)::r=>if f=g then(g,x)::r else(g,v)::iP f x r
noncomputable def AX(f:ay):Bool:=match f with
 |.text=>true
 |.tokens=>true
 |.levels=>true
 |.at=>true
 |_=>false
noncomputable def gD(c:c_)(f:ay):Bool:=match c with
 |.reader=>AX f
 |.raised=> !AX f
noncomputable def iQ(h:Hp)(v:V)(f:ay):Option V:=k7 v λk=>(h[k]?).bind λo=>if gD o.cls f then jm f o.fs else Option.none
noncomputable def j6(h:Hp)(v:V)(f:ay)(x:V):Option Hp:=k7 v λk=>(h[k]?).bind λo=>if gD o.cls f then some (h.set k ⟨o.cls,iP f x o.fs⟩)else Option.none
noncomputable def isObj(h:Hp)(c:c_)(v:V):Bool:=(k7 v λk=>h[k]?).any λo=>decide (o.cls=c)
noncomputable def j7:Option V->Option (Option Int)
 |.none=>some Option.none
 |some (.int i)=>some (some i)
 |_=>Option.none
noncomputable def Ig(s:Slot):Option V:=match s with
 |.v x=>some x
 |_=>Option.none
noncomputable def valAt(ρ:Loc)(x:Nat):Option V:=(ρ[x]?).bind Ig
noncomputable def mO(ρ:Loc):List Nat->Option (List Slot)
 |[]=>some []
 |i::r=>(valAt ρ i).bind λx=>(mO ρ r).map (Slot.v x::·)
noncomputable def AY(kvs:List (List Nat×V)):Option (List V):=if(kvs.map (·.1)).Nodup∧∀p∈kvs,p.1.length<=1000 then some (kvs.map λp=>.str p.1)else Option.none
noncomputable def keysOf(v:V):Option (List V):=match v with
 |.tup vs=>some vs
 |.dict kvs=>AY kvs
 |_=>Option.none
noncomputable def itemsOf(v:V):Option (List V):=match v with
 |.tup vs=>some vs
 |.dict kvs=>AY kvs
 |.str s=>some (s.map λc=>.str [c])
 |_=>Option.none
noncomputable def hM{α:Type}(m:M α):Option (α×Hp):=match m with
 |some (.ok a _ h)=>some (a,h)
 |_=>Option.none
noncomputable def fq(cond:V->Hp->M Bool)(elt:V->Hp->M V):List V->Hp->Option (List V×Hp)
 |[],h=>some ([],h)
 |x::r,h=>(hM (cond x h)).bind λp=>if p.1 then(hM (elt x p.2)).bind λq=>(fq cond elt r q.2).map λt=>(q.1::t.1,t.2)else fq cond elt r p.2
noncomputable def k9(o:Option Slot)(i:Nat)(ρ:Loc)(h:Hp):M V:=match o with
 |some (.v x)=>some (.ok x ρ h)
 |some (.own vs)=>some (.ok (.list vs) (ρ.set i (.v (.list vs))) h)
 |_=>Option.none
noncomputable def gQ(o:Option Slot)(k:List V->M V):M V:=match o with
 |some (.own vs)=>k vs
 |_=>Option.none
mutual
noncomputable def ν(C:Δ):E->Loc->Hp->M V
 |.none,ρ,h=>some (.ok .none ρ h)
 |.bool b,ρ,h=>some (.ok (.bool b) ρ h)
 |.int i,ρ,h=>some (.ok (.int i) ρ h)
 |.str s,ρ,h=>some (.ok (.str s) ρ h)
 |.loc i,ρ,h=>k9 ρ[i]? i ρ h
 |.tup es,ρ,h=>(ft C es ρ h).ζ λvs ρ h=>some (.ok (.tup vs) ρ h)
 |.lst es,ρ,h=>(ft C es ρ h).ζ λvs ρ h=>some (.ok (.list vs) ρ h)
 |.hJ kvs,ρ,h=>(jn C kvs ρ h).ζ λkvs ρ h=>some (.ok (.dict kvs) ρ h)
 |.bin op a b,ρ,h=>(ν C a ρ h).ζ λx ρ h=>(ν C b ρ h).ζ λy ρ h=>up (dR op x y) ρ h
 |.neg a,ρ,h=>(ν C a ρ h).ζ λx ρ h=>up (b6 x λi=>some (.int (-i))) ρ h
 |.not a,ρ,h=>(ν C a ρ h).ζ λx ρ h=>up ((a_ x).map λb=>.bool (!b)) ρ h
 |.and es,ρ,h=>evalAnd C es ρ h
 |.or es,ρ,h=>evalOr C es ρ h
 |.cmp op a b,ρ,h=>(ν C a ρ h).ζ λx ρ h=>(ν C b ρ h).ζ λy ρ h=>up ((aY op x y).map .bool) ρ h
 |.fR o1 o2 a b c,ρ,h=>(ν C a ρ h).ζ λx ρ h=>(ν C b ρ h).ζ λy ρ h=>dh (aY o1 x y) ((ν C c ρ h).ζ λz ρ h=>up ((aY o2 y z).map .bool) ρ h) (some (.ok (.bool false) ρ h))
 |.ite c a b,ρ,h=>(ν C c ρ h).ζ λx ρ h=>dh (a_ x) (ν C a ρ h) (ν C b ρ h)
 |.sub a i,ρ,h=>(ν C a ρ h).ζ λx ρ h=>(ν C i ρ h).ζ λy ρ h=>up (υ x y) ρ h
 |.ae a lo hi,ρ,h=>(ν C a ρ h).ζ λx ρ h=>(mR C lo ρ h).ζ λl ρ h=>(mR C hi ρ h).ζ λu ρ h=>
  up ((j7 l).bind λl=>(j7 u).bind λu=>wW x l u) ρ h
 |.call f args,ρ,h=>(ft C args ρ h).ζ λvs ρ h=>fp (C f vs h) ρ
 |.bi b a,ρ,h=>(ν C a ρ h).ζ λx ρ h=>up (k8 b x) ρ h
 |.met m r args,ρ,h=>(ν C r ρ h).ζ λx ρ h=>if ua m x then(ft C args ρ h).ζ λvs ρ h=>up (eN m x vs) ρ h else Option.none
 |.app i e,ρ,h=>gQ ρ[i]? λ_=>(ν C e ρ h).ζ λx ρ h=>gQ ρ[i]? λvs=>if vs.length<=af then some (.ok .none (ρ.set i (.own (vs++[x]))) h)else Option.none
 |.pop i,ρ,h=>gQ ρ[i]? λvs=>up vs.getLast? (ρ.set i (.own vs.dropLast)) h
 |.ext i es,ρ,h=>gQ ρ[i]? λ_=>(ft C es ρ h).ζ λws ρ h=>gQ ρ[i]? λvs=>if vs.length+ws.length<=af then some (.ok .none (ρ.set i (.own (vs++ws))) h)else Option.none
 |.fS i,ρ,h=>gQ ρ[i]? λvs=>some (.ok (.int vs.length) ρ h)
 |.k4 i e,ρ,h=>gQ ρ[i]? λ_=>(ν C e ρ h).ζ λy ρ h=>gQ ρ[i]? λvs=>up (υ (.list vs) y) ρ h
 |.mM i,ρ,h=>gQ ρ[i]? λvs=>some (.ok (.bool (!vs.isEmpty)) ρ h)
 |.attr o f,ρ,h=>(ν C o ρ h).ζ λx ρ h=>up (iQ h x f) ρ h
 |.ax f o args,ρ,h=>(ν C o ρ h).ζ λx ρ h=>if isObj h .reader x then(ft C args ρ h).ζ λvs ρ h=>fp (C f (x::vs) h) ρ else Option.none
 |.new c f args,ρ,h=>(ft C args ρ h).ζ λvs ρ h=>qZ (C f (.obj h.length::vs) (h++[⟨c,[]⟩])) h.length ρ
 |.mN o v,ρ,h=>(ν C o ρ h).ζ λx ρ h=>(ν C v ρ h).ζ λ_ ρ h=>if isObj h .raised x then some (.ok .none ρ h)else Option.none
 |.fm n cs cond elt,ρ,h=>(up (mO ρ cs) ρ h).ζ λc ρ h=>(up (fq (λx h=>(ν C cond (.v x::c) h).ζ λb ρ h=>up (a_ b) ρ h) (λx h=>ν C elt (.v x::c) h) ((List.range n).map λk=>.int (k:Nat)) h) ρ h).ζ λp ρ _=>some (.ok (.list p.1) ρ p.2)
 |.comp it cs cond elt,ρ,h=>(ν C it ρ h).ζ λx ρ h=>(up (mO ρ cs) ρ h).ζ λc ρ h=>(up (keysOf x) ρ h).ζ λxs ρ h=>if xs.length<=af then(up (fq (λx h=>j8 C cond (.v x::c) h) (λx h=>ν C elt (.v x::c) h) xs h) ρ h).ζ λp ρ _=>some (.ok (.list p.1) ρ p.2)else Option.none
noncomputable def j8(C:Δ):Option E->Loc->Hp->M Bool
 |.none,ρ,h=>some (.ok true ρ h)
 |some e,ρ,h=>(ν C e ρ h).ζ λb ρ h=>up (a_ b) ρ h
noncomputable def mR(C:Δ):Option E->Loc->Hp->M (Option V)
 |.none,ρ,h=>some (.ok Option.none ρ h)
 |some e,ρ,h=>(ν C e ρ h).ζ λv ρ h=>some (.ok (some v) ρ h)
noncomputable def ft(C:Δ):List E->Loc->Hp->M (List V)
 |[],ρ,h=>some (.ok [] ρ h)
 |e::r,ρ,h=>(ν C e ρ h).ζ λv ρ h=>(ft C r ρ h).ζ λvs ρ h=>some (.ok (v::vs) ρ h)
noncomputable def jn(C:Δ):List (List Nat×E)->Loc->Hp->M (List (List Nat×V))
 |[],ρ,h=>some (.ok [] ρ h)
 |(k,e)::r,ρ,h=>(ν C e ρ h).ζ λv ρ h=>(jn C r ρ h).ζ λvs ρ h=>some (.ok ((k,v)::vs) ρ h)
noncomputable def evalAnd(C:Δ):List E->Loc->Hp->M V
 |[],_,_=>Option.none
 |[e],ρ,h=>ν C e ρ h
 |e::r,ρ,h=>(ν C e ρ h).ζ λx ρ h=>dh (a_ x) (evalAnd C r ρ h) (some (.ok x ρ h))
noncomputable def evalOr(C:Δ):List E->Loc->Hp->M V
 |[],_,_=>Option.none
 |[e],ρ,h=>ν C e ρ h
 |e::r,ρ,h=>(ν C e ρ h).ζ λx ρ h=>dh (a_ x) (some (.ok x ρ h)) (evalOr C r ρ h)
end
noncomputable def V.flat:V->Bool
 |.none=>true
 |.bool _=>true
 |.int _=>true
 |.str _=>true
 |_=>false
noncomputable def V.isList:V->Bool
 |.list _=>true
 |_=>false
inductive Flow where
 |ο|brk|ret (v:V)
noncomputable def Flow.ctorIdx(x:Flow):Nat:=@Flow.casesOn (λ_=>Nat) x (0:Nat) (1:Nat) (λ_=>(2:Nat))
noncomputable def pa:Loc->List Nat->List V->Option Loc
 |ρ,[],[]=>some ρ
 |ρ,x::xs,v::vs=>pa (ρ.set x (.v v)) xs vs
 |_,_,_=>Option.none
noncomputable def ub(test:Loc->Hp->M Bool)(body:Loc->Hp->M Flow):Nat->Loc->Hp->M Flow
 |0,_,_=>Option.none
 |n+1,ρ,h=>(test ρ h).ζ λb ρ h=>
  if b then(body ρ h).ζ λf ρ h=>match f with
   |.ο=>ub test body n ρ h
   |.brk=>some (.ok .ο ρ h)
   |.ret v=>some (.ok (.ret v) ρ h)
  else some (.ok .ο ρ h)
noncomputable def forL(x:Nat)(body:Loc->Hp->M Flow):List V->Loc->Hp->M Flow
 |[],ρ,h=>some (.ok .ο ρ h)
 |v::r,ρ,h=>(body (ρ.set x (.v v)) h).ζ λf ρ h=>match f with
  |.ο=>forL x body r ρ h
  |.brk=>some (.ok .ο ρ h)
  |.ret v=>some (.ok (.ret v) ρ h)
noncomputable def gR(lo hi:Int):List V:=(List.range (hi - lo).toNat).map λk=>.int (lo+(k:Nat))
noncomputable def dy:Int:=1000000
noncomputable def wX(l:Option V)(u:V):Option (List V):=(j7 l).bind λl=>b6 u λu=>if 0<=l.getD 0∧l.getD 0<=dy∧u<=dy∧ -dy<=u then some (gR (l.getD 0) u)else Option.none
noncomputable def wY{α β:Type}(r:M α)(f:α->Loc->Hp->M β)(g:Nat->Loc->Hp->M β):M β:=match r with
 |.none=>.none
 |some (.ok a ρ h)=>f a ρ h
 |some (.ex k ρ h)=>g k ρ h
noncomputable def j9(y:Nat)(fs:List ay):E:=.tup (fs.map λf=>.attr (.loc y) f)
mutual
noncomputable def pd(C:Δ)(W:Nat):S->Loc->Hp->M Flow
 |.asg x e,ρ,h=>(ν C e ρ h).ζ λv ρ h=>some (.ok .ο (ρ.set x (.v v)) h)
 |.own x,ρ,h=>some (.ok .ο (ρ.set x (.own [])) h)
 |.cK xs e,ρ,h=>(ν C e ρ h).ζ λv ρ h=>(up (tZ v λvs=>pa ρ xs vs) ρ h).ζ λρ _ h=>some (.ok .ο ρ h)
 |.fT x y a b,ρ,h=>(ν C a ρ h).ζ λv ρ h=>(ν C b ρ h).ζ λw ρ h=>some (.ok .ο ((ρ.set y (.v w)).set x (.v v)) h)
 |.sat o f e,ρ,h=>(ν C e ρ h).ζ λv ρ h=>(ν C o ρ h).ζ λx ρ h=>(up (j6 h x f v) ρ h).ζ λh' ρ _=>some (.ok .ο ρ h')
 |.j5 o f op e,ρ,h=>(ν C o ρ h).ζ λx ρ h=>(up (iQ h x f) ρ h).ζ λold ρ h=>if old.isList then Option.none else(ν C e ρ h).ζ λv ρ h=>(up (dR op old v) ρ h).ζ λnew ρ h=>(up (j6 h x f new) ρ h).ζ λh' ρ _=>some (.ok .ο ρ h')
 |.aug x op e,ρ,h=>(up (valAt ρ x) ρ h).ζ λold ρ h=>if old.isList then Option.none else(ν C e ρ h).ζ λv ρ h=>(up (dR op old v) ρ h).ζ λnew ρ h=>some (.ok .ο (ρ.set x (.v new)) h)
 |.ex e,ρ,h=>(ν C e ρ h).ζ λ_ ρ h=>some (.ok .ο ρ h)
 |.ifs c t e,ρ,h=>(ν C c ρ h).ζ λx ρ h=>dh (a_ x) (θ C W t ρ h) (θ C W e ρ h)
 |.bu c b,ρ,h=>ub (λρ h=>(ν C c ρ h).ζ λx ρ h=>up (a_ x) ρ h) (λρ h=>θ C W b ρ h) W ρ h
 |.fU x lo hi b,ρ,h=>(mR C lo ρ h).ζ λl ρ h=>(ν C hi ρ h).ζ λu ρ h=>(up (wX l u) ρ h).ζ λxs ρ h=>forL x (λρ h=>θ C W b ρ h) xs ρ h
 |.gO x it b,ρ,h=>(ν C it ρ h).ζ λv ρ h=>(up (itemsOf v) ρ h).ζ λxs ρ h=>forL x (λρ h=>θ C W b ρ h) xs ρ h
 |.ret e,ρ,h=>(ν C e ρ h).ζ λv ρ h=>some (.ok (.ret v) ρ h)
 |.cq e,ρ,h=>(ν C e ρ h).ζ λv ρ h=>(up (k7 v λk=>(h[k]?).bind λo=>if o.cls=.raised then some k else Option.none) ρ h).ζ λk ρ h=>some (.ex k ρ h)
 |.gP x f args y fs,ρ,h=>wY (ν C (.call f args) ρ h) (λv ρ h=>some (.ok .ο (ρ.set x (.v v)) h)) λk ρ h=>(ν C (j9 y fs) (ρ.set y (.v (.obj k))) h).ζ λv ρ h=>some (.ok (.ret v) (ρ.map λ_=>.un) h)
 |.brk,ρ,h=>some (.ok .brk ρ h)
noncomputable def θ(C:Δ)(W:Nat):List S->Loc->Hp->M Flow
 |[],ρ,h=>some (.ok .ο ρ h)
 |s::r,ρ,h=>(pd C W s ρ h).ζ λf ρ h=>match f with
  |.ο=>θ C W r ρ h
  |.brk=>some (.ok .brk ρ h)
  |.ret v=>some (.ok (.ret v) ρ h)
end
structure χ where
 np:Nat
 dflt:List V
 nl:Nat
 body:List S
noncomputable def ph(d:χ)(args:List V):Option Loc:=
 if args.length<=d.np∧d.np<=args.length+d.dflt.length∧(d.dflt.drop (d.dflt.length - (d.np - args.length))).all V.flat=true then
  some ((args++d.dflt.drop (d.dflt.length - (d.np - args.length))).map Slot.v++List.replicate (d.nl - d.np) Slot.un)
 else Option.none
noncomputable def jo(C:Δ)(W:Nat)(d:χ)(args:List V)(h:Hp):Option CR:=
 match ph d args with
 |.none=>Option.none
 |some ρ=>match θ C W d.body ρ h with
  |some (.ok (.ret v) _ h)=>some (.ret v h)
  |some (.ok .ο _ h)=>some (.ret .none h)
  |some (.ex k _ h)=>some (.exc k h)
  |_=>Option.none
noncomputable def ι(P:Fn->χ)(W:Nat):Nat->Δ
 |0,_,_,_=>Option.none
 |D+1,f,args,h=>jo (ι P W D) W (P f) args h
end
namespace Prog
noncomputable def iH:χ where
 np:=6
 dflt:=[.tup [.str [78,79,78,69]],.int 0,.int 0]
 nl:=6
 body:=
  [.ex (.mN (.loc 0) (.loc 2)),.sat (.loc 0) .code (.loc 1),.sat (.loc 0) .value (.loc 2),.sat (.loc 0) .mE (.loc 3),.sat (.loc 0) .level (.loc 4),.sat (.loc 0) .ret (.loc 5),.sat (.loc 0) .info (.str []),.sat (.loc 0) .tR (.bool false),.sat (.loc 0) .line (.int 0),.sat (.loc 0) .extra (.lst [])]
noncomputable def error:χ where
 np:=2
 dflt:=[.tup [.str [78,79,78,69]]]
 nl:=2
 body:=
  [.ret (.new .raised .iH [.int 1,.loc 0,.loc 1])]
noncomputable def isBlank:χ where
 np:=1
 dflt:=[]
 nl:=1
 body:=
  [.ret (.cmp .aj (.loc 0) (.tup [.str [32],.str [9],.str [10],.str [11],.str [12],.str [13]]))]
noncomputable def digit:χ where
 np:=1
 dflt:=[]
 nl:=2
 body:=
  [.ifs (.cmp .ne (.bi .len (.loc 0)) (.int 1)) [.ret (.neg (.int 1))] [],.asg 1 (.bi .ord (.loc 0)),.ifs (.fR .le .le (.int 48) (.loc 1) (.int 57)) [.ret (.bin .sub (.loc 1) (.int 48))] [],.ifs (.fR .le .le (.int 97) (.loc 1) (.int 122)) [.ret (.bin .sub (.loc 1) (.int 87))] [],.ifs (.fR .le .le (.int 65) (.loc 1) (.int 90)) [.ret (.bin .sub (.loc 1) (.int 55))] [],.ret (.neg (.int 1))]
noncomputable def digitsValue:χ where
 np:=2
 dflt:=[]
 nl:=5
 body:=
  [.ifs (.cmp .eq (.loc 0) (.str [])) [.ret .none] [],.asg 2 (.int 0),.gO 3 (.loc 0) [.asg 4 (.call .digit [.loc 3]),.ifs (.or [.cmp .lt (.loc 4) (.int 0),.cmp .ge (.loc 4) (.loc 1)]) [.ret .none] [],.asg 2 (.bin .add (.bin .mul (.loc 2) (.loc 1)) (.loc 4))],.ret (.loc 2)]
noncomputable def baseOf:χ where
 np:=1
 dflt:=[]
 nl:=1
 body:=
  [.ifs (.cmp .aj (.loc 0) (.tup [.str [120],.str [88]])) [.ret (.int 16)] [],.ifs (.cmp .aj (.loc 0) (.tup [.str [111],.str [79]])) [.ret (.int 8)] [],.ifs (.cmp .aj (.loc 0) (.tup [.str [98],.str [66]])) [.ret (.int 2)] [],.ifs (.cmp .aj (.loc 0) (.tup [.str [100],.str [68]])) [.ret (.int 10)] [],.ret (.int 0)]
noncomputable def wholeOf:χ where
 np:=1
 dflt:=[]
 nl:=6
 body:=
  [.fT 1 2 (.int 0) (.bi .len (.loc 0)),.bu (.and [.cmp .lt (.loc 1) (.loc 2),.call .isBlank [.sub (.loc 0) (.loc 1)]]) [.aug 1 .add (.int 1)],.bu (.and [.cmp .lt (.loc 1) (.loc 2),.call .isBlank [.sub (.loc 0) (.bin .sub (.loc 2) (.int 1))]]) [.aug 2 .sub (.int 1)],.asg 3 (.bool false),.ifs (.and [.cmp .lt (.loc 1) (.loc 2),.cmp .aj (.sub (.loc 0) (.loc 1)) (.tup [.str [43],.str [45]])]) [.asg 3 (.cmp .eq (.sub (.loc 0) (.loc 1)) (.str [45])),.aug 1 .add (.int 1)] [],.asg 4 (.int 0),.ifs (.and [.cmp .gt (.bin .sub (.loc 2) (.loc 1)) (.int 2),.cmp .eq (.sub (.loc 0) (.loc 1)) (.str [48])]) [.asg 4 (.call .baseOf [.sub (.loc 0) (.bin .add (.loc 1) (.int 1))])] [],.ifs (.cmp .gt (.loc 4) (.int 0)) [.asg 5 (.call .digitsValue [.ae (.loc 0) (some (.bin .add (.loc 1) (.int 2))) (some (.loc 2)),.loc 4])] [.asg 5 (.call .digitsValue [.ae (.loc 0) (some (.loc 1)) (some (.loc 2)),.int 10])],.ifs (.cmp .is (.loc 5) .none) [.ret .none] [],.ret (.ite (.loc 3) (.neg (.loc 5)) (.loc 5))]
noncomputable def boolOf:χ where
 np:=1
 dflt:=[]
 nl:=4
 body:=
  [.asg 1 (.call .wholeOf [.loc 0]),.ifs (.cmp .jj (.loc 1) .none) [.ret (.cmp .ne (.loc 1) (.int 0))] [],.asg 2 (.met .lower (.loc 0) []),.ifs (.cmp .aj (.loc 2) (.tup [.str [],.str [111]])) [.ret .none] [],.gO 3 (.tup [.str [116,114,117,101],.str [121,101,115],.str [111,110]]) [.ifs (.met .startswith (.loc 3) [.loc 2]) [.ret (.bool true)] []],.gO 3 (.tup [.str [102,97,108,115,101],.str [110,111],.str [111,102,102]]) [.ifs (.met .startswith (.loc 3) [.loc 2]) [.ret (.bool false)] []],.ret .none]
noncomputable def j0:χ where
 np:=2
 dflt:=[]
 nl:=5
 body:=
  [.brk]
noncomputable def mF:χ where
 np:=1
 dflt:=[]
 nl:=1
 body:=
  [.ret (.cmp .aj (.loc 0) (.tup [.str [32],.str [9],.str [11],.str [12],.str [13]]))]
noncomputable def eG:χ where
 np:=2
 dflt:=[]
 nl:=2
 body:=
  [.bu (.cmp .lt (.loc 1) (.bi .len (.loc 0))) [.ifs (.call .mF [.sub (.loc 0) (.loc 1)]) [.aug 1 .add (.int 1)] [.ifs (.cmp .eq (.ae (.loc 0) (some (.loc 1)) (some (.bin .add (.loc 1) (.int 2)))) (.str [92,10])) [.aug 1 .add (.int 2)] [.ret (.loc 1)]]],.ret (.loc 1)]
noncomputable def wN:χ where
 np:=2
 dflt:=[]
 nl:=3
 body:=
  [.asg 2 (.bi .len (.loc 0)),.bu (.cmp .lt (.loc 1) (.loc 2)) [.ifs (.cmp .eq (.sub (.loc 0) (.loc 1)) (.str [92])) [.aug 1 .add (.int 2)] [.ifs (.cmp .eq (.sub (.loc 0) (.loc 1)) (.str [10])) [.ret (.bin .add (.loc 1) (.int 1))] [.aug 1 .add (.int 1)]]],.ret (.loc 2)]
noncomputable def iI:χ where
 np:=2
 dflt:=[]
 nl:=2
 body:=
  [.asg 1 (.call .eG [.loc 0,.loc 1]),.bu (.cmp .aj (.ae (.loc 0) (some (.loc 1)) (some (.bin .add (.loc 1) (.int 1)))) (.tup [.str [10],.str [59],.str [35]])) [.ifs (.cmp .eq (.sub (.loc 0) (.loc 1)) (.str [35])) [.asg 1 (.call .wN [.loc 0,.loc 1])] [.aug 1 .add (.int 1)],.asg 1 (.call .eG [.loc 0,.loc 1])],.ret (.loc 1)]
noncomputable def readName:χ where
 np:=2
 dflt:=[]
 nl:=2
 body:=
  [.bu (.cmp .lt (.loc 1) (.bi .len (.loc 0))) [.ifs (.or [.cmp .eq (.sub (.loc 0) (.loc 1)) (.str [95]),.cmp .ge (.call .digit [.sub (.loc 0) (.loc 1)]) (.int 0)]) [.aug 1 .add (.int 1)] [.ifs (.cmp .eq (.ae (.loc 0) (some (.loc 1)) (some (.bin .add (.loc 1) (.int 2)))) (.str [58,58])) [.aug 1 .add (.int 2),.bu (.cmp .eq (.ae (.loc 0) (some (.loc 1)) (some (.bin .add (.loc 1) (.int 1)))) (.str [58])) [.aug 1 .add (.int 1)]] [.ret (.loc 1)]]],.ret (.loc 1)]
noncomputable def kX:χ where
 np:=2
 dflt:=[]
 nl:=6
 body:=
  [.asg 2 (.bin .add (.loc 1) (.int 1)),.ifs (.cmp .eq (.ae (.loc 0) (some (.loc 2)) (some (.bin .add (.loc 2) (.int 1)))) (.str [123])) [.asg 3 (.met .find (.loc 0) [.str [125],.loc 2]),.ifs (.cmp .lt (.loc 3) (.int 0)) [.cq (.call .error [.str [109,105,115,115,105,110,103,32,99,108,111,115,101,45,98,114,97,99,101,32,102,111,114,32,118,97,114,105,97,98,108,101,32,110,97,109,101]])] [],.ret (.tup [.tup [.str [118,97,114],.ae (.loc 0) (some (.bin .add (.loc 2) (.int 1))) (some (.loc 3)),.none],.bin .add (.loc 3) (.int 1)])] [],.asg 4 (.call .readName [.loc 0,.loc 2]),.ifs (.cmp .eq (.ae (.loc 0) (some (.loc 4)) (some (.bin .add (.loc 4) (.int 1)))) (.str [40])) [.cK [5,3] (.call .bF [.loc 0,.bin .add (.loc 4) (.int 1),.tup [.str [41]]]),.ifs (.cmp .ge (.loc 3) (.bi .len (.loc 0))) [.cq (.call .error [.str [109,105,115,115,105,110,103,32,41]])] [],.ret (.tup [.tup [.str [118,97,114],.ae (.loc 0) (some (.loc 2)) (some (.loc 4)),.loc 5],.bin .add (.loc 3) (.int 1)])] [],.ifs (.cmp .eq (.loc 4) (.loc 2)) [.ret (.tup [.tup [.str [116,101,120,116],.str [36]],.loc 2])] [],.ret (.tup [.tup [.str [118,97,114],.ae (.loc 0) (some (.loc 2)) (some (.loc 4)),.none],.loc 4])]
noncomputable def brackets:χ where
 np:=2
 dflt:=[]
 nl:=5
 body:=
  [.asg 2 (.bin .add (.loc 1) (.int 1)),.asg 3 (.call .iI [.loc 0,.loc 2]),.bu (.and [.cmp .lt (.loc 3) (.bi .len (.loc 0)),.cmp .ne (.sub (.loc 0) (.loc 3)) (.str [93])]) [.asg 4 (.call .oX [.loc 0,.loc 3,.bool true]),.asg 3 (.call .iI [.loc 0,.sub (.loc 4) (.int 3)])],.ifs (.cmp .ge (.loc 3) (.bi .len (.loc 0))) [.cq (.call .error [.str [109,105,115,115,105,110,103,32,99,108,111,115,101,45,98,114,97,99,107,101,116]])] [],.ret (.tup [.ae (.loc 0) (some (.loc 2)) (some (.loc 3)),.bin .add (.loc 3) (.int 1)])]
noncomputable def mG:χ where
 np:=2
 dflt:=[]
 nl:=9
 body:=
  [.asg 2 (.bi .len (.loc 0)),.asg 3 (.bin .add (.loc 1) (.int 1)),.asg 4 (.loc 3),.asg 5 (.str []),.asg 6 (.int 1),.bu (.cmp .lt (.loc 4) (.loc 2)) [.ifs (.cmp .eq (.sub (.loc 0) (.loc 4)) (.str [123])) [.aug 6 .add (.int 1),.aug 4 .add (.int 1)] [.ifs (.cmp .eq (.sub (.loc 0) (.loc 4)) (.str [125])) [.aug 6 .sub (.int 1),.aug 4 .add (.int 1),.ifs (.cmp .eq (.loc 6) (.int 0)) [.ret (.tup [(.bin .add (.loc 5) (.ae (.loc 0) (some (.loc 3)) (some (.bin .sub (.loc 4) (.int 1))))),.loc 4])] []] [.ifs (.cmp .eq (.ae (.loc 0) (some (.loc 4)) (some (.bin .add (.loc 4) (.int 2)))) (.str [92,10])) [.cK [7,8] (.call .j0 [.loc 0,.loc 4]),.aug 5 .add (.bin .add (.ae (.loc 0) (some (.loc 3)) (some (.loc 4))) (.loc 7)),.asg 4 (.loc 8),.asg 3 (.loc 8)] [.ifs (.cmp .eq (.sub (.loc 0) (.loc 4)) (.str [92])) [.aug 4 .add (.int 2)] [.bu (.and [.cmp .lt (.loc 4) (.loc 2),.cmp .fN (.sub (.loc 0) (.loc 4)) (.str [123,125,92])]) [.aug 4 .add (.int 1)]]]]]],.cq (.call .error [.str [109,105,115,115,105,110,103,32,99,108,111,115,101,45,98,114,97,99,101]])]
noncomputable def bF:χ where
 np:=3
 dflt:=[]
 nl:=10
 body:=
  [.own 3,.asg 4 (.str []),.asg 5 (.bi .len (.loc 0)),.bu (.and [.cmp .lt (.loc 1) (.loc 5),.cmp .fN (.sub (.loc 0) (.loc 1)) (.loc 2)]) [.ifs (.cmp .eq (.sub (.loc 0) (.loc 1)) (.str [36])) [.cK [6,1] (.call .kX [.loc 0,.loc 1])] [.ifs (.cmp .eq (.sub (.loc 0) (.loc 1)) (.str [91])) [.cK [7,1] (.call .brackets [.loc 0,.loc 1]),.asg 6 (.tup [.str [99,109,100],.loc 7])] [.ifs (.cmp .eq (.sub (.loc 0) (.loc 1)) (.str [92])) [.ifs (.and [.cmp .aj (.str [32]) (.loc 2),(.cmp .eq (.ae (.loc 0) (some (.bin .add (.loc 1) (.int 1))) (some (.bin .add (.loc 1) (.int 2)))) (.str [10]))]) [.brk] [],.cK [8,1] (.call .j0 [.loc 0,.loc 1]),.asg 6 (.tup [.str [116,101,120,116],.loc 8])] [.asg 9 (.loc 1),.bu (.and [.cmp .lt (.loc 1) (.loc 5),.cmp .fN (.sub (.loc 0) (.loc 1)) (.str [36,91,92]),.cmp .fN (.sub (.loc 0) (.loc 1)) (.loc 2)]) [.aug 1 .add (.int 1)],.asg 6 (.tup [.str [116,101,120,116],.ae (.loc 0) (some (.loc 9)) (some (.loc 1))])]]],.ifs (.cmp .eq (.sub (.loc 6) (.int 0)) (.str [116,101,120,116])) [.aug 4 .add (.sub (.loc 6) (.int 1))] [.ifs (.cmp .ne (.loc 4) (.str [])) [.ex (.app 3 (.tup [.str [116,101,120,116],.loc 4])),.asg 4 (.str [])] [],.ex (.app 3 (.loc 6))]],.ifs (.cmp .ne (.loc 4) (.str [])) [.ex (.app 3 (.tup [.str [116,101,120,116],.loc 4]))] [],.ret (.tup [.bi .tuple (.loc 3),.loc 1])]
noncomputable def qP:χ where
 np:=1
 dflt:=[]
 nl:=1
 body:=
  [.ifs (.loc 0) [.ret (.tup [.str [32],.str [9],.str [11],.str [12],.str [13],.str [10],.str [59],.str [93]])] [],.ret (.tup [.str [32],.str [9],.str [11],.str [12],.str [13],.str [10],.str [59]])]
noncomputable def oW:χ where
 np:=2
 dflt:=[]
 nl:=3
 body:=
  [.ifs (.cmp .ne (.ae (.loc 0) (some (.loc 1)) (some (.bin .add (.loc 1) (.int 3)))) (.str [123,42,125])) [.ret (.bool false)] [],.asg 2 (.bin .add (.loc 1) (.int 3)),.ifs (.cmp .aj (.ae (.loc 0) (some (.loc 2)) (some (.bin .add (.loc 2) (.int 1)))) (.tup [.str [],.str [10],.str [59]])) [.ret (.bool false)] [],.ret (.cmp .eq (.call .eG [.loc 0,.loc 2]) (.loc 2))]
noncomputable def word:χ where
 np:=3
 dflt:=[]
 nl:=9
 body:=
  [.asg 3 (.call .oW [.loc 0,.loc 1]),.ifs (.loc 3) [.aug 1 .add (.int 3)] [],.asg 4 (.ae (.loc 0) (some (.loc 1)) (some (.bin .add (.loc 1) (.int 1)))),.ifs (.cmp .eq (.loc 4) (.str [123])) [.cK [5,6] (.call .mG [.loc 0,.loc 1]),.ifs (.cmp .eq (.loc 5) (.str [])) [.ret (.tup [.tup [.loc 3,.tup []],.loc 6])] [],.ret (.tup [(.tup [.loc 3,.tup [.tup [.str [116,101,120,116],.loc 5]]]),.loc 6])] [],.ifs (.cmp .eq (.loc 4) (.str [34])) [.cK [7,8] (.call .bF [.loc 0,.bin .add (.loc 1) (.int 1),.tup [.str [34]]]),.ifs (.cmp .ge (.loc 8) (.bi .len (.loc 0))) [.cq (.call .error [.str [109,105,115,115,105,110,103,32,34]])] [],.ret (.tup [.tup [.loc 3,.loc 7],.bin .add (.loc 8) (.int 1)])] [],.cK [7,6] (.call .bF [.loc 0,.loc 1,.call .qP [.loc 2]]),.ret (.tup [.tup [.loc 3,.loc 7],.loc 6])]
noncomputable def oX:χ where
 np:=3
 dflt:=[.bool false]
 nl:=9
 body:=
  [.asg 3 (.call .iI [.loc 0,.loc 1]),.asg 4 (.bi .len (.loc 0)),.ifs (.or [.cmp .ge (.loc 3) (.loc 4),.and [.loc 2,.cmp .eq (.sub (.loc 0) (.loc 3)) (.str [93])]]) [.ret .none] [],.own 5,.asg 6 (.loc 3),.bu (.bool true) [.cK [7,8] (.call .word [.loc 0,.loc 6,.loc 2]),.ex (.app 5 (.loc 7)),.asg 6 (.call .eG [.loc 0,.loc 8]),.ifs (.cmp .ge (.loc 6) (.loc 4)) [.ret (.tup [.bi .tuple (.loc 5),.loc 3,.loc 8,.loc 4])] [],.ifs (.cmp .aj (.sub (.loc 0) (.loc 6)) (.tup [.str [10],.str [59]])) [.ret (.tup [.bi .tuple (.loc 5),.loc 3,.loc 8,.bin .add (.loc 6) (.int 1)])] [],.ifs (.and [.loc 2,.cmp .eq (.sub (.loc 0) (.loc 6)) (.str [93])]) [.ret (.tup [.bi .tuple (.loc 5),.loc 3,.loc 8,.loc 6])] [],.ifs (.cmp .eq (.loc 6) (.loc 8)) [.ifs (.cmp .eq (.sub (.loc 0) (.bin .sub (.loc 8) (.int 1))) (.str [34])) [.cq (.call .error [.str [101,120,116,114,97,32,99,104,97,114,97,99,116,101,114,115,32,97,102,116,101,114,32,99,108,111,115,101,45,113,117,111,116,101]])] [],.cq (.call .error [.str [101,120,116,114,97,32,99,104,97,114,97,99,116,101,114,115,32,97,102,116,101,114,32,99,108,111,115,101,45,98,114,97,99,101]])] []]]
noncomputable def hG:χ where
 np:=3
 dflt:=[]
 nl:=3
 body:=
  [.ret (.call .error [.bin .add (.bin .add (.bin .add (.loc 2) (.str [10,105,110,32,101,120,112,114,101,115,115,105,111,110,32,34])) (.loc 0)) (.str [34]),.tup [.str [84,67,76],.str [80,65,82,83,69],.str [69,88,80,82]]])]
noncomputable def tS:χ where
 np:=3
 dflt:=[]
 nl:=3
 body:=
  [.ret (.call .hG [(.bin .add (.bin .add (.ae (.loc 0) .none (some (.loc 1))) (.str [95,64,95])) (.ae (.loc 0) (some (.loc 1)) .none)),.loc 1,.loc 2])]
noncomputable def oY:χ where
 np:=2
 dflt:=[]
 nl:=4
 body:=
  [.asg 2 (.bi .len (.loc 0)),.bu (.cmp .lt (.loc 1) (.loc 2)) [.asg 3 (.sub (.loc 0) (.loc 1)),.ifs (.call .isBlank [.loc 3]) [.aug 1 .add (.int 1)] [.ifs (.and [.cmp .eq (.loc 3) (.str [92]),(.cmp .eq (.ae (.loc 0) (some (.bin .add (.loc 1) (.int 1))) (some (.bin .add (.loc 1) (.int 2)))) (.str [10]))]) [.aug 1 .add (.int 2)] [.ifs (.cmp .eq (.loc 3) (.str [35])) [.bu (.and [.cmp .lt (.loc 1) (.loc 2),.cmp .ne (.sub (.loc 0) (.loc 1)) (.str [10])]) [.aug 1 .add (.int 1)]] [.brk]]]],.ret (.loc 1)]
noncomputable def isDigit:χ where
 np:=3
 dflt:=[]
 nl:=3
 body:=
  [.ret (.and [.cmp .lt (.loc 1) (.bi .len (.loc 0)),.fR .le .lt (.int 0) (.call .digit [.sub (.loc 0) (.loc 1)]) (.loc 2)])]
noncomputable def runEnd:χ where
 np:=2
 dflt:=[]
 nl:=2
 body:=
  [.bu (.cmp .lt (.loc 1) (.bi .len (.loc 0))) [.ifs (.or [.cmp .eq (.sub (.loc 0) (.loc 1)) (.str [95]),.call .isDigit [.loc 0,.loc 1,.int 36]]) [.aug 1 .add (.int 1)] [.ifs (.cmp .eq (.ae (.loc 0) (some (.loc 1)) (some (.bin .add (.loc 1) (.int 2)))) (.str [58,58])) [.aug 1 .add (.int 2)] [.brk]]],.ret (.loc 1)]
noncomputable def mH:χ where
 np:=1
 dflt:=[]
 nl:=1
 body:=
  [.ret (.cmp .aj (.loc 0) (.tup [.str [101,113],.str [110,101],.str [105,110],.str [110,105],.str [108,116],.str [108,101],.str [103,116],.str [103,101]]))]
noncomputable def oZ:χ where
 np:=2
 dflt:=[]
 nl:=3
 body:=
  [.asg 2 (.ae (.loc 0) (some (.loc 1)) (some (.bin .add (.loc 1) (.int 1)))),.ifs (.cmp .eq (.loc 2) (.str [46])) [.ret (.bool true)] [],.ifs (.and [.cmp .ne (.loc 2) (.str [101]),.cmp .ne (.loc 2) (.str [69])]) [.ret (.bool false)] [],.ifs (.cmp .aj (.ae (.loc 0) (some (.bin .add (.loc 1) (.int 1))) (some (.bin .add (.loc 1) (.int 2)))) (.tup [.str [43],.str [45]])) [.aug 1 .add (.int 1)] [],.ret (.call .isDigit [.loc 0,.bin .add (.loc 1) (.int 1),.int 10])]
noncomputable def qQ:χ where
 np:=2
 dflt:=[]
 nl:=7
 body:=
  [.fT 2 3 (.int 10) (.loc 1),.ifs (.cmp .eq (.sub (.loc 0) (.loc 1)) (.str [48])) [.asg 4 (.call .baseOf [.ae (.loc 0) (some (.bin .add (.loc 1) (.int 1))) (some (.bin .add (.loc 1) (.int 2)))]),.ifs (.and [.cmp .gt (.loc 4) (.int 0),.call .isDigit [.loc 0,.bin .add (.loc 1) (.int 2),.loc 4]]) [.fT 2 3 (.loc 4) (.bin .add (.loc 1) (.int 2))] []] [],.asg 5 (.loc 3),.bu (.call .isDigit [.loc 0,.loc 5,.loc 2]) [.aug 5 .add (.int 1)],.ifs (.and [.cmp .eq (.loc 3) (.loc 1),.call .oZ [.loc 0,.loc 5]]) [.cq (.call .hG [.loc 0,.loc 1,.str [102,108,111,97,116,105,110,103,45,112,111,105,110,116,32,110,117,109,98,101,114,32,108,101,102,116,32,111,117,116]])] [],.asg 6 (.call .runEnd [.loc 0,.loc 5]),.ifs (.and [.cmp .gt (.loc 6) (.loc 5),.cmp .ne (.sub (.loc 0) (.loc 5)) (.str [58]),.not (.call .mH [.ae (.loc 0) (some (.loc 5)) (some (.loc 6))])]) [.ret (.tup [.str [119,111,114,100],.ae (.loc 0) (some (.loc 1)) (some (.loc 6)),.loc 1,.loc 6])] [],.ret (.tup [.str [110,117,109,98,101,114],.call .digitsValue [.ae (.loc 0) (some (.loc 3)) (some (.loc 5)),.loc 2],.loc 1,.loc 5])]
noncomputable def tT:χ where
 np:=2
 dflt:=[]
 nl:=3
 body:=
  [.asg 2 (.ae (.loc 0) (some (.loc 1)) (some (.bin .add (.loc 1) (.int 2)))),.ifs (.cmp .aj (.loc 2) (.tup [.str [42,42],.str [60,60],.str [62,62],.str [60,61],.str [62,61],.str [61,61],.str [33,61],.str [38,38],.str [124,124]])) [.ret (.loc 2)] [],.ifs (.cmp .aj (.sub (.loc 0) (.loc 1)) (.tup [.str [43],.str [45],.str [42],.str [47],.str [37],.str [126],.str [33],.str [60],.str [62],.str [38],.str [94],.str [124],.str [63],.str [58]])) [.ret (.sub (.loc 0) (.loc 1))] [],.ret (.str [])]
noncomputable def qR:χ where
 np:=2
 dflt:=[]
 nl:=6
 body:=
  [.asg 2 (.call .tT [.loc 0,.loc 1]),.ifs (.cmp .ne (.loc 2) (.str [])) [.ret (.tup [.str [111,112],.loc 2,.loc 1,.bin .add (.loc 1) (.bi .len (.loc 2))])] [],.ifs (.call .isDigit [.loc 0,.loc 1,.int 10]) [.ret (.call .qQ [.loc 0,.loc 1])] [],.asg 3 (.sub (.loc 0) (.loc 1)),.ifs (.or [.cmp .eq (.loc 3) (.str [95]),.call .isDigit [.loc 0,.loc 1,.int 36]]) [.asg 4 (.call .runEnd [.loc 0,.loc 1]),.asg 5 (.ae (.loc 0) (some (.loc 1)) (some (.loc 4))),.ret (.tup [.ite (.call .mH [.loc 5]) (.str [111,112]) (.str [119,111,114,100]),.loc 5,.loc 1,.loc 4])] [],.ifs (.and [.cmp .eq (.loc 3) (.str [46]),.call .isDigit [.loc 0,.bin .add (.loc 1) (.int 1),.int 10]]) [.cq (.call .hG [.loc 0,.loc 1,.str [102,108,111,97,116,105,110,103,45,112,111,105,110,116,32,110,117,109,98,101,114,32,108,101,102,116,32,111,117,116]])] [],.ifs (.cmp .eq (.loc 3) (.str [61])) [.cq (.call .hG [.loc 0,.loc 1,.str [105,110,99,111,109,112,108,101,116,101,32,111,112,101,114,97,116,111,114,32,34,61,34]])] [],.cq (.call .hG [.loc 0,.loc 1,.bin .add (.bin .add (.str [105,110,118,97,108,105,100,32,99,104,97,114,97,99,116,101,114,32,34]) (.loc 3)) (.str [34])])]
noncomputable def gN:χ where
 np:=2
 dflt:=[]
 nl:=8
 body:=
  [.asg 2 (.sub (.loc 0) (.loc 1)),.ifs (.cmp .eq (.loc 2) (.str [36])) [.cK [3,4] (.call .kX [.loc 0,.loc 1]),.ifs (.cmp .eq (.sub (.loc 3) (.int 0)) (.str [116,101,120,116])) [.cq (.call .hG [.loc 0,.loc 1,.str [105,110,118,97,108,105,100,32,99,104,97,114,97,99,116,101,114,32,34,36,34]])] [],.ret (.tup [.str [112,97,114,116,115],.tup [.loc 3],.loc 1,.loc 4])] [],.ifs (.cmp .eq (.loc 2) (.str [91])) [.cK [5,4] (.call .brackets [.loc 0,.loc 1]),.ret (.tup [.str [112,97,114,116,115],.tup [.tup [.str [99,109,100],.loc 5]],.loc 1,.loc 4])] [],.ifs (.cmp .eq (.loc 2) (.str [34])) [.cK [6,4] (.call .bF [.loc 0,.bin .add (.loc 1) (.int 1),.tup [.str [34]]]),.ifs (.cmp .ge (.loc 4) (.bi .len (.loc 0))) [.cq (.call .error [.str [109,105,115,115,105,110,103,32,34]])] [],.ret (.tup [.str [112,97,114,116,115],.loc 6,.loc 1,.bin .add (.loc 4) (.int 1)])] [],.ifs (.cmp .eq (.loc 2) (.str [123])) [.cK [7,4] (.call .mG [.loc 0,.loc 1]),.ret (.tup [.str [116,101,120,116],.loc 7,.loc 1,.loc 4])] [],.ifs (.cmp .aj (.loc 2) (.tup [.str [40],.str [41],.str [44]])) [.ret (.tup [.loc 2,.loc 2,.loc 1,.bin .add (.loc 1) (.int 1)])] [],.ret (.call .qR [.loc 0,.loc 1])]
noncomputable def lex:χ where
 np:=1
 dflt:=[]
 nl:=4
 body:=
  [.own 1,.asg 2 (.call .oY [.loc 0,.int 0]),.bu (.cmp .lt (.loc 2) (.bi .len (.loc 0))) [.asg 3 (.call .gN [.loc 0,.loc 2]),.ex (.app 1 (.loc 3)),.asg 2 (.call .oY [.loc 0,.sub (.loc 3) (.int 3)])],.ex (.app 1 (.tup [.str [101,110,100],.str [],.loc 2,.loc 2])),.ret (.loc 1)]
noncomputable def levels:χ where
 np:=0
 dflt:=[]
 nl:=0
 body:=
  [.ret (.hJ [([63],(.int 1)),([124,124],(.int 2)),([38,38],(.int 3)),([124],(.int 4)),([94],(.int 5)),([38],(.int 6)),([61,61],(.int 7)),([33,61],(.int 7)),([101,113],(.int 7)),([110,101],(.int 7)),([105,110],(.int 7)),([110,105],(.int 7)),([60],(.int 8)),([62],(.int 8)),([60,61],(.int 8)),([62,61],(.int 8)),([108,116],(.int 8)),([108,101],(.int 8)),([103,116],(.int 8)),([103,101],(.int 8)),([60,60],(.int 9)),([62,62],(.int 9)),([43],(.int 10)),([45],(.int 10)),([42],(.int 11)),([47],(.int 11)),([37],(.int 11)),([42,42],(.int 12))])]
noncomputable def iJ:χ where
 np:=2
 dflt:=[]
 nl:=2
 body:=
  [.sat (.loc 0) .text (.loc 1),.sat (.loc 0) .tokens (.call .lex [.loc 1]),.sat (.loc 0) .levels (.call .levels []),.sat (.loc 0) .at (.int 0)]
noncomputable def cn:χ where
 np:=1
 dflt:=[]
 nl:=1
 body:=
  [.ret (.sub (.sub (.attr (.loc 0) .tokens) (.attr (.loc 0) .at)) (.int 0))]
noncomputable def eH:χ where
 np:=1
 dflt:=[]
 nl:=1
 body:=
  [.ret (.sub (.sub (.attr (.loc 0) .tokens) (.attr (.loc 0) .at)) (.int 1))]
noncomputable def dc:χ where
 np:=1
 dflt:=[]
 nl:=1
 body:=
  [.j5 (.loc 0) .at .add (.int 1),.ret (.sub (.sub (.attr (.loc 0) .tokens) (.bin .sub (.attr (.loc 0) .at) (.int 1))) (.int 1))]
noncomputable def fO:χ where
 np:=1
 dflt:=[]
 nl:=1
 body:=
  [.ifs (.cmp .ne (.ax .cn (.loc 0) []) (.str [111,112])) [.ret (.int 0)] [],.ret (.met .get (.attr (.loc 0) .levels) [.ax .eH (.loc 0) [],.int 0])]
noncomputable def dQ:χ where
 np:=2
 dflt:=[]
 nl:=2
 body:=
  [.ret (.call .hG [.attr (.loc 0) .text,.sub (.sub (.attr (.loc 0) .tokens) (.attr (.loc 0) .at)) (.int 2),.loc 1])]
noncomputable def eI:χ where
 np:=2
 dflt:=[]
 nl:=2
 body:=
  [.ret (.call .tS [.attr (.loc 0) .text,.sub (.sub (.attr (.loc 0) .tokens) (.attr (.loc 0) .at)) (.int 2),.bin .add (.loc 1) (.str [32,97,116,32,95,64,95])])]
noncomputable def mI:χ where
 np:=1
 dflt:=[]
 nl:=1
 body:=
  [.ifs (.or [.cmp .ne (.ax .cn (.loc 0) []) (.str [119,111,114,100]),(.cmp .eq (.sub (.sub (.attr (.loc 0) .tokens) (.bin .add (.attr (.loc 0) .at) (.int 1))) (.int 0)) (.str [40]))]) [.ret (.bool false)] [],.ret (.cmp .is (.call .boolOf [.ax .eH (.loc 0) []]) .none)]
noncomputable def qS:χ where
 np:=1
 dflt:=[]
 nl:=3
 body:=
  [.asg 1 (.ax .eH (.loc 0) []),.asg 2 (.ax .dQ (.loc 0) [.bin .add (.bin .add (.str [105,110,118,97,108,105,100,32,98,97,114,101,119,111,114,100,32,34]) (.loc 1)) (.str [34])]),.j5 (.loc 2) .value .add (.bin .add (.bin .add (.bin .add (.bin .add (.bin .add (.bin .add (.str [59,10,115,104,111,117,108,100,32,98,101,32,34,36]) (.loc 1)) (.str [34,32,111,114,32,34,123])) (.loc 1)) (.str [125,34,32,111,114,32,34])) (.loc 1)) (.str [40,46,46,46,41,34,32,111,114,32,46,46,46])),.ret (.loc 2)]
noncomputable def missing:χ where
 np:=1
 dflt:=[]
 nl:=4
 body:=
  [.asg 1 (.ax .cn (.loc 0) []),.asg 2 (.ite (.cmp .gt (.attr (.loc 0) .at) (.int 0)) (.sub (.sub (.attr (.loc 0) .tokens) (.bin .sub (.attr (.loc 0) .at) (.int 1))) (.int 0)) (.str [])),.ifs (.and [.cmp .eq (.loc 2) (.str []),.cmp .eq (.loc 1) (.str [101,110,100])]) [.ret (.ax .dQ (.loc 0) [.str [101,109,112,116,121,32,101,120,112,114,101,115,115,105,111,110]])] [],.ifs (.and [.cmp .eq (.loc 2) (.str []),.cmp .eq (.loc 1) (.str [41])]) [.ret (.ax .dQ (.loc 0) [.str [117,110,98,97,108,97,110,99,101,100,32,99,108,111,115,101,32,112,97,114,101,110]])] [],.ifs (.and [.cmp .eq (.loc 2) (.str [40]),.cmp .eq (.loc 1) (.str [101,110,100])]) [.ret (.ax .dQ (.loc 0) [.str [117,110,98,97,108,97,110,99,101,100,32,111,112,101,110,32,112,97,114,101,110]])] [],.ifs (.and [.cmp .eq (.loc 2) (.str [40]),.cmp .eq (.loc 1) (.str [41])]) [.ret (.ax .eI (.loc 0) [.str [101,109,112,116,121,32,115,117,98,101,120,112,114,101,115,115,105,111,110]])] [],.asg 3 (.and [.cmp .eq (.loc 2) (.str [40]),.cmp .gt (.attr (.loc 0) .at) (.int 1),(.cmp .eq (.sub (.sub (.attr (.loc 0) .tokens) (.bin .sub (.attr (.loc 0) .at) (.int 2))) (.int 0)) (.str [119,111,114,100]))]),.ifs (.or [.and [.loc 3,.cmp .eq (.loc 1) (.str [44])],.and [.cmp .eq (.loc 2) (.str [44]),.cmp .aj (.loc 1) (.tup [.str [101,110,100],.str [41]])]]) [.ret (.ax .eI (.loc 0) [.str [109,105,115,115,105,110,103,32,102,117,110,99,116,105,111,110,32,97,114,103,117,109,101,110,116]])] [],.ret (.ax .eI (.loc 0) [.str [109,105,115,115,105,110,103,32,111,112,101,114,97,110,100]])]
noncomputable def kY:χ where
 np:=1
 dflt:=[]
 nl:=1
 body:=
  [.ret (.and [.cmp .eq (.ax .cn (.loc 0) []) (.str [111,112]),.cmp .eq (.ax .eH (.loc 0) []) (.str [58])])]
noncomputable def iK:χ where
 np:=2
 dflt:=[]
 nl:=3
 body:=
  [.ifs (.call .kY [.loc 0]) [.ex (.ax .dc (.loc 0) []),.ex (.call .fP [.loc 0,.int 1]),.ifs (.or [.cmp .aj (.ax .cn (.loc 0) []) (.loc 1),.call .kY [.loc 0]]) [.ret (.ax .dQ (.loc 0) [.str [117,110,101,120,112,101,99,116,101,100,32,111,112,101,114,97,116,111,114,32,34,58,34,32,119,105,116,104,111,117,116,32,112,114,101,99,101,100,105,110,103,32,34,63,34]])] []] [],.asg 2 (.ax .cn (.loc 0) []),.ifs (.cmp .eq (.loc 2) (.str [101,110,100])) [.ret (.ax .dQ (.loc 0) [.str [117,110,98,97,108,97,110,99,101,100,32,111,112,101,110,32,112,97,114,101,110]])] [],.ifs (.cmp .eq (.loc 2) (.str [41])) [.ret (.ax .dQ (.loc 0) [.str [117,110,98,97,108,97,110,99,101,100,32,99,108,111,115,101,32,112,97,114,101,110]])] [],.ifs (.cmp .eq (.loc 2) (.str [44])) [.ret (.ax .dQ (.loc 0) [.str [117,110,101,120,112,101,99,116,101,100,32,34,44,34,32,111,117,116,115,105,100,101,32,102,117,110,99,116,105,111,110,32,97,114,103,117,109,101,110,116,32,108,105,115,116]])] [],.ifs (.call .mI [.loc 0]) [.ret (.call .qS [.loc 0])] [],.ret (.ax .eI (.loc 0) [.str [109,105,115,115,105,110,103,32,111,112,101,114,97,116,111,114]])]
noncomputable def close:χ where
 np:=2
 dflt:=[]
 nl:=2
 body:=
  [.ifs (.cmp .ne (.ax .cn (.loc 0) []) (.str [41])) [.cq (.call .iK [.loc 0,.loc 1])] [],.ex (.ax .dc (.loc 0) [])]
noncomputable def o4:χ where
 np:=2
 dflt:=[]
 nl:=3
 body:=
  [.ex (.ax .dc (.loc 0) []),.own 2,.ifs (.cmp .ne (.ax .cn (.loc 0) []) (.str [41])) [.ex (.app 2 (.call .fP [.loc 0,.int 1])),.bu (.cmp .eq (.ax .cn (.loc 0) []) (.str [44])) [.ex (.ax .dc (.loc 0) []),.ex (.app 2 (.call .fP [.loc 0,.int 1]))]] [],.ex (.call .close [.loc 0,.tup [.str [41],.str [44]]]),.ret (.tup [.str [99,97,108,108],.loc 1,.bi .tuple (.loc 2)])]
noncomputable def qT:χ where
 np:=1
 dflt:=[]
 nl:=1
 body:=
  [.ifs (.cmp .eq (.bi .len (.loc 0)) (.int 0)) [.ret (.tup [.str [116,101,120,116],.str []])] [],.ifs (.and [.cmp .eq (.bi .len (.loc 0)) (.int 1),.cmp .eq (.sub (.sub (.loc 0) (.int 0)) (.int 0)) (.str [116,101,120,116])]) [.ret (.tup [.str [116,101,120,116],.sub (.sub (.loc 0) (.int 0)) (.int 1)])] [],.ret (.tup [.str [112,97,114,116,115],.loc 0])]
noncomputable def operand:χ where
 np:=1
 dflt:=[]
 nl:=4
 body:=
  [.asg 1 (.ax .cn (.loc 0) []),.ifs (.cmp .aj (.loc 1) (.tup [.str [111,112],.str [41],.str [44],.str [101,110,100]])) [.cq (.call .missing [.loc 0])] [],.ifs (.call .mI [.loc 0]) [.cq (.call .qS [.loc 0])] [],.asg 2 (.ax .dc (.loc 0) []),.ifs (.cmp .eq (.loc 1) (.str [110,117,109,98,101,114])) [.ret (.tup [.str [110,117,109],.loc 2])] [],.ifs (.cmp .eq (.loc 1) (.str [112,97,114,116,115])) [.ret (.call .qT [.loc 2])] [],.ifs (.cmp .eq (.loc 1) (.str [40])) [.asg 3 (.call .fP [.loc 0,.int 1]),.ex (.call .close [.loc 0,.tup [.str [41]]]),.ret (.loc 3)] [],.ifs (.and [.cmp .eq (.loc 1) (.str [119,111,114,100]),.cmp .eq (.ax .cn (.loc 0) []) (.str [40])]) [.ret (.call .o4 [.loc 0,.loc 2])] [],.ret (.tup [.str [116,101,120,116],.loc 2])]
noncomputable def prefixed:χ where
 np:=1
 dflt:=[]
 nl:=3
 body:=
  [.own 1,.bu (.and [.cmp .eq (.ax .cn (.loc 0) []) (.str [111,112]),.cmp .aj (.ax .eH (.loc 0) []) (.tup [.str [45],.str [43],.str [126],.str [33]])]) [.ex (.app 1 (.ax .dc (.loc 0) []))],.asg 2 (.call .operand [.loc 0]),.bu (.mM 1) [.asg 2 (.tup [.str [117,110],.pop 1,.loc 2])],.ret (.loc 2)]
noncomputable def choice:χ where
 np:=2
 dflt:=[]
 nl:=3
 body:=
  [.asg 2 (.call .fP [.loc 0,.int 1]),.ifs (.cmp .aj (.ax .cn (.loc 0) []) (.tup [.str [101,110,100],.str [41],.str [44]])) [.cq (.ax .eI (.loc 0) [.str [109,105,115,115,105,110,103,32,111,112,101,114,97,116,111,114,32,34,58,34]])] [],.ifs (.not (.call .kY [.loc 0])) [.cq (.call .iK [.loc 0,.tup []])] [],.ex (.ax .dc (.loc 0) []),.ret (.tup [.str [105,102],.loc 1,.loc 2,.call .fP [.loc 0,.int 1]])]
noncomputable def joined:χ where
 np:=4
 dflt:=[]
 nl:=5
 body:=
  [.ifs (.cmp .eq (.loc 1) (.str [42,42])) [.ret (.tup [.str [98,105,110],.loc 1,.loc 3,.call .fP [.loc 0,.loc 2]])] [],.asg 4 (.call .fP [.loc 0,.bin .add (.loc 2) (.int 1)]),.ifs (.cmp .eq (.loc 1) (.str [38,38])) [.ret (.tup [.str [97,110,100],.loc 3,.loc 4])] [],.ifs (.cmp .eq (.loc 1) (.str [124,124])) [.ret (.tup [.str [111,114],.loc 3,.loc 4])] [],.ret (.tup [.str [98,105,110],.loc 1,.loc 3,.loc 4])]
noncomputable def fP:χ where
 np:=2
 dflt:=[]
 nl:=5
 body:=
  [.asg 2 (.call .prefixed [.loc 0]),.asg 3 (.ax .fO (.loc 0) []),.bu (.cmp .ge (.loc 3) (.loc 1)) [.asg 4 (.ax .dc (.loc 0) []),.ifs (.cmp .eq (.loc 4) (.str [63])) [.asg 2 (.call .choice [.loc 0,.loc 2])] [.asg 2 (.call .joined [.loc 0,.loc 4,.loc 3,.loc 2])],.asg 3 (.ax .fO (.loc 0) [])],.ret (.loc 2)]
noncomputable def o5:χ where
 np:=1
 dflt:=[]
 nl:=3
 body:=
  [.asg 1 (.new .reader .iJ [.loc 0]),.asg 2 (.call .fP [.loc 1,.int 1]),.ifs (.cmp .ne (.ax .cn (.loc 1) []) (.str [101,110,100])) [.cq (.call .iK [.loc 1,.tup [.str [101,110,100]]])] [],.ret (.loc 2)]
noncomputable def iL:χ where
 np:=2
 dflt:=[]
 nl:=3
 body:=
  [.asg 2 (.lst [.int 5,.int 0,.int 8,.int 16,.int 40,.int 7,.int 24,.int 4,.int 32,.int 6,.int 40,.int 136,.int 8,.int 6,.int 2,.int 17,.int 0,.int 0]),.ret (.bin .add (.sub (.loc 2) (.loc 1)) (.ite (.cmp .lt (.loc 1) (.bi .len (.loc 0))) (.sub (.loc 0) (.loc 1)) (.int 0)))]
noncomputable def iM:χ where
 np:=1
 dflt:=[]
 nl:=1
 body:=
  [.ret (.met .get (.hJ [([63],(.int 0)),([124,124],(.int 1)),([38,38],(.int 2)),([124],(.int 3)),([94],(.int 4)),([38],(.int 5)),([61,61],(.int 6)),([33,61],(.int 6)),([101,113],(.int 6)),([110,101],(.int 6)),([105,110],(.int 6)),([110,105],(.int 6)),([60],(.int 7)),([62],(.int 7)),([60,61],(.int 7)),([62,61],(.int 7)),([108,116],(.int 7)),([108,101],(.int 7)),([103,116],(.int 7)),([103,101],(.int 7)),([60,60],(.int 8)),([62,62],(.int 8)),([43],(.int 9)),([45],(.int 9)),([42],(.int 10)),([47],(.int 10)),([37],(.int 10)),([42,42],(.int 11))]) [.loc 0,.neg (.int 1)])]
noncomputable def mJ:χ where
 np:=0
 dflt:=[]
 nl:=0
 body:=
  [.ret (.hJ [([123,120,32,121,125],(.tup [.str [116,101,120,116],.str [120,32,121]])),([34,97,32,98,34],(.tup [.str [116,101,120,116],.str [97,32,98]])),([123,125],(.tup [.str [116,101,120,116],.str []])),([91,102,32,49,93],(.tup [.str [112,97,114,116,115],.tup [.tup [.str [99,109,100],.str [102,32,49]]]])),([36,123,118,125],(.tup [.str [112,97,114,116,115],.tup [.tup [.str [118,97,114],.str [118],.none]]])),([34,97,36,118,34],(.tup [.str [112,97,114,116,115],.tup [.tup [.str [116,101,120,116],.str [97]],.tup [.str [118,97,114],.str [118],.none]]]))])]
noncomputable def qU:χ where
 np:=1
 dflt:=[]
 nl:=1
 body:=
  [.ret (.sub (.tup [.str [55],.str [48],.str [49,50],.str [48,120,49,70],.str [116,114,117,101],.str [123,120,32,121,125],.str [48,98,49,48,49],.str [36,123,118,125],.str [48,49,48],.str [34,97,32,98,34],.str [79,102,102],.str [91,102,32,49,93],.str [48,68,57],.str [110],.str [123,125],.str [34,97,36,118,34],.str [51,48,53],.str [111]]) (.bin .mod (.loc 0) (.int 18)))]
noncomputable def qV:χ where
 np:=1
 dflt:=[]
 nl:=1
 body:=
  [.ret (.sub (.tup [.str [43],.str [45],.str [42],.str [47],.str [37],.str [42,42],.str [60,60],.str [62,62],.str [60],.str [62],.str [60,61],.str [62,61],.str [61,61],.str [33,61],.str [38],.str [94],.str [124],.str [38,38],.str [124,124],.str [101,113],.str [110,101],.str [105,110],.str [110,105],.str [108,116],.str [103,116],.str [108,101],.str [103,101]]) (.bin .mod (.loc 0) (.int 27)))]
noncomputable def tU:χ where
 np:=1
 dflt:=[]
 nl:=1
 body:=
  [.ret (.sub (.tup [.str [40],.str [41],.str [44],.str [63],.str [58],.str [33],.str [45],.str [61],.str [64],.str [49,46,53],.str [35],.str [55],.str [97,98,99],.str [42,42],.str [55,101,53],.str [116,114,117,101],.str [38,38],.str [46,53],.str [58,58],.str [48,120],.str [55,101,113],.str [95]]) (.bin .mod (.loc 0) (.int 22)))]
noncomputable def j1:χ where
 np:=1
 dflt:=[]
 nl:=9
 body:=
  [.own 1,.own 2,.asg 3 (.bool true),.fU 4 .none (.bin .sub (.int 12) (.bin .mod (.call .iL [.loc 0,.int 17]) (.int 12))) [.asg 5 (.call .iL [.loc 0,.loc 4]),.asg 6 (.bin .mod (.loc 5) (.int 8)),.asg 7 (.bin .fdiv (.loc 5) (.int 8)),.asg 8 (.ite (.cmp .gt (.fS 2) (.int 0)) (.k4 2 (.neg (.int 1))) (.str [])),.ifs (.and [.loc 3,.or [.cmp .lt (.loc 6) (.int 5),.cmp .gt (.fS 2) (.int 8)]]) [.ex (.app 1 (.call .qU [.loc 7])),.asg 3 (.bool false)] [.ifs (.and [.loc 3,.cmp .eq (.loc 6) (.int 5)]) [.ex (.app 1 (.sub (.tup [.str [45],.str [43],.str [126],.str [33]]) (.bin .mod (.loc 7) (.int 4))))] [.ifs (.and [.loc 3,.cmp .eq (.loc 6) (.int 7),.cmp .eq (.bin .mod (.loc 7) (.int 5)) (.int 4)]) [.ex (.ext 1 [.sub (.tup [.str [109,97,120],.str [97,98,115],.str [110],.str [102,58,58,103]]) (.bin .mod (.loc 7) (.int 4)),.str [40],.str [41]]),.asg 3 (.bool false)] [.ifs (.loc 3) [.ifs (.cmp .eq (.loc 6) (.int 7)) [.ex (.app 1 (.sub (.tup [.str [109,97,120],.str [97,98,115],.str [110],.str [102,58,58,103]]) (.bin .mod (.loc 7) (.int 4))))] [],.ex (.app 1 (.str [40])),.ex (.app 2 (.ite (.cmp .eq (.loc 6) (.int 7)) (.str [99,97,108,108]) (.str [40])))] [.ifs (.and [.cmp .eq (.loc 6) (.int 5),.cmp .aj (.loc 8) (.tup [.str [99,97,108,108],.str [40]])]) [.ex (.app 1 (.str [41])),.ex (.pop 2)] [.asg 3 (.bool true),.ifs (.cmp .eq (.loc 6) (.int 4)) [.ex (.app 1 (.str [63])),.ex (.app 2 (.str [63]))] [.ifs (.and [.cmp .eq (.loc 6) (.int 6),.cmp .eq (.loc 8) (.str [63])]) [.ex (.app 1 (.str [58])),.ex (.pop 2)] [.ifs (.and [.cmp .eq (.loc 6) (.int 7),.cmp .eq (.loc 8) (.str [99,97,108,108])]) [.ex (.app 1 (.str [44]))] [.ex (.app 1 (.call .qV [.loc 7]))]]]]]]]]],.ifs (.loc 3) [.ex (.app 1 (.str [55]))] [],.bu (.cmp .gt (.fS 2) (.int 0)) [.ifs (.cmp .eq (.pop 2) (.str [63])) [.ex (.app 1 (.str [58])),.ex (.app 1 (.str [48]))] [.ex (.app 1 (.str [41]))]],.ret (.loc 1)]
noncomputable def gA:χ where
 np:=1
 dflt:=[]
 nl:=1
 body:=
  [.ret (.or [.met .isalnum (.loc 0) [],.cmp .eq (.loc 0) (.str [95])])]
noncomputable def kZ:χ where
 np:=3
 dflt:=[]
 nl:=6
 body:=
  [.asg 3 (.str []),.fU 4 .none (.bi .len (.loc 0)) [.asg 5 (.sub (.tup [.str [],.str [32],.str [],.str [10],.str [],.str [9,32],.str [92,10],.str [32]]) (.bin .mod (.bin .add (.bin .add (.bin .fdiv (.loc 1) (.bin .pow (.int 8) (.bin .mod (.loc 4) (.int 6)))) (.bin .mul (.loc 1) (.loc 4))) (.loc 4)) (.int 8))),.ifs (.and [.cmp .eq (.loc 5) (.str []),.loc 2,.call .gA [.ae (.loc 3) (some (.neg (.int 1))) .none],.call .gA [.sub (.sub (.loc 0) (.loc 4)) (.int 0)]]) [.asg 5 (.str [32])] [],.asg 3 (.bin .add (.bin .add (.loc 3) (.loc 5)) (.sub (.loc 0) (.loc 4)))],.ret (.loc 3)]
noncomputable def j2:χ where
 np:=3
 dflt:=[]
 nl:=5
 body:=
  [.asg 3 (.bin .mod (.loc 1) (.bin .add (.bi .len (.loc 0)) (.int 1))),.asg 4 (.call .tU [.bin .fdiv (.loc 2) (.int 4)]),.ifs (.cmp .eq (.bin .mod (.loc 2) (.int 4)) (.int 0)) [.ret (.bin .add (.ae (.loc 0) .none (some (.loc 3))) (.ae (.loc 0) (some (.bin .add (.loc 3) (.int 1))) .none))] [],.ifs (.cmp .eq (.bin .mod (.loc 2) (.int 4)) (.int 1)) [.ret (.bin .add (.bin .add (.ae (.loc 0) .none (some (.loc 3))) (.lst [.loc 4])) (.ae (.loc 0) (some (.loc 3)) .none))] [],.ret (.bin .add (.bin .add (.ae (.loc 0) .none (some (.loc 3))) (.lst [.loc 4])) (.ae (.loc 0) (some (.bin .add (.loc 3) (.int 1))) .none))]
noncomputable def tW:χ where
 np:=2
 dflt:=[]
 nl:=3
 body:=
  [.asg 2 (.loc 1),.bu (.and [.cmp .lt (.loc 2) (.bi .len (.loc 0)),.or [.call .gA [.sub (.loc 0) (.loc 2)],(.cmp .eq (.ae (.loc 0) (some (.loc 2)) (some (.bin .add (.loc 2) (.int 2)))) (.str [58,58]))]]) [.asg 2 (.bin .add (.loc 2) (.ite (.cmp .eq (.sub (.loc 0) (.loc 2)) (.str [58])) (.int 2) (.int 1)))],.ret (.ae (.loc 0) (some (.loc 1)) (some (.loc 2)))]
noncomputable def o6:χ where
 np:=1
 dflt:=[]
 nl:=8
 body:=
  [.asg 1 (.str [48,49,50,51,52,53,54,55,56,57,97,98,99,100,101,102]),.asg 2 (.hJ [([120],(.int 16)),([111],(.int 8)),([98],(.int 2)),([100],(.int 10))]),.asg 3 (.met .lower (.loc 0) []),.asg 4 (.met .get (.loc 2) [.ae (.loc 3) (some (.int 1)) (some (.int 2)),.int 10]),.asg 5 (.int 2),.ifs (.or [.cmp .ne (.sub (.loc 3) (.int 0)) (.str [48]),.cmp .fN (.ae (.loc 3) (some (.int 1)) (some (.int 2))) (.loc 2),.cmp .eq (.ae (.loc 3) (some (.int 2)) (some (.int 3))) (.str []),.cmp .fN (.sub (.loc 3) (.int 2)) (.ae (.loc 1) .none (some (.loc 4)))]) [.asg 4 (.int 10),.asg 5 (.int 0)] [],.asg 6 (.cmp .gt (.loc 5) (.int 0)),.asg 7 (.int 0),.bu (.and [.cmp .lt (.loc 5) (.bi .len (.loc 3)),.cmp .aj (.sub (.loc 3) (.loc 5)) (.ae (.loc 1) .none (some (.loc 4)))]) [.asg 7 (.bin .add (.bin .mul (.loc 4) (.loc 7)) (.met .index (.loc 1) [.sub (.loc 3) (.loc 5)])),.asg 5 (.bin .add (.loc 5) (.int 1))],.ret (.tup [.loc 7,.loc 5,.loc 6])]
noncomputable def tX:χ where
 np:=1
 dflt:=[]
 nl:=1
 body:=
  [.ifs (.cmp .eq (.ae (.loc 0) .none (some (.int 1))) (.str [46])) [.ret (.bool true)] [],.ifs (.cmp .fN (.ae (.loc 0) .none (some (.int 1))) (.tup [.str [101],.str [69]])) [.ret (.bool false)] [],.ret (.or [.met .isdigit (.ae (.loc 0) (some (.int 1)) (some (.int 2))) [],.and [.cmp .aj (.ae (.loc 0) (some (.int 1)) (some (.int 2))) (.tup [.str [43],.str [45]]),.met .isdigit (.ae (.loc 0) (some (.int 2)) (some (.int 3))) []]])]
noncomputable def mK:χ where
 np:=2
 dflt:=[]
 nl:=7
 body:=
  [.asg 2 (.call .tW [.loc 0,.loc 1]),.ifs (.not (.met .isdigit (.sub (.loc 2) (.int 0)) [])) [.ret (.tup [.tup [.ite (.cmp .ge (.call .iM [.loc 2]) (.int 0)) (.str [111,112]) (.str [119,111,114,100]),.loc 2,.loc 1],.bi .len (.loc 2),.str []])] [],.cK [3,4,5] (.call .o6 [.loc 2]),.ifs (.and [.not (.loc 5),.call .tX [(.ae (.loc 0) (some (.bin .add (.loc 1) (.loc 4))) (some (.bin .add (.bin .add (.loc 1) (.loc 4)) (.int 3))))]]) [.ret (.tup [.none,.int 0,.str [102,108,111,97,116,105,110,103,45,112,111,105,110,116,32,110,117,109,98,101,114,32,108,101,102,116,32,111,117,116]])] [],.asg 6 (.ae (.loc 2) (some (.loc 4)) .none),.ifs (.or [.cmp .eq (.loc 6) (.str []),.cmp .eq (.sub (.loc 6) (.int 0)) (.str [58]),.cmp .ge (.call .iM [.loc 6]) (.int 0)]) [.ret (.tup [.tup [.str [110,117,109],.loc 3,.loc 1],.loc 4,.str []])] [],.ret (.tup [.tup [.str [119,111,114,100],.loc 2,.loc 1],.bi .len (.loc 2),.str []])]
noncomputable def qW:χ where
 np:=2
 dflt:=[]
 nl:=4
 body:=
  [.asg 2 (.ae (.loc 0) (some (.loc 1)) (some (.bin .add (.loc 1) (.int 2)))),.asg 3 (.ite (.and [.cmp .eq (.bi .len (.loc 2)) (.int 2),.cmp .ge (.call .iM [.loc 2]) (.int 0)]) (.loc 2) (.sub (.loc 0) (.loc 1))),.ifs (.or [.cmp .ge (.call .iM [.loc 3]) (.int 0),.cmp .aj (.loc 3) (.tup [.str [33],.str [126],.str [58]])]) [.ret (.tup [.tup [.str [111,112],.loc 3,.loc 1],.bi .len (.loc 3),.str []])] [],.ifs (.and [.cmp .eq (.loc 3) (.str [46]),(.met .isdigit (.ae (.loc 0) (some (.bin .add (.loc 1) (.int 1))) (some (.bin .add (.loc 1) (.int 2)))) [])]) [.ret (.tup [.none,.int 0,.str [102,108,111,97,116,105,110,103,45,112,111,105,110,116,32,110,117,109,98,101,114,32,108,101,102,116,32,111,117,116]])] [],.ifs (.cmp .eq (.loc 3) (.str [61])) [.ret (.tup [.none,.int 0,.str [105,110,99,111,109,112,108,101,116,101,32,111,112,101,114,97,116,111,114,32,34,61,34]])] [],.ret (.tup [.none,.int 0,.bin .add (.bin .add (.str [105,110,118,97,108,105,100,32,99,104,97,114,97,99,116,101,114,32,34]) (.loc 3)) (.str [34])])]
noncomputable def eJ:χ where
 np:=2
 dflt:=[]
 nl:=6
 body:=
  [.asg 2 (.sub (.loc 0) (.loc 1)),.ifs (.cmp .aj (.loc 2) (.tup [.str [32],.str [9],.str [10]])) [.ret (.tup [.none,.int 1,.str []])] [],.ifs (.cmp .eq (.loc 2) (.str [92])) [.ret (.tup [.none,.int 2,.str []])] [],.ifs (.cmp .eq (.loc 2) (.str [35])) [.asg 3 (.met .find (.loc 0) [.str [10],.loc 1]),.ret (.tup [.none,.bin .sub (.ite (.cmp .lt (.loc 3) (.int 0)) (.bi .len (.loc 0)) (.loc 3)) (.loc 1),.str []])] [],.ifs (.cmp .aj (.loc 2) (.tup [.str [40],.str [41],.str [44]])) [.ret (.tup [.tup [.loc 2,.loc 2,.loc 1],.int 1,.str []])] [],.ifs (.cmp .aj (.loc 2) (.tup [.str [123],.str [91],.str [34],.str [36]])) [.asg 4 (.call .mJ []),.gO 5 (.loc 4) [.ifs (.cmp .eq (.ae (.loc 0) (some (.loc 1)) (some (.bin .add (.loc 1) (.bi .len (.loc 5))))) (.loc 5)) [.ret (.tup [.tup [.str [108,101,97,102],.sub (.loc 4) (.loc 5),.loc 1],.bi .len (.loc 5),.str []])] []]] [],.ifs (.call .gA [.loc 2]) [.ret (.call .mK [.loc 0,.loc 1])] [],.ret (.call .qW [.loc 0,.loc 1])]
noncomputable def fQ:χ where
 np:=2
 dflt:=[]
 nl:=2
 body:=
  [.ret (.bin .add (.bin .add (.bin .add (.loc 1) (.str [10,105,110,32,101,120,112,114,101,115,115,105,111,110,32,34])) (.loc 0)) (.str [34]))]
noncomputable def j3:χ where
 np:=3
 dflt:=[]
 nl:=3
 body:=
  [.ret (.call .fQ [(.bin .add (.bin .add (.ae (.loc 0) .none (some (.sub (.loc 1) (.int 2)))) (.str [95,64,95])) (.ae (.loc 0) (some (.sub (.loc 1) (.int 2))) .none)),.bin .add (.loc 2) (.str [32,97,116,32,95,64,95])])]
noncomputable def mL:χ where
 np:=1
 dflt:=[]
 nl:=6
 body:=
  [.own 1,.asg 2 (.int 0),.bu (.cmp .lt (.loc 2) (.bi .len (.loc 0))) [.cK [3,4,5] (.call .eJ [.loc 0,.loc 2]),.ifs (.cmp .ne (.loc 5) (.str [])) [.ret (.tup [.loc 1,.call .fQ [.loc 0,.loc 5]])] [],.ifs (.cmp .jj (.loc 3) .none) [.ex (.app 1 (.loc 3))] [],.asg 2 (.bin .add (.loc 2) (.loc 4))],.ex (.app 1 (.tup [.str [101,110,100],.str [],.bi .len (.loc 0)])),.ret (.tup [.loc 1,.str []])]
noncomputable def qX:χ where
 np:=2
 dflt:=[]
 nl:=5
 body:=
  [.ifs (.or [.cmp .ne (.sub (.loc 0) (.int 0)) (.str [119,111,114,100]),.cmp .eq (.loc 1) (.str [40])]) [.ret (.bool false)] [],.asg 2 (.met .lower (.sub (.loc 0) (.int 1)) []),.asg 3 (.tup [.str [116,114,117,101],.str [121,101,115],.str [111,110],.str [102,97,108,115,101],.str [110,111],.str [111,102,102]]),.asg 4 (.fm 6 [2,3] (.cmp .eq (.ae (.sub (.loc 2) (.loc 0)) .none (some (.bi .len (.loc 1)))) (.loc 1)) (.cmp .lt (.loc 0) (.int 3))),.ret (.or [.cmp .eq (.bi .len (.loc 4)) (.int 0),.and [.cmp .aj (.bool true) (.loc 4),.cmp .aj (.bool false) (.loc 4)]])]
noncomputable def o7:χ where
 np:=2
 dflt:=[]
 nl:=2
 body:=
  [.ret (.bin .add (.bin .add (.bin .add (.bin .add (.bin .add (.bin .add (.bin .add (.call .fQ [.loc 0,.bin .add (.bin .add (.str [105,110,118,97,108,105,100,32,98,97,114,101,119,111,114,100,32,34]) (.loc 1)) (.str [34])]) (.str [59,10,115,104,111,117,108,100,32,98,101,32,34,36])) (.loc 1)) (.str [34,32,111,114,32,34,123])) (.loc 1)) (.str [125,34,32,111,114,32,34])) (.loc 1)) (.str [40,46,46,46,41,34,32,111,114,32,46,46,46]))]
noncomputable def tY:χ where
 np:=4
 dflt:=[]
 nl:=5
 body:=
  [.asg 4 (.sub (.loc 1) (.int 0)),.ifs (.and [.cmp .eq (.loc 2) (.str []),.cmp .eq (.loc 4) (.str [101,110,100])]) [.ret (.call .fQ [.loc 0,.str [101,109,112,116,121,32,101,120,112,114,101,115,115,105,111,110]])] [],.ifs (.and [.cmp .eq (.loc 2) (.str []),.cmp .eq (.loc 4) (.str [41])]) [.ret (.call .fQ [.loc 0,.str [117,110,98,97,108,97,110,99,101,100,32,99,108,111,115,101,32,112,97,114,101,110]])] [],.ifs (.and [.cmp .eq (.loc 2) (.str [40]),.cmp .eq (.loc 4) (.str [101,110,100])]) [.ret (.call .fQ [.loc 0,.str [117,110,98,97,108,97,110,99,101,100,32,111,112,101,110,32,112,97,114,101,110]])] [],.ifs (.and [.cmp .eq (.loc 2) (.str [40]),.cmp .eq (.loc 4) (.str [41])]) [.ret (.call .j3 [.loc 0,.loc 1,.str [101,109,112,116,121,32,115,117,98,101,120,112,114,101,115,115,105,111,110]])] [],.ifs (.or [.and [.loc 3,.cmp .eq (.loc 2) (.str [40]),.cmp .eq (.loc 4) (.str [44])],.and [.cmp .eq (.loc 2) (.str [44]),.cmp .aj (.loc 4) (.tup [.str [101,110,100],.str [41]])]]) [.ret (.call .j3 [.loc 0,.loc 1,.str [109,105,115,115,105,110,103,32,102,117,110,99,116,105,111,110,32,97,114,103,117,109,101,110,116]])] [],.ret (.call .j3 [.loc 0,.loc 1,.str [109,105,115,115,105,110,103,32,111,112,101,114,97,110,100]])]
noncomputable def hH:χ where
 np:=4
 dflt:=[]
 nl:=6
 body:=
  [.asg 4 (.sub (.loc 1) (.int 0)),.asg 5 (.ite (.cmp .gt (.bi .len (.loc 2)) (.int 0)) (.sub (.loc 2) (.neg (.int 1))) (.str [])),.ifs (.cmp .eq (.loc 5) (.str [99,111,108,111,110])) [.asg 5 (.ite (.cmp .gt (.bi .len (.loc 2)) (.int 1)) (.sub (.loc 2) (.neg (.int 2))) (.str [])),.ifs (.or [(.cmp .aj (.loc 4) (.sub (.hJ [([],(.tup [.str [101,110,100]])),([40],(.tup [.str [41]])),([99,97,108,108],(.tup [.str [41],.str [44]]))]) (.loc 5))),.and [.cmp .eq (.loc 4) (.str [111,112]),.cmp .eq (.sub (.loc 1) (.int 1)) (.str [58])]]) [.ret (.call .fQ [.loc 0,.str [117,110,101,120,112,101,99,116,101,100,32,111,112,101,114,97,116,111,114,32,34,58,34,32,119,105,116,104,111,117,116,32,112,114,101,99,101,100,105,110,103,32,34,63,34]])] []] [],.ifs (.and [.cmp .aj (.loc 4) (.tup [.str [101,110,100],.str [41],.str [44]]),.cmp .eq (.loc 5) (.str [63])]) [.ret (.call .j3 [.loc 0,.loc 1,.str [109,105,115,115,105,110,103,32,111,112,101,114,97,116,111,114,32,34,58,34]])] [],.ifs (.cmp .eq (.loc 4) (.str [101,110,100])) [.ret (.call .fQ [.loc 0,.str [117,110,98,97,108,97,110,99,101,100,32,111,112,101,110,32,112,97,114,101,110]])] [],.ifs (.cmp .eq (.loc 4) (.str [41])) [.ret (.call .fQ [.loc 0,.str [117,110,98,97,108,97,110,99,101,100,32,99,108,111,115,101,32,112,97,114,101,110]])] [],.ifs (.cmp .eq (.loc 4) (.str [44])) [.ret (.call .fQ [.loc 0,.str [117,110,101,120,112,101,99,116,101,100,32,34,44,34,32,111,117,116,115,105,100,101,32,102,117,110,99,116,105,111,110,32,97,114,103,117,109,101,110,116,32,108,105,115,116]])] [],.ifs (.call .qX [.loc 1,.loc 3]) [.ret (.call .o7 [.loc 0,.sub (.loc 1) (.int 1)])] [],.ret (.call .j3 [.loc 0,.loc 1,.str [109,105,115,115,105,110,103,32,111,112,101,114,97,116,111,114]])]
noncomputable def o8:χ where
 np:=2
 dflt:=[]
 nl:=12
 body:=
  [.own 2,.own 3,.asg 4 (.bool true),.fU 5 .none (.bi .len (.loc 1)) [.asg 6 (.sub (.sub (.loc 1) (.loc 5)) (.int 0)),.asg 7 (.sub (.sub (.loc 1) (.loc 5)) (.int 1)),.asg 8 (.ite (.cmp .gt (.loc 5) (.int 0)) (.sub (.sub (.loc 1) (.bin .sub (.loc 5) (.int 1))) (.int 0)) (.str [])),.asg 9 (.ite (.cmp .ne (.loc 6) (.str [101,110,100])) (.sub (.sub (.loc 1) (.bin .add (.loc 5) (.int 1))) (.int 0)) (.str [])),.asg 10 (.and [.cmp .eq (.loc 8) (.str [40]),.cmp .gt (.loc 5) (.int 1),(.cmp .eq (.sub (.sub (.loc 1) (.bin .sub (.loc 5) (.int 2))) (.int 0)) (.str [119,111,114,100]))]),.asg 11 (.ite (.cmp .gt (.fS 3) (.int 0)) (.k4 3 (.neg (.int 1))) (.str [])),.ifs (.loc 4) [.ifs (.and [.cmp .eq (.loc 6) (.str [111,112]),.cmp .aj (.loc 7) (.tup [.str [45],.str [43],.str [126],.str [33]])]) [.ex (.app 2 (.str [117,110]))] [.ifs (.and [.cmp .eq (.loc 6) (.str [119,111,114,100]),.cmp .eq (.loc 9) (.str [40])]) [.ex (.app 2 (.str [99,97,108,108]))] [.ifs (.cmp .eq (.loc 6) (.str [40])) [.ex (.app 2 (.str [111,112,101,110])),.ex (.app 3 (.ite (.cmp .eq (.loc 8) (.str [119,111,114,100])) (.str [99,97,108,108]) (.str [40])))] [.ifs (.and [.cmp .eq (.loc 6) (.str [41]),.loc 10]) [.ex (.app 2 (.str [99,108,111,115,101])),.ex (.pop 3),.asg 4 (.bool false)] [.ifs (.call .qX [.sub (.loc 1) (.loc 5),.loc 9]) [.ret (.tup [.call .o7 [.loc 0,.loc 7],.loc 2])] [.ifs (.cmp .aj (.loc 6) (.tup [.str [110,117,109],.str [108,101,97,102],.str [119,111,114,100]])) [.ex (.app 2 (.str [108,101,97,102])),.asg 4 (.bool false)] [.ret (.tup [.call .tY [.loc 0,.sub (.loc 1) (.loc 5),.loc 8,.loc 10],.loc 2])]]]]]]] [.ifs (.and [.cmp .eq (.loc 6) (.str [111,112]),.cmp .ge (.call .iM [.loc 7]) (.int 0)]) [.ex (.app 2 (.str [98,105,110])),.asg 4 (.bool true),.ifs (.cmp .eq (.loc 7) (.str [63])) [.ex (.app 3 (.str [63]))] []] [.ifs (.and [.cmp .eq (.loc 6) (.str [111,112]),.cmp .eq (.loc 7) (.str [58]),.cmp .ne (.loc 11) (.str [99,111,108,111,110])]) [.ex (.app 2 (.str [58])),.asg 4 (.bool true),.ifs (.cmp .eq (.loc 11) (.str [63])) [.ex (.pop 3)] [.ex (.app 3 (.str [99,111,108,111,110]))]] [.ifs (.and [.cmp .eq (.loc 6) (.str [41]),.cmp .aj (.loc 11) (.tup [.str [40],.str [99,97,108,108]])]) [.ex (.app 2 (.str [99,108,111,115,101])),.ex (.pop 3)] [.ifs (.and [.cmp .eq (.loc 6) (.str [44]),.cmp .eq (.loc 11) (.str [99,97,108,108])]) [.ex (.app 2 (.str [44])),.asg 4 (.bool true)] [.ifs (.or [.cmp .ne (.loc 6) (.str [101,110,100]),.cmp .ne (.loc 11) (.str [])]) [.ret (.tup [.call .hH [.loc 0,.sub (.loc 1) (.loc 5),.loc 3,.loc 9],.loc 2])] []]]]]]],.ret (.tup [.str [],.loc 2])]
noncomputable def qY:χ where
 np:=3
 dflt:=[]
 nl:=4
 body:=
  [.asg 3 (.int 0),.bu (.or [.cmp .gt (.loc 3) (.int 0),.cmp .ne (.sub (.loc 1) (.loc 2)) (.str [58])]) [.ifs (.or [.cmp .eq (.sub (.loc 1) (.loc 2)) (.str [111,112,101,110]),.and [.cmp .eq (.sub (.loc 1) (.loc 2)) (.str [98,105,110]),.cmp .eq (.sub (.sub (.loc 0) (.loc 2)) (.int 1)) (.str [63])]]) [.asg 3 (.bin .add (.loc 3) (.int 1))] [.ifs (.cmp .aj (.sub (.loc 1) (.loc 2)) (.tup [.str [99,108,111,115,101],.str [58]])) [.asg 3 (.bin .sub (.loc 3) (.int 1))] []],.asg 2 (.bin .add (.loc 2) (.int 1))],.ret (.loc 2)]
noncomputable def o9:χ where
 np:=4
 dflt:=[]
 nl:=8
 body:=
  [.own 4,.asg 5 (.bin .add (.loc 2) (.int 2)),.asg 6 (.int 0),.fU 7 (some (.bin .add (.loc 2) (.int 2))) (.loc 3) [.ifs (.cmp .eq (.sub (.loc 1) (.loc 7)) (.str [111,112,101,110])) [.asg 6 (.bin .add (.loc 6) (.int 1))] [.ifs (.and [.cmp .eq (.loc 6) (.int 0),.or [.cmp .eq (.sub (.loc 1) (.loc 7)) (.str [44]),.cmp .eq (.loc 7) (.bin .sub (.loc 3) (.int 1))]]) [.ifs (.cmp .gt (.loc 7) (.loc 5)) [.ex (.app 4 (.call .cV [.loc 0,.loc 1,.loc 5,.loc 7]))] [],.asg 5 (.bin .add (.loc 7) (.int 1))] [.ifs (.cmp .eq (.sub (.loc 1) (.loc 7)) (.str [99,108,111,115,101])) [.asg 6 (.bin .sub (.loc 6) (.int 1))] []]]],.ret (.tup [.str [99,97,108,108],.sub (.sub (.loc 0) (.loc 2)) (.int 1),.bi .tuple (.loc 4)])]
noncomputable def iN:χ where
 np:=4
 dflt:=[]
 nl:=7
 body:=
  [.cK [4,5,6] (.sub (.loc 0) (.loc 2)),.ifs (.cmp .eq (.sub (.loc 1) (.loc 2)) (.str [117,110])) [.ret (.tup [.str [117,110],.loc 5,.call .cV [.loc 0,.loc 1,.bin .add (.loc 2) (.int 1),.loc 3]])] [],.ifs (.cmp .eq (.sub (.loc 1) (.loc 2)) (.str [111,112,101,110])) [.ret (.call .cV [.loc 0,.loc 1,.bin .add (.loc 2) (.int 1),.bin .sub (.loc 3) (.int 1)])] [],.ifs (.cmp .eq (.sub (.loc 1) (.loc 2)) (.str [99,97,108,108])) [.ret (.call .o9 [.loc 0,.loc 1,.loc 2,.loc 3])] [],.ifs (.cmp .eq (.loc 4) (.str [108,101,97,102])) [.ret (.loc 5)] [],.ret (.tup [.ite (.cmp .eq (.loc 4) (.str [110,117,109])) (.str [110,117,109]) (.str [116,101,120,116]),.loc 5])]
noncomputable def cV:χ where
 np:=4
 dflt:=[]
 nl:=14
 body:=
  [.asg 4 (.int 0),.asg 5 (.neg (.int 1)),.asg 6 (.int 12),.fU 7 (some (.loc 2)) (.loc 3) [.ifs (.cmp .eq (.sub (.loc 1) (.loc 7)) (.str [111,112,101,110])) [.asg 4 (.bin .add (.loc 4) (.int 1))] [.ifs (.cmp .eq (.sub (.loc 1) (.loc 7)) (.str [99,108,111,115,101])) [.asg 4 (.bin .sub (.loc 4) (.int 1))] [.ifs (.and [.cmp .eq (.sub (.loc 1) (.loc 7)) (.str [98,105,110]),.cmp .eq (.loc 4) (.int 0)]) [.asg 8 (.call .iM [.sub (.sub (.loc 0) (.loc 7)) (.int 1)]),.ifs (.or [.cmp .lt (.loc 8) (.loc 6),.and [.cmp .eq (.loc 8) (.loc 6),.fR .lt .lt (.int 0) (.loc 8) (.int 11)]]) [.asg 5 (.loc 7),.asg 6 (.loc 8)] []] []]]],.ifs (.cmp .lt (.loc 5) (.int 0)) [.ret (.call .iN [.loc 0,.loc 1,.loc 2,.loc 3])] [],.asg 9 (.sub (.sub (.loc 0) (.loc 5)) (.int 1)),.asg 10 (.call .cV [.loc 0,.loc 1,.loc 2,.loc 5]),.ifs (.cmp .eq (.loc 9) (.str [63])) [.asg 11 (.call .qY [.loc 0,.loc 1,.bin .add (.loc 5) (.int 1)]),.asg 12 (.call .cV [.loc 0,.loc 1,.bin .add (.loc 5) (.int 1),.loc 11]),.ret (.tup [.str [105,102],.loc 10,.loc 12,.call .cV [.loc 0,.loc 1,.bin .add (.loc 11) (.int 1),.loc 3]])] [],.asg 13 (.call .cV [.loc 0,.loc 1,.bin .add (.loc 5) (.int 1),.loc 3]),.ifs (.cmp .aj (.loc 9) (.tup [.str [38,38],.str [124,124]])) [.ret (.tup [.ite (.cmp .eq (.loc 9) (.str [38,38])) (.str [97,110,100]) (.str [111,114]),.loc 10,.loc 13])] [],.ret (.tup [.str [98,105,110],.loc 9,.loc 10,.loc 13])]
noncomputable def bH:χ where
 np:=1
 dflt:=[]
 nl:=3
 body:=
  [.asg 1 (.sub (.loc 0) (.int 0)),.ifs (.cmp .eq (.loc 1) (.str [110,117,109])) [.ret (.bi .str (.sub (.loc 0) (.int 1)))] [],.ifs (.cmp .eq (.loc 1) (.str [116,101,120,116])) [.ret (.bin .add (.bin .add (.str [123]) (.sub (.loc 0) (.int 1))) (.str [125]))] [],.ifs (.cmp .eq (.loc 1) (.str [117,110])) [.ret (.bin .add (.bin .add (.bin .add (.str [40]) (.sub (.loc 0) (.int 1))) (.call .bH [.sub (.loc 0) (.int 2)])) (.str [41]))] [],.ifs (.cmp .eq (.loc 1) (.str [98,105,110])) [.ret (.bin .add (.bin .add (.bin .add (.bin .add (.bin .add (.bin .add (.str [40]) (.call .bH [.sub (.loc 0) (.int 2)])) (.str [32])) (.sub (.loc 0) (.int 1))) (.str [32])) (.call .bH [.sub (.loc 0) (.int 3)])) (.str [41]))] [],.ifs (.or [.cmp .eq (.loc 1) (.str [97,110,100]),.cmp .eq (.loc 1) (.str [111,114])]) [.ret (.bin .add (.bin .add (.bin .add (.bin .add (.str [40]) (.call .bH [.sub (.loc 0) (.int 1)])) (.ite (.cmp .eq (.loc 1) (.str [97,110,100])) (.str [32,38,38,32]) (.str [32,124,124,32]))) (.call .bH [.sub (.loc 0) (.int 2)])) (.str [41]))] [],.ifs (.cmp .eq (.loc 1) (.str [105,102])) [.ret (.bin .add (.bin .add (.bin .add (.bin .add (.bin .add (.bin .add (.str [40]) (.call .bH [.sub (.loc 0) (.int 1)])) (.str [63])) (.call .bH [.sub (.loc 0) (.int 2)])) (.str [58])) (.call .bH [.sub (.loc 0) (.int 3)])) (.str [41]))] [],.ifs (.cmp .eq (.loc 1) (.str [99,97,108,108])) [.ret (.bin .add (.bin .add (.bin .add (.sub (.loc 0) (.int 1)) (.str [40])) (.met .join (.str [44,32]) [.comp (.sub (.loc 0) (.int 2)) [] .none (.call .bH [.loc 0])])) (.str [41]))] [],.asg 2 (.call .mJ []),.ret (.sub (.comp (.loc 2) [0,2] (some (.cmp .eq (.sub (.loc 2) (.loc 0)) (.loc 1))) (.loc 0)) (.int 0))]
noncomputable def j4:χ where
 np:=1
 dflt:=[]
 nl:=4
 body:=
  [.cK [1,2] (.call .mL [.loc 0]),.ifs (.cmp .eq (.loc 2) (.str [])) [.cK [2,3] (.call .o8 [.loc 0,.loc 1])] [],.ifs (.cmp .ne (.loc 2) (.str [])) [.ret (.tup [.int 1,.loc 2,.tup [.str [84,67,76],.str [80,65,82,83,69],.str [69,88,80,82]]])] [],.ret (.tup [.int 0,.call .cV [.loc 1,.loc 3,.int 0,.bin .sub (.bi .len (.loc 1)) (.int 1)],.tup []])]
noncomputable def gB:χ where
 np:=1
 dflt:=[]
 nl:=3
 body:=
  [.gP 1 .o5 [.loc 0] 2 [.code,.value,.mE],.ret (.tup [.int 0,.loc 1,.tup []])]
noncomputable def eK:χ where
 np:=1
 dflt:=[]
 nl:=7
 body:=
  [.asg 0 (.ae (.loc 0) .none (some (.int 63))),.asg 1 (.call .j1 [.loc 0]),.asg 2 (.bin .mod (.call .iL [.loc 0,.int 16]) (.bin .pow (.int 8) (.int 6))),.asg 3 (.call .kZ [.loc 1,.loc 2,.bool true]),.asg 4 (.call .j4 [.loc 3]),.ifs (.cmp .ne (.call .gB [.loc 3]) (.loc 4)) [.ret (.bool false)] [],.ifs (.and [.cmp .eq (.sub (.loc 4) (.int 0)) (.int 0),.cmp .ne (.call .gB [.call .bH [.sub (.loc 4) (.int 1)]]) (.loc 4)]) [.ret (.bool false)] [],.gO 5 (.tup [.int 12,.int 14]) [.asg 6 (.call .iL [.loc 0,.bin .add (.loc 5) (.int 1)]),.asg 3 (.call .kZ [.call .j2 [.loc 1,.call .iL [.loc 0,.loc 5],.loc 6],.loc 2,.cmp .ne (.bin .mod (.loc 6) (.int 4)) (.int 3)]),.ifs (.cmp .ne (.call .gB [.loc 3]) (.call .j4 [.loc 3])) [.ret (.bool false)] []],.ret (.bool true)]
end Prog
noncomputable def prog(f:Fn):χ:=List.getD [Prog.iH,Prog.error,Prog.isBlank,Prog.digit,Prog.digitsValue,Prog.baseOf,Prog.wholeOf,Prog.boolOf,Prog.mF,Prog.eG,Prog.wN,Prog.iI,Prog.readName,Prog.kX,Prog.brackets,Prog.j0,Prog.mG,Prog.bF,Prog.qP,Prog.oW,Prog.word,Prog.oX,Prog.hG,Prog.tS,Prog.oY,Prog.isDigit,Prog.runEnd,Prog.mH,Prog.oZ,Prog.qQ,Prog.tT,Prog.qR,Prog.gN,Prog.lex,Prog.levels,Prog.iJ,Prog.cn,Prog.eH,Prog.dc,Prog.fO,Prog.dQ,Prog.eI,Prog.mI,Prog.qS,Prog.missing,Prog.kY,Prog.iK,Prog.close,Prog.o4,Prog.qT,Prog.operand,Prog.prefixed,Prog.choice,Prog.joined,Prog.fP,Prog.o5,Prog.iL,Prog.iM,Prog.mJ,Prog.qU,Prog.qV,Prog.tU,Prog.j1,Prog.gA,Prog.kZ,Prog.j2,Prog.tW,Prog.o6,Prog.tX,Prog.mK,Prog.qW,Prog.eJ,Prog.fQ,Prog.j3,Prog.mL,Prog.qX,Prog.o7,Prog.tY,Prog.hH,Prog.o8,Prog.qY,Prog.o9,Prog.iN,Prog.cV,Prog.bH,Prog.j4,Prog.gB,Prog.eK] f.1 Prog.eK
noncomputable def Ih(f:Fn):List String:=List.getD [["self","code","value","errorcode","level","ret"],["text","errorcode"],["c"],["c","n"],["text","base","value","c","n"],["mark"],["text","first","behind","is_minus","base","value"],["text","value","low","word"],["c"],["text","at"],["text","at","size"],["text","at"],["text","at"],["text","at","begin","close","behind","index"],["text","at","begin","place","command"],["text","at","sign","known","behind"],["text","at","size","begin","place","made","depth","blank","behind"],["text","at","stops","parts","run","size","part","script","piece","begin"],["is_nested"],["text","at","behind"],["text","at","is_nested","is_expand","sign","inner","behind","parts","close"],["text","at","is_nested","begin","size","words","place","found","end"],["text","at","what"],["text","at","what"],["text","at","size","c"],["text","at","base"],["text","at"],["word"],["text","at","c"],["text","at","base","first","marked","behind","end"],["text","at","two"],["text","at","op","c","behind","word"],["text","at","c","part","behind","script","parts","inner"],["text","tokens","at","token"],[],["self","text"],["self"],["self"],["self"],["self"],["self","what"],["self","what"],["reader"],["reader","word","raised"],["reader","here","before","is_first"],["reader"],["reader","ends","here"],["reader","ends"],["reader","name","args"],["parts"],["reader","sort","value","tree"],["reader","ops","tree"],["reader","test","first"],["reader","op","level","left","right"],["reader","least","tree","level","op"],["text","reader","tree"],["script","place","rows"],["op"],[],["q"],["q"],["q"],["script","tokens","held","wants","k","draw","kind","q","top"],["c"],["tokens","gaps","is_careful","text","k","gap"],["tokens","place","draw","at","piece"],["text","at","behind"],["run","figures","marks","low","base","many","is_marked","value"],["tail"],["text","at","run","value","many","is_marked","rest"],["text","at","two","sign"],["text","at","c","behind","leaves","leaf"],["text","what"],["text","token","what"],["text","tokens","at","token","many","fault"],["token","behind","low","words","sides"],["text","word_now"],["text","token","before","is_call","sort"],["text","token","held","behind","sort","top"],["text","tokens","roles","held","wants","k","sort","value","before","behind","is_call","top"],["tokens","roles","place","deep"],["tokens","roles","first","behind","args","begin","deep","k"],["tokens","roles","first","behind","sort","value","at"],["tokens","roles","first","behind","deep","place","loosest","k","level","op","left","colon","middle","right"],["tree","kind","leaves"],["text","tokens","fault","roles"],["text","tree","fault"],["script","tokens","gaps","text","due","k","draw"]] f.1 ["script","tokens","gaps","text","due","k","draw"]
end Mine
end
section
open PySem PySem.Calls PyProof.Rows PySem.W
set_option maxRecDepth 100000
namespace Mine
section
inductive Role where
 |loc|cell (x:PySem.Str)|own (i:Nat)|hN (k:Nat)|iR (k:Nat)|tb (k:Nat)
noncomputable def Role.ctorIdx(x:Role):Nat:=@Role.casesOn (λ_=>Nat) x (0:Nat) (λ_=>(1:Nat)) (λ_=>(2:Nat)) (λ_=>(3:Nat)) (λ_=>(4:Nat)) (λ_=>(5:Nat))
structure Gh where
 nw:List (Addr×Obj)
 φ:List Addr
 ro:Addr->Option Role
mutual
inductive VR (P:Params) (nw:List (Addr×Obj)) (φ:List Addr):Value->V->Prop
 |none:VR P nw φ .none .none
 |bool (b:Bool):VR P nw φ (.bool b) (.bool b)
 |int (i:Int) (t:Tok):VR P nw φ (.int i t) (.int i)
 |str (x:PySem.Str) (t:Tok):PyData.strOk x=true->x.length<=sizeLine->VR P nw φ (.str x t) (.str x.cps.toList)
 |tup {a:Addr} {o:Obj} {vs:List Value} {n:Nat} {xs:List V}:(a,o)∈nw->o.cls=.type "tuple"->o.data=.seq vs.toArray n->vs.length<=sizeLine->Ω P nw φ vs xs->VR P nw φ (.ref a) (.tup xs)
 |list {a:Addr} {o:Obj} {vs:List Value} {n:Nat} {xs:List V}:(a,o)∈nw->o.cls=.type "list"->o.data=.seq vs.toArray n->vs.length<=sizeLine->Ω P nw φ vs xs->VR P nw φ (.ref a) (.list xs)
 |dict {a:Addr} {o:Obj} {es:List DictEntry} {n:Nat} {kvs:List (List Nat×V)}:(a,o)∈nw->o.ExactDict->o.data=.dict es.toArray n->(a==sysModules)=false->cL P nw φ es kvs->VR P nw φ (.ref a) (.dict kvs)
 |obj {k:Nat} {a:Addr}:φ[k]?=some a->VR P nw φ (.ref a) (.obj k)
inductive Ω (P:Params) (nw:List (Addr×Obj)) (φ:List Addr):List Value->List V->Prop
 |nil:Ω P nw φ [] []
 |cons {v:Value} {vs:List Value} {x:V} {xs:List V}:VR P nw φ v x->Ω P nw φ vs xs->Ω P nw φ (v::vs) (x::xs)
inductive cL (P:Params) (nw:List (Addr×Obj)) (φ:List Addr):List DictEntry->List (List Nat×V)->Prop
 |nil:cL P nw φ [] []
 |cons {e:DictEntry} {x:PySem.Str} {t:Tok} {es:List DictEntry} {v:V} {kvs:List (List Nat×V)}:e.key=.str x t->PyData.strOk x=true->e.hash=PyData.keyHash P x->VR P nw φ e.val v->cL P nw φ es kvs->cL P nw φ (e::es) ((x.cps.toList,v)::kvs)
end
theorem j_{α:Type}{l l':List α}{k:Nat}{x:α}(h:l<+:l')(e:l[k]?=some x):l'[k]?=some x:=by
 obtain⟨t,rfl⟩:=h
 rw[List.getElem?_append_left (ej.mp e).1];exact e
section
variable{P:Params}{nw k_:List (Addr×Obj)}{φ lb:List Addr}
theorem Ω.ind{p:List Value->List V->Prop}(h0:p [] [])(h1:∀{v:Value} {vs:List Value} {x:V} {xs:List V},VR P nw φ v x->Ω P nw φ vs xs->p vs xs->p (v::vs) (x::xs)):∀{vs:List Value} {xs:List V},Ω P nw φ vs xs->p vs xs:=
 Ω.rec (motive_1:=λ_ _ _=>True) (motive_2:=λv x _=>p v x) (motive_3:=λ_ _ _=>True) trivial (λ_=>trivial) (λ_ _=>trivial) (λ_ _ _ _=>trivial) (λ_ _ _ _ _ _=>trivial) (λ_ _ _ _ _ _=>trivial) (λ_ _ _ _ _ _=>trivial) (λ_=>trivial)
  h0 (λa r _ ih=>h1 a r ih) trivial (λ_ _ _ _ _ _ _=>trivial)
theorem cL.ind{p:List DictEntry->List (List Nat×V)->Prop}(h0:p [] [])(h1:∀{e:DictEntry} {x:PySem.Str} {t:Tok} {es:List DictEntry} {v:V} {kvs:List (List Nat×V)},e.key=.str x t->PyData.strOk x=true->e.hash=PyData.keyHash P x->VR P nw φ e.val v->cL P nw φ es kvs->p es kvs->p (e::es) ((x.cps.toList,v)::kvs)):∀{es:List DictEntry} {kvs:List (List Nat×V)},cL P nw φ es kvs->p es kvs:=
 cL.rec (motive_1:=λ_ _ _=>True) (motive_2:=λ_ _ _=>True) (motive_3:=λv x _=>p v x) trivial (λ_=>trivial) (λ_ _=>trivial) (λ_ _ _ _=>trivial) (λ_ _ _ _ _ _=>trivial) (λ_ _ _ _ _ _=>trivial) (λ_ _ _ _ _ _=>trivial) (λ_=>trivial)
  trivial (λ_ _ _ _=>trivial) h0 (λk s h a r _ ih=>h1 k s h a r ih)
theorem VR.mono(h1:∀p∈nw,p∈k_)(h2:φ<+:lb):∀{v:Value} {x:V},VR P nw φ v x->VR P k_ lb v x:=
 VR.rec (motive_1:=λv x _=>VR P k_ lb v x) (motive_2:=λv x _=>Ω P k_ lb v x) (motive_3:=λv x _=>cL P k_ lb v x) .none .bool .int .str (λm c d l _ r=>.tup (h1 _ m) c d l r) (λm c d l _ r=>.list (h1 _ m) c d l r) (λm c d s _ r=>.dict (h1 _ m) c d s r) (λe=>.obj (j_ h2 e)) .nil (λ_ _ a r=>.cons a r) .nil (λk s h _ _ a r=>.cons k s h a r)
theorem Ω.mono(h1:∀p∈nw,p∈k_)(h2:φ<+:lb){vs:List Value}{xs:List V}(h:Ω P nw φ vs xs):Ω P k_ lb vs xs:=h.ind (p:=Ω P k_ lb) .nil λa _ r=>.cons (a.mono h1 h2) r
theorem Ω.length{vs:List Value}{xs:List V}(h:Ω P nw φ vs xs):vs.length=xs.length:=h.ind (p:=λvs xs=>vs.length=xs.length) rfl λ_ _ ih=>congrArg Nat.succ ih
theorem Ω.append{vs ws:List Value}{xs ys:List V}(h:Ω P nw φ vs xs)(k:Ω P nw φ ws ys):Ω P nw φ (vs++ws) (xs++ys):=h.ind (p:=λvs xs=>Ω P nw φ (vs++ws) (xs++ys)) k λa _ ih=>.cons a ih
theorem Ω.get{vs:List Value}{xs:List V}{i:Nat}{x:V}(h:Ω P nw φ vs xs)(e:xs[i]?=some x):∃v,vs[i]?=some v∧VR P nw φ v x:=
 h.ind (p:=λvs xs=>∀i,xs[i]?=some x->∃v,vs[i]?=some v∧VR P nw φ v x) (λ_ e=>ah e) (λa _ ih i=>match i with
  |0=>λe=>⟨_,rfl,Option.some.inj e▸a⟩
  |i+1=>ih i) i e
theorem Ω.take{vs:List Value}{xs:List V}(h:Ω P nw φ vs xs):∀n,Ω P nw φ (vs.take n) (xs.take n):=
 h.ind (p:=λvs xs=>∀n,Ω P nw φ (vs.take n) (xs.take n)) (λn=>by cases n<;>exact .nil) λa _ ih n=>match n with
  |0=>.nil
  |n+1=>.cons a (ih n)
theorem Ω.drop{vs:List Value}{xs:List V}(h:Ω P nw φ vs xs):∀n,Ω P nw φ (vs.drop n) (xs.drop n):=
 h.ind (p:=λvs xs=>∀n,Ω P nw φ (vs.drop n) (xs.drop n)) (λn=>by cases n<;>exact .nil) λa r ih n=>match n with
  |0=>.cons a r
  |n+1=>ih n
theorem Ω.snoc{vs:List Value}{xs:List V}{v:Value}{x:V}(h:Ω P nw φ vs xs)(k:VR P nw φ v x):Ω P nw φ (vs++[v]) (xs++[x]):=h.append (.cons k .nil)
theorem VR.ka{x:PySem.Str}{t:Tok}{s:List Nat}(h:PyData.strOk x=true)(l:x.length<=sizeLine)(e:x.cps.toList=s):VR P nw φ (.str x t) (.str s):=e▸.str x t h l
end
noncomputable def FF(base h:Heap)(fr:List Env):Prop:=∀env∈fr,env.scope.kind≠.module∧∃L o,env.frame=some L∧base.get? L=none∧h.get? L=some o∧∀vs,o.data≠.fields vs
noncomputable def isFrame(fr:List Env)(b:Addr):Prop:=∃e∈fr,e.frame=some b
theorem FF.AZ{base h:Heap}:∀{fr:List Env},FF base h fr->h.FunFrames base fr
 |[],_=>trivial
 |e::_,F=>⟨(F e (.head _)).1,(F e (.head _)).2,FF.AZ λx hx=>F x (.tail _ hx)⟩
noncomputable def Ii:ay->String
 |.text=>"text"|.tokens=>"tokens"|.levels=>"levels"|.at=>"at"|.code=>"code"|.value=>"value"|.mE=>"errorcode"
 |.level=>"level"|.ret=>"ret"|.info=>"info"|.tR=>"is_noted"|.line=>"line"|.extra=>"extra"
noncomputable def fldStr(f:ay):PySem.Str:=PySem.Str.ofString (Ii f)
noncomputable def b7:Addr:=350
noncomputable def bX:Addr:=33
noncomputable def gS(P:Params)(g:Gh)(mA:PySem.Str->Option Value)(fs:List (ay×V)):Prop:=
 (∀f v,jm f fs=some v->∃x,mA (fldStr f)=some x∧VR P g.nw g.φ x v)∧(∀y x,mA y=some x->∃f,y=fldStr f∧(jm f fs).isSome)
noncomputable def rj(g:Gh)(h:Heap)(k:Nat)(x:Option Value):Prop:=x=some .none∨∃T oT ts,x=some (.ref T)∧g.ro T=some (.tb k)∧h.get? T=some oT∧oT.data=.fields ts∧3<ts.size
noncomputable def hO(g:Gh)(h:Heap)(k:Nat)(oa:Obj):c_->Prop
 |.reader=>oa.cls=.ref b7∧oa.data=.plain
 |.raised=>oa.cls=.ref bX∧∃vs,oa.data=.fields vs∧4<vs.size∧rj g h k vs[1]?
noncomputable def pj(g:Gh)(h:Heap)(k:Nat)(oa:Obj)(mA:PySem.Str->Option Value):Prop:=
 (oa.dict=none∧∀n,mA n=none)∨∃d,oa.dict=some d∧g.ro d=some (.iR k)∧h.Ns1 d mA
noncomputable def rm(o:O):Prop:=∀f,(jm f o.fs).isSome=true->gD o.cls f=true
noncomputable def rq(P:Params)(g:Gh)(h:Heap)(k:Nat)(a:Addr)(o:O):Prop:=
 ∃oa mA,h.get? a=some oa∧pj g h k oa mA∧gS P g mA o.fs∧hO g h k oa o.cls∧rm o
structure HR (P:Params) (base:Heap) (fr:List Env) (g:Gh) (σ:Hp) (h:Heap):Prop where
 stays:base.StaysIn h
 aE:∀p∈g.nw,h.get? p.1=some p.2∧¬isFrame fr p.1
 len:g.φ.length=σ.length
 objs:∀(k:Nat) (o:O),σ[k]?=some o->∃a,g.φ[k]?=some a∧g.ro a=some (.hN k)∧rq P g h k a o
 mu:∀b r,g.ro b=some r->base.get? b=none∧(∀p∈g.nw,p.1≠b)∧(∃o,h.get? b=some o)∧(r≠.loc->¬isFrame fr b)
 ff:FF base h fr
noncomputable def iS(fr:List Env)(b:Addr)(o:Obj)(r:Option Obj):Prop:=r=some o∨(isFrame fr b∧∃sl,r=some {o with slots:=sl})
structure cM (fr:List Env) (g:Gh) (h:Heap) (g':Gh) (h':Heap):Prop where
 live:∀b o,h.get? b=some o->∃o',h'.get? b=some o'
 keep:∀b o,h.get? b=some o->g.ro b=none->iS fr b o (h'.get? b)
 nw:∀p∈g.nw,p∈g'.nw
 gE:∀p∈g'.nw,p∈g.nw∨h.get? p.1=none∨∃i,g.ro p.1=some (.own i)
 φ:g.φ<+:g'.φ
 ro:∀b o,h.get? b=some o->g'.ro b=g.ro b∨((∃i,g.ro b=some (.own i))∧g'.ro b=none)
structure Ext (fr:List Env) (g:Gh) (h:Heap) (g':Gh) (h':Heap):Prop extends s:cM fr g h g' h' where
 loc:∀b o,g.ro b=some .loc->h.get? b=some o->∃o',h'.get? b=some o'∧o'.data=o.data
theorem A0{α:Type}{o:Option α}{a b:α}(e:o=some a)(k:o=some b){p:Prop}(n:a≠b):p:=(n (Option.some.inj (e.symm.trans k))).elim
section
variable{P:Params}{fr:List Env}{g g' c6 bI mS:Gh}{h h' bj cB mT:Heap}{v:Value}{x:V}
theorem Ext.refl(fr:List Env)(g:Gh)(h:Heap):Ext fr g h g h:=
 ⟨⟨λ_ o e=>⟨o,e⟩,λ_ o e _=>.inl e,λ_ m=>m,λ_ m=>.inl m,ek _,λ_ _ _=>.inl rfl⟩,λ_ o _ e=>⟨o,e,rfl⟩⟩
theorem iS.trans{b:Addr}{o:Obj}{r q:Option Obj}(k:iS fr b o r)(l:∀o,r=some o->iS fr b o q):iS fr b o q:=
 k.elim (l _) λ⟨f,sl,e⟩=>(l _ e).elim (λe=>.inr ⟨f,sl,e⟩) λ⟨_,sl,e⟩=>.inr ⟨f,sl,e⟩
theorem cM.back(x:cM fr g h g' h'){b:Addr}(e:h'.get? b=none):h.get? b=none:=by
 cases q:h.get? b with
 |none=>rfl
 |some o=>obtain⟨_,q'⟩:=x.live b o q;exact nomatch e.symm.trans q'
theorem cM.none(x:cM fr g h g' h'){b:Addr}{o:Obj}(e:h.get? b=some o)(r:g.ro b=none):g'.ro b=none:=(x.ro b o e).elim (·.trans r) (·.2)
theorem cM.trans(x:cM fr c6 bj bI cB)(y:cM fr bI cB mS mT):cM fr c6 bj mS mT where
 live b o e:=let⟨o',e'⟩:=x.live b o e;y.live b o' e'
 keep b o e r:=(x.keep b o e r).trans λo' e'=>y.keep b o' e' (x.none e r)
 nw p m:=y.nw p (x.nw p m)
 gE p m:=(y.gE p m).elim (x.gE p) λq=>.inr (q.elim (λq=>.inl (x.back q)) λ⟨i,q⟩=>by
  cases e:bj.get? p.1 with
  |none=>exact .inl rfl
  |some o=>exact .inr ((x.ro _ o e).elim (λz=>⟨i,z▸q⟩) (·.1))
  )
 φ:=x.φ.trans y.φ
 ro b o e:=let⟨o',e'⟩:=x.live b o e
  (x.ro b o e).elim (λq=>(y.ro b o' e').imp (·.trans q) λz=>⟨q▸z.1,z.2⟩) λq=>.inr ⟨q.1,y.none e' q.2⟩
theorem Ext.trans(x:Ext fr c6 bj bI cB)(y:Ext fr bI cB mS mT):Ext fr c6 bj mS mT:=
 ⟨x.s.trans y.s,λb o r e=>
  let⟨o',e',d'⟩:=x.loc b o r e
  let⟨wZ,Ij,Ik⟩:=y.loc b o' ((x.ro b o e).elim (·.trans r) λ⟨⟨_,q⟩,_⟩=>A0 r q (by intro c;cases c)) e'
  ⟨wZ,Ij,Ik.trans d'⟩⟩
theorem cM.refl(fr:List Env)(g:Gh)(h:Heap):cM fr g h g h:=(Ext.refl fr g h).s
theorem Ext.vr(e:Ext fr g h g' h')(r:VR P g.nw g.φ v x):VR P g'.nw g'.φ v x:=r.mono e.nw e.φ
theorem Ext.Il{vs:List Value}{xs:List V}(e:Ext fr g h g' h')(r:Ω P g.nw g.φ vs xs):Ω P g'.nw g'.φ vs xs:=r.mono e.nw e.φ
end
noncomputable def hP(g:Gh)(env:Env)(h:Heap)(es:Array DictEntry)(x:PySem.Str)(v:Value):Prop:=
 (env.kindOf x=some .local∧nsFind es x=some v)∨
 (env.kindOf x=some .cell∧∃c o,env.cells.lookup x=some c∧g.ro c=some (.cell x)∧h.get? c=some o∧o.data=.cell (some v))
noncomputable def rx(o:Obj):Prop:=o.cls=.type "list"∧o.dict=none∧o.slots= #[]
noncomputable def jq(P:Params)(g:Gh)(env:Env)(h:Heap)(es:Array DictEntry)(i:Nat)(x:PySem.Str):Slot->Prop
 |.un=>env.kindOf x=some .local∨(env.kindOf x=some .cell∧∃c o cv,env.cells.lookup x=some c∧g.ro c=some (.cell x)∧h.get? c=some o∧o.data=.cell cv)
 |.v y=>∃v,hP g env h es x v∧VR P g.nw g.φ v y
 |.own ys=>∃a o vs n,(env.kindOf x=some .local∧nsFind es x=some (.ref a))∧g.ro a=some (.own i)∧h.get? a=some o∧rx o∧o.data=.seq vs n∧vs.size<=sizeLine∧Ω P g.nw g.φ vs.toList ys
structure uc (env:Env):Prop where
 kind:env.scope.kind=.function
 globals:env.globals=mainGlobals
 builtins:env.builtins=builtinsNs
 inter:interactive env=false
structure FR (P:Params) (base:Heap) (fr:List Env) (env:Env) (names:List PySem.Str) (g:Gh) (ρ:Loc) (σ:Hp) (h:Heap):Prop where
 hr:HR P base fr g σ h
 cg:uc env
 nodup:names.Nodup
 len:ρ.length=names.length
 loc:g.ro env.locals=some .loc
 vars:∃o es ep,h.get? env.locals=some o∧o.data=.dict es ep∧StrKeys es∧∀i x sl,names[i]?=some x->ρ[i]?=some sl->jq P g env h es i x sl
structure Cx (A:Around) (D:Nat) (fr:List Env):Prop where
 handled:A.handled=none
 frames:A.frames=some fr
 depth:A.depth+2*D+2<=recursionLimit
 units:A.units+20*D+1500<=cLine
end
section
noncomputable def Gh.add(g:Gh)(a:Addr)(o:Obj):Gh:={g with nw:=(a,o)::g.nw}
noncomputable def Gh.role(g:Gh)(a:Addr)(r:Role):Gh:={g with ro:=λb=>if b=a then some r else g.ro b}
noncomputable def Gh.freeze(g:Gh)(a:Addr)(o:Obj):Gh:={g with nw:=(a,o)::g.nw,ro:=λb=>if b=a then none else g.ro b}
noncomputable def Role.inst:Role->Bool
 |.hN _=>true
 |.iR _=>true
 |.tb _=>true
 |_=>false
noncomputable def instRole(r:Option Role):Bool:=r.any Role.inst
theorem inst_ne{r r':Role}(hi:r.inst=false)(hj:r'.inst=true):r'≠r:=λe=>aG (hi.symm.trans (e▸hj))
section
variable{P:Params}{base h h':Heap}{fr:List Env}{env:Env}{names:List PySem.Str}{g g':Gh}{ρ:Loc}{σ cC:Hp}
noncomputable def KR(c:Role->Prop)(g:Gh)(h:Heap)(g':Gh)(h':Heap):Prop:=∀b r o,c r->g.ro b=some r->h.get? b=some o->h'.get? b=some o∧g'.ro b=some r
theorem KR.weak{c d:Role->Prop}(k:KR c g h g' h')(w:∀r,d r->c r):KR d g h g' h':=λb r o i=>k b r o (w r i)
noncomputable def instK(k:Nat)(r:Role):Prop:=r=.hN k∨r=.iR k∨r=.tb k
noncomputable def mU(x:PySem.Str)(i:Nat)(r:Role):Prop:=r=.cell x∨r=.own i
noncomputable def Role.ix:Role->Nat
 |.hN k=>k
 |.iR k=>k
 |.tb k=>k
 |_=>0
theorem instK.ix{k:Nat}{r:Role}(x:instK k r):r.ix=k:=by rcases x with rfl|rfl|rfl<;>rfl
theorem instK.ne{k k':Nat}{r r':Role}(x:instK k r)(y:instK k' r')(q:k'≠k):r≠r':=λe=>q (y.ix.symm.trans ((congrArg Role.ix e).symm.trans x.ix))
theorem instK.inst{k:Nat}{r:Role}(x:instK k r):r.inst=true:=by rcases x with rfl|rfl|rfl<;>rfl
theorem mU.ni{x:PySem.Str}{i:Nat}{r:Role}(h:mU x i r):r.inst=false:=by rcases h with rfl|rfl<;>rfl
theorem mU.nl{x:PySem.Str}{i:Nat}{r:Role}(h:mU x i r):r≠.loc:=by rcases h with rfl|rfl<;>exact nofun
structure Up (g g':Gh):Prop where
 nw:∀p∈g.nw,p∈g'.nw
 φ:g.φ<+:g'.φ
theorem Up.refl:Up g g:=⟨λ_ m=>m,ek _⟩
theorem Up.add{a:Addr}{o:Obj}:Up g (g.add a o):=⟨λ_ m=>.tail _ m,ek _⟩
theorem Up.freeze{a:Addr}{o:Obj}:Up g (g.freeze a o):=⟨λ_ m=>.tail _ m,ek _⟩
theorem Up.role{a:Addr}{r:Role}:Up g (g.role a r):=⟨λ_ m=>m,ek _⟩
theorem cM.up(x:cM fr g h g' h'):Up g g':=⟨x.nw,x.φ⟩
theorem VR.up{v:Value}{x:V}(r:VR P g.nw g.φ v x)(u:Up g g'):VR P g'.nw g'.φ v x:=r.mono u.nw u.φ
theorem Ω.up{v:List Value}{x:List V}(r:Ω P g.nw g.φ v x)(u:Up g g'):Ω P g'.nw g'.φ v x:=r.mono u.nw u.φ
theorem gS.to{mA:PySem.Str->Option Value}{fs:List (ay×V)}(x:gS P g mA fs)(u:Up g g'):gS P g' mA fs:=
 ⟨λf v e=>let⟨y,e1,e2⟩:=x.1 f v e;⟨y,e1,e2.up u⟩,x.2⟩
theorem hO.to{k:Nat}{oa:Obj}(kr:KR (instK k) g h g' h'):∀{c:c_},hO g h k oa c->hO g' h' k oa c
 |.reader,x=>x
 |.raised,x=>⟨x.1,x.2.imp λ_ x=>⟨x.1,x.2.1,x.2.2.imp_right λx=>x.imp λ_ x=>x.imp λ_ x=>x.imp λ_ x=>have k:=kr _ _ _ (.inr (.inr rfl)) x.2.1 x.2.2.1;⟨x.1,k.2,k.1,x.2.2.2⟩⟩⟩
theorem pj.to{k:Nat}{oa:Obj}{mA:PySem.Str->Option Value}(x:pj g h k oa mA)(kr:KR (instK k) g h g' h'):pj g' h' k oa mA:=
 x.imp_right λx=>x.imp λ_ x=>by
  obtain⟨o,es,ep,e,r⟩:=x.2.2
  have k:=kr _ _ _ (.inr (.inl rfl)) x.2.1 e
  exact⟨x.1,k.2,o,es,ep,k.1,r⟩
theorem rq.to{k:Nat}{a:Addr}{o:O}(ra:g.ro a=some (.hN k))(x:rq P g h k a o)(u:Up g g')(kr:KR (instK k) g h g' h'):rq P g' h' k a o:=
 x.imp λ_ x=>x.imp λ_ x=>⟨(kr _ _ _ (.inl rfl) ra x.1).1,x.2.1.to kr,x.2.2.1.to u,x.2.2.2.1.to kr,x.2.2.2.2⟩
theorem HR.obj(H:HR P base fr g σ h)(u:Up g g'){k:Nat}(kr:KR (instK k) g h g' h'){o:O}(e:σ[k]?=some o):∃a,g'.φ[k]?=some a∧g'.ro a=some (.hN k)∧rq P g' h' k a o:=
 (H.objs k o e).imp λa x=>⟨j_ u.φ x.1,x.2.2.elim λ_ y=>y.elim λ_ y=>(kr _ _ _ (.inl rfl) x.2.1 y.1).2,x.2.2.to x.2.1 u kr⟩
theorem FF.to(F:FF base h fr)(k:∀e∈fr,∀L o,e.frame=some L->h.get? L=some o->(∀vs,o.data≠.fields vs)->∃o',h'.get? L=some o'∧∀vs,o'.data≠.fields vs):FF base h' fr:=λe m=>
 ⟨(F e m).1,(F e m).2.imp λL x=>x.elim λo x=>(k e m L o x.1 x.2.2.1 x.2.2.2).imp λo' z=>⟨x.1,x.2.1,z.1,z.2⟩⟩
theorem FF.keep(F:FF base h fr)(hk:∀b o,h.get? b=some o->h'.get? b=some o):FF base h' fr:=F.to λ_ _ _ o _ e d=>⟨o,hk _ _ e,d⟩
theorem HR.bn(H:HR P base fr g σ h){x b:Addr}{r:Role}{o:Obj}(hr:g.ro x=some r)(e:base.get? b=some o):b≠x:=λq=>ah ((H.mu x r hr).1.symm.trans (q▸e))
theorem HR.upd(H:HR P base fr g σ h)(x:Addr){r:Role}(hr:g.ro x=some r)(hi:r.inst=false)(hk:∀b o,b≠x->h.get? b=some o->h'.get? b=some o)
  (hx:∃o',h'.get? x=some o'∧∀vs,o'.data≠.fields vs):HR P base fr g σ h' where
 stays b o e:=hk b o (H.bn hr e) (H.stays b o e)
 aE p m:=⟨hk _ _ ((H.mu x r hr).2.1 p m) (H.aE p m).1,(H.aE p m).2⟩
 len:=H.len
 objs _ _ e:=H.obj Up.refl (λb r' o c e1 e2=>⟨hk b o (λq=>inst_ne hi c.inst (Option.some.inj (e1.symm.trans (q▸hr)))) e2,e1⟩) e
 mu b r' e:=
  have q:=H.mu b r' e
  ⟨q.1,q.2.1,if z:b=x then z▸hx.imp λ_ z=>z.1 else q.2.2.1.imp λo=>hk b o z,q.2.2.2⟩
 ff:=H.ff.to λ_ _ L o _ e d=>if z:L=x then z▸hx else⟨o,hk L o z e,d⟩
theorem HR.keeps(H:HR P base fr g σ h)(hk:∀b o,h.get? b=some o->h'.get? b=some o):HR P base fr g σ h' where
 stays b o e:=hk b o (H.stays b o e)
 aE p m:=⟨hk _ _ (H.aE p m).1,(H.aE p m).2⟩
 len:=H.len
 objs _ _ e:=H.obj Up.refl (λb _ o _ e1 e2=>⟨hk b o e2,e1⟩) e
 mu b r e:=have q:=H.mu b r e;⟨q.1,q.2.1,q.2.2.1.imp λo=>hk b o,q.2.2.2⟩
 ff:=H.ff.keep hk
theorem HR.w3(H:HR P base fr g σ h)(a:Addr)(φ:g'.φ=g.φ)(u:Up g g')(ra:∀r,g.ro a=some r->r.inst=false)(hn:∀p∈g'.nw,p∉g.nw->p.1=a∧h.get? p.1=some p.2∧¬isFrame fr p.1)(hr:∀b,b≠a->g'.ro b=g.ro b)
  (hm:∀r,g'.ro a=some r->base.get? a=none∧(∀p∈g'.nw,p.1≠a)∧(∃o,h.get? a=some o)∧(r≠.loc->¬isFrame fr a)):HR P base fr g' σ h where
 stays:=H.stays
 aE p m:=(Classical.em (p∈g.nw)).elim (H.aE p) λn=>(hn p m n).2
 len:=(congrArg List.length φ).trans H.len
 objs _ _ e:=H.obj u (λb r o c e1 e2=>⟨e2,(hr b λq=>aG ((ra r (q▸e1)).symm.trans c.inst)).trans e1⟩) e
 mu b r e:=if z:b=a then z▸hm r (z▸e)else
  have q:=H.mu b r ((hr b z).symm.trans e)
  ⟨q.1,λp m=>(Classical.em (p∈g.nw)).elim (q.2.1 p) λn w=>z (w.symm.trans (hn p m n).1),q.2.2⟩
 ff:=H.ff
theorem new_one{p:Addr×Obj}{a:Addr}{o:Obj}{l:List (Addr×Obj)}(m:p∈(a,o)::l)(n:p∉l):p=(a,o):=(dx.mp m).elim id λm=>(n m).elim
theorem HR.add(H:HR P base fr g σ h){a:Addr}{o:Obj}(e:h.get? a=some o)(hr:g.ro a=none)(nf:¬isFrame fr a):HR P base fr (g.add a o) σ h:=
 H.w3 a rfl Up.add (λ_ q=>ah (hr.symm.trans q)) (λp m n=>by cases new_one m n;exact⟨rfl,e,nf⟩) (λ_ _=>rfl) λ_ q=>ah (hr.symm.trans q)
theorem HR.freeze(H:HR P base fr g σ h){a:Addr}{o:Obj}{i:Nat}(e:h.get? a=some o)(hr:g.ro a=some (.own i)):HR P base fr (g.freeze a o) σ h:=
 H.w3 a rfl Up.freeze (λr q=>Option.some.inj (hr.symm.trans q)▸rfl) (λp m n=>by cases new_one m n;exact⟨rfl,e,(H.mu _ _ hr).2.2.2 nofun⟩) (λ_ z=>if_neg z) λ_ q=>ah ((if_pos rfl).symm.trans q)
theorem HR.role(H:HR P base fr g σ h){a:Addr}{r:Role}(hb:base.get? a=none)(hn:∀p∈g.nw,p.1≠a)(hl:∃o,h.get? a=some o)(hr:g.ro a=none)(nf:r≠.loc->¬isFrame fr a):HR P base fr (g.role a r) σ h:=
 H.w3 a rfl Up.role (λ_ q=>ah (hr.symm.trans q)) (λp m n=>(n m).elim) (λ_ z=>if_neg z) λ_ q=>Option.some.inj ((if_pos rfl).symm.trans q)▸⟨hb,hn,hl,nf⟩
theorem HR.fresh(H:HR P base fr g σ h){d:Addr}(z:h.get? d=none):base.get? d=none∧(∀p∈g.nw,p.1≠d)∧g.ro d=none∧¬isFrame fr d:=by
 refine⟨?_,λp m q=>ah (z.symm.trans (q▸(H.aE p m).1)),?_,λ⟨e,m,f⟩=>?_⟩
 ·cases e:base.get? d with
  |none=>rfl
  |some o=>exact ah (z.symm.trans (H.stays _ _ e))
 ·cases e:g.ro d with
  |none=>rfl
  |some r=>exact(H.mu _ _ e).2.2.1.elim λo q=>ah (z.symm.trans q)
 ·obtain⟨_,L,o,f',_,q,_⟩:=H.ff e m
  exact ah (z.symm.trans (Option.some.inj (f'.symm.trans f)▸q))
theorem HR.ry(H:HR P base fr g σ h):base.get? h.objs.size=none∧(∀p∈g.nw,p.1≠h.objs.size)∧g.ro h.objs.size=none∧¬isFrame fr h.objs.size:=H.fresh (Heap.get?_none_of_le (ξ _))
theorem A1{b:Addr}(n:∀r,g.ro b=some r->False):g.ro b=none:=Option.eq_none_iff_forall_ne_some.mpr n
theorem hP.to{es cN:Array DictEntry}{x:PySem.Str}{v:Value}(he:nsFind cN x=nsFind es x)(a:hP g env h es x v)(k:∀c o,g.ro c=some (.cell x)->h.get? c=some o->h'.get? c=some o∧g'.ro c=some (.cell x)):hP g' env h' cN x v:=
 a.imp (λa=>⟨a.1,he.trans a.2⟩) λa=>⟨a.1,a.2.imp λc x=>x.imp λo x=>⟨x.1,(k c o x.2.1 x.2.2.1).2,(k c o x.2.1 x.2.2.1).1,x.2.2.2⟩⟩
theorem jq.to{es cN:Array DictEntry}{i:Nat}{x:PySem.Str}{sl:Slot}(he:nsFind cN x=nsFind es x)(a:jq P g env h es i x sl)(u:Up g g')(k:KR (mU x i) g h g' h'):jq P g' env h' cN i x sl:=
 match sl with
 |.un=>Or.imp_right (λx=>⟨x.1,x.2.imp λc x=>x.imp λo x=>x.imp λcv x=>have k:=k c _ o (.inl rfl) x.2.1 x.2.2.1;⟨x.1,k.2,k.1,x.2.2.2⟩⟩) a
 |.v _=>Exists.imp (λv x=>⟨x.1.to he λc o=>k c _ o (.inl rfl),x.2.up u⟩) a
 |.own _=>Exists.imp (λa x=>x.imp λo x=>x.imp λvs x=>x.imp λn x=>have k:=k a _ o (.inr rfl) x.2.1 x.2.2.1;⟨⟨x.1.1,he.trans x.1.2⟩,k.2,k.1,x.2.2.2.1,x.2.2.2.2.1,x.2.2.2.2.2.1,x.2.2.2.2.2.2.up u⟩) a
theorem FR.gen(F:FR P base fr env names g ρ σ h)(H:HR P base fr g' cC h')(hl:g'.ro env.locals=some .loc)(u:Up g g')(kd:∀o,h.get? env.locals=some o->∃o',h'.get? env.locals=some o'∧o'.data=o.data)
  (k:∀i x,names[i]?=some x->KR (mU x i) g h g' h'):FR P base fr env names g' ρ cC h':=
 ⟨H,F.cg,F.nodup,F.len,hl,F.vars.elim λo x=>x.elim λes x=>x.elim λep x=>(kd o x.1).imp λo' z=>⟨es,ep,z.1,z.2.trans x.2.1,x.2.2.1,λi x' sl e1 e2=>(x.2.2.2 i x' sl e1 e2).to rfl u (k i x' e1)⟩⟩
theorem FR.keeps(F:FR P base fr env names g ρ σ h)(hk:∀b o,h.get? b=some o->h'.get? b=some o):FR P base fr env names g ρ σ h':=
 F.gen (F.hr.keeps hk) F.loc Up.refl (λo e=>⟨o,hk _ _ e,rfl⟩) λ_ _ _ b _ o _ e1 e2=>⟨hk b o e2,e1⟩
theorem FR.add(F:FR P base fr env names g ρ σ h){a:Addr}{o:Obj}(e:h.get? a=some o)(hr:g.ro a=none)(nf:¬isFrame fr a):FR P base fr env names (g.add a o) ρ σ h:=
 F.gen (F.hr.add e hr nf) F.loc Up.add (λo e=>⟨o,e,rfl⟩) λ_ _ _ b _ o _ e1 e2=>⟨e2,e1⟩
theorem Ext.keeps(hk:∀b o,h.get? b=some o->h'.get? b=some o):Ext fr g h g h':=
 ⟨⟨λb o e=>⟨o,hk _ _ e⟩,λb o e _=>.inl (hk _ _ e),λ_ m=>m,λ_ m=>.inl m,ek _,λ_ _ _=>.inl rfl⟩,λb o _ e=>⟨o,hk _ _ e,rfl⟩⟩
theorem Ext.add{a:Addr}{o:Obj}(ha:h.get? a=none)(hk:∀b o,h.get? b=some o->h'.get? b=some o):Ext fr g h (g.add a o) h':=
 ⟨⟨λb o e=>⟨o,hk _ _ e⟩,λb o e _=>.inl (hk _ _ e),λ_ m=>.tail _ m,λp m=>(Classical.em (p∈g.nw)).imp_right λn=>.inl (by cases new_one m n;exact ha),ek _,λ_ _ _=>.inl rfl⟩,λb o _ e=>⟨o,hk _ _ e,rfl⟩⟩
theorem FR.push(F:FR P base fr env names g ρ σ h)(o:Obj):FR P base fr env names g ρ σ (h.push o):=
 F.keeps λ_ _ e=>Heap.get?_push_of_some _ e
theorem Ext.push(o:Obj):Ext fr g h g (h.push o):=Ext.keeps λ_ _ e=>Heap.get?_push_of_some _ e
theorem FR.made(F:FR P base fr env names g ρ σ h)(o:Obj)(hf:o.isFreed=false):FR P base fr env names (g.add h.objs.size o) ρ σ (h.push o):=
 (F.push o).add (Heap.get?_push_size _ hf) F.hr.ry.2.2.1 F.hr.ry.2.2.2
theorem Ext.made(o:Obj):Ext fr g h (g.add h.objs.size o) (h.push o):=
 Ext.add (Heap.get?_none_of_le (ξ _)) λ_ _ e=>Heap.get?_push_of_some _ e
end
noncomputable def dz(s s':Shared):Prop:=s'.gens=s.gens∧s'.os=s.os
theorem dz.refl(s:Shared):dz s s:=⟨rfl,rfl⟩
theorem dz.trans{a b c:Shared}(x:dz a b)(y:dz b c):dz a c:=⟨y.1.trans x.1,y.2.trans x.2⟩
noncomputable def rz(h:Heap)(env:Env)(a:Addr):Prop:=
 ∃oa vs,h.get? a=some oa∧oa.data=.fields vs∧(vs[1]?=some .none∨∃T oT ts f,vs[1]?=some (.ref T)∧h.get? T=some oT∧oT.data=.fields ts∧ts[3]?=some f∧(f=.none∨∃L,env.frame=some L∧f=rawInt L))
noncomputable def RV(P:Params)(g:Gh)(v:Value)(x:V):Prop:=VR P g.nw g.φ v x
noncomputable def mV(P:Params)(g:Gh)(v:List Value)(x:List V):Prop:=Ω P g.nw g.φ v x
noncomputable def tt{α:Type}(o:Option α)(K:α->Prop):Prop:=match o with
 |.none=>False
 |some a=>K a
section
variable{α β:Type}{K:α->Prop}{p:Prop}
theorem tt.mono{o:Option α}(h:tt o K){K':α->Prop}(k:∀a,K a->K' a):tt o K':=match o,h with
 |some a,h=>k a h
theorem tt.bind{o:Option β}{f:β->Option α}(h:tt (o.bind f) K):tt o λb=>tt (f b) K:=match o,h with
 |some _,h=>h
theorem tt.map{o:Option β}{f:β->α}(h:tt (o.map f) K):tt o λb=>K (f b):=match o,h with
 |some _,h=>h
theorem tt.if{c:Prop}[Decidable c]{o:Option α}(h:tt (if c then o else .none) K)(k:c->tt o K->p):p:=by
 by_cases q:c
 ·rw[if_pos q]at h;exact k q h
 ·rw[if_neg q]at h;exact h.elim
theorem tt.el{o:Option α}(h:tt o K)(k:∀a,o=some a->K a->p):p:=match o,h with
 |some a,h=>k a rfl h
end
end
section
noncomputable def pk:fM->PySem.Operator
 |.add=>.Add|.sub=>.Sub|.mul=>.Mult|.fdiv=>.FloorDiv|.mod=>.Mod|.pow=>.Pow
noncomputable def iU:gy->PySem.CmpOp
 |.eq=>.Eq|.ne=>.NotEq|.lt=>.Lt|.le=>.LtE|.gt=>.Gt|.ge=>.GtE|.is=>.Is|.jj=>.IsNot|.aj=>.In|.fN=>.NotIn
section
variable{P:Params}{nw:List (Addr×Obj)}{φ:List Addr}{v:Value}{x:V}{α:Type}{K:α->Prop}{p:Value->Prop}
theorem VR.I(h:VR P nw φ v x){f:Int->Option α}(H:tt (b6 x f) K)(k:∀i t,tt (f i) K->p (.int i t)):p v:=by cases h<;>first|exact k _ _ H|exact False.elim H
theorem VR.B(h:VR P nw φ v x){f:Bool->Option α}(H:tt (AR x f) K)(k:∀b,tt (f b) K->p (.bool b)):p v:=by cases h<;>first|exact k _ H|exact False.elim H
theorem VR.S(h:VR P nw φ v x){f:List Nat->Option α}(H:tt (fV x f) K)(k:∀y t,PyData.strOk y=true->y.length<=sizeLine->tt (f y.cps.toList) K->p (.str y t)):p v:=by cases h<;>first|exact k _ _ (by assumption) (by assumption) H|exact False.elim H
structure kf (P:Params) (nw:List (Addr×Obj)) (φ:List Addr) (T:String) (a:Addr) (xs:List V) (o:Obj) (vs:List Value) (n:Nat):Prop where
 m:(a,o)∈nw
 c:o.cls=.type T
 d:o.data=.seq vs.toArray n
 l:vs.length<=sizeLine
 r:Ω P nw φ vs xs
theorem VR.T(h:VR P nw φ v x){f:List V->Option α}(H:tt (tZ x f) K)(k:∀a xs o vs n,kf P nw φ "tuple" a xs o vs n->tt (f xs) K->p (.ref a)):p v:=by
 cases h with
 |tup a b c d e=>exact k _ _ _ _ _ ⟨a,b,c,d,e⟩ H
 |_=>exact False.elim H
theorem VR.L(h:VR P nw φ v x){f:List V->Option α}(H:tt (q8 x f) K)(k:∀a xs o vs n,kf P nw φ "list" a xs o vs n->tt (f xs) K->p (.ref a)):p v:=by
 cases h with
 |list a b c d e=>exact k _ _ _ _ _ ⟨a,b,c,d,e⟩ H
 |_=>exact False.elim H
structure A2 (P:Params) (nw:List (Addr×Obj)) (φ:List Addr) (a:Addr) (kvs:List (List Nat×V)) (o:Obj) (es:List DictEntry) (n:Nat):Prop where
 m:(a,o)∈nw
 c:o.ExactDict
 d:o.data=.dict es.toArray n
 s:(a==sysModules)=false
 r:cL P nw φ es kvs
theorem VR.D(h:VR P nw φ v x){f:List (List Nat×V)->Option α}(H:tt (AS x f) K)(k:∀a kvs o es n,A2 P nw φ a kvs o es n->tt (f kvs) K->p (.ref a)):p v:=by
 cases h with
 |dict a b c d e=>exact k _ _ _ _ _ ⟨a,b,c,d,e⟩ H
 |_=>exact False.elim H
theorem VR.O(h:VR P nw φ v x){f:Nat->Option α}(H:tt (k7 x f) K)(k:∀a i,φ[i]?=some a->tt (f i) K->p (.ref a)):p v:=by
 cases h with
 |obj e=>exact k _ _ e H
 |_=>exact False.elim H
theorem VR.C(h:VR P nw φ v x){f:Nat->Option α}(H:tt (q9 x f) K)(k:∀c t,tt (f c) K->p (.str ⟨#[c]⟩ t)):p v:=h.S H λ⟨⟨l⟩⟩ t _ _ H=>match l,H with
 |[c],H=>k c t H
variable{vs:List Value}{xs:List V}{p:List Value->Prop}
theorem Ω.a0(h:Ω P nw φ vs xs){o:Option α}(H:tt (q_ xs o) K)(k:tt o K->p []):p vs:=by
 cases h with
 |nil=>exact k H
 |cons=>exact False.elim H
theorem Ω.a1(h:Ω P nw φ vs xs){f:V->Option α}(H:tt (rd xs f) K)(k:∀v x,VR P nw φ v x->tt (f x) K->p [v]):p vs:=by
 cases h with
 |nil=>exact False.elim H
 |cons a r=>exact r.a0 (p:=λr=>p (_::r)) H (k _ _ a)
theorem Ω.a2(h:Ω P nw φ vs xs){f:V->V->Option α}(H:tt (wR xs f) K)(k:∀v x u y,VR P nw φ v x->VR P nw φ u y->tt (f x y) K->p [v,u]):p vs:=by
 cases h with
 |nil=>exact False.elim H
 |cons a r=>exact r.a1 (p:=λr=>p (_::r)) H (k _ _ · · a)
end
theorem Im{x y:PySem.Str}(h:x.cps.toList=y.cps.toList):x=y:=congrArg (λl:List Nat=>(⟨l.toArray⟩:PySem.Str)) h
theorem str_len(x:PySem.Str):x.length=x.cps.toList.length:=rfl
theorem iV{x:PySem.Str}:PyData.strOk x=true↔∀c∈x.cps.toList,c<0x110000:=by
 unfold PyData.strOk
 rw[<-Array.all_toList,dM];simp only[decide_eq_true_eq]
theorem mW{x:PySem.Str}{s:List Nat}(e:x.cps.toList=s)(h:∀c∈s,c<0x110000):PyData.strOk x=true:=iV.mpr (e▸h)
theorem str_beq(x y:List Nat):((⟨x.toArray⟩:PySem.Str)==⟨y.toArray⟩)=(x==y):=(toList_beq ⟨x.toArray⟩ ⟨y.toArray⟩).symm
mutual
noncomputable def toPy:V->PyData
 |.none=>.none
 |.bool b=>.bool b
 |.int i=>.int i
 |.str s=>.str ⟨s.toArray⟩
 |.tup vs=>.tuple (gF vs)
 |.list vs=>.list (gF vs)
 |.dict _=>.dict []
 |.obj _=>.dict []
noncomputable def gF:List V->List PyData
 |[]=>[]
 |v::vs=>toPy v::gF vs
end
structure Rd (h:Heap) (v:Value) (d:PyData) (n:Nat):Prop where
 r:∃as,Reads h v d as
 c:d.canLay0=true
 d:d.depth<=n
structure w5 (h:Heap) (v:List Value) (d:List PyData) (n:Nat):Prop where
 r:∃as,ReadsAll h v d as
 c:PyData.canLayAll0 d=true
 d:PyData.depthAll d<=n
theorem A3{f:Nat->Bool}{p:Nat->Prop}{n:Nat}(h:(match n with|0=>false|n+1=>f n)=true)(k:∀n,f n=true->p (n+1)):p n:=match n,h with
 |n+1,h=>k n h
theorem VR.reads{P:Params}{g:Gh}{h:Heap}(N:∀p∈g.nw,h.get? p.1=some p.2):∀{v:Value} {x:V},VR P g.nw g.φ v x->∀n,x.plain n=true->Rd h v (toPy x) n:=
 VR.rec (motive_1:=λv x _=>∀n,x.plain n=true->Rd h v (toPy x) n) (motive_2:=λv x _=>∀n,dS n x=true->w5 h v (gF x) n) (motive_3:=λ_ _ _=>True)
  (λ_ _=>⟨⟨_,.none⟩,rfl,bC _⟩) (λb _ _=>⟨⟨_,.bool b⟩,rfl,bC _⟩) (λi t _ _=>⟨⟨_,.int i t⟩,rfl,bC _⟩) (λx t ok _ _ _=>⟨⟨_,.str x t⟩,ok,bC _⟩)
  (λm c d _ _ ih n hp=>A3 (p:=Rd h _ _) hp λn hp=>have q:=ih n hp;⟨q.r.imp λ_ r=>.tuple (N _ m) c d r,q.c,Nat.succ_le_succ q.d⟩)
  (λm c d _ _ ih n hp=>A3 (p:=Rd h _ _) hp λn hp=>have q:=ih n hp;⟨q.r.elim λ_ r=>⟨_,.list (N _ m) c d r⟩,q.c,Nat.succ_le_succ q.d⟩)
  (λ_ _ _ _ _ _ _ hp=>aG hp) (λ_ _ hp=>aG hp) (λ_ _=>⟨⟨_,.nil⟩,rfl,bC _⟩)
  (λ_ _ ia ir n hp=>have hp:=bD.mp hp;have a:=ia n hp.1;have r:=ir n hp.2;⟨a.r.elim λ_ a=>r.r.elim λ_ r=>⟨_,.cons a r⟩,bD.mpr ⟨a.c,r.c⟩,Nat.max_le_of_le_of_le a.d r.d⟩)
  trivial (λ_ _ _ _ _ _ _=>trivial)
theorem Ω.reads{P:Params}{g:Gh}{h:Heap}(N:∀p∈g.nw,h.get? p.1=some p.2){v:List Value}{x:List V}(r:Ω P g.nw g.φ v x):∀n,dS n x=true->w5 h v (gF x) n:=
 r.ind (p:=λv x=>∀n,dS n x=true->w5 h v (gF x) n) (λ_ _=>⟨⟨_,.nil⟩,rfl,bC _⟩)
  λa _ ir n hp=>have hp:=bD.mp hp;have a:=a.reads N n hp.1;have r:=ir n hp.2;⟨a.r.elim λ_ a=>r.r.elim λ_ r=>⟨_,.cons a r⟩,bD.mpr ⟨a.c,r.c⟩,Nat.max_le_of_le_of_le a.d r.d⟩
theorem A4(x:V):∀y,PyData.eqv (toPy x) (toPy y)=x.eqv y:=
 V.rec (motive_1:=λx=>∀y,PyData.eqv (toPy x) (toPy y)=x.eqv y) (motive_2:=λxs=>∀ys,PyData.eqvAll (gF xs) (gF ys)=rf xs ys) (motive_3:=λ_=>True) (motive_4:=λ_=>True)
  (λy=>by cases y<;>rfl) (λb y=>by cases y<;>rfl) (λi y=>by cases y<;>rfl) (λs y=>by cases y<;>first|rfl|exact str_beq ..)
  (λxs ih y=>by cases y<;>first|rfl|exact ih _) (λxs ih y=>by cases y<;>first|rfl|exact ih _) (λ_ _ y=>by cases y<;>rfl) (λ_ y=>by cases y<;>rfl)
  (λys=>by cases ys<;>rfl) (λx xs hx hs ys=>match ys with
   |[]=>rfl
   |y::ys=>congr (congrArg and (hx y)) (hs ys)) trivial (λ_ _ _ _=>trivial) (λ_ _ _=>trivial) x
theorem Io(x y:V):o_ x y=rh x y:=by cases x<;>first|rfl|(cases y<;>rfl)
theorem A5(x:V):∀xs:List V,((gF xs).any λy=>PyData.eqv y (toPy x))=xs.any λy=>y.eqv x
 |[]=>rfl
 |y::ys=>congr (congrArg or (A4 y x)) (A5 x ys)
section
variable{P:Params}{nw:List (Addr×Obj)}{φ:List Addr}
theorem cL.find{w:World}(k:PySem.Str){es:List DictEntry}{kvs:List (List Nat×V)}(r:cL w.params nw φ es kvs):(findKey k.cps.toList kvs=none∧findBy Value.isStrOf es.toArray k=none)∨∃x v,findKey k.cps.toList kvs=some x∧findBy Value.isStrOf es.toArray k=some v∧VR w.params nw φ v x:=
 r.ind (p:=λes kvs=>(findKey k.cps.toList kvs=none∧findBy Value.isStrOf es.toArray k=none)∨∃x v,findKey k.cps.toList kvs=some x∧findBy Value.isStrOf es.toArray k=some v∧VR w.params nw φ v x) (.inl ⟨rfl,rfl⟩) λ{e y t es v kvs} hk _ _ hv _ ih=>by
  unfold findBy at ih⊢
  rw[List.find?_toArray]at ih⊢
  rw[List.find?_cons,hk]
  by_cases q:k=y
  ·subst q
   rw[show Value.isStrOf k (.str k t)=true from beq_self_eq_true k]
   exact .inr ⟨_,_,if_pos rfl,rfl,hv⟩
  ·rw[show Value.isStrOf k (.str y t)=false from beq_eq_false_iff_ne.mpr (Ne.symm q),findKey,if_neg λz=>q (Im z)]
   exact ih
theorem cL.there{w:World}(k:PySem.Str){es:List DictEntry}{kvs:List (List Nat×V)}(r:cL w.params nw φ es kvs):(findBy Value.isStrOf es.toArray k).isSome=(findKey k.cps.toList kvs).isSome:=
 (cL.find k r).elim (λz=>by rw[z.1,z.2];rfl) λz=>z.elim λ_ z=>z.elim λ_ z=>by rw[z.1,z.2.1];rfl
theorem cL.keys{w:World}{prog:Program}{es:List DictEntry}{kvs:List (List Nat×V)}(r:cL w.params nw φ es kvs):∀e∈es,∃k,(strKind prog w).is k e.key=true∧e.hash=(strKind prog w).hash k:=
 r.ind (p:=λes _=>∀e∈es,∃k,(strKind prog w).is k e.key=true∧e.hash=(strKind prog w).hash k) (λ_ m=>nomatch m)
  λhk _ hh _ _ ih e m=>(dx.mp m).elim (λq=>q▸⟨_,hk▸strKind_is prog w _ _,hh⟩) (ih e)
end
noncomputable def Kont(P:Params)(base:Heap)(fr:List Env)(env:Env)(names:List PySem.Str)(g:Gh)(s:Shared)(ρ:Loc)(σ:Hp)(Q:Value->Shared->Prop)(z:V):Prop:=
 ∀r g' s',FR P base fr env names g' ρ σ s'.heap->Ext fr g s.heap g' s'.heap->RV P g' r z->dz s s'->Q r s'
section
variable{prog:Program}{w:World}{A:Around}{Ex:Value->Shared->Prop}{s:Shared}{base:Heap}{fr:List Env}{env:Env}{names:List PySem.Str}{g:Gh}{ρ:Loc}{σ:Hp}{Q:Value->Shared->Prop}
theorem Kont.here{z:V}{r:Value}{k:Nat}(K:Kont w.params base fr env names g s ρ σ Q z)(F:FR w.params base fr env names g ρ σ s.heap)(h:RV w.params g r z):Q r {s with toks:=k}:=
 K r g {s with toks:=k} F (Ext.refl _ _ _) h ⟨rfl,rfl⟩
theorem Kont.eu{z:V}{r:Value}(K:Kont w.params base fr env names g s ρ σ Q z)(F:FR w.params base fr env names g ρ σ s.heap)(h:RV w.params g r z):Q r s:=
 K r g s F (Ext.refl _ _ _) h ⟨rfl,rfl⟩
theorem Kont.new{z:V}{o:Obj}(K:Kont w.params base fr env names g s ρ σ Q z)(F:FR w.params base fr env names g ρ σ s.heap)(hf:o.isFreed=false)(h:RV w.params (g.add s.heap.objs.size o) (.ref s.heap.objs.size) z):Q (.ref s.heap.objs.size) {s with heap:=s.heap.push o}:=
 K _ _ {s with heap:=s.heap.push o} (F.made o hf) (Ext.made o) h ⟨rfl,rfl⟩
theorem FR.nw(F:FR w.params base fr env names g ρ σ s.heap):∀p∈g.nw,s.heap.get? p.1=some p.2:=λp m=>(F.hr.aE p m).1
theorem A6{x y:V}{K:Bool->Prop}{p:Prop}{v u:Value}(F:FR w.params base fr env names g ρ σ s.heap)(hv:RV w.params g v x)(hu:RV w.params g u y)(hA:A.units+600<cLine)(H:tt (o_ x y) K)
  (k:∀as bs,Reads s.heap v (toPy x) as->Reads s.heap u (toPy y) bs->(toPy x).canLay0=true->(toPy y).canLay0=true->A.units+min (toPy x).depth (toPy y).depth<cLine->K (PyData.eqv (toPy x) (toPy y))->p):p:=
 tt.if (o:=some (x.eqv y)) (show tt (rh x y) K from Io x y▸H) λc K=>
  have c:=bD.mp c
  have a:=VR.reads F.nw hv _ c.1
  have b:=VR.reads F.nw hu _ c.2
  a.r.elim λas r1=>b.r.elim λbs r2=>k as bs r1 r2 a.c b.c (wL hA (show _<=500 from a.d) (Nat.min_le_left (toPy x).depth (toPy y).depth) (by simp+arith)) (A4 x y▸K)
theorem w7(F:FR w.params base fr env names g ρ σ s.heap){a:Addr}{o:Obj}{es:List DictEntry}{n:Nat}{kvs:List (List Nat×V)}(d:A2 w.params g.nw g.φ a kvs o es n):s.heap.MapOf (strKind prog w) a (λk=>findBy Value.isStrOf es.toArray k):=
 ⟨o,_,n,F.nw _ d.m,d.c,d.d,λe he=>cL.keys (prog:=prog) d.r e (Array.mem_toList_iff.mpr he),λ_=>rfl⟩
theorem A7{x:V}{ys:List V}{K:Bool->Prop}{p:Prop}{v:Value}{us:List Value}(F:FR w.params base fr env names g ρ σ s.heap)(hv:RV w.params g v x)(hu:Ω w.params g.nw g.φ us ys)(hA:A.units+600<cLine)
  (H:tt (if dS et ys&&x.plain et then some (ys.any λy=>y.eqv x)else Option.none) K)
  (k:∀as bs,ReadsAll s.heap us (gF ys) as->Reads s.heap v (toPy x) bs->PyData.canLayAll0 (gF ys)=true->(toPy x).canLay0=true->A.units+1+min (PyData.depthAll (gF ys)) (toPy x).depth<cLine->K ((gF ys).any λy=>PyData.eqv y (toPy x))->p):p:=
 tt.if H λc K=>
  have c:=bD.mp c
  have a:=hu.reads F.nw _ c.1
  have b:=VR.reads F.nw hv _ c.2
  a.r.elim λas r1=>b.r.elim λbs r2=>k as bs r1 r2 a.c b.c (wL hA (show _<=500 from a.d) (Nat.min_le_left (PyData.depthAll (gF ys)) (toPy x).depth) (by simp+arith)) (A5 x ys▸K)
theorem A8{x y:V}{v u:Value}(F:FR w.params base fr env names g ρ σ s.heap)(hv:RV w.params g v x)(hu:RV w.params g u y)(hA:A.units+600<cLine)
  (K:tt (iO x y) λb=>Kont w.params base fr env names g s ρ σ Q (.bool b)):wpAny (model prog w) A (compareOp .In v u) Q Ex s:=by
 cases hu with
 |str z t=>exact VR.C (p:=λv=>wpAny (model prog w) A (compareOp .In v (.str z t)) Q Ex s) hv K λc _ K=>P.in_str (by rw[StrLaws.found_one];exact Kont.eu K F (.bool _))
 |dict m c d ne r=>exact VR.S (p:=λv=>wpAny (model prog w) A (compareOp .In v (.ref _)) Q Ex s) hv K λk t _ _ K=>wpAny_in_of (strKind_is prog w k t) ne (w7 F ⟨m,c,d,ne,r⟩) (by rw[cL.there k r];exact Kont.here K F (.bool _))
 |tup m c d _ r=>exact A7 F hv r hA K λ_ _ r1 r2 c1 c2 hu K=>SeqAt.in_tuple_reads (.tuple (F.nw _ m) c d r1) r2 c1 c2 hu (Kont.eu K F (.bool _))
 |list m c d _ r=>exact A7 F hv r hA K λ_ _ r1 r2 c1 c2 hu K=>SeqAt.in_list_reads (.list (F.nw _ m) c d r1) r2 c1 c2 hu (Kont.eu K F (.bool _))
 |_=>exact False.elim K
theorem Ip{M:Model}{x c:Value}{Q:Value->Shared->Prop}(h:wpAny M A (compareOp .In x c) Q Ex s):wpAny M A (contains c x) (λb s'=>Q (.bool b) s') Ex s:=λΓ p Iq=>by
 have q:=h Γ p Iq
 rw[show compareOp .In x c=(contains c x>>=λb=>pure (Value.bool b))from rfl,Sem.wp_bind']at q
 exact q
theorem VR.eqB{P:Params}{nw:List (Addr×Obj)}{φ:List Addr}{v:Value}{b:Bool}(h:VR P nw φ v (.bool b)):v=.bool b:=by cases h;rfl
theorem A9{P:Params}{nw:List (Addr×Obj)}{φ:List Addr}{v:Value}{x:V}(h:VR P nw φ v x):(v==.none)=wU x:=by cases h<;>rfl
theorem of_none{P:Params}{nw:List (Addr×Obj)}{φ:List Addr}{v:Value}{x:V}{α:Type}{o:Option α}{K:α->Prop}{p:Value->Prop}(h:VR P nw φ v x)(H:tt (match x with|.none=>o|_=>Option.none) K)(k:tt o K->p .none):p v:=by cases h<;>first|exact k H|exact False.elim H
theorem pq{op:gy}{x y:V}{v u:Value}(F:FR w.params base fr env names g ρ σ s.heap)(hv:RV w.params g v x)(hu:RV w.params g u y)(hA:A.units+600<cLine)
  (K:tt (aY op x y) λb=>Kont w.params base fr env names g s ρ σ Q (.bool b)):wpAny (model prog w) A (compareOp (iU op) v u) Q Ex s:=
 match op,K with
 |.eq,K=>A6 F hv hu hA K λ_ _ r1 r2 c1 c2 hu K=>SeqAt.compareEq_reads r1 r2 c1 c2 hu (Kont.eu K F (.bool _))
 |.ne,K=>A6 F hv hu hA K.map λ_ _ r1 r2 c1 c2 hu K=>SeqAt.compareNe_reads r1 r2 c1 c2 hu (Kont.eu K F (.bool _))
 |.lt,K=>VR.I (p:=λv=>wpAny (model prog w) A (compareOp .Lt v u) Q Ex s) hv K λi t K=>VR.I (p:=λu=>wpAny (model prog w) A (compareOp .Lt (.int i t) u) Q Ex s) hu K λ_ _ K=>P.lt_int (Kont.eu K F (.bool _))
 |.le,K=>VR.I (p:=λv=>wpAny (model prog w) A (compareOp .LtE v u) Q Ex s) hv K λi t K=>VR.I (p:=λu=>wpAny (model prog w) A (compareOp .LtE (.int i t) u) Q Ex s) hu K λ_ _ K=>P.le_int (Kont.eu K F (.bool _))
 |.gt,K=>VR.I (p:=λv=>wpAny (model prog w) A (compareOp .Gt v u) Q Ex s) hv K λi t K=>VR.I (p:=λu=>wpAny (model prog w) A (compareOp .Gt (.int i t) u) Q Ex s) hu K λ_ _ K=>P.gt_int (Kont.eu K F (.bool _))
 |.ge,K=>VR.I (p:=λv=>wpAny (model prog w) A (compareOp .GtE v u) Q Ex s) hv K λi t K=>VR.I (p:=λu=>wpAny (model prog w) A (compareOp .GtE (.int i t) u) Q Ex s) hu K λ_ _ K=>P.ge_int (Kont.eu K F (.bool _))
 |.is,K=>of_none (p:=λu=>wpAny (model prog w) A (compareOp .Is v u) Q Ex s) hu K λK=>is_none_gen (A9 hv▸Kont.eu K F (.bool _))
 |.jj,K=>of_none (p:=λu=>wpAny (model prog w) A (compareOp .IsNot v u) Q Ex s) hu K.map λK=>isnot_none_gen (A9 hv▸Kont.eu K F (.bool _))
 |.aj,K=>A8 F hv hu hA K
 |.fN,K=>by
  show wpAny _ _ (contains u v>>=λb=>pure (Value.bool (!b))) Q Ex s
  exact wpAny_bind (wpAny_mono (Ip (Q:=λr s'=>∀b,r=.bool b->wpAny (model prog w) A (pure (Value.bool (!b))) Q Ex s') (A8 F hv hu hA (K.map.mono λb K r g' s' F' e' hr q c e=>by
   cases(VR.eqB hr).symm.trans e
   exact wpAny_pure (K _ g' s' F' e' (.bool _) q)))) (λb s' h=>h b rfl) λ_ _ x=>x)
end
end
section
theorem ud(x y:PySem.Str):(x++y).cps.toList=x.cps.toList++y.cps.toList:=Array.toList_append
theorem jr:sizeLine=16777216:=by decide
theorem rA{n:Nat}(h:n<=af):n<=sizeLine:=η h (by rw[jr];decide)
theorem Ir{x y:PySem.Str}(hx:PyData.strOk x=true)(hy:PyData.strOk y=true):PyData.strOk (x++y)=true:=
 iV.mpr λc m=>(List.mem_append.mp (ud x y▸m)).elim (iV.mp hx c) (iV.mp hy c)
theorem A_{a:Int}(h:eL a=true):Builtin.Int.intBits a<=64:=intBits_le_64 (of_decide_eq_true h).1 (of_decide_eq_true h).2
theorem Iu{a b:Int}(h:(eL b||eL a)=true):IntMulOk a b:=(e_.mp h).elim (λh=>IntMulOk.of_right (A_ h)) λh=>IntMulOk.of_left (A_ h)
section
variable{prog:Program}{w:World}{A:Around}{Ex:Value->Shared->Prop}{s:Shared}{base:Heap}{fr:List Env}{env:Env}{names:List PySem.Str}{g:Gh}{ρ:Loc}{σ:Hp}{Q:Value->Shared->Prop}
theorem Iv{a a':Addr}{x y:List V}{o o':Obj}{vs vs':List Value}{n n':Nat}(F:FR w.params base fr env names g ρ σ s.heap)(hv:kf w.params g.nw g.φ "list" a x o vs n)(hu:kf w.params g.nw g.φ "list" a' y o' vs' n')
  (K:tt (wQ (x++y)) (Kont w.params base fr env names g s ρ σ Q)):wpAny (model prog w) A (binaryOp .Add (.ref a) (.ref a')) Q Ex s:=
 K.if λhs K=>by
  have e1:=F.nw _ hv.m
  have e2:=F.nw _ hu.m
  have di:(vs++vs').length<=sizeLine:=(Ω.length (hv.r.append hu.r)).symm▸rA hs
  obtain⟨cls,dd,data,sl⟩:=o
  obtain⟨Vo,Iw,data2,mX⟩:=o'
  cases hv.c;cases hv.d;cases hu.c;cases hu.d
  refine concat_meets ⟨_,e1,rfl⟩ ⟨_,e2,rfl⟩ noFill_list_add seq_list_add PySem.F.slot_list_add PySem.F.entry_list_add (PySem.F.args_list_add_2 _ _) (list_addW a a' vs.toArray vs'.toArray n n' dd Iw sl mX (by simpa using di)) ⟨e1,e2,?_⟩
  exact Kont.new K F rfl (.list (vs:=vs++vs') (n:=0) (.head _) rfl (by simp) di ((hv.r.append hu.r).up Up.add))
theorem Ba{a b:PySem.Str}(F:FR w.params base fr env names g ρ σ s.heap)(ha:PyData.strOk a=true)(hb:PyData.strOk b=true)(K:tt (bS (a.cps.toList++b.cps.toList)) (Kont w.params base fr env names g s ρ σ Q))
  {p:Prop}(k:(∀t' tk,Q (.str (a++b) t') {s with toks:=tk})->a.length+b.length<=sizeLine->p):p:=
 K.if λhs K=>k (λt' tk=>Kont.here K F (.ka (Ir ha hb) (show(a++b).cps.toList.length<=_ from ud a b▸rA hs) (ud a b))) (Θ (as:=a.cps.toList) (bs:=b.cps.toList)▸rA hs)
theorem Iy{op:fM}{x y:V}{v u:Value}(F:FR w.params base fr env names g ρ σ s.heap)(hv:RV w.params g v x)(hu:RV w.params g u y)(K:tt (dR op x y) (Kont w.params base fr env names g s ρ σ Q)):wpAny (model prog w) A (binaryOp (pk op) v u) Q Ex s:=
 match op,K with
 |.add,K=>by
  cases hv with
  |int a t=>exact VR.I (p:=λu=>wpAny (model prog w) A (binaryOp .Add (.int a t) u) Q Ex s) hu K λ_ _ K=>P.add_int (Kont.here K F (.int _ _))
  |str a t ha _=>exact VR.S (p:=λu=>wpAny (model prog w) A (binaryOp .Add (.str a t) u) Q Ex s) hu K λb _ hb _ K=>Ba F ha hb K λh hs=>add_str h hs
  |list m c d l r=>exact VR.L (p:=λu=>wpAny (model prog w) A (binaryOp .Add (.ref _) u) Q Ex s) hu K λ_ _ _ _ _ r' K=>Iv F ⟨m,c,d,l,r⟩ r' K
  |_=>exact False.elim K
 |.sub,K=>VR.I (p:=λv=>wpAny (model prog w) A (binaryOp .Sub v u) Q Ex s) hv K λa t K=>VR.I (p:=λu=>wpAny (model prog w) A (binaryOp .Sub (.int a t) u) Q Ex s) hu K λ_ _ K=>P.sub_int (Kont.here K F (.int _ _))
 |.mul,K=>VR.I (p:=λv=>wpAny (model prog w) A (binaryOp .Mult v u) Q Ex s) hv K λa t K=>VR.I (p:=λu=>wpAny (model prog w) A (binaryOp .Mult (.int a t) u) Q Ex s) hu K λ_ _ K=>K.if λhs K=>P.mul_int (Kont.here K F (.int _ _)) (Iu hs)
 |.fdiv,K=>VR.I (p:=λv=>wpAny (model prog w) A (binaryOp .FloorDiv v u) Q Ex s) hv K λa t K=>VR.I (p:=λu=>wpAny (model prog w) A (binaryOp .FloorDiv (.int a t) u) Q Ex s) hu K λ_ _ K=>K.if λhs K=>
  floordiv_int (Int.ne_of_gt hs.1) (Kont.here K F (.int _ _)) (.inl (PyProof.noPylong_small (by omega)))
 |.mod,K=>VR.I (p:=λv=>wpAny (model prog w) A (binaryOp .Mod v u) Q Ex s) hv K λa t K=>VR.I (p:=λu=>wpAny (model prog w) A (binaryOp .Mod (.int a t) u) Q Ex s) hu K λ_ _ K=>K.if λhs K=>mod_int' hs (Kont.here K F (.int _ _))
 |.pow,K=>VR.I (p:=λv=>wpAny (model prog w) A (binaryOp .Pow v u) Q Ex s) hv K λa t K=>VR.I (p:=λu=>wpAny (model prog w) A (binaryOp .Pow (.int a t) u) Q Ex s) hu K λb _ K=>K.if λhs K=>by
  obtain⟨rfl,h0,h1⟩:=hs
  exact pow_int h0 (by rw[show(Builtin.Int.intBits 8:Int)=4 by decide+kernel];omega) (Kont.here K F (.int _ _))
theorem Bb{op:fM}{x y:V}{v u:Value}(ho:op=.add∨op=.sub)(hl:x.isList=false)(F:FR w.params base fr env names g ρ σ s.heap)(hv:RV w.params g v x)(hu:RV w.params g u y)(K:tt (dR op x y) (Kont w.params base fr env names g s ρ σ Q)):wpAny (model prog w) A (inplaceOp (pk op) v u) Q Ex s:=by
 rcases ho with rfl|rfl
 ·cases hv with
  |int a t=>exact VR.I (p:=λu=>wpAny (model prog w) A (inplaceOp .Add (.int a t) u) Q Ex s) hu K λ_ _ K=>P.iadd_int (Kont.here K F (.int _ _))
  |str a t ha _=>exact VR.S (p:=λu=>wpAny (model prog w) A (inplaceOp .Add (.str a t) u) Q Ex s) hu K λb _ hb _ K=>Ba F ha hb K λh hs=>iadd_str h hs
  |list m c d l r=>exact Bool.noConfusion hl
  |_=>exact False.elim K
 ·exact VR.I (p:=λv=>wpAny (model prog w) A (inplaceOp .Sub v u) Q Ex s) hv K λa t K=>VR.I (p:=λu=>wpAny (model prog w) A (inplaceOp .Sub (.int a t) u) Q Ex s) hu K λ_ _ K=>P.isub_int (Kont.here K F (.int _ _))
theorem Iz{x:V}{v:Value}(F:FR w.params base fr env names g ρ σ s.heap)(hv:RV w.params g v x)(K:tt (b6 x λi=>some (.int (-i))) (Kont w.params base fr env names g s ρ σ Q)):wpAny (model prog w) A (unaryOp .USub v) Q Ex s:=
 VR.I (p:=λv=>wpAny (model prog w) A (unaryOp .USub v) Q Ex s) hv K λ_ _ K=>P.neg_int (Kont.here K F (.int _ _))
theorem mY{x:V}{v:Value}{Q:Bool->Shared->Prop}(hv:RV w.params g v x)(h:tt (a_ x) λb=>Q b s):wpAny (model prog w) A (truthy v) Q Ex s:=VR.B (p:=λv=>wpAny (model prog w) A (truthy v) Q Ex s) hv h λ_ h=>wpAny_truthy_bool h
theorem IA{x:V}{v:Value}(F:FR w.params base fr env names g ρ σ s.heap)(hv:RV w.params g v x)(K:tt (a_ x) λb=>Kont w.params base fr env names g s ρ σ Q (.bool !b)):wpAny (model prog w) A (unaryOp .Not v) Q Ex s:=
 not_of (mY hv (K.mono λ_ K=>Kont.eu K F (.bool _)))
end
end
end Mine
end
section
open PySem PySem.Calls PyProof.Rows PySem.W PySem.Builtin.Str
set_option maxRecDepth 100000
namespace Mine
section
theorem w8{n k:Nat}{i:Int}(h:idx n i=some k)(hn:n<=sizeLine):(-(2^63)<=i∧i<2^63)∧(k:Int)=if i<0 then i+n else i:=by
 unfold idx seqIndex? at h
 rw[jr]at hn
 dsimp only at h
 generalize hj:(if i<0 then i+(n:Int)else i)=j at h⊢
 split at h
 ·rename_i q
  have q:=bD.mp q
  have q1:=of_decide_eq_true q.1
  have q2:=of_decide_eq_true q.2
  cases h
  refine⟨?_,Int.toNat_of_nonneg q1⟩
  subst hj
  split at q2<;>omega
 ·exact ah h
theorem Bc(lo hi:Option Int)(n:Nat):strSliceIndices lo hi 1 n=(List.range (hi.elim n (fW n) - lo.elim 0 (fW n))).map (lo.elim 0 (fW n)+·):=by
 rw[<-sliceRange_one]
 cases lo<;>cases hi<;>simp[strSliceIndices,fW,clipAt_cast]
theorem IB(hi:Option Int)(n:Nat):hi.elim n (fW n)<=n:=by
 cases hi with
 |none=>exact ξ _
 |some i=>exact aK.mp (by show((clipAt n i:Nat):Int)<=_;rw[clipAt_cast];omega)
theorem IC{α:Type}{l:List α}{a b n:Nat}(hl:l.length=n)(h:b - a=n)(k:b<=n):mP l a b=l:=by
 unfold mP
 rcases Nat.eq_zero_or_pos n with z|z
 ·rw[List.eq_nil_of_length_eq_zero (hl.trans z)];simp
 ·obtain rfl:a=0:=by omega
  rw[List.drop_zero,jU (by omega)]
theorem ID(x:PySem.Str)(lo hi:Option Int):(Txt.slice x lo hi).cps.toList=mP x.cps.toList (lo.elim 0 (fW x.length)) (hi.elim x.length (fW x.length)):=by
 unfold Txt.slice
 split
 ·rename_i h
  rw[Bc,b_,List.length_range]at h
  exact(IC rfl (eq_of_beq (bD.mp h).2) (IB hi _)).symm
 ·rw[Bc];exact pick_run x.cps _ _
section
variable{prog:Program}{w:World}{A:Around}{Ex:Value->Shared->Prop}{s:Shared}{base:Heap}{fr:List Env}{env:Env}{names:List PySem.Str}{g:Gh}{ρ:Loc}{σ:Hp}{Q:Value->Shared->Prop}
noncomputable def IE:PySem.Expr->Bool
 |.Slice .. =>false
 |_=>true
noncomputable def rC(e:PySem.Expr):Bool:=IE e
theorem rD{e:PySem.Expr}(h:rC e=true)(o i:Value):subscripted e false o i=operate [o,i] (getItem o i):=by
 cases e<;>first|rfl|exact aG h
theorem kf.at{T:String}{a:Addr}{xs:List V}{o:Obj}{vs:List Value}{n:Nat}(r:kf w.params g.nw g.φ T a xs o vs n){i:Int}{K:V->Prop}(H:tt ((idx xs.length i).bind λk=>xs[k]?) K){p:Prop}
  (k:∀j v x,seqIndex? i vs.toArray.size=some j->-(2^63)<=i->i<2^63->(j:Int)=(if i<0 then i+vs.toArray.size else i)->vs.toArray[j]?=some v->RV w.params g v x->K x->p):p:=
 H.bind.el λj hj H=>H.el λx hx K=>by
  have l:=Ω.length r.r
  rw[<-l]at hj
  have b:=w8 hj r.l
  obtain⟨v,hv,rv⟩:=r.r.get hx
  exact k j v x hj b.1.1 b.1.2 b.2 ((List.getElem?_toArray ..).trans hv) rv K
theorem IF{value slice:PySem.Expr}{x y:V}{v u:Value}(hp:rC slice=true)(F:FR w.params base fr env names g ρ σ s.heap)(hv:RV w.params g v x)(hu:RV w.params g u y)
  (K:tt (υ x y) (Kont w.params base fr env names g s ρ σ Q)):wpAny (model prog w) A (subscriptTail value slice v u) Q Ex s:=by
 cases hv with
 |str x t ok le=>
  refine VR.I (p:=λu=>wpAny (model prog w) A (subscriptTail value slice (.str x t) u) Q Ex s) hu K λi t' K=>K.bind.el λj hj K=>K.map.el λc hc K=>?_
  have b:=w8 hj le
  exact tail_any (typeIs_str _ _ _) PySem.F.slot_str_getitem.lookup (P.getItem_str (c:=c) (Bool.or_eq_false_iff.mpr ⟨decide_eq_false (Int.not_lt.mpr b.1.1),decide_eq_false (Int.not_le.mpr b.1.2)⟩) (by rw[show seqIndex? i x.length=some j from hj];exact(Array.getElem?_toList ..).symm.trans hc)
   (Kont.here K F (.ka (mW (s:=[c]) rfl λd m=>jV.mp m▸iV.mp ok c (jf hc)) (show 1<=sizeLine by decide) rfl))) (rD hp _ _)
 |tup m c d l r=>
  exact VR.I (p:=λu=>wpAny (model prog w) A (subscriptTail value slice (.ref _) u) Q Ex s) hu K λi t' K=>kf.at ⟨m,c,d,l,r⟩ K λj v x hj b1 b2 _ hx rv K=>
   have ht:IsTup s.heap _ _:=⟨_,F.nw _ m,c,_,d⟩
   tail_any ht.typeIs PySem.F.slot_tuple_getitem.lookup (getItem_tuple ht b1 b2 hj hx (Kont.eu K F rv)) (rD hp _ _)
 |list m c d l r=>
  exact VR.I (p:=λu=>wpAny (model prog w) A (subscriptTail value slice (.ref _) u) Q Ex s) hu K λi t' K=>kf.at ⟨m,c,d,l,r⟩ K λj v x hj b1 b2 e hx rv K=>
   have ht:s.heap.IsList _ _:=⟨_,F.nw _ m,c,_,d⟩
   tail_any ht.typeIs slot_list_getitem.lookup (if z:i<0 then wpAny_getItem_list_neg (x:=v) ht z (Int.add_nonneg_iff_neg_le.mp ((e.trans (if_pos z))▸eC j)) b1 (by rw[<-e.trans (if_pos z)];exact hx) (Kont.eu K F rv)
    else wpAny_getItem_list ht (Int.not_lt.mp z) b2 (by rw[<-e.trans (if_neg z)];exact hx) (Kont.eu K F rv)) (rD hp _ _)
 |dict m c d ne r=>
  exact VR.S (p:=λu=>wpAny (model prog w) A (subscriptTail value slice (.ref _) u) Q Ex s) hu K λk t _ _ K=>K.el λx hx K=>
   have hm:=w7 (prog:=prog) F ⟨m,c,d,ne,r⟩
   (cL.find k r).elim (λz=>ah (z.1.symm.trans hx)) λz=>z.elim λ_ z=>z.elim λ_ z=>tail_any hm.typeIs slot_dict_getitem.lookup (wpAny_getItem_of (strKind_is prog w k t) hm z.2.1 (Kont.here K F (Option.some.inj (z.1.symm.trans hx)▸z.2.2))) (rD hp _ _)
 |_=>exact False.elim K
theorem Bd{y:Value}{q:Option Int}(h:IsPart y q):∃r:Option (Int×Tok),y=partValue r∧q=r.map (·.1):=by
 cases h with
 |none=>exact⟨none,rfl,rfl⟩
 |int i t=>exact⟨some (i,t),rfl,rfl⟩
theorem IG{value:PySem.Expr}{l u:Option PySem.Expr}{p:Pos}{x:V}{lo hi:Option Int}{v vl vu:Value}{a:Addr}{o:Obj}(F:FR w.params base fr env names g ρ σ s.heap)(hv:RV w.params g v x)
  (ho:s.heap.get? a=some o)(hc:o.cls=.type "slice")(hd:o.data=.fields #[vl,vu,.none])(pl:IsPart vl lo)(pu:IsPart vu hi)
  (K:tt (wW x lo hi) (Kont w.params base fr env names g s ρ σ Q)):wpAny (model prog w) A (subscriptTail value (.Slice l u none p) v (.ref a)) Q Ex s:=by
 have hs:∀v,subscripted (.Slice l u none p) false v (.ref a)=operate [.ref a,v] (getItem v (.ref a)):=λv=>by with_unfolding_all rfl
 cases hv with
 |str x t ok le=>
  obtain⟨rl,rfl,rfl⟩:=Bd pl
  obtain⟨ru,rfl,rfl⟩:=Bd pu
  refine tail_any (typeIs_str _ _ _) PySem.F.slot_str_getitem.lookup (wpAny_getItem_str_slice (l:=rl) (u:=ru) (st:=none) ⟨o,ho,hc,hd⟩ rfl ?_) (hs _)
  have e:=ID x (rl.map (·.1)) (ru.map (·.1))
  have hl:=η (Txt.slice_le x (rl.map (·.1)) (ru.map (·.1))) le
  have K:Kont w.params base fr env names g s ρ σ Q (.str (Txt.slice x (rl.map (·.1)) (ru.map (·.1))).cps.toList):=e▸K
  have ok:PyData.strOk (Txt.slice x (rl.map (·.1)) (ru.map (·.1)))=true:=iV.mpr λc m=>iV.mp ok c (List.mem_of_mem_drop (kS (e▸m)))
  show(if((1:Int)==1&&(strSliceIndices (rl.map (·.1)) (ru.map (·.1)) 1 x.length).length==x.length)=true then Made.val (.str x t)else Made.str ⟨((strSliceIndices (rl.map (·.1)) (ru.map (·.1)) 1 x.length).filterMap (x.cps[·]?)).toArray⟩).post Q s
  exact post_val_or_str ⟨hl,λt' k=>Kont.here K F (.str _ _ ok hl)⟩
 |@list _ _ vs _ _ m c d le r=>
  have ht:s.heap.IsList _ _:=⟨_,F.nw _ m,c,_,d⟩
  refine tail_any ht.typeIs list_getitem_lookup (wpAny_getItem_list_slice ht ⟨o,ho,hc,hd⟩ pl pu .none nofun ?_ le) (hs _)
  have e:(slicePick vs.toArray lo hi none).toList=mP vs (lo.elim 0 (fW vs.length)) (hi.elim vs.length (fW vs.length)):=congrArg Array.toList (slicePick_plain vs.toArray lo hi)
  have v:Ω w.params g.nw g.φ (mP vs (lo.elim 0 (fW vs.length)) (hi.elim vs.length (fW vs.length))) _:=(r.drop _).take _
  rw[r.length]at v
  rw[r.length]at e
  exact Kont.new K F rfl (.list (vs:=(slicePick vs.toArray lo hi none).toList) (n:=0) (.head _) rfl rfl (η (slicePick_size_le ..) le) (Ω.up (e▸v) Up.add))
 |_=>exact False.elim K
end
end
section
theorem IH:∀c,c<128->Unicode.isAlnum c=t_ c:=by decide+kernel
theorem digit_ascii:∀c,c<128->Unicode.isDigit c=mQ c:=by decide+kernel
theorem II:∀c,c<128->aB c<128:=by decide+kernel
theorem ue{s:List Nat}(h:ascii s=true)(c:Nat)(m:c∈s):c<128:=of_decide_eq_true (dM.mp h c m)
theorem all_congr{p q:Nat->Bool}:∀{s:List Nat},(∀c∈s,p c=q c)->s.all p=s.all q
 |[],_=>rfl
 |c::r,h=>show(p c&&r.all p)=(q c&&r.all q)from congr (congrArg and (h c (.head _))) (all_congr λd m=>h d (.tail _ m))
theorem Be{p q:Nat->Bool}{x:PySem.Str}(h:∀c∈x.cps.toList,p c=q c):(decide (x.length>0)&&x.cps.all p)=(!x.cps.toList.isEmpty&&x.cps.toList.all q):=by
 rw[<-Array.all_toList,all_congr h]
 obtain⟨⟨l⟩⟩:=x
 cases l<;>rfl
theorem IJ(x y:PySem.Str):Txt.startswith x y=y.cps.toList.isPrefixOf x.cps.toList:=by
 unfold Txt.startswith
 rw[StrLaws.subAt_eq,List.drop_zero]
 have hx:x.length=x.cps.toList.length:=by simp[PySem.Str.length]
 have hy:y.length=y.cps.toList.length:=by simp[PySem.Str.length]
 rw[hx,hy]
 generalize x.cps.toList=a
 generalize y.cps.toList=b
 rw[Bool.eq_iff_iff,List.isPrefixOf_iff_prefix,Bool.and_eq_true,decide_eq_true_eq,beq_iff_eq]
 constructor
 ·rintro ⟨_,h⟩
  rw[<-h];exact List.take_prefix _ _
 ·rintro ⟨t,rfl⟩
  simp
theorem IK(c:Nat)(s:List Nat)(k:Nat):(eM c s k= -1∧∀v,k<=v->s[v]?≠some c)∨∃j:Nat,eM c s k=j∧k<=j∧s[j]?=some c∧∀v,k<=v->v<j->s[v]?≠some c:=by
 unfold eM
 cases q:(s.drop k).findIdx? (· ==c)with
 |none=>
  refine .inl ⟨rfl,λv hv e=>?_⟩
  rw[List.findIdx?_eq_none_iff]at q
  have:c∈s.drop k:=by
   refine jf (i:=v - k) ?_
   rw[List.getElem?_drop,show k+(v - k)=v by exact Nat.add_sub_cancel' hv];exact e
  simpa using q c this
 |some j=>
  refine .inr ⟨k+j,rfl,by exact aP _ _,?_,λv h1 h2 e=>?_⟩
  ·rw[List.findIdx?_eq_some_iff_getElem]at q
   obtain⟨hj,e,_⟩:=q
   rw[<-List.getElem?_drop,jW hj]
   simpa using e
  ·rw[List.findIdx?_eq_some_iff_getElem]at q
   obtain⟨hj,_,hn⟩:=q
   have hv:v - k<j:=by exact Nat.sub_lt_left_of_lt_add h1 h2
   have:=hn (v - k) hv
   have e':(s.drop k)[v - k]?=some c:=by rw[List.getElem?_drop,show k+(v - k)=v by exact Nat.add_sub_cancel' h1];exact e
   rw[jW (by exact gn hv hj)]at e'
   simp[Option.some.inj e']at this
theorem Bf(x:PySem.Str)(c:Nat)(k:Nat):Txt.find3 x ⟨#[c]⟩ (k:Int)=eM c x.cps.toList k:=by
 have hl:x.length=x.cps.toList.length:=by simp[PySem.Str.length]
 have hf:fromIndex x.length (k:Int)=k:=by
  unfold fromIndex
  first|rfl|(simp;done)|(split<;>omega)
 have gd:∀v:Nat,v<x.length->(x.cps.getD v 0=c↔x.cps.toList[v]?=some c):=λv hv=>by
  have px:v<x.cps.size:=by simpa[PySem.Str.length] using hv
  simp[Array.getD,px]
 rcases StrLaws.find3_spec x c k with⟨h,n⟩|⟨j,h,h1,h2,h3,h4⟩<;>rcases IK c x.cps.toList k with⟨h',n'⟩|⟨j',h',uf,pz,IL⟩
 ·rw[h,h']
 ·exfalso
  have hj:j'<x.length:=by rw[hl];exact(ej.mp pz).1
  exact n j' (by rw[hf];exact uf) hj ((gd j' hj).mpr pz)
 ·exfalso
  exact n' j (by rw[hf]at h1;exact h1) ((gd j h2).mp h3)
 ·rw[h,h']
  rw[hf]at h1 h4
  have hj:j'<x.length:=by rw[hl];exact(ej.mp pz).1
  by_cases e:j=j'
  ·rw[e]
  ·exfalso
   by_cases l:j<j'
   ·exact IL j h1 l ((gd j h2).mp h3)
   ·exact h4 j' uf (by omega) ((gd j' hj).mpr pz)
theorem find_eq(x:PySem.Str)(c:Nat):Txt.find x ⟨#[c]⟩=eM c x.cps.toList 0:=by
 rw[<-Bf]
 unfold Txt.find Txt.find3
 rfl
noncomputable def Bg(m:Mt):String:=match m with
 |.lower=>"str.lower"
 |.isalnum=>"str.isalnum"
 |.isdigit=>"str.isdigit"
 |.startswith=>"str.startswith"
 |.find=>"str.find"
 |.index=>"str.index"
 |.join=>"str.join"
 |.get=>"dict.get"
theorem IM{P:Params}{nw:List (Addr×Obj)}{φ:List Addr}{vs:List Value}{xs:List V}(r:Ω P nw φ vs xs):∀ss,strsOf xs=some ss->
  ∃l:List (PySem.Str×Tok),vs=strValues l∧(l.map λp=>p.1.cps.toList)=ss∧∀p∈l,PyData.strOk p.1=true:=
 r.ind (p:=λvs xs=>∀ss,strsOf xs=some ss->∃l:List (PySem.Str×Tok),vs=strValues l∧(l.map λp=>p.1.cps.toList)=ss∧∀p∈l,PyData.strOk p.1=true)
  (λss e=>⟨[],rfl,Option.some.inj e,λ_ m=>nomatch m⟩) λ{v vs x xs} h _ ih ss e=>by
  cases h with
  |str y t ok _=>
   obtain⟨IP,e',rfl⟩:=fG.mp e
   obtain⟨l,h1,h2,h3⟩:=ih IP e'
   exact⟨(y,t)::l,congrArg (Value.str y t::·) h1,congrArg (y.cps.toList::·) h2,λp m=>(dx.mp m).elim (λq=>q▸ok) (h3 p)⟩
  |_=>exact ah e
theorem Bh(sep:PySem.Str):∀l:List PySem.Str,(Txt.join sep l).cps.toList=fX sep.cps.toList (l.map λx=>x.cps.toList)
 |[]=>rfl
 |[x]=>rfl
 |x::y::r=>by
  have e:Txt.join sep (x::y::r)=x++sep++Txt.join sep (y::r):=by unfold Txt.join;rw[StrLaws.glued_eq_join,StrLaws.glued_eq_join];rfl
  rw[e]
  simp only[ud,Bh sep (y::r)]
  rfl
theorem Bj(sep:List Nat):∀l:List (List Nat),(l.map (·.length)).sum+l.length*sep.length<=(fX sep l).length+sep.length
 |[]=>by simp
 |[x]=>by simp[fX]
 |x::y::r=>by
  have ih:=Bj sep (y::r)
  have e:fX sep (x::y::r)=x++sep++fX sep (y::r):=rfl
  rw[e]
  simp only[List.map_cons,List.sum_cons,List.length_cons,Θ,Nat.succ_mul,Nat.add_mul]at ih⊢
  exact bK ih (by simp+arith)
theorem Bk(sep:List Nat)(p:Nat->Prop)(hs:∀c∈sep,p c):∀l:List (List Nat),(∀x∈l,∀c∈x,p c)->∀c∈fX sep l,p c
 |[],_,_,m=>nomatch m
 |[x],h,c,m=>h x (.head _) c m
 |x::y::r,h,c,m=>by
  have e:fX sep (x::y::r)=x++sep++fX sep (y::r):=rfl
  rw[e]at m
  rcases List.mem_append.mp m with m|m
  ·rcases List.mem_append.mp m with m|m
   ·exact h x (.head _) c m
   ·exact hs c m
  ·exact Bk sep p hs (y::r) (λz hz=>h z (.tail _ hz)) c m
section
variable{prog:Program}{w:World}{A:Around}{Ex:Value->Shared->Prop}{s:Shared}{base:Heap}{fr:List Env}{env:Env}{names:List PySem.Str}{g:Gh}{ρ:Loc}{σ:Hp}{Q:Value->Shared->Prop}
theorem IQ{x:PySem.Str}{t:Tok}{a:Addr}{xs:List V}{o:Obj}{vs:List Value}{n:Nat}(F:FR w.params base fr env names g ρ σ s.heap)(ok:PyData.strOk x=true)(r:kf w.params g.nw g.φ "list" a xs o vs n)
  (K:tt (if x.cps.toList.length<=16 then(strsOf xs).bind λxs=>bS (fX x.cps.toList xs)else Option.none) (Kont w.params base fr env names g s ρ σ Q)):wpAny (model prog w) A (call (.builtin "str.join") [.str x t,.ref a]) Q Ex s:=
 K.if λIS K=>K.bind.el λxs ug K=>K.if λhs K=>by
  obtain⟨l,h1,h2,h3⟩:=IM r.r _ ug
  have jl:=Bh x (l.map (·.1))
  rw[List.map_map,show l.map ((λx:PySem.Str=>x.cps.toList)∘λx=>x.1)=xs from h2]at jl
  have IT:=Bj x.cps.toList xs
  have hl:s.heap.IsList a (strValues l).toArray:=⟨o,F.nw _ r.m,r.c,n,h1▸r.d⟩
  have q1:(l.map (·.1)).map (·.length)=xs.map (·.length):=by rw[<-h2,List.map_map,List.map_map];rfl
  have q2:(l.map (·.1)).length=xs.length:=by rw[<-h2,b_,b_]
  refine SC.join hl rfl (joinOk_of ?_) λt' k=>K.here F (VR.ka ?_ (show(Txt.join x (l.map (·.1))).cps.toList.length<=_ from jl▸rA hs) jl)
  ·rw[q1,q2,str_len]
   exact wL IS (show _<=1000000 from hs) IT (by simp+arith)
  ·rw[iV,jl]
   refine Bk _ (λc=>c<0x110000) (iV.mp ok) _ λz hz=>?_
   rw[<-h2]at hz
   obtain⟨p,hp,rfl⟩:=List.mem_map.mp hz
   exact iV.mp (h3 p hp)
theorem IU{m:Mt}{x:V}{ys:List V}{v:Value}{us:List Value}(F:FR w.params base fr env names g ρ σ s.heap)(hv:RV w.params g v x)(hu:Ω w.params g.nw g.φ us ys)
  (K:tt (eN m x ys) (Kont w.params base fr env names g s ρ σ Q)):wpAny (model prog w) A (call (.builtin (Bg m)) (v::us)) Q Ex s:=
 match m,K with
 |.lower,K=>VR.S (p:=λv=>wpAny (model prog w) A (call (.builtin "str.lower") (v::us)) Q Ex s) hv K λx t ok le K=>hu.a0 (p:=λus=>wpAny (model prog w) A (call (.builtin "str.lower") (.str x t::us)) Q Ex s) K λK=>K.if λha K=>by
  have e:=lower_ascii (ue ha)
  have el:(Txt.lower x).cps.toList=x.cps.toList.map aB:=e▸Array.toList_map
  have ll:(Txt.lower x).length<=sizeLine:=show(Txt.lower x).cps.toList.length<=_ by rw[el,b_];exact le
  refine SC.lower (decide_eq_false (Nat.not_lt.mpr ll)) (Kont.here K F (.ka (mW el λc m=>?_) ll el))
  obtain⟨d,hd,rfl⟩:=List.mem_map.mp m
  exact gn (II d (ue ha d hd)) (by decide)
 |.isalnum,K=>VR.S (p:=λv=>wpAny (model prog w) A (call (.builtin "str.isalnum") (v::us)) Q Ex s) hv K λx t ok le K=>hu.a0 (p:=λus=>wpAny (model prog w) A (call (.builtin "str.isalnum") (.str x t::us)) Q Ex s) K λK=>K.if λha K=>
  SC.isalnum (by rw[show Txt.isalnum x=_ from Be λc m=>IH c (ue ha c m)];exact Kont.eu K F (.bool _))
 |.isdigit,K=>VR.S (p:=λv=>wpAny (model prog w) A (call (.builtin "str.isdigit") (v::us)) Q Ex s) hv K λx t ok le K=>hu.a0 (p:=λus=>wpAny (model prog w) A (call (.builtin "str.isdigit") (.str x t::us)) Q Ex s) K λK=>K.if λha K=>
  SC.isdigit (by rw[show Txt.isdigit x=_ from Be λc m=>digit_ascii c (ue ha c m)];exact Kont.eu K F (.bool _))
 |.startswith,K=>VR.S (p:=λv=>wpAny (model prog w) A (call (.builtin "str.startswith") (v::us)) Q Ex s) hv K λx t ok le K=>hu.a1 (p:=λus=>wpAny (model prog w) A (call (.builtin "str.startswith") (.str x t::us)) Q Ex s) K λu _ hu K=>
  hu.S (p:=λu=>wpAny (model prog w) A (call (.builtin "str.startswith") [.str x t,u]) Q Ex s) K λy t' _ _ K=>SC.startswith (by rw[IJ];exact Kont.eu K F (.bool _))
 |.find,K=>VR.S (p:=λv=>wpAny (model prog w) A (call (.builtin "str.find") (v::us)) Q Ex s) hv K λx t ok le K=>hu.a2 (p:=λus=>wpAny (model prog w) A (call (.builtin "str.find") (.str x t::us)) Q Ex s) K λu _ u2 _ hu IV K=>
  hu.C (p:=λu=>wpAny (model prog w) A (call (.builtin "str.find") [.str x t,u,u2]) Q Ex s) K λc t' K=>IV.I (p:=λu2=>wpAny (model prog w) A (call (.builtin "str.find") [.str x t,.str ⟨#[c]⟩ t',u2]) Q Ex s) K λi _ K=>K.if λhi K=>
   SC.find3 (Kont.here K F (by rw[<-Int.toNat_of_nonneg hi.1,Bf];exact .int _ _))
 |.index,K=>VR.S (p:=λv=>wpAny (model prog w) A (call (.builtin "str.index") (v::us)) Q Ex s) hv K λx t ok le K=>hu.a1 (p:=λus=>wpAny (model prog w) A (call (.builtin "str.index") (.str x t::us)) Q Ex s) K λu _ hu K=>
  hu.C (p:=λu=>wpAny (model prog w) A (call (.builtin "str.index") [.str x t,u]) Q Ex s) K λc t' K=>K.if λhi K=>by
   have e:=find_eq x c
   unfold Txt.find at e
   cases q:occurrences x ⟨#[c]⟩ 0 x.length 1 with
   |nil=>rw[q]at e;exact absurd e.symm hi
   |cons i rest=>rw[q]at e;exact SC.index q (Kont.here K F (e▸.int _ _))
 |.join,K=>VR.S (p:=λv=>wpAny (model prog w) A (call (.builtin "str.join") (v::us)) Q Ex s) hv K λx t ok le K=>hu.a1 (p:=λus=>wpAny (model prog w) A (call (.builtin "str.join") (.str x t::us)) Q Ex s) K λu _ hu K=>
  hu.L (p:=λu=>wpAny (model prog w) A (call (.builtin "str.join") [.str x t,u]) Q Ex s) K λ_ _ _ _ _ r K=>IQ F ok r K
 |.get,K=>VR.D (p:=λv=>wpAny (model prog w) A (call (.builtin "dict.get") (v::us)) Q Ex s) hv K λa kvs o es n r K=>hu.a2 (p:=λus=>wpAny (model prog w) A (call (.builtin "dict.get") (.ref a::us)) Q Ex s) K λu _ u2 _ hu hd K=>
  hu.S (p:=λu=>wpAny (model prog w) A (call (.builtin "dict.get") [.ref a,u,u2]) Q Ex s) K λy t _ _ K=>by
   have hm:=w7 (prog:=prog) F r
   refine call_meetsIn PySem.F.slot_dict_get hm.typeIs PySem.F.entry_dict_get (PySem.F.args_dict_get_3 _ _ _) (meets_dict_get_default (strKind prog w) a (strKind_is prog w y t) r.s u2) ⟨_,hm,?_⟩
   rcases cL.find y r.r with⟨z1,z2⟩|⟨x,v,z1,z2,rv⟩
   ·rw[z2];rw[z1]at K;exact Kont.here K F hd
   ·rw[z2];rw[z1]at K;exact Kont.here K F rv
theorem IW{i:Int}(h:0<=i):(PySem.Str.ofString (toString i)).cps.toList=gC i.toNat:=by
 obtain⟨n,rfl⟩:=Int.eq_ofNat_of_zero_le h
 rw[PySem.Str.ofString_eq_toList]
 unfold gC
 simp only[Int.toNat_natCast]
 have:toString ((n:Nat):Int)=toString n:=rfl
 rw[this]
 have:(toString n).toList=Nat.toDigits 10 n:=by
  show(Nat.repr n).toList=_
  unfold Nat.repr
  simp
 rw[this]
theorem IX{x:V}{v:Value}(F:FR w.params base fr env names g ρ σ s.heap)(hv:RV w.params g v x)(K:tt (AW x) (Kont w.params base fr env names g s ρ σ Q)):wpAny (model prog w) A (call (.builtin "len") [v]) Q Ex s:=by
 have fit:∀{n:Nat},n<=sizeLine->(n:Int)<9223372036854775808:=λh=>Int.lt_of_le_of_lt (aK.mpr h) (by rw[jr];decide)
 cases hv with
 |str x t ok le=>exact P.len_str (Int.not_le.mpr (fit le)) (Kont.here K F (.int _ _))
 |tup m c d le r=>exact len_tuple ⟨_,F.nw _ m,c,_,d⟩ (fit le) (Kont.here K F (by rw[List.size_toArray,r.length];exact .int _ _))
 |list m c d le r=>exact call_len_list ⟨_,F.nw _ m,c,_,d⟩ (fit le) (Kont.here K F (by rw[List.size_toArray,r.length];exact .int _ _))
 |_=>exact False.elim K
theorem IY{x:V}{v:Value}(F:FR w.params base fr env names g ρ σ s.heap)(hv:RV w.params g v x)(K:tt (k8 .ord x) (Kont w.params base fr env names g s ρ σ Q)):wpAny (model prog w) A (call (.builtin "ord") [v]) Q Ex s:=
 VR.C (p:=λv=>wpAny (model prog w) A (call (.builtin "ord") [v]) Q Ex s) hv K λ_ _ K=>PySem.P.ord_of_char (Kont.here K F (.int _ _))
theorem IZ{x:V}{v:Value}(F:FR w.params base fr env names g ρ σ s.heap)(hv:RV w.params g v x)(K:tt (k8 .str x) (Kont w.params base fr env names g s ρ σ Q)):wpAny (model prog w) A (call (.type "str") [v]) Q Ex s:=
 VR.I (p:=λv=>wpAny (model prog w) A (call (.type "str") [v]) Q Ex s) hv K λi _ K=>K.if λhi K=>PySem.P.str_of_int hi.2 (Kont.here K F (by
  have e:=IW hi.1
  have h2:=PySem.ofString_length (toString i)
  refine VR.ka (mW e λc m=>?_) (by rw[h2,jr];exact η (int_text_length_le (by decide) hi.2) (by decide)) e
  obtain⟨d,hd,rfl⟩:=List.mem_map.mp m
  exact aX (bD.mp (Nat.isDigit_of_mem_toDigits (by decide) (by decide) hd)|>.2|>of_decide_eq_true|>λh=>(h:d.val.toNat<=57)) (by decide)))
end
end
end Mine
end
section
open PySem PySem.Calls PyProof.Rows PySem.W
set_option maxRecDepth 100000
namespace Mine
section
section
variable{P:Params}{base h h':Heap}{fr:List Env}{env:Env}{names:List PySem.Str}{g g':Gh}{ρ:Loc}{σ:Hp}
noncomputable def Bl(g:Gh)(env:Env)(h:Heap)(x:PySem.Str):Prop:=env.kindOf x=some .cell∧∃c o cv,env.cells.lookup x=some c∧g.ro c=some (.cell x)∧h.get? c=some o∧o.data=.cell cv
theorem hP.kind{es:Array DictEntry}{x:PySem.Str}{v:Value}(a:hP g env h es x v):env.kindOf x=some .local∨Bl g env h x:=a.imp (·.1) λa=>⟨a.1,a.2.imp λ_ a=>a.imp λ_ a=>⟨_,a⟩⟩
theorem jq.kind{es:Array DictEntry}{i:Nat}{x:PySem.Str}{sl:Slot}(a:jq P g env h es i x sl):env.kindOf x=some .local∨Bl g env h x:=
 match sl with
 |.un=>a
 |.v _=>Exists.elim a λ_ a=>a.1.kind
 |.own _=>Exists.elim a λ_ a=>a.elim λ_ a=>a.elim λ_ a=>a.elim λ_ a=>.inl a.1.1
theorem FR.ne(F:FR P base fr env names g ρ σ h){i j:Nat}{x y:PySem.Str}(hx:names[i]?=some x)(hj:i≠j)(hy:names[j]?=some y):y≠x:=λe=>by
 subst e
 obtain⟨l1,e1⟩:=ej.mp hy
 obtain⟨l2,e2⟩:=ej.mp hx
 exact hj ((List.getElem_inj F.nodup).mp (e2.trans e1.symm))
theorem FR.setAt(F:FR P base fr env names g ρ σ h){i:Nat}{x:PySem.Str}{sl':Slot}(hx:names[i]?=some x){es cN:Array DictEntry}(q4:∀i x sl,names[i]?=some x->ρ[i]?=some sl->jq P g env h es i x sl){o':Obj}{kg:Nat}
  (e':h'.get? env.locals=some o')(d':o'.data=.dict cN kg)(s':StrKeys cN)(he:∀z,z≠x->nsFind cN z=nsFind es z)(H:HR P base fr g' σ h')(hl:g'.ro env.locals=some .loc)(u:Up g g')
  (k:∀j y,j≠i->y≠x->KR (mU y j) g h g' h')(hs:jq P g' env h' cN i x sl'):FR P base fr env names g' (ρ.set i sl') σ h':=
 ⟨H,F.cg,F.nodup,List.length_set.trans F.len,hl,o',cN,kg,e',d',s',λj y sl hy uh=>by
  by_cases hj:i=j
  ·subst hj
   cases hx.symm.trans hy
   cases(List.getElem?_set_self (by rw[F.len];exact(ej.mp hx).1)).symm.trans uh
   exact hs
  ·have n:=F.ne hx hj hy
   exact(q4 j y sl hy ((List.getElem?_set_ne hj).symm.trans uh)).to (he y n) u (k j y (Ne.symm hj) n)⟩
theorem nc{c a:Addr}{r r':Role}(e:g.ro c=some r)(ha:g.ro a=some r')(n:r≠r'):c≠a:=λq=>n (Option.some.inj (e.symm.trans (q▸ha)))
theorem FR.frozen(F:FR P base fr env names g ρ σ h){i:Nat}{x:PySem.Str}{ys:List V}(hx:names[i]?=some x)(hr:ρ[i]?=some (.own ys)){p:Prop}
  (k:∀a o o' es ep,h.get? env.locals=some o'->o'.data=.dict es ep->StrKeys es->env.kindOf x=some .local∧nsFind es x=some (.ref a)->FR P base fr env names (g.freeze a o) (ρ.set i (.v (.list ys))) σ h->Ext fr g h (g.freeze a o) h->VR P (g.freeze a o).nw (g.freeze a o).φ (.ref a) (.list ys)->p):p:=by
 obtain⟨o',es,ep,q1,q2,q3,q4⟩:=F.vars
 obtain⟨a,o,vs,n,a1,ha,e,hc,hd,hl,r⟩:=q4 i x _ hx hr
 have vr:VR P (g.freeze a o).nw (g.freeze a o).φ (.ref a) (.list ys):=.list (vs:=vs.toList) (n:=n) (.head _) hc.1 hd hl (r.up Up.freeze)
 have ro:∀c r,g.ro c=some r->r≠.own i->(g.freeze a o).ro c=some r:=λc r e n=>(if_neg (nc e ha n)).trans e
 exact k a o o' es ep q1 q2 q3 a1 (F.setAt hx q4 q1 q2 q3 (λ_ _=>rfl) (F.hr.freeze e ha) (ro _ _ F.loc nofun) Up.freeze (λj y nj _ b r o c e1 e2=>⟨e2,ro b r e1 (by rintro rfl;cases c<;>rename_i c<;>cases c;exact nj rfl)⟩) ⟨_,.inl a1,vr⟩)
  ⟨⟨λ_ o e=>⟨o,e⟩,λ_ _ e _=>.inl e,λ_ m=>.tail _ m,λp m=>(Classical.em (p∈g.nw)).imp_right λn=>by cases new_one m n;exact .inr ⟨i,ha⟩,ek _,λb _ _=>if q:b=a then .inr ⟨⟨i,q▸ha⟩,if_pos q⟩else .inl (if_neg q)⟩,λ_ o _ e=>⟨o,e,rfl⟩⟩ vr
end
section
variable{M:Model}{A:Around}{Ex:Value->Shared->Prop}{s:Shared}{P:Params}{base:Heap}{fr:List Env}{env:Env}{names:List PySem.Str}{g:Gh}{ρ:Loc}{σ:Hp}
theorem hP.load{es:Array DictEntry}{ep:Nat}{o:Obj}{x:PySem.Str}{v:Value}{Q:Value->Shared->Prop}(hk:env.scope.kind=.function)(ho:s.heap.get? env.locals=some o)(hd:o.data=.dict es ep)(hs:StrKeys es)
  (a:hP g env s.heap es x v)(h:Q v s):wpAny M A (loadName env x) Q Ex s:=
 a.elim (λa=>wpAny_loadName_local (m:=nsFind es) hk a.1 ⟨o,es,ep,ho,hd,hs,λ_=>rfl⟩ a.2 h) λa=>a.2.elim λ_ b=>b.elim λo' b=>wpAny_loadName_cell hk a.1 b.1 ⟨o',b.2.2⟩ h
theorem FR.Bm{i:Nat}{x:PySem.Str}{y:V}{Q:Value->Shared->Prop}(F:FR P base fr env names g ρ σ s.heap)(hx:names[i]?=some x)(hr:ρ[i]?=some (.v y))
  (h:∀v,RV P g v y->Q v s):wpAny M A (loadName env x) Q Ex s:=by
 obtain⟨o,es,ep,q1,q2,q3,q4⟩:=F.vars
 obtain⟨v,a1,a2⟩:=q4 i x _ hx hr
 exact a1.load F.cg.kind q1 q2 q3 (h v a2)
structure pA (P:Params) (g:Gh) (h:Heap) (i:Nat) (ys:List V) (a:Addr) (o:Obj) (vs:Array Value) (n:Nat):Prop where
 ha:g.ro a=some (.own i)
 e:h.get? a=some o
 c:rx o
 d:o.data=.seq vs n
 l:vs.size<=sizeLine
 r:Ω P g.nw g.φ vs.toList ys
theorem FR.I3{i:Nat}{x:PySem.Str}{ys:List V}{Q:Value->Shared->Prop}(F:FR P base fr env names g ρ σ s.heap)(hx:names[i]?=some x)(hr:ρ[i]?=some (.own ys))
  (h:∀v g',FR P base fr env names g' (ρ.set i (.v (.list ys))) σ s.heap->Ext fr g s.heap g' s.heap->RV P g' v (.list ys)->Q v s):wpAny M A (loadName env x) Q Ex s:=
 F.frozen hx hr λ_ _ _ _ _ q1 q2 q3 a1 F' E r=>hP.load (g:=g) F.cg.kind q1 q2 q3 (.inl a1) (h _ _ F' E r)
theorem FR.store{i:Nat}{x:PySem.Str}{sl':Slot}{v:Value}{Q:Unit->Shared->Prop}(F:FR P base fr env names g ρ σ s.heap)(hx:names[i]?=some x)
  (hs:∀h' cN,(∀c o r,g.ro c=some r->r≠.loc->r≠.cell x->s.heap.get? c=some o->h'.get? c=some o)->hP g env h' cN x v->jq P g env h' cN i x sl')
  (h:∀h' tk,FR P base fr env names g (ρ.set i sl') σ h'->cM fr g s.heap g h'->Q () {s with heap:=h',toks:=tk}):wpAny M A (storeName env x v) Q Ex s:=by
 obtain⟨o,es,ep,q1,q2,q3,q4⟩:=F.vars
 have fin:∀(b:Addr) (r:Role) (h':Heap) (cN:Array DictEntry) (kg tk:Nat) (o' ol:Obj),(r=.loc∨r=.cell x)->g.ro b=some r->h'.get? b=some o'->(∀vs,o'.data≠.fields vs)->(∀c oc,c≠b->s.heap.get? c=some oc->h'.get? c=some oc)->
   h'.get? env.locals=some ol->ol.data=.dict cN kg->StrKeys cN->(∀z,z≠x->nsFind cN z=nsFind es z)->hP g env h' cN x v->Q () {s with heap:=h',toks:=tk}:=λb r h' cN kg tk o' ol hr rb e' nd kp p1 p2 p3 he a=>
  have kr:∀c o r,g.ro c=some r->r≠.loc->r≠.cell x->s.heap.get? c=some o->h'.get? c=some o:=λc o r' e n1 n2=>kp c o (nc e rb (by rcases hr with rfl|rfl<;>assumption))
  h h' tk (F.setAt hx q4 p1 p2 p3 he (F.hr.upd b rb (by rcases hr with rfl|rfl<;>rfl) kp ⟨o',e',nd⟩) F.loc Up.refl (λj y _ ny c r' o cr e1 e2=>⟨kr c o r' e1 cr.nl (by rcases cr with rfl|rfl<;>intro e<;>cases e;exact ny rfl) e2,e1⟩) (hs h' cN kr a))
   ⟨λc oc e=>if z:c=b then⟨o',z▸e'⟩else⟨oc,kp c oc z e⟩,λc oc e n=>.inl (kp c oc (λq=>ah (n.symm.trans (q▸rb))) e),λ_ m=>m,λ_ m=>.inl m,ek _,λ_ _ _=>.inl rfl⟩
 have hi:i<ρ.length:=by rw[F.len];exact(ej.mp hx).1
 rcases(q4 i x _ hx (jW hi)).kind with k|⟨k,c,oc,cv,c1,c2,c3,c4⟩
 ·refine wpAny_storeName_local (m:=nsFind es) k ⟨o,es,ep,q1,q2,q3,λ_=>rfl⟩ (λh' hn sb=>?_) (by rw[F.cg.kind];rfl)
  obtain⟨o',cN,kg,p1,p2,p3,p4⟩:=hn
  exact fin _ _ h' cN kg _ o' o' (.inl rfl) F.loc p1 (λvs q=>nomatch p2.symm.trans q) (λb ob hb e=>(sb.2 b hb).trans e) p1 p2 p3 (λz hz=>(p4 z).trans (if_neg hz)) (.inl ⟨k,(p4 _).trans (if_pos rfl)⟩)
 ·refine wpAny_storeName_cell F.cg.kind k c1 ⟨oc,c3,c4⟩ λh' hv sb=>?_
  obtain⟨o',p1,p2⟩:=hv
  have keep:∀b ob,b≠c->s.heap.get? b=some ob->h'.get? b=some ob:=λb ob hb e=>(sb.2 b hb).trans e
  exact fin _ _ h' es ep s.toks o' o (.inr rfl) c2 p1 (λvs q=>nomatch p2.symm.trans q) keep (keep _ _ (nc F.loc c2 nofun) q1) q2 q3 (λz _=>rfl) (.inr ⟨k,c,o',c1,c2,p1,p2⟩)
theorem FR.Bn{i:Nat}{x:PySem.Str}{y:V}{v:Value}{Q:Unit->Shared->Prop}(F:FR P base fr env names g ρ σ s.heap)(hx:names[i]?=some x)(hv:RV P g v y)
  (h:∀h' tk,FR P base fr env names g (ρ.set i (.v y)) σ h'->cM fr g s.heap g h'->Q () {s with heap:=h',toks:=tk}):wpAny M A (storeName env x v) Q Ex s:=
 F.store (sl':=.v y) hx (λ_ _ _ a=>⟨v,a,hv⟩) h
theorem FR.I4{i:Nat}{x:PySem.Str}{Q:Unit->Shared->Prop}(F:FR P base fr env names g ρ σ s.heap)(hx:names[i]?=some x)(I5:env.kindOf x=some .local)
  (h:∀g' h' tk,FR P base fr env names g' (ρ.set i (.own [])) σ h'->cM fr g s.heap g' h'->Q () {s with heap:=h',toks:=tk}):
  wpAny M A (storeName env x (.ref s.heap.objs.size)) Q Ex {s with heap:=s.heap.push {cls:=.type "list",data:=.seq #[]}}:=by
 have hb:=F.hr.ry
 have F1:=F.push {cls:=.type "list",data:=.seq #[]}
 have e1:(s.heap.push {cls:=.type "list",data:=.seq #[]}).get? s.heap.objs.size=some {cls:=.type "list",data:=.seq #[]}:=Heap.get?_push_size _ rfl
 have ro:∀c z,g.ro c=some z->(g.role s.heap.objs.size (.own i)).ro c=some z:=λc z e=>(if_neg λq=>ah (hb.2.2.1.symm.trans (q▸e))).trans e
 have F2:FR P base fr env names (g.role s.heap.objs.size (.own i)) ρ σ (s.heap.push {cls:=.type "list",data:=.seq #[]}):=
  F1.gen (F1.hr.role hb.1 hb.2.1 ⟨_,e1⟩ hb.2.2.1 λ_=>hb.2.2.2) (ro _ _ F1.loc) Up.role (λo e=>⟨o,e,rfl⟩) λ_ _ _ b r o _ t1 t2=>⟨t2,ro _ _ t1⟩
 have e0:cM fr g s.heap (g.role s.heap.objs.size (.own i)) (s.heap.push {cls:=.type "list",data:=.seq #[]}):=
  ⟨λ_ o e=>⟨o,Heap.get?_push_of_some _ e⟩,λ_ _ e _=>.inl (Heap.get?_push_of_some _ e),λ_ m=>m,λ_ m=>.inl m,ek _,λ_ _ e=>.inl (if_neg (eD (Heap.lt_size e)))⟩
 refine FR.store (s:={s with heap:=s.heap.push {cls:=.type "list",data:=.seq #[]}}) F2 hx (sl':=.own []) (λh' cN k a=>?_) λh' tk F' e'=>h _ h' tk F' (e0.trans e')
 exact⟨_,_,#[],0,a.elim id λa=>A0 I5 a.1 nofun,if_pos rfl,k _ _ _ (if_pos rfl) nofun nofun e1,⟨rfl,rfl,rfl⟩,rfl,bC _,.nil⟩
end
end
theorem Bo{α:Type}{x:PySem.Str}{A:List PySem.Str}{vs:List α}(h:x∉A):(A.zip vs).lookup x=none:=
 List.lookup_eq_none_iff.mpr λp m=>bne_iff_ne.mpr λe=>h (e▸(List.of_mem_zip (show(p.1,p.2)∈_ from m)).1)
theorem Bp{α:Type}{x:PySem.Str}{A:List PySem.Str}{vs:List α}(hl:vs.length=A.length)(h:x∈A):((A.zip vs).lookup x).isSome=true:=by
 cases e:(A.zip vs).lookup x with
 |some=>rfl
 |none=>
  rw[<-List.map_fst_zip (l₁:=A) (l₂:=vs) (Ψ hl.symm)]at h
  obtain⟨p,m,rfl⟩:=List.mem_map.mp h
  exact absurd rfl (bne_iff_ne.mp (List.lookup_eq_none_iff.mp e p m))
theorem Bq{α:Type}{x:PySem.Str}{a b:List (PySem.Str×α)}(h:a.lookup x=none):(a++b).lookup x=b.lookup x:=by rw[List.lookup_append,h];rfl
noncomputable def lj(slots:List (PySem.Str×Value))(p:PySem.Str×Value):List (PySem.Str×Value):=if(slots.lookup p.1).isNone then slots++[p]else slots
theorem Br:∀(l:List (PySem.Str×Value)) {slots:List (PySem.Str×Value)},(∀p∈l,(slots.lookup p.1).isSome=true)->l.foldl lj slots=slots
 |[],_,_=>rfl
 |p::l,slots,h=>(congrArg (l.foldl lj) (if_neg (by rw[kT];exact Option.isSome_iff_ne_none.mp (h p (.head _))))).trans (Br l λq hq=>h q (.tail _ hq))
theorem Bs{n x:PySem.Str}{v:Value}{ns:List PySem.Str}{pre:List (PySem.Str×Value)}(hn:(n::ns).Nodup)(h:∀x∈n::ns,pre.lookup x=none)(hx:x∈ns):(pre++[(n,v)]).lookup x=none:=
 (Bq (h x (.tail _ hx))).trans (Bo (A:=[n]) (vs:=[v]) λm=>(jg.mp hn).1 (jV.mp m▸hx))
theorem Bt:∀(ns:List PySem.Str) (ds:List Value) (pre:List (PySem.Str×Value)),ns.Nodup->(∀x∈ns,pre.lookup x=none)->(ns.zip ds).foldl lj pre=pre++ns.zip ds
 |[],_,pre,_,_=>(ck _).symm
 |n::ns,[],pre,_,_=>(ck _).symm
 |n::ns,d::ds,pre,hn,h=>(congrArg ((ns.zip ds).foldl lj) (if_pos (kT.mpr (h n (.head _))))).trans
   ((Bt ns ds (pre++[(n,d)]) (jg.mp hn).2 λx hx=>Bs hn h hx).trans (aN pre [(n,d)] (ns.zip ds)))
theorem Bu:∀(ns:List PySem.Str) (vs:List Value) (pre:List (PySem.Str×Value)),ns.Nodup->vs.length=ns.length->(∀x∈ns,pre.lookup x=none)->ns.filterMap (λn=>((pre++ns.zip vs).lookup n).map (n,·))=ns.zip vs
 |[],_,_,_,_,_=>rfl
 |n::ns,[],_,_,e,_=>nomatch e
 |n::ns,v::vs,pre,hn,hl,h=>by
  have ih:=Bu ns vs (pre++[(n,v)]) (jg.mp hn).2 (Nat.succ.inj hl) λx hx=>Bs hn h hx
  rw[aN]at ih
  rw[List.zip_cons_cons,List.filterMap_cons,Bq (h n (.head _)),List.lookup_cons_self]
  exact congrArg ((n,v)::·) ih
theorem Bv{α β:Type}(f:α->β->Sem (ForInStep β))(step:β->α->β)(hf:∀a b,f a b=pure (.yield (step b a))):∀(l:List α) (b:β),forIn l b f=pure (l.foldl step b)
 |[],b=>by rw[List.forIn_nil];rfl
 |a::l,b=>by rw[List.forIn_cons,hf,pure_bind];exact Bv f step hf l _
theorem ite_no{α:Type}{M:Model}{A:Around}{Q:α->Shared->Prop}{E:Value->Shared->Prop}{s:Shared}{c:Bool}{t e:Sem α}(h:c=false)(k:wpAny M A e Q E s):wpAny M A (if c=true then t else e) Q E s:=by subst h;exact k
theorem I6{α β:Type}{M:Model}{A:Around}{Q:β->Shared->Prop}{E:Value->Shared->Prop}{s:Shared}{f:α->β->Sem (ForInStep β)}{step:β->α->β}{l:List α}{b:β}(hf:∀a b,f a b=pure (.yield (step b a)))(k:Q (l.foldl step b) s):wpAny M A (forIn l b f) Q E s:=by
 rw[Bv f step hf];exact wpAny_pure k
theorem I7{n:PySem.Str}{d:Value}{b:List (PySem.Str×Value)}:(if(b.lookup n).isNone=true then(do let b:=b++[(n,d)];pure PUnit.unit;pure (ForInStep.yield b))else(do pure PUnit.unit;pure (ForInStep.yield b)):Sem (ForInStep (List (PySem.Str×Value))))=pure (ForInStep.yield (lj b (n,d))):=by
 unfold lj
 by_cases q:(b.lookup n).isNone=true
 ·rw[if_pos q,if_pos q]
 ·rw[if_neg q,if_neg q]
theorem I8{α β:Type}{M:Model}{A:Around}{Q:β->Shared->Prop}{E:Value->Shared->Prop}{s:Shared}{f:α->β->Sem (ForInStep β)}{l:List α}{b:β}(e:l=[])(k:Q b s):wpAny M A (forIn l b f) Q E s:=by
 rw[e,List.forIn_nil];exact wpAny_pure k
structure Bw (p:Arguments):Prop where
 po:p.posonlyargs=[]
 va:p.vararg=none
 ko:p.kwonlyargs=[]
 kw:p.kwarg=none
theorem I9{s:Shared}{fd:FuncData}{A B:List PySem.Str}{vals D1 D2:List Value}(pp:Bw fd.params)(w9:fd.params.args.map (·.arg)=A++B)(hn:(A++B).Nodup)
  (h1:vals.length=A.length)(h2:D2.length=B.length)(h3:D1.length<=A.length)
  (hd:∀(M:Model) (A:Around) (E:Value->Shared->Prop) (Q:Option (Array Value)->Shared->Prop),(∀r:Option (Array Value),(r.getD #[]).toList=D1++D2->Q r s)->wpAny M A (seqItems? fd.defaults) Q E s):
  BindsTo s fd ⟨vals,[]⟩ ((A++B).zip (vals++D2)):=by
 intro M Ar E Q hq
 have nd:=List.nodup_append.mp hn
 have zA:(A++B).zip vals=A.zip vals:=by
  have:=List.zip_append (l₁:=A) (r₁:=B) (l₂:=vals) (r₂:=[]) h1.symm
  rwa [ck,List.zip_nil_right,ck]at this
 have l1:(A++B).length=A.length+B.length:=Θ
 have l2:(D1++D2).length=D1.length+D2.length:=Θ
 have e0:(D1++D2).drop ((D1++D2).length - (A++B).length)=D1++D2:=by rw[Nat.sub_eq_zero_of_le (by rw[l1,l2,h2];exact bM h3 _)];rfl
 have e1:(A++B).length - (D1++D2).length=A.length - D1.length:=by rw[l1,l2,h2];exact Nat.add_sub_add_right _ _ _
 have pB:∀ps ds,ps=A++B->ds=D1++D2->(ps.take (ps.length - (ds.drop (ds.length - ps.length)).length)).filter (λn=>((ps.zip vals).lookup n).isNone)=[]:=by
  rintro _ _ rfl rfl
  rw[e0,e1,zA]
  refine List.filter_eq_nil_iff.mpr λx hx=>?_
  rw[List.take_append_of_le_length (Nat.sub_le _ _)]at hx
  rw[kT]
  exact Option.isSome_iff_ne_none.mp (Bp h1 (kS hx))
 have fin:∀ps ks ds,ps=A++B->ks=[]->ds=D1++D2->(ps++ks).filterMap (λn=>((((ps.drop (ps.length - (ds.drop (ds.length - ps.length)).length)).zip (ds.drop (ds.length - ps.length))).foldl lj (ps.zip vals)).lookup n).map (n,·))=(A++B).zip (vals++D2):=by
  rintro _ _ _ rfl rfl rfl
  rw[e0,e1,zA,ck,List.drop_append_of_le_length (Nat.sub_le _ _),List.zip_append (by rw[cY];exact Nat.sub_sub_self h3),List.foldl_append,Br _ λp m=>Bp h1 (List.mem_of_mem_drop (List.of_mem_zip (show(p.1,p.2)∈_ from m)).1),
   Bt B D2 _ nd.2.1 λx hx=>Bo λm=>nd.2.2 x m x hx rfl,<-List.zip_append h1.symm]
  exact Bu (A++B) (vals++D2) [] hn (by rw[Θ,l1,h1,h2]) λ_ _=>rfl
 have hp:fd.params.posonlyargs.map (·.arg)++fd.params.args.map (·.arg)=A++B:=by rw[pp.po,w9];rfl
 have hk:fd.params.kwonlyargs.map (·.arg)=[]:=by rw[pp.ko];rfl
 refine wpAny_bind (wpAny_pure ?_)
 refine wpAny_bind (hd _ _ _ _ λr hr=>?_)
 refine ite_no (Bool.and_eq_false_iff.mpr (.inl (decide_eq_false (Nat.not_lt.mpr ?_)))) ?_
 ·show vals.length<=(fd.params.posonlyargs.map (·.arg)++fd.params.args.map (·.arg)).length
  rw[hp,l1,h1];exact aP _ _
 refine ite_no (congrArg (λl:List PySem.Str=> !l.isEmpty) (pB _ _ hp hr)) ?_
 refine wpAny_bind (I6 (step:=lj) (λa b=>I7) ?_)
 refine wpAny_bind (I8 hk ?_)
 refine ite_no rfl ?_
 dsimp only
 rw[pp.va,pp.kw]
 exact wpAny_pure ((congrArg (λb=>Q b s) (fin _ _ _ hp hk hr)).mpr hq)
end Mine
end
section
set_option maxRecDepth 100000
namespace Mine
noncomputable def nameOf(f:Fn):String:=List.getD ["__init__","error","is_blank","digit","digits_value","base_of","whole_of","bool_of","is_gap","skip_gaps","comment_behind","skip_to_command","read_name","variable","brackets","backslash","braces","parts_until","bare_stops","is_expanded","word","command_at","expr_fault","spot_fault","skip_space","is_digit","run_end","is_word_op","is_float_at","number_token","op_at","sign_token","token_at","lex","levels","__init__","sort","value","take","level","fault","spot","is_bare","bareword","missing","is_colon","surplus","close","call_tree","parts_tree","operand","prefixed","choice","joined","climb","parse_expr","_law_digit","_law_level","_law_leaves","_law_operand","_law_between","_law_piece","_law_drawn","_law_is_wordlike","_law_text","_law_spoilt","_law_run","_law_number","_law_is_float","_law_word","_law_sign","_law_next","_law_whole","_law_spot","_law_tokens","_law_is_bare","_law_bareword","_law_no_operand","_law_no_operator","_law_scan","_law_colon","_law_call","_law_single","_law_tree","_law_written","_law_due","_law_told","law"] f.1 "law"
noncomputable def addrOf(f:Fn):Nat:=List.getD [30,45,52,59,66,73,80,87,115,122,129,136,143,150,157,108,164,171,178,185,192,200,207,214,221,228,235,242,249,256,263,270,277,284,291,305,312,319,326,333,340,347,361,368,375,382,389,396,403,410,417,424,431,438,445,452,459,466,473,480,487,494,501,508,515,522,529,536,543,550,557,564,571,578,585,590,597,604,611,618,625,632,639,646,651,658,665,672] f.1 672
end Mine
end
section
open PySem PySem.Calls PyProof.Rows PySem.W
set_option maxRecDepth 100000
namespace Mine
structure ui (base:Heap) (K:Frag):Prop where
 X:K.In base
 w_:∃mg mb,base.Ns mainGlobals mg∧base.Ns builtinsNs mb∧∀x:PySem.Str,x≠PySem.Str.ofString "__name__"->mb x=bootBuiltins x
 lim:base.NoLimit
structure ew (fr:List Env) (g:Gh) (h:Heap) (g':Gh) (h':Heap):Prop where
 live:∀b o,h.get? b=some o->∃o',h'.get? b=some o'
 keep:∀b o,h.get? b=some o->instRole (g.ro b)=false->iS fr b o (h'.get? b)
 nw:∀p∈g.nw,p∈g'.nw
 gE:∀p∈g'.nw,p∈g.nw∨h.get? p.1=none
 φ:g.φ<+:g'.φ
 ro:∀b o,h.get? b=some o->g'.ro b=g.ro b
theorem ew.ext{fr:List Env}{g g':Gh}{h h':Heap}(x:ew fr g h g' h'):Ext fr g h g' h':=
 ⟨⟨x.live,λb o e r=>x.keep b o e (by rw[r];rfl),x.nw,λp m=>(x.gE p m).imp id .inl,x.φ,λb o hb=>.inl (x.ro b o hb)⟩,λb o r e=>
  (x.keep b o e (by rw[r];rfl)).elim (λq=>⟨o,q,rfl⟩) λq=>q.2.elim λ_ q=>⟨_,q,rfl⟩⟩
theorem FR.called{P:Params}{base h h':Heap}{fr:List Env}{env:Env}{names:List PySem.Str}{g g':Gh}{ρ:Loc}{σ cC:Hp}(F:FR P base fr env names g ρ σ h)(H:HR P base fr g' cC h')(x:ew fr g h g' h'):FR P base fr env names g' ρ cC h':=
 have ro:∀b r o,g.ro b=some r->h.get? b=some o->g'.ro b=some r:=λb _ o e q=>(x.ro b o q).trans e
 F.gen H (let⟨_,q⟩:=(F.hr.mu _ _ F.loc).2.2.1;ro _ _ _ F.loc q) ⟨x.nw,x.φ⟩ (λo e=>x.ext.loc _ o F.loc e) λ_ _ _ b r o c e1 e2=>
  ⟨(x.keep b o e2 (by rw[e1];exact c.ni)).elim id λq=>absurd q.1 ((F.hr.mu b r e1).2.2.2 c.nl),ro _ _ _ e1 e2⟩
noncomputable def rE(h:Heap)(a:Addr):Prop:=
 ∃oa vs,h.get? a=some oa∧oa.data=.fields vs∧(vs[1]?=some .none∨∃T oT ts,vs[1]?=some (.ref T)∧h.get? T=some oT∧oT.data=.fields ts∧ts[3]?=some .none)
theorem rE.exc{h:Heap}{a:Addr}(x:rE h a)(env:Env):rz h env a:=by
 obtain⟨oa,vs,e,d,q|⟨T,oT,ts,q1,q2,q3,q4⟩⟩:=x
 ·exact⟨oa,vs,e,d,.inl q⟩
 ·exact⟨oa,vs,e,d,.inr ⟨T,oT,ts,_,q1,q2,q3,q4,.inl rfl⟩⟩
noncomputable def I_:CR->Hp
 |.ret _ σ=>σ
 |.exc _ σ=>σ
noncomputable def uj(P:Params)(base:Heap)(fr:List Env)(g:Gh)(s:Shared)(r:CR)(res:Result)(s':Shared):Prop:=
 ∃g',HR P base fr g' (I_ r) s'.heap∧ew fr g s.heap g' s'.heap∧dz s s'∧match r with
  |.ret y _=>∃v,res=.ok (.ret v)∧RV P g' v y
  |.exc k σ=>∃a,res=.error (.ref a)∧g'.φ[k]?=some a∧(∃o,σ[k]?=some o∧o.cls=.raised)∧rE s'.heap a
structure mZ (A:Around) (D:Nat) (fr:List Env):Prop where
 handled:A.handled=none
 frames:A.frames=some fr
 depth:A.depth+2*D+3<=recursionLimit
 units:A.units+20*D+1510<=cLine
theorem mZ.cx{A:Around}{D:Nat}{fr:List Env}(x:mZ A D fr):Cx A D fr:=
 ⟨x.handled,x.frames,by have:=x.depth;exact bE this,by have:=x.units;exact bK this (by simp+arith)⟩
noncomputable def um(prog:Program)(w:World)(base:Heap)(D:Nat)(C:Δ):Prop:=
 ∀(A:Around) (fr:List Env),Cx A D fr->∀(f:Fn) (args:List V) (σ:Hp) (r:CR),C f args σ=some r->∀(g:Gh) (s:Shared) (vals:List Value),
  HR w.params base fr g σ s.heap->Ω w.params g.nw g.φ vals args->codeAny (model prog w) A (.call (.ref (addrOf f)) ⟨vals,[]⟩) (uj w.params base fr g s r) s
noncomputable def Bx:Bi->String
 |.len=>"len"|.ord=>"ord"|.str=>"str"|.tuple=>"tuple"
noncomputable def By:Mt->String
 |.lower=>"lower"|.isalnum=>"isalnum"|.isdigit=>"isdigit"|.startswith=>"startswith"|.find=>"find"|.index=>"index"|.join=>"join"|.get=>"get"
noncomputable def Bz:c_->String
 |.reader=>"ExprReader"|.raised=>"Raised"
noncomputable def js:PySem.Expr->Bool
 |.Call .. =>false
 |_=>true
noncomputable def uq:c_->Fn
 |.reader=>.iJ
 |.raised=>.iH
noncomputable abbrev Sc:=List (PySem.Str×NameKind)
noncomputable def gi(sc:Sc)(id:PySem.Str)(n:String):Bool:=decide (id=PySem.Str.ofString n)&&(decide (sc.lookup id=some .globalImplicit)&& !(id==PySem.Str.ofString "__debug__"))
noncomputable def eO(ns:List PySem.Str)(v:PySem.Str)(cs:List Nat):List PySem.Str:=v::cs.map λi=>ns.getD i v
noncomputable def dU(sc:Sc)(s:Sc):Sc:=s.map λx=>if x.2==.free&&decide (sc.lookup x.1=some .cell)then(x.1,.cell)else x
noncomputable def rF(sc:Sc)(ns:List PySem.Str)(v:PySem.Str)(cs:List Nat)(scope:Scope):Bool:=
 decide (scope.kind=.function)&&(cs.all (λi=>decide (i<ns.length))&&(decide (eO ns v cs).Nodup&&(!(v==PySem.Str.ofString "__debug__")&&(decide ((dU sc scope.names).lookup v=some .local)&&
  (cs.all (λi=>decide ((dU sc scope.names).lookup (ns.getD i v)=some .cell)&&decide (scope.names.lookup (ns.getD i v)=some .free))&&
  (scope.names.all (λx=> !(x.2==.cell)&&(!(x.2==.free)||(decide (sc.lookup x.1=some .cell)&&cs.any λi=>decide (ns.getD i v=x.1))))&&decide (scope.names.map (·.1)).Nodup))))))
noncomputable def isInt:E->Bool
 |.int _=>true
 |_=>false
noncomputable def BA(kvs:List (List Nat×E)):Bool:=kvs.all λp=>isInt p.2
noncomputable def I'(kvs:List (List Nat×E)):Bool:=decide (kvs.map (·.1)).Nodup
noncomputable def freeNames:List String:=["len","ord","str","tuple","range","Exception"]
noncomputable def ur(K:Frag):Prop:=∀n∈freeNames,nsIn K mainGlobals (PySem.Str.ofString n)=some none
noncomputable def uu(K:Frag):Prop:=∀f:Fn,f∉[Fn.iH,.iJ,.cn,.eH,.dc,.fO,.dQ,.eI]->nsIn K mainGlobals (PySem.Str.ofString (nameOf f))=some (some (.ref (addrOf f)))
noncomputable def uv(K:Frag):Prop:=∀f:Fn,∃d fd sl,K.lookup (addrOf f)=some ⟨.type "function",d,.func fd,sl⟩
noncomputable def meths:List Fn:=[.cn,.eH,.dc,.fO,.dQ,.eI]
structure iW (K:Frag):Prop where
 uw:findIn K (.ref b7) (PySem.Str.ofString "__getattribute__")=some (some (.builtin "object.__getattribute__"))
 xa:findIn K (.ref b7) (PySem.Str.ofString "__getattr__")=some none
 xb:hasDictIn K b7=true
 BB:findIn K (.ref b7) (PySem.Str.ofString "__setattr__")=some (some (.builtin "object.__setattr__"))
 Ja:plainOver K b7=true
 BC:(clsIn K b7).map (·.mro)=some [.ref b7,.type "object"]
 xc:∀f,gD .reader f=true->findIn K (.ref b7) (fldStr f)=some none
 xd:∀f∈meths,findIn K (.ref b7) (PySem.Str.ofString (nameOf f))=some (some (.ref (addrOf f)))
 BD:makesIn K b7=true
 BE:findIn K (.ref b7) (PySem.Str.ofString "__init__")=some (some (.ref (addrOf .iJ)))
 BF:keepIn K (.ref b7)=true
 BG:nsIn K mainGlobals (PySem.Str.ofString "ExprReader")=some (some (.ref b7))
 BH:findIn K (.ref bX) (PySem.Str.ofString "__getattribute__")=some (some (.builtin "BaseException.__getattribute__"))
 BI:findIn K (.ref bX) (PySem.Str.ofString "__getattr__")=some none
 xe:hasDictIn K bX=true
 BJ:findIn K (.ref bX) (PySem.Str.ofString "__setattr__")=some (some (.builtin "object.__setattr__"))
 xf:∀f,gD .raised f=true->findIn K (.ref bX) (fldStr f)=some none
 xg:(clsIn K bX).map (·.mro)=some [.ref bX,.type "Exception",.type "BaseException",.type "object"]
 BK:findIn K (.ref bX) (PySem.Str.ofString "__init__")=some (some (.ref (addrOf .iH)))
 BL:keepIn K (.ref bX)=true
 rG:∃nm q N bs hdct sn sub ab col dd k0 k1 k2 k3 k5,K.lookup bX=some (excClassObj nm q bX N bs [.type "Exception",.type "BaseException",.type "object"] hdct sn sub ab col dd k0 k1 k2 k3 k5 "Exception.__new__")
 xh:nsIn K mainGlobals (PySem.Str.ofString "Raised")=some (some (.ref bX))
structure Amb0 (base:Heap) (K:Frag) (names:List PySem.Str):Prop where
 top:ui base K
 free:ur K
 fns:uu K
 jt:uv K
 cls:iW K
 m8:∀x∈names,(x==PySem.Str.ofString "__debug__")=false
structure Vp (prog:Program) (w:World) (base:Heap) (K:Frag) (fr:List Env) (env:Env) (names:List PySem.Str) (A:Around) (D:Nat) (C:Δ):Prop extends Amb0 base K names where
 cx:mZ A D fr
 pC:um prog w base D C
section
noncomputable abbrev XP:=PySem.Expr
theorem bl{a b:Bool}(h:(a&&b)=true):a=true:=(bD.mp h).1
theorem br{a b:Bool}(h:(a&&b)=true):b=true:=(bD.mp h).2
theorem bn{a:Bool}(h:(!a)=true):a=false:=by cases a<;>first|rfl|exact aG h
theorem bd{p:Prop}[Decidable p](h:decide p=true):p:=of_decide_eq_true h
structure Nd where
 tag:Nat
 a:XP
 b:XP
 c:XP
 es:List XP
 os:List (Option XP)
 o1:Option XP
 o2:Option XP
 o3:Option XP
 nm:PySem.Str
 k:Nat
 cst:Const
 bo:Operator
 uo:UnaryOp
 lo:PySem.BoolOp
 cs:List CmpOp
 kw:List Keyword
 g:List Comprehension
 sc:Scope
 p:Pos
noncomputable section
noncomputable def cD:Nd:=let z:XP:=.Name default default;⟨0,z,z,z,[],[],.none,.none,.none,default,0,.none,.Add,.Not,.And,[],[],[],default,default⟩
noncomputable def nd(x:XP):Nd:=PySem.Expr.casesOn (motive_1:=λ_=>Nd) x
 (λx0 x1 x2=>{cD with tag:=8,lo:=x0,es:=x1,p:=x2})
 (λx x x=>cD)
 (λx0 x1 x2 x3=>{cD with tag:=6,a:=x0,bo:=x1,b:=x2,p:=x3})
 (λx0 x1 x2=>{cD with tag:=7,uo:=x0,a:=x1,p:=x2})
 (λx x x x=>cD)
 (λx0 x1 x2 x3=>{cD with tag:=10,a:=x0,b:=x1,c:=x2,p:=x3})
 (λx0 x1 x2=>{cD with tag:=5,os:=x0,es:=x1,p:=x2})
 (λx x x=>{cD with tag:=17})
 (λx0 x1 x2 x3=>{cD with tag:=15,a:=x0,g:=x1,sc:=x2,p:=x3})
 (λx x x x=>{cD with tag:=18})
 (λx x x x x=>{cD with tag:=19})
 (λx x x x=>cD)
 (λx x=>cD)
 (λx x=>cD)
 (λx x=>cD)
 (λx0 x1 x2 x3=>{cD with tag:=9,a:=x0,cs:=x1,es:=x2,p:=x3})
 (λx0 x1 x2 x3=>{cD with tag:=13,a:=x0,es:=x1,kw:=x2,p:=x3})
 (λx x x x=>cD)
 (λx x=>cD)
 (λx0 x1 x2=>{cD with tag:=1,cst:=x0,k:=x1,p:=x2})
 (λx0 x1 x2=>{cD with tag:=14,a:=x0,nm:=x1,p:=x2})
 (λx0 x1 x2=>{cD with tag:=11,a:=x0,b:=x1,p:=x2})
 (λx x=>{cD with tag:=16})
 (λx0 x1=>{cD with tag:=2,nm:=x0,p:=x1})
 (λx0 x1=>{cD with tag:=4,es:=x0,p:=x1})
 (λx0 x1 x2=>{cD with tag:=3,es:=x0,k:=x1,p:=x2})
 (λx0 x1 x2 x3=>{cD with tag:=12,o1:=x0,o2:=x1,o3:=x2,p:=x3})
noncomputable def Jb:List (Nd->XP):=[λd=>d.a,λd=>.Constant d.cst d.k d.p,λd=>.Name d.nm d.p,λd=>.Tuple d.es d.k d.p,λd=>.List d.es d.p,λd=>.Dict d.os d.es d.p,λd=>.BinOp d.a d.bo d.b d.p,λd=>.UnaryOp d.uo d.a d.p,λd=>.BoolOp d.lo d.es d.p,λd=>.Compare d.a d.cs d.es d.p,λd=>.IfExp d.a d.b d.c d.p,λd=>.Subscript d.a d.b d.p,λd=>.Slice d.o1 d.o2 d.o3 d.p,λd=>.Call d.a d.es d.kw d.p,λd=>.Attribute d.a d.nm d.p,λd=>.ListComp d.a d.g d.sc d.p]
noncomputable def mk(k:Nat)(d:Nd):XP:=(Jb.getD k λd=>d.a) d
end
theorem Jc(x:XP):((nd x).tag=0∨15<(nd x).tag)∨x=mk (nd x).tag (nd x):=by cases x<;>first|exact .inr rfl|exact .inl (.inl rfl)|exact .inl (.inr (Φ rfl))
noncomputable def tg(x:XP)(k:Nat):Bool:=(nd x).tag==k
theorem nx{x:XP}{k:Nat}(h:tg x k=true)(hk:k≠0∧k<=15):x=mk k (nd x):=
 have e:(nd x).tag=k:=eq_of_beq h
 (Jc x).elim (λz=>z.elim (λz=>(hk.1 (e.symm.trans z)).elim) λz=>(Nat.not_lt.mpr hk.2 (e▸z)).elim) λz=>by rw[e]at z;exact z
noncomputable def one{α:Type}(l:List α)(f:α->Bool):Bool:=match l with
 |[]=>false
 |a::r=>r.isEmpty&&f a
noncomputable def two{α:Type}(l:List α)(f:α->α->Bool):Bool:=match l with
 |[]=>false
 |a::r=>one r (f a)
theorem dW{α:Type}{l:List α}{f:α->Bool}(h:one l f=true){p:List α->Prop}(k:∀a,f a=true->p [a]):p l:=by
 cases l with
 |nil=>exact aG h
 |cons a r=>rw[cZ.mp (bl h)];exact k a (br h)
theorem rH{α:Type}{l:List α}{f:α->α->Bool}(h:two l f=true){p:List α->Prop}(k:∀a b,f a b=true->p [a,b]):p l:=by
 cases l with
 |nil=>exact aG h
 |cons a r=>exact dW (p:=λr=>p (a::r)) h (k a)
noncomputable def ly(c:Const)(x:XP):Bool:=tg x 1&&decide ((nd x).cst=c)
noncomputable def dA(ns:List PySem.Str)(i:Nat)(x:XP):Bool:=tg x 2&&decide (ns[i]?=some (nd x).nm)
noncomputable def notStar(x:XP):Bool:= !tg x 16
noncomputable def xi(x:XP):Bool:= !tg x 17
noncomputable def pD(s:List Nat):Const:=.str ⟨s.toArray⟩
noncomputable def fn(sc:Sc)(n:String)(x:XP):Bool:=tg x 13&&((nd x).kw.isEmpty&&(tg (nd x).a 2&&(decide ((nd (nd x).a).nm=PySem.Str.ofString n)&&gi sc (PySem.Str.ofString n) n)))
noncomputable def mt(nm:PySem.Str)(x:XP):Bool:=tg x 13&&((nd x).kw.isEmpty&&(tg (nd x).a 14&&(decide ((nd (nd x).a).nm=nm)&&((nd (nd x).a).p.endLine==(nd x).p.line))))
noncomputable def ob(x:XP):XP:=(nd (nd x).a).a
mutual
noncomputable def τ(sc:Sc)(ns:List PySem.Str):E->XP->Bool
 |.none,x=>ly .none x
 |.bool b,x=>ly (.bool b) x
 |.int i,x=>ly (.int i) x
 |.str s,x=>ly (pD s) x&&(decide (s.length<=1000)&&s.all (· <128))
 |.loc i,x=>dA ns i x
 |.tup es,x=>tg x 3&&(bY sc ns es (nd x).es&&decide (es.length<=1000))
 |.lst es,x=>tg x 4&&(bY sc ns es (nd x).es&&decide (es.length<=1000))
 |.hJ kvs,x=>tg x 5&&(ju sc ns kvs (nd x).os (nd x).es&&((decide (kvs.length<=15)||(decide (18<=kvs.length)&&(decide (kvs.length<=31)&&BA kvs)))&&(!kvs.isEmpty&&I' kvs)))
 |.bin op a b,x=>tg x 6&&(decide ((nd x).bo=pk op)&&(τ sc ns a (nd x).a&&τ sc ns b (nd x).b))
 |.neg a,x=>tg x 7&&(decide ((nd x).uo=.USub)&&τ sc ns a (nd x).a)
 |.not a,x=>tg x 7&&(decide ((nd x).uo=.Not)&&τ sc ns a (nd x).a)
 |.and es,x=>tg x 8&&(decide ((nd x).lo=.And)&&bY sc ns es (nd x).es)
 |.or es,x=>tg x 8&&(decide ((nd x).lo=.Or)&&bY sc ns es (nd x).es)
 |.cmp op a b,x=>tg x 9&&(decide ((nd x).cs=[iU op])&&(τ sc ns a (nd x).a&&one (nd x).es λr=>τ sc ns b r&& !behindInMarks (iU op) r))
 |.fR o1 o2 a b c,x=>tg x 9&&(decide ((nd x).cs=[iU o1,iU o2])&&(τ sc ns a (nd x).a&&two (nd x).es λr r'=>τ sc ns b r&&(τ sc ns c r'&& !behindInMarks (iU o2) r')))
 |.ite c a b,x=>tg x 10&&(τ sc ns c (nd x).a&&(τ sc ns a (nd x).b&&τ sc ns b (nd x).c))
 |.sub a i,x=>tg x 11&&(τ sc ns a (nd x).a&&(τ sc ns i (nd x).b&&rC (nd x).b))
 |.ae a lo hi,x=>tg x 11&&(tg (nd x).b 12&&((nd (nd x).b).o3.isNone&&(τ sc ns a (nd x).a&&(rI sc ns lo (nd (nd x).b).o1&&rI sc ns hi (nd (nd x).b).o2))))
 |.call f args,x=>fn sc (nameOf f) x&&(bY sc ns args (nd x).es&&decide (f∉[Fn.iH,.iJ,.cn,.eH,.dc,.fO,.dQ,.eI]))
 |.bi b a,x=>fn sc (Bx b) x&&one (nd x).es λy=>notStar y&&τ sc ns a y
 |.met m r args,x=>mt (PySem.Str.ofString (By m)) x&&(js (ob x)&&(τ sc ns r (ob x)&&(bY sc ns args (nd x).es&&decide ((nd x).es.length<30))))
 |.app i e,x=>mt (PySem.Str.ofString "append") x&&one (nd x).es λy=>dA ns i (ob x)&&(notStar y&&τ sc ns e y)
 |.pop i,x=>mt (PySem.Str.ofString "pop") x&&(dA ns i (ob x)&&(nd x).es.isEmpty)
 |.ext i es,x=>mt (PySem.Str.ofString "extend") x&&one (nd x).es λy=>tg y 4&&(dA ns i (ob x)&&(bY sc ns es (nd y).es&&decide (es.length<=1000)))
 |.fS i,x=>fn sc "len" x&&one (nd x).es λy=>dA ns i y
 |.k4 i e,x=>tg x 11&&(dA ns i (nd x).a&&(τ sc ns e (nd x).b&&rC (nd x).b))
 |.mM _,_=>false
 |.attr o f,x=>tg x 14&&(decide ((nd x).nm=fldStr f)&&(js (nd x).a&&τ sc ns o (nd x).a))
 |.ax f o args,x=>mt (PySem.Str.ofString (nameOf f)) x&&(js (ob x)&&(τ sc ns o (ob x)&&(bY sc ns args (nd x).es&&(decide ((nd x).es.length<30)&&decide (f∈[Fn.cn,.eH,.dc,.fO,.dQ,.eI])))))
 |.new c f args,x=>fn sc (Bz c) x&&(bY sc ns args (nd x).es&&(decide (f=uq c)&&decide (args.length<=1000)))
 |.mN o v,x=>mt (PySem.Str.ofString "__init__") x&&(tg (ob x) 2&&two (nd x).es λy z=>gi sc (nd (ob x)).nm "Exception"&&(notStar y&&(τ sc ns o y&&(notStar z&&τ sc ns v z))))
 |.fm n cs cond elt,x=>tg x 15&&one (nd x).g λg=>tg g.target 2&&(decide (g.is_async=0)&&(fn sc "range" g.iter&&(one (nd g.iter).es (λy=>ly (.int n) y)&&(decide (n<=100)&&(rF sc ns (nd g.target).nm cs (nd x).sc&&
   (one g.ifs (λc=>τ (dU sc (nd x).sc.names) (eO ns (nd g.target).nm cs) cond c)&&τ (dU sc (nd x).sc.names) (eO ns (nd g.target).nm cs) elt (nd x).a))))))
 |.comp it cs cond elt,x=>tg x 15&&one (nd x).g λg=>tg g.target 2&&(decide (g.is_async=0)&&(xi g.iter&&(τ sc ns it g.iter&&(rF sc ns (nd g.target).nm cs (nd x).sc&&(xj (dU sc (nd x).sc.names) (eO ns (nd g.target).nm cs) cond g.ifs&&τ (dU sc (nd x).sc.names) (eO ns (nd g.target).nm cs) elt (nd x).a)))))
noncomputable def bY(sc:Sc)(ns:List PySem.Str):List E->List XP->Bool
 |[],xs=>xs.isEmpty
 |_::_,[]=>false
 |e::es,x::xs=>notStar x&&(τ sc ns e x&&bY sc ns es xs)
noncomputable def rI(sc:Sc)(ns:List PySem.Str):Option E->Option XP->Bool
 |.none,x=>x.isNone
 |some e,x=>x.any λx=>τ sc ns e x
noncomputable def xj(sc:Sc)(ns:List PySem.Str):Option E->List XP->Bool
 |.none,x=>x.isEmpty
 |some e,x=>one x λx=>τ sc ns e x
noncomputable def ju(sc:Sc)(ns:List PySem.Str):List (List Nat×E)->List (Option XP)->List XP->Bool
 |[],ks,vs=>ks.isEmpty&&vs.isEmpty
 |_::_,[],_=>false
 |_::_,_::_,[]=>false
 |(k,e)::r,q::ks,v::vs=>(q.any λq=>ly (pD k) q)&&(k.all (· <128)&&(decide (k.length<=1000)&&(τ sc ns e v&&ju sc ns r ks vs)))
end
noncomputable def Jd(ns:List PySem.Str)(e:E)(x:XP):Bool:=match e with
 |.mM i=>dA ns i x
 |_=>false
noncomputable def pE(sc:Sc)(ns:List PySem.Str)(e:E)(x:XP):Bool:=Jd ns e x||τ sc ns e x
theorem jv{sc:Sc}{ns:List PySem.Str}{e:E}{x:XP}(h:τ sc ns e x=true):pE sc ns e x=true:=e_.mpr (.inr h)
section
variable{sc:Sc}{ns:List PySem.Str}{x:XP}{P:XP->Prop}{e a b c:E}{es:List E}{op o1 o2:gy}
theorem bL{k:Nat}{f:Bool}(h:(tg x k&&f)=true)(hk:k≠0∧k<=15)(q:f=true->P (mk k (nd x))):P x:=nx (bl h) hk▸q (br h)
theorem m9{c:Const}(h:ly c x=true)(k:∀n p,P (.Constant c n p)):P x:=bL h (by decide) λc=>(show P (.Constant (nd x).cst _ _)from(bd c).symm▸k _ _)
theorem iX{i:Nat}(h:dA ns i x=true)(k:∀y p,ns[i]?=some y->P (.Name y p)):P x:=bL h (by decide) λc=>k _ _ (bd c)
theorem Je(h:τ sc ns (.tup es) x=true)(k:∀xs n p,bY sc ns es xs=true->es.length<=1000->P (.Tuple xs n p)):P x:=bL h (by decide) λc=>k _ _ _ (bl c) (bd (br c))
theorem Jf(h:τ sc ns (.lst es) x=true)(k:∀xs p,bY sc ns es xs=true->es.length<=1000->P (.List xs p)):P x:=bL h (by decide) λc=>k _ _ (bl c) (bd (br c))
theorem Jg{op:fM}(h:τ sc ns (.bin op a b) x=true)(k:∀l r p,τ sc ns a l=true->τ sc ns b r=true->P (.BinOp l (pk op) r p)):P x:=bL h (by decide) λc=>(show P (.BinOp _ (nd x).bo _ _)from(bd (bl c)).symm▸k _ _ _ (bl (br c)) (br (br c)))
theorem xl{op:UnaryOp}{f:XP->Bool}(h:(tg x 7&&(decide ((nd x).uo=op)&&f (nd x).a))=true)(k:∀l p,f l=true->P (.UnaryOp op l p)):P x:=bL h (by decide) λc=>(show P (.UnaryOp (nd x).uo _ _)from(bd (bl c)).symm▸k _ _ (br c))
theorem ux{op:PySem.BoolOp}{f:List XP->Bool}(h:(tg x 8&&(decide ((nd x).lo=op)&&f (nd x).es))=true)(k:∀l p,f l=true->P (.BoolOp op l p)):P x:=bL h (by decide) λc=>(show P (.BoolOp (nd x).lo _ _)from(bd (bl c)).symm▸k _ _ (br c))
theorem BM(h:τ sc ns (.cmp op a b) x=true)(k:∀l r p,τ sc ns a l=true->τ sc ns b r=true->behindInMarks (iU op) r=false->P (.Compare l [iU op] [r] p)):P x:=
 bL h (by decide) λc=>dW (p:=λr=>P (.Compare (nd x).a (nd x).cs r _)) (br (br c)) λr d=>(bd (bl c)).symm▸k _ _ _ (bl (br c)) (bl d) (bn (br d))
theorem BN(h:τ sc ns (.fR o1 o2 a b c) x=true)(k:∀l r1 r2 p,τ sc ns a l=true->τ sc ns b r1=true->τ sc ns c r2=true->behindInMarks (iU o2) r2=false->P (.Compare l [iU o1,iU o2] [r1,r2] p)):P x:=
 bL h (by decide) λc=>rH (p:=λr=>P (.Compare (nd x).a (nd x).cs r _)) (br (br c)) λr r' d=>(bd (bl c)).symm▸k _ _ _ _ (bl (br c)) (bl d) (bl (br d)) (bn (br (br d)))
theorem BO(h:τ sc ns (.ite c a b) x=true)(k:∀t l r p,τ sc ns c t=true->τ sc ns a l=true->τ sc ns b r=true->P (.IfExp t l r p)):P x:=bL h (by decide) λc=>k _ _ _ _ (bl c) (bl (br c)) (br (br c))
theorem Jh{i:E}(h:τ sc ns (.sub a i) x=true)(k:∀l r p,τ sc ns a l=true->τ sc ns i r=true->rC r=true->P (.Subscript l r p)):P x:=bL h (by decide) λc=>k _ _ _ (bl c) (bl (br c)) (br (br c))
theorem Ji{lo hi:Option E}(h:τ sc ns (.ae a lo hi) x=true)(k:∀l u v p p',τ sc ns a l=true->rI sc ns lo u=true->rI sc ns hi v=true->P (.Subscript l (.Slice u v none p') p)):P x:=
 bL h (by decide) λc=>bL (P:=λs=>P (.Subscript _ s _)) c (by decide) λc=>(show P (.Subscript _ (.Slice _ _ (nd (nd x).b).o3 _) _)from(kT.mp (bl c)).symm▸k _ _ _ _ _ (bl (br c)) (bl (br (br c))) (br (br (br c))))
theorem rJ{n:String}{f:List XP->Bool}(h:(fn sc n x&&f (nd x).es)=true)(k:∀p xs p',gi sc (PySem.Str.ofString n) n=true->f xs=true->P (.Call (.Name (PySem.Str.ofString n) p) xs [] p')):P x:=
 bL (bl h) (by decide) λc=>(show P (.Call (nd x).a _ (nd x).kw _)from(cZ.mp (bl c)).symm▸bL (P:=λy=>P (.Call y _ [] _)) (br c) (by decide) λc=>(show P (.Call (.Name (nd (nd x).a).nm _) _ [] _)from(bd (bl c)).symm▸k _ _ _ (br c) (br h)))
theorem rK{n:PySem.Str}{f:XP->List XP->Bool}(h:(mt n x&&f (ob x) (nd x).es)=true)(k:∀o ap xs p,(ap.endLine==p.line)=true->f o xs=true->P (.Call (.Attribute o n ap) xs [] p)):P x:=
 bL (bl h) (by decide) λc=>(show P (.Call (nd x).a _ (nd x).kw _)from(cZ.mp (bl c)).symm▸bL (P:=λy=>P (.Call y _ [] _)) (br c) (by decide) λc=>(show P (.Call (.Attribute _ (nd (nd x).a).nm _) _ [] _)from(bd (bl c)).symm▸k _ _ _ _ (br c) (br h)))
theorem BP{f:Fn}(h:τ sc ns (.call f es) x=true)(k:∀p xs p',gi sc (PySem.Str.ofString (nameOf f)) (nameOf f)=true->bY sc ns es xs=true->f∉[Fn.iH,.iJ,.cn,.eH,.dc,.fO,.dQ,.eI]->P (.Call (.Name (PySem.Str.ofString (nameOf f)) p) xs [] p')):P x:=
 rJ (f:=λxs=>bY sc ns es xs&&_) h λp xs p' g c=>k p xs p' g (bl c) (bd (br c))
theorem BQ{n:String}{f:XP->Bool}(h:(fn sc n x&&one (nd x).es f)=true)(k:∀p y p',gi sc (PySem.Str.ofString n) n=true->f y=true->P (.Call (.Name (PySem.Str.ofString n) p) [y] [] p')):P x:=
 rJ (f:=λxs=>one xs f) h λp xs p' g c=>dW (p:=λxs=>P (.Call _ xs [] _)) c λy c=>k p y p' g c
theorem BR{n:PySem.Str}{f:XP->XP->Bool}(h:(mt n x&&one (nd x).es (f (ob x)))=true)(k:∀o ap y p,(ap.endLine==p.line)=true->f o y=true->P (.Call (.Attribute o n ap) [y] [] p)):P x:=
 rK (f:=λo xs=>one xs (f o)) h λo ap xs p l c=>dW (p:=λxs=>P (.Call _ xs [] _)) c λy c=>k o ap y p l c
theorem Jj{i:Nat}(h:τ sc ns (.pop i) x=true)(k:∀o ap p,(ap.endLine==p.line)=true->dA ns i o=true->P (.Call (.Attribute o (PySem.Str.ofString "pop") ap) [] [] p)):P x:=
 rK (f:=λo xs=>dA ns i o&&xs.isEmpty) h λo ap xs p l c=>(cZ.mp (br c)).symm▸k o ap p l (bl c)
theorem xm{n:PySem.Str}{f:XP->Bool}(h:(tg x 14&&(decide ((nd x).nm=n)&&f (nd x).a))=true)(k:∀o p,f o=true->P (.Attribute o n p)):P x:=bL h (by decide) λc=>(show P (.Attribute _ (nd x).nm _)from(bd (bl c)).symm▸k _ _ (br c))
end
structure Fx where
 prog:Program
 w:World
 base:Heap
 K:Frag
 fr:List Env
 env:Env
 names:List PySem.Str
 A:Around
 D:Nat
 C:Δ
structure Q where
 g:Gh
 ρ:Loc
 σ:Hp
 s:Shared
structure Fx.Ok (m:Fx):Prop extends Amb0 m.base m.K m.names where
 cx:mZ m.A m.D m.fr
 pC:um m.prog m.w m.base m.D m.C
section
variable{α β:Type}{K:α->Loc->Hp->Prop}{X:Nat->Loc->Hp->Prop}{ρ:Loc}{h:Hp}
noncomputable def tot(r:M α)(K:α->Loc->Hp->Prop)(X:Nat->Loc->Hp->Prop):Prop:=match r with
 |.none=>False
 |some (.ok a ρ h)=>K a ρ h
 |some (.ex k ρ h)=>X k ρ h
theorem tot.ζ{r:M β}{f:β->Loc->Hp->M α}(H:tot (r.ζ f) K X):tot r (λb ρ h=>tot (f b ρ h) K X) X:=by
 rcases r with _|(_|_)<;>exact H
theorem tot.o{o:Option α}(H:tot (up o ρ h) K X):tt o λa=>K a ρ h:=by cases o<;>exact H
theorem tot.om{o:Option β}{f:β->α}(H:tot (Mine.up (o.map f) ρ h) K X):tt o λa=>K (f a) ρ h:=by cases o<;>exact H
theorem tot.ob{o:Option β}{f:β->Loc->Hp->M α}(H:tot ((Mine.up o ρ h).ζ f) K X):tt o λb=>tot (f b ρ h) K X:=by cases o<;>exact H
theorem tot.br{o:Option Bool}{a b:M α}(H:tot (dh o a b) K X):tt o λt=>tot (if t=true then a else b) K X:=by rcases o with _|_|_<;>exact H
theorem tot.if{c:Prop}[Decidable c]{r:M α}(H:tot (if c then r else Option.none) K X){p:Prop}(k:c->tot r K X->p):p:=by
 by_cases q:c
 ·rw[if_pos q]at H;exact k q H
 ·rw[if_neg q]at H;exact H.elim
theorem tot.up{o:Option α}(H:tot (up o ρ h) K X){p:Prop}(k:∀a,o=some a->K a ρ h->p):p:=by
 cases o with
 |none=>exact H.elim
 |some a=>exact k a rfl H
end
section
variable(m:Fx)
noncomputable def St(q:Q):Prop:=FR m.w.params m.base m.fr m.env m.names q.g q.ρ q.σ q.s.heap
structure To (q q':Q):Prop where
 e:Ext m.fr q.g q.s.heap q'.g q'.s.heap
 q:dz q.s q'.s
structure uy (q:Q) (k:Nat) (a:Addr):Prop where
 hk:q.g.φ[k]?=some a
 ho:∃o,q.σ[k]?=some o∧o.cls=.raised
 x:rz q.s.heap m.env a
noncomputable def KV{α β:Type}(R:Gh->α->β->Prop)(q:Q)(K:β->Loc->Hp->Prop)(Qv:α->Shared->Prop):Prop:=∀v y q',K y q'.ρ q'.σ->St m q'->To m q q'->R q'.g v y->Qv v q'.s
noncomputable def KX(q:Q)(X:Nat->Loc->Hp->Prop)(Ex:Value->Shared->Prop):Prop:=∀k a q',X k q'.ρ q'.σ->St m q'->To m q q'->uy m q' k a->Ex (.ref a) q'.s
noncomputable def ct{α β:Type}(R:Gh->α->β->Prop)(t:Sem α)(c:Loc->Hp->M β):Prop:=∀(q:Q) (K:β->Loc->Hp->Prop) (X:Nat->Loc->Hp->Prop) (Qv:α->Shared->Prop) (Ex:Value->Shared->Prop),
 St m q->tot (c q.ρ q.σ) K X->KX m q X Ex->KV m R q K Qv->wpAny (model m.prog m.w) m.A t Qv Ex q.s
noncomputable def bx(e:E)(x:XP):Prop:=ct m (RV m.w.params) (eval x m.env) (ν m.C e)
noncomputable def XE(e:E):Prop:=∀x,τ m.env.scope.names m.names e x=true->bx m e x
noncomputable def rB(_:Gh)(a b:Bool):Prop:=a=b
noncomputable def m_(e:E)(x:XP):Prop:=ct m rB (isTrue x m.env (eval x m.env)) λρ h=>(ν m.C e ρ h).ζ λy ρ h=>up (a_ y) ρ h
noncomputable def XT(e:E):Prop:=∀x,pE m.env.scope.names m.names e x=true->m_ m e x
noncomputable def gG(es:List E):Prop:=∀xs pos,bY m.env.scope.names m.names es xs=true->ct m (mV m.w.params) (spliced (backTo pos (starEach xs m.env))) (ft m.C es)
end
section
variable{m:Fx}{q q1:Q}{X:Nat->Loc->Hp->Prop}{Ex:Value->Shared->Prop}
theorem To.refl:To m q q:=⟨Ext.refl _ _ _,dz.refl _⟩
theorem To.trans{q2:Q}(a:To m q q1)(b:To m q1 q2):To m q q2:=⟨a.e.trans b.e,a.q.trans b.q⟩
theorem To.vr{v:Value}{y:V}(t:To m q q1)(r:RV m.w.params q.g v y):RV m.w.params q1.g v y:=t.e.vr r
theorem KX.to(k:KX m q X Ex)(t:To m q q1):KX m q1 X Ex:=λn a q' h S T=>k n a q' h S (t.trans T)
theorem KV.to{α β:Type}{R:Gh->α->β->Prop}{K:β->Loc->Hp->Prop}{Qv:α->Shared->Prop}(k:KV m R q K Qv)(t:To m q q1):KV m R q1 K Qv:=λn a q' h S T=>k n a q' h S (t.trans T)
theorem KV.hU{K:V->Loc->Hp->Prop}{Qv:Value->Shared->Prop}{z:V}(k:KV m (RV m.w.params) q K Qv)(h:K z q.ρ q.σ):Kont m.w.params m.base m.fr m.env m.names q.g q.s q.ρ q.σ Qv z:=
 λr g' s' F' E' R' S'=>k r z ⟨g',q.ρ,q.σ,s'⟩ h F' ⟨E',S'⟩ R'
theorem KV.here{α β:Type}{R:Gh->α->β->Prop}{K:β->Loc->Hp->Prop}{Qv:α->Shared->Prop}(k:KV m R q K Qv)(S:St m q){v:α}{y:β}(h:K y q.ρ q.σ)(r:R q.g v y):Qv v q.s:=k v y q h S To.refl r
theorem ct.ζ{α β δ:Type}{R:Gh->α->β->Prop}{t:Sem α}{c:Loc->Hp->M β}{f:β->Loc->Hp->M δ}{K:δ->Loc->Hp->Prop}{Qv:α->Shared->Prop}(s:ct m R t c)(S:St m q)(H:tot ((c q.ρ q.σ).ζ f) K X)(kx:KX m q X Ex)
  (k:∀v y q',tot (f y q'.ρ q'.σ) K X->St m q'->To m q q'->R q'.g v y->Qv v q'.s):wpAny (model m.prog m.w) m.A t Qv Ex q.s:=s q _ X Qv Ex S H.ζ kx k
theorem ct.at{α β:Type}{R:Gh->α->β->Prop}{t:Sem α}{c:Loc->Hp->M β}{K:β->Loc->Hp->Prop}{Qv:α->Shared->Prop}(s:ct m R t c)(S:St m q)(H:tot (c q.ρ q.σ) K X)(kx:KX m q X Ex)
  (k:KV m R q K Qv):wpAny (model m.prog m.w) m.A t Qv Ex q.s:=s q _ X Qv Ex S H kx k
end
end
section
theorem gT{n:Nat}(h:n<=1000):n<=sizeLine:=rA (η h (by decide))
section
variable{m:Fx}
theorem Fx.Ok.room(M:m.Ok):m.A.units+600<cLine:=bK M.cx.units (by simp+arith)
theorem Amb0.xn{base:Heap}{K:Frag}{names:List PySem.Str}(M:Amb0 base K names){i:Nat}{y:PySem.Str}(h:names[i]?=some y):(y==PySem.Str.ofString "__debug__")=false:=M.m8 y (jf h)
theorem Jk:XE m .none:=λx hc=>m9 (P:=bx m .none) hc λ_ _ q K X Qv Ex S H _ kv=>wpAny_pure (M:=model m.prog m.w) (a:=Value.none) (kv.here S H .none)
theorem Jl(b:Bool):XE m (.bool b):=λx hc=>m9 (P:=bx m (.bool b)) hc λ_ _ q K X Qv Ex S H _ kv=>wpAny_pure (M:=model m.prog m.w) (a:=Value.bool _) (kv.here S H (.bool _))
theorem Jm(i:Int):XE m (.int i):=λx hc=>m9 (P:=bx m (.int i)) hc λ_ _ q K X Qv Ex S H _ kv=>wpAny_Constant_int ((kv.hU H).here S (.int _ _))
theorem Jn(t:List Nat):XE m (.str t):=λx hc=>m9 (P:=bx m (.str t)) (bl hc) λ_ _ q K X Qv Ex S H _ kv=>Constant_str ((kv.hU H).here S (VR.ka (mW (List.toList_toArray ..) λd m=>gn (of_decide_eq_true (dM.mp (br (br hc)) d m)) (by decide)) (gT (of_decide_eq_true (bl (br hc)))) (List.toList_toArray ..)))
theorem BS(M:Amb0 m.base m.K m.names)(i:Nat):XE m (.loc i):=λx hc=>iX (P:=bx m (.loc i)) hc λy p hy q K X Qv Ex S H _ kv=>by
 refine wpAny_Name ?_ (M.xn hy)
 have H:tot (k9 q.ρ[i]? i q.ρ q.σ) K X:=H
 cases hv:q.ρ[i]?with
 |none=>rw[hv]at H;exact H.elim
 |some sl=>
  rw[hv]at H
  cases sl with
  |un=>exact H.elim
  |v z=>exact FR.Bm S hy hv λv r=>kv.here S H r
  |own ys=>exact FR.I3 S hy hv λv g' F' E' r=>kv v _ ⟨g',q.ρ.set i (.v (.list ys)),q.σ,q.s⟩ H F' ⟨E',dz.refl _⟩ r
theorem jx{x:XP}(h:notStar x=true){env:Env}(xs:List XP):starEach (x::xs) env=(false,eval x env)::starEach xs env:=by
 cases x<;>first|rfl|exact aG h
theorem Jo:gG m []:=λxs pos hc q K X Qv Ex S H _ kv=>by
 cases cZ.mp hc
 exact spliced_nil (M:=model m.prog m.w) (kv.here S H .nil)
theorem iY{sc:Sc}{ns:List PySem.Str}{e:E}{es:List E}{xs:List XP}(h:bY sc ns (e::es) xs=true){p:List XP->Prop}(k:∀x r,notStar x=true->τ sc ns e x=true->bY sc ns es r=true->p (x::r)):p xs:=by
 cases xs with
 |nil=>exact aG h
 |cons x r=>exact k x r (bl h) (bl (br h)) (br (br h))
theorem Jp{e:E}{es:List E}(h1:XE m e)(h2:gG m es):gG m (e::es):=λxs pos hc q K X Qv Ex S H kx kv=>iY (p:=λxs=>wpAny (model m.prog m.w) m.A (spliced (backTo pos (starEach xs m.env))) Qv Ex q.s) hc λx r c0 c1 c2=>by
 rw[jx c0]
 exact spliced_cons ((h1 x c1).ζ S H kx λv y q1 h S1 T1 R1=>(h2 r pos c2).ζ S1 h (kx.to T1) λvs ys q2 h S2 T2 R2=>kv _ _ q2 h S2 (T1.trans T2) (.cons (T2.vr R1) R2))
theorem jy:∀{es:List E},(∀e∈es,XE m e)->gG m es
 |[],_=>Jo
 |_::_,h=>Jp (h _ (.head _)) (jy λe m=>h e (.tail _ m))
theorem BU{T:String}{y:V}{vs:List Value}{xs:List V}{q:Q}{Qv Ex:Value->Shared->Prop}(hl:vs.length<=1000)(S:St m q)
  (r:∀nw,(q.s.heap.objs.size,({cls:=.type T,data:=.seq vs.toArray}:Obj))∈nw->Ω m.w.params nw q.g.φ vs xs->VR m.w.params nw q.g.φ (.ref q.s.heap.objs.size) y)
  (hv:mV m.w.params q.g vs xs){K:V->Loc->Hp->Prop}(kv:KV m (RV m.w.params) q K Qv)(h:K y q.ρ q.σ):wpAny (model m.prog m.w) m.A (newObj (.type T) (.seq vs.toArray)) Qv Ex q.s:=
 wpAny_newObj_type (kv _ y ⟨q.g.add q.s.heap.objs.size _,q.ρ,q.σ,_⟩ h (FR.made S _ rfl) ⟨Ext.made _,⟨rfl,rfl⟩⟩ (r _ (.head _) (Ω.up hv Up.add))) (by show vs.toArray.size<=sizeLine;rw[List.size_toArray];exact gT hl)
theorem gH{α:Type}{r:M α}{K K':α->Loc->Hp->Prop}{X:Nat->Loc->Hp->Prop}(h:tot r K X)(k:∀a ρ h,K a ρ h->K' a ρ h):tot r K' X:=by
 rcases r with _|(_|_)
 ·exact h
 ·exact k _ _ _ h
 ·exact h
theorem gI{α β:Type}{r:M β}{f:β->Loc->Hp->M α}{K:α->Loc->Hp->Prop}{X:Nat->Loc->Hp->Prop}(H:tot r (λb ρ h=>tot (f b ρ h) K X) X):tot (r.ζ f) K X:=by
 rcases r with _|(_|_)<;>exact H
theorem rL{C:Δ}{X:Nat->Loc->Hp->Prop}:∀{es:List E} {ρ:Loc} {σ:Hp} {K:List V->Loc->Hp->Prop},tot (ft C es ρ σ) K X->tot (ft C es ρ σ) (λvs ρ σ=>K vs ρ σ∧vs.length=es.length) X
 |[],_,_,_,h=>⟨h,rfl⟩
 |_::_,_,_,_,h=>gI (gH h.ζ λ_ _ _ h=>gI (gH (rL h.ζ) λ_ _ _ h=>⟨h.1,congrArg Nat.succ h.2⟩))
theorem BV{es:List E}(h:gG m es):XE m (.tup es):=λx hc=>Je (P:=bx m (.tup es)) hc λxs n p c1 c2 q K X Qv Ex S H kx kv=>Tuple_ ((h xs _ c1).at S (rL H.ζ) kx λvs ys q1 h1 S1 T1 R1=>
  have hl:vs.length<=1000:=(Ω.length R1).trans h1.2▸c2
  BU hl S1 (λnw i r=>.tup i rfl rfl (gT hl) r) R1 (kv.to T1) h1.1)
theorem Jq{es:List E}(h:gG m es):XE m (.lst es):=λx hc=>Jf (P:=bx m (.lst es)) hc λxs p c1 c2 q K X Qv Ex S H kx kv=>List_ ((h xs _ c1).at S (rL H.ζ) kx λvs ys q1 h1 S1 T1 R1=>
  have hl:vs.length<=1000:=(Ω.length R1).trans h1.2▸c2
  BU hl S1 (λnw i r=>.list i rfl rfl (gT hl) r) R1 (kv.to T1) h1.1)
theorem uz{t u:Sem Value}{ca cb:Loc->Hp->M V}(ha:ct m (RV m.w.params) t ca)(hb:ct m (RV m.w.params) u cb){q:Q}{δ:Type}{f:V->V->Loc->Hp->M δ}{K:δ->Loc->Hp->Prop}{X:Nat->Loc->Hp->Prop}{Ex:Value->Shared->Prop}{Qv:Value->Value->Shared->Prop}(S:St m q)(H:tot ((ca q.ρ q.σ).ζ λx ρ h=>(cb ρ h).ζ λy ρ h=>f x y ρ h) K X)(kx:KX m q X Ex)
  (k:∀v w y z q',tot (f y z q'.ρ q'.σ) K X->St m q'->To m q q'->RV m.w.params q'.g v y->RV m.w.params q'.g w z->Qv v w q'.s):wpAny (model m.prog m.w) m.A t (λv s=>wpAny (model m.prog m.w) m.A u (λw s=>Qv v w s) Ex s) Ex q.s:=
 ha.ζ S H kx λv y q1 h S1 T1 R1=>hb.ζ S1 h (kx.to T1) λw z q2 h S2 T2 R2=>k v w y z q2 h S2 (T1.trans T2) (T2.vr R1) R2
theorem Jr{op:fM}{a b:E}(ha:XE m a)(hb:XE m b):XE m (.bin op a b):=λx hc=>Jg (P:=bx m (.bin op a b)) hc λl r p c1 c2 q K X Qv Ex S H kx kv=>
 wpAny_BinOp (uz (ha l c1) (hb r c2) S H kx λv w y z q2 h S2 T R1 R2=>Iy S2 R1 R2 (h.o.mono λ_=>(kv.to T).hU))
theorem Jt{a:E}(ha:XE m a):XE m (.neg a):=λx hc=>xl (P:=bx m (.neg a)) (f:=τ _ _ a) hc λr p c q K X Qv Ex S H kx kv=>wpAny_UnaryOp ((ha r c).ζ S H kx λv y q1 h S1 T1 R1=>Iz S1 R1 (h.o.mono λ_=>(kv.to T1).hU))
theorem Ju{a:E}(ha:XE m a):XE m (.not a):=λx hc=>xl (P:=bx m (.not a)) (f:=τ _ _ a) hc λr p c q K X Qv Ex S H kx kv=>wpAny_UnaryOp ((ha r c).ζ S H kx λv y q1 h S1 T1 R1=>IA S1 R1 (h.om.mono λ_=>(kv.to T1).hU))
theorem Jv(M:m.Ok){op:gy}{a b:E}(ha:XE m a)(hb:XE m b):XE m (.cmp op a b):=λx hc=>BM (P:=bx m (.cmp op a b)) hc λl r p c1 c2 c3 q K X Qv Ex S H kx kv=>
 wpAny_Compare1 (uz (ha l c1) (hb r c2) S H kx λv w y z q2 h S2 T R1 R2=>pq S2 R1 R2 M.room (h.om.mono λ_=>(kv.to T).hU)) c3
theorem KV.BW{q:Q}{K:Bool->Loc->Hp->Prop}{Qv:Bool->Shared->Prop}{b:Bool}(kv:KV m rB q K Qv){Ex:Value->Shared->Prop}(h:K b q.ρ q.σ):Kont m.w.params m.base m.fr m.env m.names q.g q.s q.ρ q.σ (λv s=>wpAny (model m.prog m.w) m.A (truthy v) Qv Ex s) (.bool b):=
 λr g' s' F' E' R' S'=>mY (x:=.bool b) R' (kv b b ⟨g',q.ρ,q.σ,s'⟩ h F' ⟨E',S'⟩ rfl)
theorem tot.asc{α β γ:Type}{a:M α}{f:α->Loc->Hp->M β}{k:β->Loc->Hp->M γ}{K:γ->Loc->Hp->Prop}{X:Nat->Loc->Hp->Prop}(h:tot ((a.ζ f).ζ k) K X):tot (a.ζ λx ρ h=>(f x ρ h).ζ k) K X:=by
 rcases a with _|(_|_)<;>exact h
theorem tot.Jw{α β γ δ:Type}{a:M α}{f:α->Loc->Hp->M β}{g:α->β->Loc->Hp->M γ}{k:γ->Loc->Hp->M δ}{K:δ->Loc->Hp->Prop}{X:Nat->Loc->Hp->Prop}(h:tot ((a.ζ λx ρ h=>(f x ρ h).ζ λy ρ h=>g x y ρ h).ζ k) K X):tot (a.ζ λx ρ h=>(f x ρ h).ζ λy ρ h=>(g x y ρ h).ζ k) K X:=by
 rcases a with _|(⟨x,ρ,σ⟩|_)
 ·exact h
 ·exact tot.asc h
 ·exact h
theorem tot.BX{o:Option Bool}{ρ:Loc}{σ:Hp}{K:Bool->Loc->Hp->Prop}{X:Nat->Loc->Hp->Prop}(H:tot ((Mine.up (o.map V.bool) ρ σ).ζ λy ρ h=>Mine.up (a_ y) ρ h) K X):tt o λb=>K b ρ σ:=by cases o<;>exact H
theorem Jx(M:m.Ok){op:gy}{a b:E}(ha:XE m a)(hb:XE m b):XT m (.cmp op a b):=λx hc=>BM (P:=m_ m (.cmp op a b)) hc λl r p c1 c2 c3 q K X Qv Ex S H kx kv=>
 wpAny_isTrue_Compare1 (uz (ha l c1) (hb r c2) S (tot.Jw H) kx λv w y z q2 h S2 T R1 R2=>pq S2 R1 R2 M.room (h.BX.mono λ_=>(kv.to T).BW)) c3
noncomputable def lz(x:XP):Bool:= !(tg x 7&&decide ((nd x).uo=.Not))&&(!tg x 8&&(!tg x 10&& !tg x 9))
theorem BY{x:XP}(h:lz x=true)(env:Env)(whole:Sem Value):isTrue x env whole=(do let v<-whole;standAt x.pos;holding [v] (truthy v)):=by
 cases x<;>first|rfl|exact aG h|(rename_i op _ _;cases op<;>first|rfl|exact aG h)
theorem Jy{e:E}(he:XE m e)(hp:∀sc ns x,τ sc ns e x=true->lz x=true)(ht:∀sc ns x,pE sc ns e x=τ sc ns e x):XT m e:=λx hc q K X Qv Ex S H kx kv=>by
 have hc:=(ht _ _ _).symm.trans hc
 exact isTrue_plain ((he x hc).ζ S H kx λv y q1 h S1 T1 R1=>mY R1 (h.o.mono λb h=>kv b b q1 h S1 T1 rfl)) (BY (hp _ _ x hc) _ _)
theorem Jz{o:Option Bool}{ρ:Loc}{σ:Hp}{K:Bool->Loc->Hp->Prop}{X:Nat->Loc->Hp->Prop}(h:tot ((up (o.map λb=>V.bool (!b)) ρ σ).ζ λy ρ h=>up (a_ y) ρ h) K X):tot (up o ρ σ) (λb=>K (!b)) X:=by
 cases o<;>exact h
theorem JA{a:E}(ha:XT m a):XT m (.not a):=λx hc=>xl (P:=m_ m (.not a)) (f:=τ _ _ a) hc λr p c q K X Qv Ex S H kx kv=>
 wpAny_isTrue_Not ((ha r (jv c)).at (K:=λb=>K (!b)) S (gI (gH (tot.ζ (tot.asc H)) λy ρ h=>Jz)) kx λv y q1 h S1 T1 R1=>kv _ _ q1 (R1▸h) S1 T1 rfl)
theorem BZ{α:Type}{o:Option Bool}{a b:Loc->Hp->M α}{ρ:Loc}{σ:Hp}{K:α->Loc->Hp->Prop}{X:Nat->Loc->Hp->Prop}(h:tot (dh o (a ρ σ) (b ρ σ)) K X):tot (up o ρ σ) (λt ρ h=>tot (if t=true then a ρ h else b ρ h) K X) X:=by rcases o with _|_|_<;>exact h
theorem JB{c a b:E}(hc:XT m c)(ha:XE m a)(hb:XE m b):XE m (.ite c a b):=λx hk=>BO (P:=bx m (.ite c a b)) hk λt l r p k1 k2 k3 q K X Qv Ex S H kx kv=>
 wpAny_IfExp ((hc t (jv k1)).at (K:=λt ρ h=>tot (if t=true then ν m.C a ρ h else ν m.C b ρ h) K X) S (gI (gH (tot.ζ H) λy ρ h=>BZ)) kx λv t q1 h S1 T1 R1=>by
 cases R1
 cases v
 ·exact(hb r k3).at S1 h (kx.to T1) (kv.to T1)
 ·exact(ha l k2).at S1 h (kx.to T1) (kv.to T1))
theorem JC{a i:E}(ha:XE m a)(hi:XE m i):XE m (.sub a i):=λx hc=>Jh (P:=bx m (.sub a i)) hc λl r p c1 c2 c3 q K X Qv Ex S H kx kv=>
 Subscript_ (uz (ha l c1) (hi r c2) S H kx λv w y z q2 h S2 T R1 R2=>IF c3 S2 R1 R2 (h.o.mono λ_=>(kv.to T).hU))
end
end
section
section
variable{M:Model}{A:Around}{Ex:Value->Shared->Prop}{s:Shared}{env:Env}
theorem uA{f:Value}{L:List (Bool×Sem Value)}{Q:Args->Shared->Prop}(hp:L.any (·.1)=false)(h:wpAny M A (spliced L) (λvs s'=>Q ⟨vs,[]⟩ s') Ex s):wpAny M A (evalArgs f true L []) Q Ex s:=by
 cases L with
 |nil=>exact wpAny_bind (wpAny_mono h (λvs s' h'=>wpAny_bind (wpAny_pure (wpAny_holding (wpAny_bind (wpAny_pure (wpAny_bind (wpAny_pure (wpAny_pure h')))))))) λ_ _ x=>x)
 |cons p r=>
  obtain⟨_|_,x⟩:=p
  ·exact evalArgs_plain h
  ·exact Bool.noConfusion hp
theorem lA{pos:Pos}{id:String}{first:List Value}{L:List (Bool×Sem Value)}{Q:Value->Shared->Prop}(hp:L.any (·.1)=false)
  (h:wpAny M A (spliced L) (λvs ar=>wpAny M A (call (.builtin id) (first++vs)) Q Ex ar) Ex s):wpAny M A (callWith pos (.builtin id) first L []) Q Ex s:=
 callWith_builtin hp (uA hp h)
theorem rM{pos:Pos}{T:String}{first:List Value}{L:List (Bool×Sem Value)}{Q:Value->Shared->Prop}(hp:L.any (·.1)=false)
  (h:wpAny M A (spliced L) (λvs ar=>wpAny M A (call (.type T) (first++vs)) Q Ex ar) Ex s):wpAny M A (callWith pos (.type T) first L []) Q Ex s:=
 PyProof.Rows.callWith_type hp (uA hp h)
theorem B0{o:PySem.Expr}{attr:PySem.Str}(h:js o=true)(whole:Sem Value):attributeBase o attr env whole=whole:=by
 cases o<;>first|rfl|exact aG h
theorem pF{o:PySem.Expr}{name:PySem.Str}{apos pos:Pos}{args:List PySem.Expr}{Q:Value->Shared->Prop}(hb:js o=true)(hs:(backTo pos (starEach args env)).any (·.1)=false)(hn:args.length<30)(JD:(apos.endLine==pos.line)=true)
  (h:wpAny M A (eval o env) (λov ar=>∀pl,wpAny M A (getMethod ov name pl) (λfx fu=>wpAny M A (callWith pos fx.1 fx.2 (backTo pos (starEach args env)) []) Q Ex fu) Ex ar) Ex s):
  wpAny M A (eval (.Call (.Attribute o name apos) args [] pos) env) Q Ex s:=by
 rw[arm_eval_Call,B0 hb]
 refine wpAny_bind (wpAny_mono h (λov ar bj=>wpAny_bind (wpAny_standAt ?_)) λ_ _ e=>e)
 have JE:methodCallForm (args.length+([]:List Keyword).length) (backTo pos (starEach args env)) (backToKw pos (keywordEach [] env))=true:=by
  have e1:(backTo pos (starEach args env)).all (λx=> !x.1)=true:=dM.mpr λx hx=>by rw[Bool.eq_false_iff.mpr (List.any_eq_false.mp hs x hx)];rfl
  unfold methodCallForm
  rw[e1]
  exact decide_eq_true hn
 have JF:methodCallPos true o env apos pos=pure pos:=by unfold methodCallPos;rw[JD];rfl
 unfold methodCall
 rw[JE]
 exact wpAny_bind (wpAny_holding (wpAny_mono (bj _) (λfx fu cB=>wpAny_bind (wpAny_of_eq JF cB)) λ_ _ x=>x))
theorem nh{sc:Sc}{ns:List PySem.Str}{pos:Pos}:∀{es:List E} {xs:List XP},bY sc ns es xs=true->(backTo pos (starEach xs env)).any (·.1)=false
 |[],xs,h=>by rw[cZ.mp h];rfl
 |_::_,xs,h=>iY (p:=λxs=>(backTo pos (starEach xs env)).any (·.1)=false) h λx r c0 c1 c2=>by rw[jx c0];exact nh c2
end
section
variable{m:Fx}
theorem B1{e:E}{P:List XP->Prop}(h:XE m e){xs:List XP}(hc:bY m.env.scope.names m.names [e] xs=true)(k:∀x,τ m.env.scope.names m.names e x=true->P [x]):P xs:=
 iY hc λx r c0 c1 c2=>by rw[cZ.mp c2];exact k x c1
theorem B2{pos:Pos}:∀{es:List E},(∀e∈es,XE m e)->∀{xs:List XP},bY m.env.scope.names m.names es xs=true->ct m (RV m.w.params) (boolOp pos .And (evalEach xs m.env)) (evalAnd m.C es)
 |[],_,_,_=>λ_ _ _ _ _ _ H _ _=>H.elim
 |[e],h,xs,hc=>B1 (P:=λxs=>ct m (RV m.w.params) (boolOp pos .And (evalEach xs m.env)) (ν m.C e)) (h _ (.head _)) hc (h _ (.head _))
 |e::e2::es,h,xs,hc=>iY (p:=λxs=>ct m (RV m.w.params) (boolOp pos .And (evalEach xs m.env)) (evalAnd m.C (e::e2::es))) hc λx r c0 c1 c2=>by
  have ih:=B2 (pos:=pos) (λe m=>h e (.tail _ m)) c2
  revert ih
  refine iY (p:=λr=>ct m _ (boolOp pos .And (evalEach r m.env)) _->ct m _ (boolOp pos .And (evalEach (x::r) m.env)) _) c2 λx2 r2 _ _ _ ih q K X Qv Ex S H kx kv=>?_
  exact wpAny_bind ((h _ (.head _) x c1).ζ (f:=λx ρ h=>dh (a_ x) (evalAnd m.C (e2::es) ρ h) (some (.ok x ρ h))) S H kx λv y q1 h1 S1 T1 R1=>wpAny_bind (wpAny_standAt (wpAny_bind (wpAny_holding (mY R1 (h1.br.mono λt h1=>by
   cases t with
   |false=>exact wpAny_pure (kv v y q1 h1 S1 T1 R1)
   |true=>exact ih.at S1 h1 (kx.to T1) (kv.to T1)))))))
theorem B3{pos:Pos}:∀{es:List E},(∀e∈es,XE m e)->∀{xs:List XP},bY m.env.scope.names m.names es xs=true->ct m (RV m.w.params) (boolOp pos .Or (evalEach xs m.env)) (evalOr m.C es)
 |[],_,_,_=>λ_ _ _ _ _ _ H _ _=>H.elim
 |[e],h,xs,hc=>B1 (P:=λxs=>ct m (RV m.w.params) (boolOp pos .Or (evalEach xs m.env)) (ν m.C e)) (h _ (.head _)) hc (h _ (.head _))
 |e::e2::es,h,xs,hc=>iY (p:=λxs=>ct m (RV m.w.params) (boolOp pos .Or (evalEach xs m.env)) (evalOr m.C (e::e2::es))) hc λx r c0 c1 c2=>by
  have ih:=B3 (pos:=pos) (λe m=>h e (.tail _ m)) c2
  revert ih
  refine iY (p:=λr=>ct m _ (boolOp pos .Or (evalEach r m.env)) _->ct m _ (boolOp pos .Or (evalEach (x::r) m.env)) _) c2 λx2 r2 _ _ _ ih q K X Qv Ex S H kx kv=>?_
  exact wpAny_bind ((h _ (.head _) x c1).ζ (f:=λx ρ h=>dh (a_ x) (some (.ok x ρ h)) (evalOr m.C (e2::es) ρ h)) S H kx λv y q1 h1 S1 T1 R1=>wpAny_bind (wpAny_standAt (wpAny_bind (wpAny_holding (mY R1 (h1.br.mono λt h1=>by
   cases t with
   |true=>exact wpAny_pure (kv v y q1 h1 S1 T1 R1)
   |false=>exact ih.at S1 h1 (kx.to T1) (kv.to T1)))))))
theorem JG{es:List E}(h:∀e∈es,XE m e):XE m (.and es):=λx hc=>ux (P:=bx m (.and es)) (f:=bY _ _ es) hc λxs p c=>B2 h c
theorem JH{es:List E}(h:∀e∈es,XE m e):XE m (.or es):=λx hc=>ux (P:=bx m (.or es)) (f:=bY _ _ es) hc λxs p c=>B3 h c
section
variable{y:V}{a b:Loc->Hp->M V}{ρ:Loc}{σ:Hp}{K:Bool->Loc->Hp->Prop}{X:Nat->Loc->Hp->Prop}
noncomputable abbrev tV(y:V)(ρ:Loc)(h:Hp):M Bool:=up (a_ y) ρ h
theorem JI(h:tot ((dh (a_ y) (a ρ σ) (some (.ok y ρ σ))).ζ tV) K X):tot (tV y ρ σ) (λt ρ h=>if t=true then tot ((a ρ h).ζ tV) K X else K false ρ h) X:=by
 show tot (up (a_ y) ρ σ) _ X
 cases e:a_ y with
 |none=>rw[e]at h;exact h
 |some t=>
  rw[e]at h
  cases t with
  |true=>exact h
  |false=>
   have h:tot (up (a_ y) ρ σ) K X:=h
   rw[e]at h;exact h
theorem JJ(h:tot ((dh (a_ y) (some (.ok y ρ σ)) (a ρ σ)).ζ tV) K X):tot (tV y ρ σ) (λt ρ h=>if t=true then K true ρ h else tot ((a ρ h).ζ tV) K X) X:=by
 show tot (up (a_ y) ρ σ) _ X
 cases e:a_ y with
 |none=>rw[e]at h;exact h
 |some t=>
  rw[e]at h
  cases t with
  |false=>exact h
  |true=>
   have h:tot (up (a_ y) ρ σ) K X:=h
   rw[e]at h;exact h
theorem JK(h:tot ((dh (a_ y) (a ρ σ) (b ρ σ)).ζ tV) K X):tot (tV y ρ σ) (λt ρ h=>if t=true then tot ((a ρ h).ζ tV) K X else tot ((b ρ h).ζ tV) K X) X:=by
 show tot (up (a_ y) ρ σ) _ X
 revert h
 rcases a_ y with _|_|_<;>exact id
end
theorem B4{pos:Pos}:∀{es:List E},(∀e∈es,XT m e)->∀{xs:List XP} (whole:Sem Value),bY m.env.scope.names m.names es xs=true->ct m rB (isTrue (.BoolOp .And xs pos) m.env whole) λρ h=>(evalAnd m.C es ρ h).ζ tV
 |[],_,_,_,_=>λ_ _ _ _ _ _ H _ _=>H.elim
 |[e],h,xs,whole,hc=>iY (p:=λxs=>ct m rB (isTrue (.BoolOp .And xs pos) m.env whole) λρ h=>(ν m.C e ρ h).ζ tV) hc λx r c0 c1 c2 q K X Qv Ex S H kx kv=>by
  rw[cZ.mp c2]
  refine isTrue_and ((h _ (.head _) x (jv c1)).at S H kx λv b q1 h1 S1 T1 R1=>?_)
  cases v
  ·exact kv _ _ q1 h1 S1 T1 R1
  ·exact isTrue_and_nil (kv _ _ q1 h1 S1 T1 R1)
 |e::e2::es,h,xs,whole,hc=>iY (p:=λxs=>ct m rB (isTrue (.BoolOp .And xs pos) m.env whole) λρ h=>(evalAnd m.C (e::e2::es) ρ h).ζ tV) hc λx r c0 c1 c2 q K X Qv Ex S H kx kv=>
  isTrue_and ((h _ (.head _) x (jv c1)).at S (gI (gH (tot.ζ (tot.asc H)) λy ρ h H=>JI H)) kx λv b q1 h1 S1 T1 R1=>by
   cases R1
   cases v
   ·exact kv _ _ q1 h1 S1 T1 rfl
   ·exact(B4 (pos:=pos) (λe m=>h e (.tail _ m)) whole c2).at S1 h1 (kx.to T1) (kv.to T1))
theorem tor{pos:Pos}:∀{es:List E},(∀e∈es,XT m e)->∀{xs:List XP} (whole:Sem Value),bY m.env.scope.names m.names es xs=true->ct m rB (isTrue (.BoolOp .Or xs pos) m.env whole) λρ h=>(evalOr m.C es ρ h).ζ tV
 |[],_,_,_,_=>λ_ _ _ _ _ _ H _ _=>H.elim
 |[e],h,xs,whole,hc=>iY (p:=λxs=>ct m rB (isTrue (.BoolOp .Or xs pos) m.env whole) λρ h=>(ν m.C e ρ h).ζ tV) hc λx r c0 c1 c2 q K X Qv Ex S H kx kv=>by
  rw[cZ.mp c2]
  refine isTrue_or ((h _ (.head _) x (jv c1)).at S H kx λv b q1 h1 S1 T1 R1=>?_)
  cases v
  ·exact isTrue_or_nil (kv _ _ q1 h1 S1 T1 R1)
  ·exact kv _ _ q1 h1 S1 T1 R1
 |e::e2::es,h,xs,whole,hc=>iY (p:=λxs=>ct m rB (isTrue (.BoolOp .Or xs pos) m.env whole) λρ h=>(evalOr m.C (e::e2::es) ρ h).ζ tV) hc λx r c0 c1 c2 q K X Qv Ex S H kx kv=>
  isTrue_or ((h _ (.head _) x (jv c1)).at S (gI (gH (tot.ζ (tot.asc H)) λy ρ h H=>JJ H)) kx λv b q1 h1 S1 T1 R1=>by
   cases R1
   cases v
   ·exact(tor (pos:=pos) (λe m=>h e (.tail _ m)) whole c2).at S1 h1 (kx.to T1) (kv.to T1)
   ·exact kv _ _ q1 h1 S1 T1 rfl)
theorem JL{es:List E}(h:∀e∈es,XT m e):XT m (.and es):=λx hc=>ux (P:=m_ m (.and es)) (f:=bY _ _ es) hc λxs p c=>B4 h _ c
theorem JM{es:List E}(h:∀e∈es,XT m e):XT m (.or es):=λx hc=>ux (P:=m_ m (.or es)) (f:=bY _ _ es) hc λxs p c=>tor h _ c
theorem JN{c a b:E}(hc:XT m c)(ha:XT m a)(hb:XT m b):XT m (.ite c a b):=λx hk=>BO (P:=m_ m (.ite c a b)) hk λt l r p k1 k2 k3 q K X Qv Ex S H kx kv=>
 isTrue_IfExp ((hc t (jv k1)).at S (gI (gH (tot.ζ (tot.asc H)) λy ρ h H=>JK H)) kx λt y q1 h1 S1 T1 R1=>by
  cases R1
  cases t
  ·exact(hb r (jv k3)).at S1 h1 (kx.to T1) (kv.to T1)
  ·exact(ha l (jv k2)).at S1 h1 (kx.to T1) (kv.to T1))
end
end
section
section
variable{m:Fx}
theorem JO(M:m.Ok){o1 o2:gy}{a b c:E}(ha:XE m a)(hb:XE m b)(hc:XE m c):XE m (.fR o1 o2 a b c):=λx hk=>BN (P:=bx m (.fR o1 o2 a b c)) hk λl r1 r2 p c1 c2 c3 c4 q K X Qv Ex S H kx kv=>
 Compare_chain ((ha l c1).ζ S H kx λv y q1 h1 S1 T1 R1=>chain_link ((hb r1 c2).ζ S1 h1 (kx.to T1) λw z q2 h2 S2 T2 R2=>pq S2 (T2.vr R1) R2 M.room (h2.br.mono λt h2 r g3 s3 F3 E3 R3 Q3=>mY (x:=.bool t) R3 (by
   have T3:To m q ⟨g3,q2.ρ,q2.σ,s3⟩:=(T1.trans T2).trans ⟨E3,Q3⟩
   cases t with
   |false=>exact kv r _ ⟨g3,q2.ρ,q2.σ,s3⟩ h2 F3 T3 R3
   |true=>exact chain_last ((hc r2 c3).ζ (q:=⟨g3,q2.ρ,q2.σ,s3⟩) F3 h2 (kx.to T3) λu z3 q4 h4 S4 T4 R4=>pq S4 (T4.vr (E3.vr R2)) R4 M.room (h4.om.mono λ_=>(kv.to (T3.trans T4)).hU)))))) c4
theorem tot.JP{o:Option Bool}{a:M V}{ρ:Loc}{σ:Hp}{K:Bool->Loc->Hp->Prop}{X:Nat->Loc->Hp->Prop}(H:tot ((dh o a (some (.ok (.bool false) ρ σ))).ζ tV) K X):tt o λt=>if t=true then tot (a.ζ tV) K X else K false ρ σ:=by rcases o with _|_|_<;>exact H
theorem JQ(M:m.Ok){o1 o2:gy}{a b c:E}(ha:XE m a)(hb:XE m b)(hc:XE m c):XT m (.fR o1 o2 a b c):=λx hk=>BN (P:=m_ m (.fR o1 o2 a b c)) hk λl r1 r2 p c1 c2 c3 c4 q K X Qv Ex S H kx kv=>
 isTrue_chain ((ha l c1).ζ S (tot.asc H) kx λv y q1 h1 S1 T1 R1=>test_link ((hb r1 c2).ζ S1 (tot.asc h1) (kx.to T1) λw z q2 h2 S2 T2 R2=>pq S2 (T2.vr R1) R2 M.room (h2.JP.mono λt h2 r g3 s3 F3 E3 R3 Q3=>mY (x:=.bool t) R3 (by
   have T3:To m q ⟨g3,q2.ρ,q2.σ,s3⟩:=(T1.trans T2).trans ⟨E3,Q3⟩
   cases t with
   |false=>exact kv _ _ ⟨g3,q2.ρ,q2.σ,s3⟩ h2 F3 T3 rfl
   |true=>exact test_last ((hc r2 c3).ζ (q:=⟨g3,q2.ρ,q2.σ,s3⟩) F3 (tot.asc h2) (kx.to T3) λu z3 q4 h4 S4 T4 R4=>pq S4 (T4.vr (E3.vr R2)) R4 M.room (h4.BX.mono λ_=>(kv.to (T3.trans T4)).BW)))))) c4
noncomputable def OR(P:Params)(g:Gh)(v:Value)(o:Option V):Prop:=match o with
 |none=>v=Value.none
 |some y=>RV P g v y
noncomputable def XO(o:Option E):Prop:=∀x,rI m.env.scope.names m.names o x=true->ct m (OR m.w.params) (evalPart x m.env) (mR m.C o)
theorem B5:XO (m:=m) .none:=λx hc q K X Qv Ex S H _ kv=>by
 obtain rfl:=kT.mp hc
 exact wpAny_pure (M:=model m.prog m.w) (a:=Value.none) (kv.here S H rfl)
theorem B6{e:E}(h:XE m e):XO (m:=m) (some e):=λx hc=>by
 cases x with
 |none=>cases hc
 |some x=>exact λq K X Qv Ex S H kx kv=>(h x hc).ζ S H kx λv y q1 h1 S1 T1 R1=>kv v (some y) q1 h1 S1 T1 R1
theorem part_of{P:Params}{g:Gh}{v:Value}{o:Option V}{α:Type}{f:Option Int->Option α}{K:α->Prop}{p:Value->Prop}(h:OR P g v o)(H:tt ((j7 o).bind f) K)(k:∀r v,IsPart v r->tt (f r) K->p v):p v:=by
 rcases o with _|y
 ·cases(h:v=.none);exact k _ _ .none H
 ·have H:tt (b6 y λi=>f (some i)) K:=by cases y<;>exact H
  exact VR.I h H λi t=>k _ _ (.int i t)
theorem JR{q q1:Q}{v:Value}{o:Option V}(x:To m q q1)(a:OR m.w.params q.g v o):OR m.w.params q1.g v o:=by
 cases o with
 |none=>exact a
 |some y=>exact x.vr a
theorem JS{a:E}{lo hi:Option E}(ha:XE m a)(rN:XO (m:=m) lo)(xo:XO (m:=m) hi):XE m (.ae a lo hi):=λx hc=>Ji (P:=bx m (.ae a lo hi)) hc λl u v p p' c1 c2 c3 q K X Qv Ex S H kx kv=>
 Subscript_ ((ha l c1).ζ S H kx λva y q1 h1 S1 T1 R1=>wpAny_Slice ((rN u c2).ζ S1 h1 (kx.to T1) λvl yl q2 h2 S2 T2 R2=>(xo v c3).ζ S2 h2 (kx.to (T1.trans T2)) λvu yu q3 h3 S3 T3 R3=>wpAny_pure (M:=model m.prog m.w) (a:=Value.none) (
  part_of (p:=λvl=>wpAny (model m.prog m.w) m.A (subscriptTail l (.Slice u v none p') va (.ref q3.s.heap.objs.size)) Qv Ex {q3.s with heap:=q3.s.heap.push {cls:=.type "slice",data:=.fields #[vl,vu,.none]}}) (JR T3 R2) h3.o λl' vl pl H=>
  part_of (p:=λvu=>wpAny (model m.prog m.w) m.A (subscriptTail l (.Slice u v none p') va (.ref q3.s.heap.objs.size)) Qv Ex {q3.s with heap:=q3.s.heap.push {cls:=.type "slice",data:=.fields #[vl,vu,.none]}}) R3 H λu' vu pu H=>
  IG (s:={q3.s with heap:=q3.s.heap.push {cls:=.type "slice",data:=.fields #[vl,vu,.none]}}) (FR.push S3 _) (T3.vr (T2.vr R1)) (Heap.get?_push_size _ rfl) rfl rfl pl pu
   (H.mono λ_=>KV.hU (q:=⟨q3.g,q3.ρ,q3.σ,{q3.s with heap:=q3.s.heap.push {cls:=.type "slice",data:=.fields #[vl,vu,.none]}}⟩) (kv.to (((T1.trans T2).trans T3).trans ⟨Ext.push _,rfl,rfl⟩))))))
structure JT (sc:Sc) (id:PySem.Str) (n:String):Prop where
 e:id=PySem.Str.ofString n
 l:sc.lookup id=some .globalImplicit
 d:(id==PySem.Str.ofString "__debug__")=false
theorem lB{sc:Sc}{id:PySem.Str}{n:String}(h:gi sc id n=true):JT sc id n:=⟨bd (bl h),bd (bl (br h)),bn (br (br h))⟩
theorem lC(M:m.Ok){n:String}{p:Pos}{v:Value}{q:Q}{Qv Ex:Value->Shared->Prop}(hg:gi m.env.scope.names (PySem.Str.ofString n) n=true)(hn:n∈freeNames)(hv:bootBuiltins (PySem.Str.ofString n)=some v)
  (S:St m q)(h:Qv v q.s):wpAny (model m.prog m.w) m.A (eval (.Name (PySem.Str.ofString n) p) m.env) Qv Ex q.s:=by
 obtain⟨mg,mb,G,B,bi⟩:=M.top.w_
 have nn:PySem.Str.ofString n≠PySem.Str.ofString "__name__":=(by decide+kernel:∀n∈freeNames,PySem.Str.ofString n≠PySem.Str.ofString "__name__") n hn
 exact Name_function_global (FR.cg S).kind (lB hg).l (loadGlobal_builtin (env:=m.env) ((FR.cg S).globals▸G.keeps (FR.hr S).stays) (mg_none_of M.top.X G (M.free n hn)) ((FR.cg S).builtins▸B.keeps (FR.hr S).stays) ((bi _ nn).trans hv) h) (lB hg).d
theorem globK(M:Amb0 m.base m.K m.names){n:String}{p:Pos}{v:Value}{q:Q}{Qv Ex:Value->Shared->Prop}(hg:gi m.env.scope.names (PySem.Str.ofString n) n=true)
  (hv:nsIn m.K mainGlobals (PySem.Str.ofString n)=some (some v))(S:St m q)(h:Qv v q.s):wpAny (model m.prog m.w) m.A (eval (.Name (PySem.Str.ofString n) p) m.env) Qv Ex q.s:=by
 obtain⟨mg,mb,G,B,bi⟩:=M.top.w_
 exact Name_function_global (FR.cg S).kind (lB hg).l (loadGlobal_global (env:=m.env) ((FR.cg S).globals▸G.keeps (FR.hr S).stays) (mg_of M.top.X G hv) h) (lB hg).d
theorem rO{x:XP}{pos:Pos}(h0:notStar x=true){env:Env}{M:Model}{A:Around}{Qv:List Value->Shared->Prop}{Ex:Value->Shared->Prop}{s:Shared}(h:wpAny M A (eval x env) (λv s=>Qv [v] s) Ex s):wpAny M A (spliced (backTo pos (starEach [x] env))) Qv Ex s:=by
 rw[jx h0]
 exact spliced_cons (wpAny_mono h (λv s h=>spliced_nil h) λ_ _ h=>h)
theorem lE{x:XP}{pos:Pos}{env:Env}(h0:notStar x=true):(backTo pos (starEach [x] env)).any (·.1)=false:=by
 rw[jx h0];rfl
theorem boot_len:bootBuiltins (PySem.Str.ofString "len")=some (.builtin "len"):=by boot_fast
theorem boot_ord:bootBuiltins (PySem.Str.ofString "ord")=some (.builtin "ord"):=by boot_fast
theorem boot_str:bootBuiltins (PySem.Str.ofString "str")=some (.type "str"):=by boot_fast
theorem boot_tuple:bootBuiltins (PySem.Str.ofString "tuple")=some (.type "tuple"):=by boot_fast
theorem boot_range:bootBuiltins (PySem.Str.ofString "range")=some (.type "range"):=by boot_fast
theorem JU:bootBuiltins (PySem.Str.ofString "Exception")=some (.type "Exception"):=by boot_fast
theorem JV{q:Q}{x:V}{v:Value}{Qv Ex:Value->Shared->Prop}(S:St m q)(hv:RV m.w.params q.g v x)
  (Kk:tt (k8 .tuple x) (Kont m.w.params m.base m.fr m.env m.names q.g q.s q.ρ q.σ Qv)):wpAny (model m.prog m.w) m.A (call (.type "tuple") [v]) Qv Ex q.s:=
 VR.L (p:=λv=>wpAny (model m.prog m.w) m.A (call (.type "tuple") [v]) Qv Ex q.s) hv Kk λa xs o vs n r Kk=>call_tuple_list ⟨o,(FR.hr S).aE _ r.m|>.1,r.c,n,r.d⟩ (λh' hk=>
  Kk _ (q.g.add h'.objs.size {cls:=.type "tuple",data:=.seq vs.toArray}) _ (FR.made (FR.keeps S hk) _ rfl) ((Ext.keeps hk).trans (Ext.made _)) (VR.tup (vs:=vs) (n:=0) (.head _) rfl rfl r.l (r.r.up Up.add)) ⟨rfl,rfl⟩) r.l
theorem JW(M:m.Ok){b:Bi}{a:E}(ha:XE m a):XE m (.bi b a):=λx hc=>BQ (P:=bx m (.bi b a)) (n:=Bx b) (f:=λy=>notStar y&&τ _ _ a y) hc λp y p' g c q K X Qv Ex S H kx kv=>wpAny_Call_ofName (by
 have arg:∀{R:List Value->Shared->Prop},(∀v y q1,tt (k8 b y) (Kont m.w.params m.base m.fr m.env m.names q1.g q1.s q1.ρ q1.σ Qv)->St m q1->RV m.w.params q1.g v y->R [v] q1.s)->wpAny (model m.prog m.w) m.A (spliced (backTo p' (starEach [y] m.env))) R Ex q.s:=
  λk=>rO (bl c) ((ha y (br c)).ζ S H kx λv y q1 h1 S1 T1 R1=>k v y q1 (h1.o.mono λ_=>(kv.to T1).hU) S1 R1)
 cases b with
 |len=>exact lC M g (by decide) boot_len S (lA (lE (bl c)) (arg λv y q1 k S1 R1=>IX S1 R1 k))
 |ord=>exact lC M g (by decide) boot_ord S (lA (lE (bl c)) (arg λv y q1 k S1 R1=>IY S1 R1 k))
 |str=>exact lC M g (by decide) boot_str S (rM (lE (bl c)) (arg λv y q1 k S1 R1=>IZ S1 R1 k))
 |tuple=>exact lC M g (by decide) boot_tuple S (rM (lE (bl c)) (arg λv y q1 k S1 R1=>JV S1 R1 k)))
theorem jz{nm:PySem.Str}{id:String}{x:V}{v:Value}{q:Q}{pl:Sem Bool}{Qv:Value×List Value->Shared->Prop}{Ex:Value->Shared->Prop}(e1:PySem.Slot "str" nm id)(e2:typeOf (.builtin id)=pure (.type "method_descriptor"))(hx:AV x=true)(hv:RV m.w.params q.g v x)
  (h:Qv (.builtin id,[v]) q.s):wpAny (model m.prog m.w) m.A (getMethod v nm pl) Qv Ex q.s:=by
 cases hv<;>first|exact getMethod_builtin (typeIs_str _ _ _) PySem.F.plainAttrs_str e1 e2 (λa e=>nomatch e) h|exact aG hx
theorem JX{t:Mt}{x:V}{v:Value}{q:Q}{pl:Sem Bool}{Qv:Value×List Value->Shared->Prop}{Ex:Value->Shared->Prop}(hz:ua t x=true)(S:St m q)(hv:RV m.w.params q.g v x)
  (h:Qv (.builtin (Bg t),[v]) q.s):wpAny (model m.prog m.w) m.A (getMethod v (PySem.Str.ofString (By t)) pl) Qv Ex q.s:=by
 cases t with
 |lower=>exact jz PySem.F.slot_str_lower PySem.F.type_str_lower hz hv h
 |isalnum=>exact jz PySem.F.slot_str_isalnum PySem.F.type_str_isalnum hz hv h
 |isdigit=>exact jz PySem.F.slot_str_isdigit PySem.F.type_str_isdigit hz hv h
 |startswith=>exact jz PySem.F.slot_str_startswith PySem.F.type_str_startswith hz hv h
 |find=>exact jz PySem.F.slot_str_find PySem.F.type_str_find hz hv h
 |index=>exact jz PySem.F.slot_str_index PySem.F.type_str_index hz hv h
 |join=>exact jz PySem.F.slot_str_join PySem.F.type_str_join hz hv h
 |get=>
  cases hv with
  |dict i c d=>exact getMethod_builtin ⟨_,((FR.hr S).aE _ i).1,c.1⟩ PySem.F.plainAttrs_dict PySem.F.slot_dict_get PySem.F.type_dict_get (λa e=>by cases e;exact⟨_,((FR.hr S).aE _ i).1,c.2.1⟩) h
  |_=>exact aG hz
theorem JY{t:Mt}{r:E}{args:List E}(hr:XE m r)(ha:gG m args):XE m (.met t r args):=λx hc=>rK (P:=bx m (.met t r args)) (f:=λo xs=>js o&&(τ _ _ r o&&(bY _ _ args xs&&decide (xs.length<30)))) hc λo ap xs p c0 c q K X Qv Ex S H kx kv=>
 have c3:=bl (br (br c))
 pF (bl c) (nh c3) (of_decide_eq_true (br (br (br c)))) c0 ((hr o (bl (br c))).ζ S H kx λv y q1 h1 S1 T1 R1 pl=>h1.if λok h1=>
  JX ok S1 R1 (lA (nh c3) ((ha xs p c3).ζ S1 h1 (kx.to T1) λvs ys q2 h2 S2 T2 R2=>IU S2 (T2.vr R1) R2 (h2.o.mono λ_=>(kv.to (T1.trans T2)).hU))))
end
end
section
section
variable{m:Fx}
noncomputable def lF(m:Fx)(q:Q)(i:Nat)(a:Addr):Prop:=∃x ol es ep,m.names[i]?=some x∧q.s.heap.get? m.env.locals=some ol∧ol.data=.dict es ep∧m.env.kindOf x=some .local∧nsFind es x=some (.ref a)
theorem lF.to{q q1:Q}{i:Nat}{a:Addr}(O:lF m q i a)(S:St m q)(T:To m q q1):lF m q1 i a:=
 O.imp λ_ O=>O.elim λ_ O=>O.elim λes O=>O.elim λep O=>(T.e.loc _ _ (FR.loc S) O.2.1).imp λ_ z=>⟨es,ep,O.1,z.1,z.2.trans O.2.2.1,O.2.2.2⟩
theorem lF.r{q:Q}{i:Nat}{a:Addr}{ys:List V}(O:lF m q i a)(S:St m q)(hr:q.ρ[i]?=some (.own ys)){p:Prop}(k:∀o vs n,pA m.w.params q.g q.s.heap i ys a o vs n->p):p:=by
 obtain⟨x,ol,es,ep,hx,h1,h2,_,h3⟩:=O
 obtain⟨_,_,_,q1,q2,_,q4⟩:=FR.vars S
 cases h1.symm.trans q1
 cases h2.symm.trans q2
 obtain⟨a',o,vs,n,a1,a2,a3,a4,a5,a6,a7⟩:=q4 i x _ hx hr
 cases h3.symm.trans a1.2
 exact k o vs n ⟨a2,a3,a4,a5,a6,a7⟩
theorem pG(M:m.Ok){i:Nat}{x:XP}{ys:List V}{q:Q}{Qv Ex:Value->Shared->Prop}(hn:dA m.names i x=true)(S:St m q)(hr:q.ρ[i]?=some (.own ys))(h:∀a,lF m q i a->Qv (.ref a) q.s):wpAny (model m.prog m.w) m.A (eval x m.env) Qv Ex q.s:=
 iX (P:=λx=>wpAny (model m.prog m.w) m.A (eval x m.env) Qv Ex q.s) hn λy p hy=>by
  obtain⟨ol,es,ep,q1,q2,q3,q4⟩:=FR.vars S
  obtain⟨a,_,_,_,a1,_⟩:=q4 i y _ hy hr
  exact wpAny_Name (hP.load (g:=q.g) (FR.cg S).kind q1 q2 q3 (.inl a1) (h a ⟨y,ol,es,ep,hy,q1,q2,a1⟩)) (M.xn hy)
theorem lF.up{q:Q}{i:Nat}{ys ys':List V}{a:Addr}{h':Heap}{o o':Obj}{vs vs':Array Value}{n n':Nat}{tk:Nat}(O:lF m q i a)(R:pA m.w.params q.g q.s.heap i ys a o vs n)(S:St m q)(sb:Heap.SameBut a q.s.heap h')(e':h'.get? a=some o')(JZ:rx o')(d':o'.data=.seq vs' n')
  (J1:vs'.size<=sizeLine)(r':Ω m.w.params q.g.nw q.g.φ vs'.toList ys'):St m ⟨q.g,q.ρ.set i (.own ys'),q.σ,{q.s with heap:=h',toks:=tk}⟩∧To m q ⟨q.g,q.ρ.set i (.own ys'),q.σ,{q.s with heap:=h',toks:=tk}⟩:=by
 obtain⟨x,ol,es,ep,hx,h1,h2,h3⟩:=O
 obtain⟨_,_,_,q1,q2,q3,q4⟩:=FR.vars S
 cases h1.symm.trans q1
 cases h2.symm.trans q2
 have keep:∀b ob,b≠a->q.s.heap.get? b=some ob->h'.get? b=some ob:=λb ob hb e=>(sb.2 b hb).trans e
 have kr:∀b ob r,q.g.ro b=some r->r≠.own i->q.s.heap.get? b=some ob->h'.get? b=some ob:=λb ob r e n=>keep b ob (nc e R.ha n)
 exact⟨FR.setAt S hx q4 (kr _ _ _ (FR.loc S) nofun h1) h2 q3 (λ_ _=>rfl) ((FR.hr S).upd a R.ha rfl keep ⟨o',e',λvs q=>nomatch d'.symm.trans q⟩) (FR.loc S) Up.refl (λj y nj _ b r ob c e1 e2=>⟨kr b ob r e1 (by rintro rfl;cases c<;>rename_i c<;>cases c;exact nj rfl) e2,e1⟩) ⟨a,o',vs',n',h3,R.ha,e',JZ,d',J1,r'⟩,
  ⟨⟨λb ob e=>if z:b=a then⟨o',z▸e'⟩else⟨ob,keep b ob z e⟩,λb ob e r=>.inl (keep b ob (λw=>ah (r.symm.trans (w▸R.ha))) e),λ_ m=>m,λ_ m=>.inl m,ek _,λ_ _ _=>.inl rfl⟩,λb ob r e=>⟨ob,kr b ob _ r nofun e,rfl⟩⟩,⟨rfl,rfl⟩⟩
theorem rx.eq{o:Obj}{vs:Array Value}{n:Nat}(h:rx o)(d:o.data=.seq vs n):o={cls:=.type "list",dict:=none,data:=.seq vs n,slots:= #[]}:=by
 obtain⟨c,dd,dt,sl⟩:=o
 cases h.1;cases h.2.1;cases h.2.2;cases d;rfl
theorem tot.own{o:Option Slot}{f:List V->M V}{K:V->Loc->Hp->Prop}{X:Nat->Loc->Hp->Prop}(H:tot (gQ o f) K X){p:Prop}(k:∀vs,o=some (.own vs)->tot (f vs) K X->p):p:=by
 rcases o with _|(_|_|vs)
 ·exact H.elim
 ·exact H.elim
 ·exact H.elim
 ·exact k vs rfl H
theorem pA.lst{P:Params}{g:Gh}{h:Heap}{i:Nat}{ys:List V}{a:Addr}{o:Obj}{vs:Array Value}{n:Nat}(R:pA P g h i ys a o vs n):h.IsList a vs:=⟨o,R.e,R.c.1,n,R.d⟩
theorem pA.sz{P:Params}{g:Gh}{h:Heap}{i:Nat}{ys:List V}{a:Addr}{o:Obj}{vs:Array Value}{n:Nat}(R:pA P g h i ys a o vs n):vs.size=ys.length:=R.r.length
theorem B7{n:Nat}(h:n<=sizeLine):(n:Int)<2^63:=Int.lt_of_le_of_lt (aK.mpr h) (by rw[jr];decide)
theorem B8{ns:List PySem.Str}{i:Nat}{x:XP}(h:dA ns i x=true):notStar x=true:=iX (P:=λx=>notStar x=true) h λ_ _ _=>rfl
theorem xp{ns:List PySem.Str}{i:Nat}{x:XP}(h:dA ns i x=true):js x=true:=iX (P:=λx=>js x=true) h λ_ _ _=>rfl
theorem J2(M:m.Ok){i:Nat}:XE m (.fS i):=λx hc=>BQ (n:="len") (P:=bx m (.fS i)) (f:=dA _ i) hc λp y p' g c q K X Qv Ex S H kx kv=>tot.own H λvs hv H=>
 wpAny_Call_ofName (lC M g (by decide) boot_len S (lA (lE (B8 c)) (rO (B8 c) (pG M c S hv λa O=>O.r S hv λo as n R=>call_len_list R.lst (B7 R.l) ((kv.hU H).here S (R.sz▸.int _ _))))))
theorem J3(M:m.Ok){i:Nat}:XT m (.mM i):=λx hc q K X Qv Ex S H kx kv=>tot.own H.ζ λvs hv H=>by
 have hc:dA m.names i x=true:=(e_.mp hc).elim id λh=>aG h
 refine isTrue_plain (pG M hc S hv λa O=>O.r S hv λo as n R=>wpAny_truthy_list R.lst (B7 R.l) (kv _ _ ⟨q.g,q.ρ,q.σ,_⟩ H S ⟨Ext.refl _ _ _,rfl,rfl⟩ ?_)) (BY (iX (P:=λx=>lz x=true) hc λ_ _ _=>rfl) _ _)
 have hl:=R.sz
 obtain⟨as⟩:=as
 show(!Array.isEmpty ⟨as⟩)= !vs.isEmpty
 cases as<;>cases vs<;>first|rfl|exact nomatch hl
theorem J4(M:m.Ok){i:Nat}{e:E}(h:XE m e):XE m (.k4 i e):=λx hc=>bL (P:=bx m (.k4 i e)) hc (by decide) λc q K X Qv Ex S H kx kv=>tot.own H λvs hv H=>
 Subscript_ (pG M (bl c) S hv λa O=>(h _ (bl (br c))).ζ S H kx λv y q1 h1 S1 T1 R1=>tot.own h1 λrP nv h1=>(O.to S T1).r S1 nv λo as n R=>
  VR.I (p:=λv=>wpAny (model m.prog m.w) m.A (subscriptTail _ _ (.ref a) v) Qv Ex q1.s) R1 h1.o λj t' K=>by
   have l:=R.sz
   rw[<-l]at K
   refine K.bind.el λk hk K=>K.el λz hz K=>?_
   have b:=w8 hk R.l
   obtain⟨v,px,rv⟩:=R.r.get hz
   have px:as[k]?=some v:=(Array.getElem?_toList ..).symm.trans px
   exact tail_any R.lst.typeIs slot_list_getitem.lookup (if z:j<0 then wpAny_getItem_list_neg (x:=v) R.lst z (Int.add_nonneg_iff_neg_le.mp ((b.2.trans (if_pos z))▸eC k)) b.1.1 (by rw[<-b.2.trans (if_pos z)];exact px) (kv v _ q1 K S1 T1 rv)
    else wpAny_getItem_list R.lst (Int.not_lt.mp z) b.1.2 (by rw[<-b.2.trans (if_neg z)];exact px) (kv v _ q1 K S1 T1 rv)) (rD (br (br c)) _ _))
theorem J5(M:m.Ok){i:Nat}{e:E}(h:XE m e):XE m (.app i e):=λx hc=>BR (P:=bx m (.app i e)) (f:=λo y=>dA _ i o&&(notStar y&&τ _ _ e y)) hc λo ap y p c0 c q K X Qv Ex S H kx kv=>tot.own H λvs hv H=>
 have s0:=bl (br c)
 pF (xp (bl c)) (lE s0) (show 1<30 by decide) c0 (pG M (bl c) S hv λa O pl=>O.r S hv λob as n R=>
  getMethod_list_append R.e R.c.1 R.c.2.1 (lA (lE s0) (rO s0 ((h y (br (br c))).ζ S H kx λv z q1 h1 S1 T1 R1=>tot.own h1 λrP nv h1=>h1.if λdi h1=>(O.to S T1).r S1 nv λob as n R=>
   append_at (R.e.trans (congrArg some (R.c.eq R.d))) (λh' sb e'=>
    have u:=(O.to S T1).up (tk:=q1.s.toks) R S1 sb e' ⟨rfl,rfl,rfl⟩ rfl (by rw[Array.size_push,jr,R.sz];exact η (Nat.succ_le_succ di) (by decide)) (by rw[Array.toList_push];exact R.r.snoc R1)
    kv _ _ ⟨q1.g,q1.ρ.set i (.own (rP++[z])),q1.σ,{q1.s with heap:=h'}⟩ h1 u.1 (T1.trans u.2) .none) R.l))))
end
end
end Mine
end
section
open PySem PySem.Calls PyProof.Rows PySem.W PySem.Builtin PySem.Builtin.ObjectAttr
set_option maxRecDepth 100000
namespace Mine
section
theorem J6{es:Array DictEntry}{n:Nat}{x:PySem.Str}{v:Value}{o:Obj}(d:o.data=.dict es n)(h:nsFind es x=some v):lookIn x o=some (some v):=by
 unfold lookIn
 rw[d]
 dsimp only
 unfold nsFind findBy at h
 rw[<-Array.find?_toList]at h
 obtain⟨e,h1,h2⟩:=fG.mp h
 rw[h1]
 dsimp only
 rw[h2]
theorem VR.handed{P:Params}{nw:List (Addr×Obj)}{φ:List Addr}{v:Value}{x:V}(h:VR P nw φ v x):handedIn v=true:=by
 cases h<;>rfl
section
variable{prog:Program}{w:World}{A:Around}{Ex:Value->Shared->Prop}{s:Shared}{K:Frag}{x C:Addr}{ox:Obj}{od:Option Obj}{name:PySem.Str}{expr:Bool}{Q:Value->Shared->Prop}
theorem J7:plainId "BaseException.__getattribute__"=true:=by decide+kernel
theorem J8:builtinKind "BaseException.__getattribute__"=some .slot:=by decide+kernel
theorem J9:splitId "BaseException.__getattribute__"=some ("BaseException","__getattribute__"):=by decide+kernel
theorem J_:typeOf (.builtin "BaseException.__getattribute__")=pure (.type "wrapper_descriptor"):=by show builtinType _=_;rw[builtinType_eq_fast];kernel_rfl
theorem Ka(self:Value):bindSpecial (.builtin "BaseException.__getattribute__") self=pure (.builtin "BaseException.__getattribute__",[self]):=by
 unfold bindSpecial;rw[J_];rfl
theorem Kb{v:Value}(X:K.In s.heap)(I:PySem.W.InstAt s.heap x ox C od)(Kc:findIn K (.ref C) (PySem.Str.ofString "__getattribute__")=some (some (.builtin "BaseException.__getattribute__")))(Kd:findIn K (.ref C) (PySem.Str.ofString "__getattr__")=some none)(Ke:mroIn K C (.type "BaseException")=some true)
  (hf:findObj K C od name=some (.value v))(hh:handedIn v=true)(h:Q v {s with toks:=s.toks+1}):wpAny (model prog w) A (getAttr (.ref x) name expr) Q Ex s:=by
 obtain⟨hp,g,d,t,os⟩:=s
 have L0:=I.type (M:=model prog w)
 have L1:=looks_findIn (M:=model prog w) X Kc
 have L2:=looks_findIn (M:=model prog w) X Kd
 have L3:Looks (model prog w) hp (isInstance (.ref x) (.type "BaseException")) true:=L0.andThen (looks_mroIn X Ke)
 have L4:=looks_find (M:=model prog w) X I hf
 unfold getAttr getAttrBy
 refine wpAny_bind (wpAny_mkText (wpAny_holding (wpAny_bind (L0.at (wpAny_bind (L1.at ?_))))))
 show wpAny _ _ (getAttrByItsOwn (.ref x) (.str name t) (.ref C) (.builtin "BaseException.__getattribute__") true expr) _ _ _
 unfold getAttrByItsOwn
 refine wpAny_bind ?_
 show wpAny _ _ (typeLookup (.ref C) (PySem.Str.ofString "__getattr__")) _ _ _
 refine L2.at (wpAny_bind (wpAny_attempt (wpAny_holding ?_)))
 have e0:callGetattribute (.ref x) (.str name t) (.builtin "BaseException.__getattribute__") expr=boundAndCalled (.builtin "BaseException.__getattribute__") (.ref x) (.str name t):=by cases expr<;>rfl
 rw[e0]
 unfold boundAndCalled
 rw[Ka]
 refine wpAny_bind (wpAny_pure ?_)
 show wpAny _ _ (call (.builtin "BaseException.__getattribute__") [.ref x,.str name t]) _ _ _
 refine wpAny_call ?_
 refine @codeAny_call_builtin prog w _ _ _ "BaseException.__getattribute__" ⟨[.ref x,.str name t],[]⟩ Builtin.«object.__getattribute__» J7 PySem.F.entry_bexc_ga ?_
 refine @check_slot (model prog w) _ _ _ "BaseException.__getattribute__" "BaseException" "__getattribute__" (.ref x) [.str name t] [] _ J8 J9 L3 (PySem.F.args_bexc_ga (.ref x) (.str name t)) ?_
 unfold Builtin.«object.__getattribute__»
 show wpAny _ _ (typeOf (.ref x)>>=_) _ _ _
 refine wpAny_bind (L0.at (wpAny_bind (L4.at (wpAny_pure ?_))))
 show wpAny _ _ (handedOut v) _ _ _
 rw[handedOut_of hh];exact wpAny_pure h
end
section
variable{prog:Program}{w:World}{base:Heap}{K:Frag}{fr:List Env}{env:Env}{names:List PySem.Str}{A:Around}
theorem B9{cd:Option ClassData}{l:List Value}(h:cd.map (·.mro)=some l):∃c,cd=some c∧c.mro=l:=fG.mp h
noncomputable def clsAt:c_->Addr
 |.reader=>b7
 |.raised=>bX
theorem hO.cls{g:Gh}{h:Heap}{k:Nat}{oa:Obj}:∀{c:c_},hO g h k oa c->oa.cls=.ref (clsAt c)∧notCls oa=true
 |.reader,x=>⟨x.1,by unfold notCls;rw[x.2]⟩
 |.raised,x=>⟨x.1,x.2.elim λvs x=>by unfold notCls;rw[x.1]⟩
theorem B_(M:Amb0 base K names){f:ay}{x:V}{v:Value}{s:Shared}{g:Gh}{ρ:Loc}{σ:Hp}{expr:Bool}{Q:Value->Shared->Prop}{Ex:Value->Shared->Prop}(F:FR w.params base fr env names g ρ σ s.heap)(hv:RV w.params g v x)
  (Kk:tt (iQ σ x f) (Kont w.params base fr env names g s ρ σ Q)):wpAny (model prog w) A (getAttr v (fldStr f) expr) Q Ex s:=
 VR.O (p:=λv=>wpAny (model prog w) A (getAttr v (fldStr f) expr) Q Ex s) hv Kk λa k aS Kk=>Kk.bind.el λo ho Kk=>Kk.if λhf Kk=>Kk.el λy he Kk=>by
  obtain⟨a',q1,q2,oa,mA,q3,q4,q5,q6,_⟩:=F.hr.objs k o ho
  cases aS.symm.trans q1
  obtain⟨xv,e1,e2⟩:=q5.1 f y he
  rcases q4 with⟨_,q4⟩|⟨d,q4,q7,od,es,ep,z1,z2,z3,z4,z5⟩
  ·exact ah ((q4 _).symm.trans e1)
  have X:=M.top.X.keeps F.hr.stays
  have lk:=J6 z2 ((z5 _).trans e1)
  have I:PySem.W.InstAt s.heap a oa (clsAt o.cls) (some od):=⟨q3,q6.cls.1,q6.cls.2,by rw[q4];exact z1⟩
  generalize o.cls=c at I hf
  cases c with
  |reader=>exact get_value X I M.cls.uw (findObj_own M.cls.xb (M.cls.xc f hf) rfl lk) e2.handed (Kk.here F e2)
  |raised=>
   obtain⟨cd,m1,m2⟩:=B9 M.cls.xg
   have mi:mroIn K bX (.type "BaseException")=some true:=by unfold mroIn;rw[m1,Option.bind_some,m2];decide
   exact Kb X I M.cls.BH M.cls.BI mi (findObj_own M.cls.xe (M.cls.xf f hf) rfl lk) e2.handed (Kk.here F e2)
end
noncomputable def lG:List ay:=[.text,.tokens,.levels,.at,.code,.value,.mE,.level,.ret,.info,.tR,.line,.extra]
theorem rQ(f:ay):f∈lG:=by cases f<;>decide
theorem Kf{f f':ay}:fldStr f=fldStr f'->f=f':=(by decide+kernel:∀f∈lG,∀f'∈lG,fldStr f=fldStr f'->f=f') f (rQ f) f' (rQ f')
theorem uB(f:ay)(x:V):∀l:List (ay×V),jm f (iP f x l)=some x
 |[]=>if_pos rfl
 |(k,v)::l=>by
  unfold iP
  by_cases h:f=k
  ·rw[if_pos h];exact if_pos h
  ·rw[if_neg h];exact(if_neg h).trans (uB f x l)
theorem uC{f f':ay}(x:V)(n:f'≠f):∀l:List (ay×V),jm f' (iP f x l)=jm f' l
 |[]=>if_neg n
 |(k,v)::l=>by
  unfold iP
  by_cases h:f=k
  ·rw[if_pos h];exact(if_neg (h▸n)).trans (if_neg (h▸n)).symm
  ·rw[if_neg h]
   by_cases q:f'=k
   ·exact(if_pos q).trans (if_pos q).symm
   ·exact(if_neg q).trans ((uC x n l).trans (if_neg q).symm)
section
variable{P:Params}{base h h':Heap}{fr:List Env}{env:Env}{names:List PySem.Str}{g g':Gh}{ρ:Loc}{σ:Hp}
theorem gS.set{mA:PySem.Str->Option Value}{fs:List (ay×V)}(x:gS P g mA fs){f:ay}{v:Value}{z:V}(hz:VR P g.nw g.φ v z):gS P g (λy=>if y=fldStr f then some v else mA y) (iP f z fs):=
 ⟨λf' w e=>if q:f'=f then by subst q;cases(uB f' z fs).symm.trans e;exact⟨v,if_pos rfl,hz⟩
  else(x.1 f' w ((uC z q fs).symm.trans e)).imp λy k=>⟨(if_neg λc=>q (Kf c)).trans k.1,k.2⟩,
  λy w e=>if q:y=fldStr f then⟨f,q,by rw[uB];rfl⟩
  else(x.2 y w ((if_neg q).symm.trans e)).imp λf' k=>⟨k.1,if c:f'=f then by rw[c,uB];rfl else(uC z c fs).symm▸k.2⟩⟩
theorem HR.Ca(H:HR P base fr g σ h){k:Nat}{o:O}{a d:Addr}{oa oa':Obj}{fs:List (ay×V)}{mA:PySem.Str->Option Value}(ho:σ[k]?=some o)(aS:g.φ[k]?=some a)(hr:g.ro a=some (.hN k))(body:hO g h k oa o.cls)(ea:h.get? a=some oa)
  (nw:g'.nw=g.nw)(φ:g'.φ=g.φ)(ro:∀b,b≠d->g'.ro b=g.ro b)(xq:g'.ro d=some (.iR k))(uD:g.ro d=some (.iR k)∨h.get? d=none)
  (keep:∀b o,b≠a->b≠d->h.get? b=some o->h'.get? b=some o)(e':h'.get? a=some oa')(cls:oa'.cls=oa.cls)(dat:oa'.data=oa.data)(dict:oa'.dict=some d)(ns:h'.Ns1 d mA)(keys:gS P g mA fs)(fld:rm ⟨o.cls,fs⟩):
  HR P base fr g' (σ.set k ⟨o.cls,fs⟩) h'∧Ext fr g h g' h':=by
 have nn:∀{b ob},g.ro b≠some (.hN k)->g.ro b≠some (.iR k)->h.get? b=some ob->h'.get? b=some ob∧g'.ro b=g.ro b:=λ{b ob} n1 n2 e=>
  have nd:b≠d:=λz=>uD.elim (λw=>n2 (z▸w)) λw=>ah (w.symm.trans (z▸e))
  ⟨keep b ob (λz=>n1 (z▸hr)) nd e,ro b nd⟩
 have df:base.get? d=none∧(∀p∈g.nw,p.1≠d)∧¬isFrame fr d:=uD.elim (λq=>have m:=H.mu d _ q;⟨m.1,m.2.1,m.2.2.2 nofun⟩) λz=>⟨(H.fresh z).1,(H.fresh z).2.1,(H.fresh z).2.2.2⟩
 have ad:a≠d:=λz=>uD.elim (λw=>nc hr w nofun z) λw=>ah (w.symm.trans (z▸ea))
 obtain⟨od,es,ep,n1,n2,n3⟩:=id ns
 have u:Up g g':=⟨λp m=>nw▸m,φ▸ek _⟩
 have live:∀b ob,h.get? b=some ob->∃o',h'.get? b=some o':=λb ob e=>if q:b=a then⟨_,q▸e'⟩else if q2:b=d then⟨_,q2▸n1⟩else⟨ob,keep b ob q q2 e⟩
 have kt:∀k',KR (λr=>instK k' r∧r≠.hN k∧r≠.iR k) g h g' h':=λk' b r ob c e1 e2=>
  have z:=nn (λw=>c.2.1 (Option.some.inj (e1.symm.trans w))) (λw=>c.2.2 (Option.some.inj (e1.symm.trans w))) e2
  ⟨z.1,z.2.trans e1⟩
 have nr:∀{b ob},g.ro b=none->h.get? b=some ob->h'.get? b=some ob∧g'.ro b=g.ro b:=λr=>nn (λw=>ah (r.symm.trans w)) λw=>ah (r.symm.trans w)
 refine⟨⟨λb ob e=>(nn (λw=>ah ((H.mu _ _ w).1.symm.trans e)) (λw=>ah ((H.mu _ _ w).1.symm.trans e)) (H.stays b ob e)).1,λp m=>?_,by rw[φ,H.len,List.length_set],λk' o' e=>?_,λb r e=>?_,?_⟩,
  ⟨⟨live,λb ob e r=>.inl (nr r e).1,u.nw,λp m=>.inl (nw▸m),u.φ,λb ob e=>.inl (if q:b=d then q▸uD.elim (λw=>xq.trans w.symm) (λw=>ah (w.symm.trans (q▸e)))else ro b q)⟩,λb ob r e=>⟨ob,(nn (λw=>nomatch r.symm.trans w) (λw=>nomatch r.symm.trans w) e).1,rfl⟩⟩⟩
 ·rw[nw]at m
  have z:=H.aE p m
  exact⟨(nn (λw=>(H.mu _ _ w).2.1 p m rfl) (λw=>(H.mu _ _ w).2.1 p m rfl) z.1).1,z.2⟩
 ·by_cases q:k=k'
  ·subst q
   cases(List.getElem?_set_self (ej.mp ho).1).symm.trans e
   refine⟨a,φ▸aS,(ro a ad).trans hr,oa',mA,e',.inr ⟨d,dict,xq,ns⟩,keys.to u,?_,fld⟩
   have tb:∀T oT,g.ro T=some (.tb k)->h.get? T=some oT->h'.get? T=some oT∧g'.ro T=some (.tb k):=λT oT t1 t2=>kt k T _ oT ⟨.inr (.inr rfl),nofun,nofun⟩ t1 t2
   show hO g' h' k oa' o.cls
   revert body
   cases o.cls with
   |reader=>exact λb=>⟨cls.trans b.1,dat.trans b.2⟩
   |raised=>exact λb=>⟨cls.trans b.1,b.2.imp λvs b=>⟨dat.trans b.1,b.2.1,b.2.2.imp_right λb=>b.imp λT b=>b.imp λoT b=>b.imp λts b=>⟨b.1,(tb T oT b.2.1 b.2.2.1).2,(tb T oT b.2.1 b.2.2.1).1,b.2.2.2⟩⟩⟩
  ·exact H.obj u (λb r ob c=>kt k' b r ob ⟨c,c.ne (.inl rfl) q,c.ne (.inr (.inl rfl)) q⟩) ((List.getElem?_set_ne q).symm.trans e)
 ·by_cases q:b=d
  ·subst q;cases xq.symm.trans e;exact⟨df.1,nw▸df.2.1,⟨_,n1⟩,λ_=>df.2.2⟩
  ·have m:=H.mu b r ((ro b q).symm.trans e)
   exact⟨m.1,nw▸m.2.1,m.2.2.1.elim (live b),m.2.2.2⟩
 ·exact H.ff.to λe m L ob f q dd=>⟨ob,(nn (λw=>(H.mu _ _ w).2.2.2 nofun ⟨e,m,f⟩) (λw=>(H.mu _ _ w).2.2.2 nofun ⟨e,m,f⟩) q).1,dd⟩
theorem FR.inst(F:FR P base fr env names g ρ σ h){cC:Hp}(H:HR P base fr g' cC h')(E:Ext fr g h g' h')(ro:∀b r,g.ro b=some r->g'.ro b=some r)(keep:∀b o r,g.ro b=some r->r.inst=false->h.get? b=some o->h'.get? b=some o):FR P base fr env names g' ρ cC h':=
 F.gen H (ro _ _ F.loc) E.s.up (λo e=>⟨o,keep _ _ _ F.loc rfl e,rfl⟩) λ_ _ _ b r o c e1 e2=>⟨keep b o r e1 c.ni e2,ro b r e1⟩
end
end
section
section
variable{prog:Program}{w:World}{A:Around}{K:Frag}{R:Result->Shared->Prop}{s:Shared}{x C:Addr}{bm:List Value}
theorem Cb{ox:Obj}{od:Option Obj}{name:PySem.Str}{tk:Tok}{v:Value}(X:K.In s.heap)(I:PySem.W.InstAt s.heap x ox C od)(hm:(clsIn K C).map (·.mro)=some (.ref C::bm))(Kg:refuseLoop (.ref x) (PySem.Str.ofString "__setattr__") bm=pure ())(Kh:bm.contains (.type "object")=true)
  (ht:findIn K (.ref C) name=some none)
  (h:wpAny (model prog w) A.in1 (storeInOwnDict (.ref x) (.ref C) (.str name tk) name v false)
   (λfin s'=>match fin with|.done f=>R (.ok f) s'|.again c'=>c'.quiet=true∧codeAny (model prog w) A c' R s') (λe s'=>R (.error e) s') s):
  codeAny (model prog w) A (.call (.builtin "object.__setattr__") ⟨[.ref x,.str name tk,v],[]⟩) R s:=by
 have SF:=PySem.F.store_object
 obtain⟨cd,hc,rR⟩:=B9 hm
 have ne:cd.mro.isEmpty=false:=by rw[rR];rfl
 have sub:Looks (model prog w) s.heap (isInstance (.ref x) (.type "object")) true:=I.type.andThen (looks_mroIn X (by
  unfold mroIn;rw[hc,Option.bind_some,if_neg (by rw[ne];decide),rR,List.contains_cons,Kh,Bool.or_true]))
 refine @codeAny_call_builtin prog w _ _ _ "object.__setattr__" ⟨[.ref x,.str name tk,v],[]⟩ Builtin.«object.__setattr__» SF.slot.plain SF.entry ?_
 refine @check_slot (model prog w) _ _ s "object.__setattr__" "object" "__setattr__" (.ref x) [.str name tk,v] [] _ SF.kind SF.split sub (SF.args (.ref x) (.str name tk) v) ?_
 have Ki:Looks (model prog w) s.heap (mroOf (.ref C)) (.ref C::bm):=rR▸(looks_clsIn X hc).andThen .now
 rw[osa_eq,refuse_eq]
 refine wpAny_bind (wpAny_bind (I.type.here (wpAny_bind (Ki.here ?_))))
 rw[refuseLoop_ref,Kg]
 refine wpAny_pure (wpAny_bind (I.type.here (wpAny_bind ((looks_findIn X ht).here (wpAny_bind (wpAny_pure ?_))))))
 exact h
theorem Kj{ox:Obj}{od:Option Obj}{name:PySem.Str}{tk:Tok}{v:Value}{d:Addr}{mA:PySem.Str->Option Value}{ns:List PySem.Str}{b:Bool}{Q:Fin->Shared->Prop}{Ex:Value->Shared->Prop}(X:K.In s.heap)(I:PySem.W.InstAt s.heap x ox C od)(hd:hasDictIn K C=true)(jA:ox.dict=some d)
  (w9:s.heap.Ns1 d mA)(hw:Within mA ns)(hz:ns.length<=1000)
  (h:∀h',h'.Ns1 d (λy=>if y=name then some v else mA y)->Heap.SameBut d s.heap h'->Q (.done (.ret .none)) {s with heap:=h',toks:=s.toks+1}):
  wpAny (model prog w) A (storeInOwnDict (.ref x) (.ref C) (.str name tk) name v b) Q Ex s:=by
 obtain⟨cd,hc,nz⟩:=any_some hd
 obtain⟨hx,bN,hn, -⟩:=I
 obtain⟨oc,Cd,Ce,uE⟩:=ox
 dsimp only at bN jA
 subst bN jA
 refine wpAny_bind (wpAny_pure (wpAny_bind (wpAny_bind (wpAny_loadPart hx (wpAny_bind ((looks_clsIn X hc).here ?_))))))
 rw[nz]
 refine wpAny_pure (a:=some d) ?_
 show wpAny _ _ (storeInDict d (.str name tk) name v) _ _ _
 unfold storeInDict newKeyGuard
 refine wpAny_bind (wpAny_pure (wpAny_bind (wpAny_nsSet1 w9 λh' jB hs=>?_)))
 obtain⟨oD,Kl,Km,xr,xt,xu⟩:=jB.count (Within.cons name v hw)
 refine wpAny_bind (wpAny_lookBehind xr (by rw[xt];exact pastItsLine_dict (η xu (by rw[List.length_cons,sizeLine_eq];exact bK hz (by simp+arith)))) ?_)
 exact wpAny_pure (h h' jB hs)
theorem Kn{ox:Obj}{od:Option Obj}{name:PySem.Str}{tk:Tok}{v:Value}{b:Bool}{Q:Fin->Shared->Prop}{Ex:Value->Shared->Prop}(X:K.In s.heap)(I:PySem.W.InstAt s.heap x ox C od)(hd:hasDictIn K C=true)(jA:ox.dict=none)(Cf:ox.data=.plain∨∃vs,ox.data=.fields vs)
  (h:∀h',h'.Ns1 s.heap.objs.size (λy=>if y=name then some v else none)->(∀b o,b≠x->s.heap.get? b=some o->h'.get? b=some o)->h'.get? x=some {ox with dict:=some s.heap.objs.size}->Q (.done (.ret .none)) {s with heap:=h',toks:=s.toks+1}):
  wpAny (model prog w) A (storeInOwnDict (.ref x) (.ref C) (.str name tk) name v b) Q Ex s:=by
 obtain⟨cd,hc,nz⟩:=any_some hd
 obtain⟨hx,bN,hn, -⟩:=I
 have ug:x≠s.heap.objs.size:=eD (Heap.lt_size hx)
 have Cg:(s.heap.push {cls:=.type "dict",data:=.dict #[]}).get? x=some ox:=Heap.get?_push_of_some _ hx
 have nA:=(Heap.get?_some_iff.mp hx).2
 have inst:wpAny (model prog w) A (instanceDict x true) (λr s'=>r=some s.heap.objs.size∧s'={s with heap:=(s.heap.push {cls:=.type "dict",data:=.dict #[]}).update x λo=>{o with dict:=some s.heap.objs.size}}) Ex s:=by
  obtain⟨oc,Cd,Ce,uE⟩:=ox
  dsimp only at bN jA
  subst bN jA
  unfold instanceDict
  refine wpAny_bind (wpAny_loadPart hx (wpAny_bind ((looks_clsIn X hc).here ?_)))
  rw[nz]
  rcases Cf with e|⟨vs,e⟩<;>cases e<;>exact wpAny_bind (wpAny_alloc (wpAny_bind (wpAny_update Cg (wpAny_pure ⟨rfl,rfl⟩))))
 refine wpAny_bind (wpAny_pure (wpAny_bind (wpAny_mono inst (λr s' p=>?_) λ_ _ e=>e)))
 obtain⟨rfl,rfl⟩:=p
 show wpAny _ _ (storeInDict s.heap.objs.size (.str name tk) name v) _ _ _
 have Ko:((s.heap.push {cls:=.type "dict",data:=.dict #[]}).update x λo=>{o with dict:=some s.heap.objs.size}).get? s.heap.objs.size=some {cls:=.type "dict",data:=.dict #[]}:=
  (Heap.get?_update_other _ _ ug).trans (Heap.get?_push_size _ rfl)
 have Kq:((s.heap.push {cls:=.type "dict",data:=.dict #[]}).update x λo=>{o with dict:=some s.heap.objs.size}).Ns s.heap.objs.size (λ_=>none):=
  ⟨_,#[],_,Ko,rfl,λe he=>absurd he (by simp),λ_=>rfl⟩
 unfold storeInDict newKeyGuard
 refine wpAny_bind (wpAny_pure (wpAny_bind (wpAny_nsSet1 (Heap.Ns1.of_empty Kq) λh' jB hs=>?_)))
 obtain⟨oD,Kl,Km,xr,xt,xu⟩:=jB.count (Within.cons name v Within.nil)
 refine wpAny_bind (wpAny_lookBehind xr (by rw[xt];exact pastItsLine_dict (η xu (by rw[List.length_cons,List.length_nil,sizeLine_eq];exact gu _))) ?_)
 refine wpAny_pure (h h' jB (λb ob hb e=>?_) ?_)
 ·exact(hs.2 b (eD (Heap.lt_size e))).trans ((Heap.get?_update_other _ _ (Ne.symm hb)).trans (Heap.get?_push_of_some _ e))
 ·refine(hs.2 x ug).trans (Heap.get?_update_self _ Cg ?_)
  obtain⟨oc,Cd,Ce,uE⟩:=ox
  rcases Cf with e|⟨vs,e⟩<;>cases e<;>first|rfl|exact nA
end
theorem gS.within{P:Params}{g:Gh}{mA:PySem.Str->Option Value}{fs:List (ay×V)}(x:gS P g mA fs):Within mA (lG.map fldStr):=λy hy=>by
 cases e:mA y with
 |none=>exact absurd e hy
 |some w=>exact(x.2 y w e).elim λf k=>k.1▸List.mem_map_of_mem (rQ f)
section
variable{prog:Program}{w:World}{base:Heap}{K:Frag}{fr:List Env}{env:Env}{names:List PySem.Str}{A:Around}
structure Kr (K:Frag) (C:Addr) (f:ay) (bm:List Value):Prop where
 set:findIn K (.ref C) (PySem.Str.ofString "__setattr__")=some (some (.builtin "object.__setattr__"))
 dict:hasDictIn K C=true
 fld:findIn K (.ref C) (fldStr f)=some none
 mro:(clsIn K C).map (·.mro)=some (.ref C::bm)
 pass:∀a,refuseLoop (.ref a) (PySem.Str.ofString "__setattr__") bm=pure ()
 obj:bm.contains (.type "object")=true
theorem iW.so(M:iW K){f:ay}:∀{c:c_},gD c f=true->∃bm,Kr K (clsAt c) f bm
 |.reader,hf=>⟨_,M.BB,M.xb,M.xc f hf,M.BC,λ_=>PySem.F.store_object.passes _,by decide⟩
 |.raised,hf=>⟨_,M.BJ,M.xe,M.xf f hf,M.xg,λ_=>PySem.F.store_Exception.passes _,by decide⟩
theorem hO.dat{g:Gh}{h:Heap}{k:Nat}{oa:Obj}:∀{c:c_},hO g h k oa c->oa.data=.plain∨∃vs,oa.data=.fields vs
 |.reader,x=>.inl x.2
 |.raised,x=>.inr (x.2.imp λ_ x=>x.1)
theorem Ci(M:Amb0 base K names){f:ay}{x z:V}{v vz:Value}{s:Shared}{g:Gh}{ρ:Loc}{σ:Hp}{Q:Unit->Shared->Prop}{Ex:Value->Shared->Prop}(F:FR w.params base fr env names g ρ σ s.heap)(hv:RV w.params g v x)(hz:RV w.params g vz z)
  (h:tt (j6 σ x f z) λcC=>∀g' s',FR w.params base fr env names g' ρ cC s'.heap->Ext fr g s.heap g' s'.heap->dz s s'->Q () s'):wpAny (model prog w) A (setAttr v (fldStr f) vz) Q Ex s:=
 VR.O (p:=λv=>wpAny (model prog w) A (setAttr v (fldStr f) vz) Q Ex s) hv h λa k aS h=>h.bind.el λo ho h=>h.if λhf h=>by
  obtain⟨a',q1,q2,oa,mA,q3,q4,q5,q6,qf⟩:=F.hr.objs k o ho
  cases aS.symm.trans q1
  have X:=M.top.X.keeps F.hr.stays
  obtain⟨bm,C⟩:=M.cls.so hf
  have fld:rm ⟨o.cls,iP f z o.fs⟩:=λf' e=>if c:f'=f then c▸hf else qf f' (uC z c o.fs▸e)
  rcases q4 with⟨q4,Ks⟩|⟨d,q4,q7,ns⟩
  ·have I:PySem.W.InstAt s.heap a oa (clsAt o.cls) none:=⟨q3,q6.cls.1,q6.cls.2,by rw[q4];trivial⟩
   refine set_plain X I C.set (Cb (s:={s with toks:=s.toks+1}) X I C.mro (C.pass a) C.obj C.fld (Kn (s:={s with toks:=s.toks+1}) X I C.dict q4 q6.dat λh' n1 n2 n3=>?_))
   have xw:=F.hr.ry.2.2.1
   have key:gS w.params g (λy=>if y=fldStr f then some vz else none) (iP f z o.fs):=by
    cases funext Ks;exact q5.set (f:=f) hz
   have S:=F.hr.Ca (g':=g.role s.heap.objs.size (.iR k)) (oa':={oa with dict:=some s.heap.objs.size}) (d:=s.heap.objs.size) ho aS q2 q6 q3 rfl rfl (λb hb=>if_neg hb) (if_pos rfl) (.inr (Heap.get?_none_of_le (ξ _))) (λb ob h1 h2 e=>n2 b ob h1 e) n3 rfl rfl rfl n1 key fld
   exact h _ {s with heap:=h',toks:=_} (F.inst S.1 S.2 (λb r e=>(if_neg λq=>ah (xw.symm.trans (q▸e))).trans e) λb ob r e i e2=>n2 b ob (nc e q2 λq=>nomatch (q▸i)) e2) S.2 ⟨rfl,rfl⟩
  ·obtain⟨od,es,ep,z1,z2,z3⟩:=id ns
   have I:PySem.W.InstAt s.heap a oa (clsAt o.cls) (some od):=⟨q3,q6.cls.1,q6.cls.2,by rw[q4];exact z1⟩
   refine set_plain X I C.set (Cb (s:={s with toks:=s.toks+1}) X I C.mro (C.pass a) C.obj C.fld (Kj (s:={s with toks:=s.toks+1}) X I C.dict q4 ns q5.within (by decide) λh' n1 n2=>?_))
   have S:=F.hr.Ca (g':=g) (oa':=oa) (d:=d) ho aS q2 q6 q3 rfl rfl (λ_ _=>rfl) q7 (.inl q7) (λb ob h1 h2 e=>(n2.2 b h2).trans e) ((n2.2 a (nc q2 q7 nofun)).trans q3) rfl rfl q4 n1 (q5.set hz) fld
   exact h g {s with heap:=h',toks:=_} (F.inst S.1 S.2 (λ_ _ e=>e) λb ob r e i e2=>(n2.2 b (nc e q7 λq=>nomatch (q▸i))).trans e2) S.2 ⟨rfl,rfl⟩
end
end
end Mine
end
section
open PySem PySem.Calls PyProof.Rows PySem.W
set_option maxRecDepth 100000
namespace Mine
section
section
variable{m:Fx}{K:V->Loc->Hp->Prop}{X:Nat->Loc->Hp->Prop}{Qv Ex:Value->Shared->Prop}{q:Q}
theorem Kt{r:CR}{rr:Result}{s':Shared}(S:St m q)(p:uj m.w.params m.base m.fr q.g q.s r rr s')(H:tot (fp (some r) q.ρ) K X)(kx:KX m q X Ex)(kv:KV m (RV m.w.params) q K Qv):match(motive:=Result->Prop) rr with
  |.ok (.ret v)=>Qv v s'
  |.ok _=>False
  |.error e=>Ex e s':=by
 obtain⟨g',H',x,Q',p⟩:=p
 cases r with
 |ret y cC=>
  obtain⟨v,rfl,hv⟩:=p
  exact kv v y ⟨g',q.ρ,cC,s'⟩ H (FR.called S H' x) ⟨x.ext,Q'⟩ hv
 |exc k cC=>
  obtain⟨a,rfl,h1,h2,h3⟩:=p
  exact kx k a ⟨g',q.ρ,cC,s'⟩ H (FR.called S H' x) ⟨x.ext,Q'⟩ ⟨h1,h2,h3.exc m.env⟩
theorem Ku(M:m.Ok){f:Fn}{ys:List V}{vals:List Value}(S:St m q)(hv:mV m.w.params q.g vals ys)(H:tot (fp (m.C f ys q.σ) q.ρ) K X)(kx:KX m q X Ex)(kv:KV m (RV m.w.params) q K Qv):wpAny (model m.prog m.w) m.A (call (.ref (addrOf f)) vals) Qv Ex q.s:=by
 cases e:m.C f ys q.σ with
 |none=>rw[e]at H;exact H.elim
 |some r=>
  rw[e]at H
  exact wpAny_call (codeAny_mono (M.pC m.A m.fr M.cx.cx f ys q.σ r e q.g q.s vals (FR.hr S) hv) λrr s' p=>Kt S p H kx kv)
theorem Cj(M:m.Ok){f:Fn}{args:List E}{xs:List XP}{pos:Pos}{first:List Value}{fs:List V}(ha:gG m args)(hc:bY m.env.scope.names m.names args xs=true)(S:St m q)(hf:mV m.w.params q.g first fs)
  (H:tot ((ft m.C args q.ρ q.σ).ζ λvs ρ h=>fp (m.C f (fs++vs) h) ρ) K X)(kx:KX m q X Ex)(kv:KV m (RV m.w.params) q K Qv):wpAny (model m.prog m.w) m.A (callWith pos (.ref (addrOf f)) first (backTo pos (starEach xs m.env)) []) Qv Ex q.s:=by
 obtain⟨d,fd,sl,e⟩:=M.jt f
 exact callWith_function (o:=⟨.type "function",d,.func fd,sl⟩) (fd:=fd) (uA (nh hc) ((ha xs pos hc).ζ S H kx λvs ys q2 h S2 T R=>⟨⟨M.top.X.keeps (FR.hr S2).stays _ _ e,rfl⟩,Ku M S2 (Ω.append (Ω.mono T.e.nw T.e.φ hf) R) h (kx.to T) (kv.to T)⟩))
theorem Ck(M:m.Ok){f:Fn}{args:List E}(ha:gG m args):XE m (.call f args):=λx hc=>BP (P:=bx m (.call f args)) hc λp xs p' g c hf q K X Qv Ex S H kx kv=>
 wpAny_Call_ofName (globK M.toAmb0 g (M.fns f hf) S (Cj M (fs:=[]) ha c S .nil H kx kv))
theorem uF(M:m.Ok)(f:Fn):typeIn m.K (.ref (addrOf f))=some (.type "function"):=by
 obtain⟨dd,fd,sl,fe⟩:=M.jt f
 show(m.K.lookup (addrOf f)).map (·.cls)=_
 rw[fe];rfl
theorem Kv(f':ay):gD .reader f'=true->∀f∈meths,PySem.Str.ofString (nameOf f)≠fldStr f':=(by decide+kernel:∀f'∈lG,gD .reader f'=true->∀f∈meths,PySem.Str.ofString (nameOf f)≠fldStr f') f' (rQ f')
theorem Cm{σ:Hp}{c:c_}{x:V}(h:isObj σ c x=true):tt (k7 x λk=>σ[k]?) λo=>o.cls=c:=by
 unfold isObj at h
 generalize (k7 x λk=>σ[k]?)=o at h⊢
 cases o with
 |none=>exact aG h
 |some o=>exact(bd h:o.cls=c)
theorem Kw{es:Array DictEntry}{n:Nat}{x:PySem.Str}{o:Obj}(d:o.data=.dict es n)(s:StrKeys es)(h:nsFind es x=none):lookIn x o=some none:=by
 unfold nsFind findBy at h
 rw[<-Array.find?_toList]at h
 unfold lookIn
 rw[d]
 dsimp only
 rw[Option.map_eq_none_iff.mp h]
 have:(es.toList.any λx=>x.refKey)=false:=List.any_eq_false.mpr λe he=>by
  obtain⟨n,t,hk⟩:=s e (Array.mem_toList_iff.mp he)
  unfold DictEntry.refKey
  rw[hk]
  exact ς
 dsimp only
 rw[this];rfl
theorem Kx(M:m.Ok){f:Fn}{x:V}{v:Value}{pl:Sem Bool}{Qm:Value×List Value->Shared->Prop}(hm:f∈meths)(hx:isObj q.σ .reader x=true)(S:St m q)(hv:RV m.w.params q.g v x)(h:Qm (.ref (addrOf f),[v]) q.s):wpAny (model m.prog m.w) m.A (getMethod v (PySem.Str.ofString (nameOf f)) pl) Qm Ex q.s:=by
 revert h
 refine VR.O (p:=λv=>Qm (.ref (addrOf f),[v]) q.s->wpAny (model m.prog m.w) m.A (getMethod v (PySem.Str.ofString (nameOf f)) pl) Qm Ex q.s) hv (Cm hx) λa k aS hx h=>hx.el λo ho hc=>?_
 obtain⟨a',q1,q2,oa,mA,q3,q4,q5,q6,qf⟩:=(FR.hr S).objs k o ho
 cases aS.symm.trans q1
 have X:=M.top.X.keeps (FR.hr S).stays
 rw[hc]at q6
 have no:mA (PySem.Str.ofString (nameOf f))=none:=by
  cases e:mA (PySem.Str.ofString (nameOf f))with
  |none=>rfl
  |some y=>exact(q5.2 _ _ e).elim λf' e=>absurd e.1 (Kv f' (hc▸qf f' e.2) f hm)
 rcases q4 with⟨q4,_⟩|⟨d,q4,q7,od,es,ep,z1,z2,z3,z4,z5⟩
 ·exact method_fn (od:=none) X ⟨q3,q6.cls.1,q6.cls.2,by rw[q4];trivial⟩ M.cls.uw M.cls.xa (M.cls.xd f hm) (uF M f) rfl h
 ·exact method_fn (od:=some od) X ⟨q3,q6.cls.1,q6.cls.2,by rw[q4];exact z1⟩ M.cls.uw M.cls.xa (M.cls.xd f hm) (uF M f) (by unfold shadowIn;dsimp only;rw[Kw z2 z3 ((z5 _).trans no)];rfl) h
theorem Ky(M:m.Ok){f:Fn}{o:E}{args:List E}(ho:XE m o)(ha:gG m args):XE m (.ax f o args):=λx hc=>rK (P:=bx m (.ax f o args)) (f:=λy xs=>js y&&(τ _ _ o y&&(bY _ _ args xs&&(decide (xs.length<30)&&decide (f∈[Fn.cn,.eH,.dc,.fO,.dQ,.eI]))))) hc λy ap xs p c0 c q K X Qv Ex S H kx kv=>
 have c3:=bl (br (br c))
 have c4:=br (br (br c))
 pF (bl c) (nh c3) (of_decide_eq_true (bl c4)) c0 ((ho y (bl (br c))).ζ S H kx λv z q1 h1 S1 T1 R1 pl=>h1.if λok h1=>
  Kx M (of_decide_eq_true (br c4)) ok S1 R1 (Cj M (fs:=[z]) ha c3 S1 (.cons R1 .nil) h1 (kx.to T1) (kv.to T1)))
theorem Cn(M:Amb0 m.base m.K m.names){o:E}{f:ay}(ho:XE m o):XE m (.attr o f):=λx hc=>xm (P:=bx m (.attr o f)) (f:=λy=>js y&&τ _ _ o y) hc λy p c q K X Qv Ex S H kx kv=>by
 rw[arm_eval_Attribute,B0 (bl c)]
 exact wpAny_bind ((ho y (br c)).ζ S H kx λv z q1 h1 S1 T1 R1=>wpAny_bind (wpAny_standAt (wpAny_bind (wpAny_holding (B_ M S1 R1 (h1.o.mono λz h r g' s' F' E' hr Q'=>
  wpAny_bind (wpAny_letTemporaryGo (wpAny_pure (kv r z ⟨g',q1.ρ,q1.σ,s'⟩ h F' (T1.trans ⟨E',Q'⟩) hr)))))))))
noncomputable def Kz(sc:Sc)(ns:List PySem.Str)(i:Nat)(es:List E)(o y:XP):Bool:=tg y 4&&(dA ns i o&&(bY sc ns es (nd y).es&&decide (es.length<=1000)))
theorem KC(M:m.Ok){i:Nat}{es:List E}(h:gG m es):XE m (.ext i es):=λx hc=>BR (P:=bx m (.ext i es)) (f:=Kz m.env.scope.names m.names i es) hc λo ap y p c0 c=>bL (P:=λy=>bx m (.ext i es) (.Call (.Attribute o (PySem.Str.ofString "extend") ap) [y] [] p)) c (by decide) λc q K X Qv Ex S H kx kv=>tot.own H λvs hv H=>by
 have c3:=bd (br (br c))
 refine pF (xp (bl c)) rfl (show 1<30 by decide) c0 (pG M (bl c) S hv λa O pl=>O.r S hv λob as n R=>?_)
 refine getMethod_builtin R.lst.typeIs PySem.F.plainAttrs_list PySem.F.slot_list_extend PySem.F.type_list_extend (λa' e=>by cases e;exact⟨ob,R.e,R.c.2.1⟩) (lA rfl (spliced_cons (List_ ((h _ _ (bl (br c))).at S (rL H.ζ) kx λws ys q1 h1 S1 T1 R1=>?_))))
 have KD:ws.length<=1000:=(Ω.length R1).trans h1.2▸c3
 refine wpAny_newObj_type (spliced_nil ?_) (gT KD)
 refine tot.own h1.1 λrP nv h1=>h1.if λdi h1=>?_
 have S2:St m ⟨q1.g,q1.ρ,q1.σ,{q1.s with heap:=q1.s.heap.push {cls:=.type "list",data:=.seq ws.toArray}}⟩:=FR.push S1 _
 have T2:To m q1 ⟨q1.g,q1.ρ,q1.σ,{q1.s with heap:=q1.s.heap.push {cls:=.type "list",data:=.seq ws.toArray}}⟩:=⟨Ext.push _,rfl,rfl⟩
 have O2:=(O.to S T1).to S1 T2
 refine O2.r S2 nv λob as n R=>?_
 have ga:=R.e.trans (congrArg some (R.c.eq R.d))
 have gb:(q1.s.heap.push {cls:=.type "list",data:=.seq ws.toArray}).get? q1.s.heap.objs.size=some {cls:=.type "list",dict:=none,data:=.seq ws.toArray 0,slots:= #[]}:=Heap.get?_push_size _ rfl
 have tl:as.size+ws.toArray.size<=1000000:=by rw[R.sz,List.size_toArray,Ω.length R1];exact di
 have ts:as.size+ws.toArray.size<=sizeLine:=η tl (by rw[jr];decide)
 refine call_meets PySem.F.slot_list_extend ⟨_,ga,rfl⟩ PySem.F.entry_list_extend (PySem.F.args_list_extend_2 _ _) (PySem.AutoSeq1.list_extend_list_list_0 a as n q1.s.heap.objs.size ws.toArray 0 ?_ R.l (bW ts)) ⟨ga,gb,?_⟩
 ·rw[Bool.not_eq_true,Bool.and_eq_false_iff]
  refine .inr (decide_eq_false ?_)
  rw[jr]
  omega
 ·have e':=Heap.get?_update_self (Obj.mapSeq λx=>x++ws.toArray) ga rfl
  obtain⟨nn,xx⟩:=Obj.data_mapSeq (o:={cls:=.type "list",dict:=none,data:=.seq as n,slots:= #[]}) rfl (λx=>x++ws.toArray)
  have u:=O2.up (tk:=q1.s.toks) (ys':=rP++ys) (vs':=as++ws.toArray) (n':=nn) R S2 (Heap.SameBut.update ..) e' ⟨rfl,rfl,rfl⟩ xx (by rw[Array.size_append];exact ts) (by rw[Array.toList_append];exact R.r.append R1)
  exact kv _ _ ⟨q1.g,q1.ρ.set i (.own (rP++ys)),q1.σ,_⟩ h1 u.1 ((T1.trans T2).trans u.2) .none
end
end
section
noncomputable def Gh.inst(g:Gh)(k:Nat)(a:Addr)(d:Option Addr):Gh:={nw:=g.nw,φ:=g.φ++[a],ro:=λb=>if b=a then some (.hN k)else if some b=d then some (.iR k)else g.ro b}
section
variable{P:Params}{base h h':Heap}{fr:List Env}{env:Env}{names:List PySem.Str}{g:Gh}{ρ:Loc}{σ:Hp}
theorem pj.new{k:Nat}{oa:Obj}(hd:∀d,oa.dict=some d->g.ro d=some (.iR k)∧h.Ns1 d λ_=>none):pj g h k oa λ_=>none:=
 match e:oa.dict with
 |none=>.inl ⟨e,λ_=>rfl⟩
 |some d=>.inr ⟨d,e,hd d e⟩
theorem gS.new:gS P g (λ_=>none) []:=⟨λ_ _ e=>ah e,λ_ _ e=>ah e⟩
theorem rm.new{c:c_}:rm ⟨c,[]⟩:=λ_ e=>aG e
theorem FR.KG(F:FR P base fr env names g ρ σ h){a:Addr}{kh:Option Addr}{oa:Obj}{c:c_}(ha:h.get? a=none)(keep:∀b o,h.get? b=some o->h'.get? b=some o)(ea:h'.get? a=some oa)(jA:oa.dict=kh)
  (hd:∀d,kh=some d->h.get? d=none∧d≠a∧h'.Ns1 d λ_=>none)(body:hO (g.inst σ.length a kh) h' σ.length oa c):
  FR P base fr env names (g.inst σ.length a kh) ρ (σ++[⟨c,[]⟩]) h'∧Ext fr g h (g.inst σ.length a kh) h':=by
 have ro:∀{b o},h.get? b=some o->(g.inst σ.length a kh).ro b=g.ro b:=λe=>(if_neg λq=>ah (ha.symm.trans (q▸e))).trans (if_neg λq=>ah ((hd _ q.symm).1.symm.trans e))
 have u:Up g (g.inst σ.length a kh):=⟨λ_ m=>m,List.prefix_append ..⟩
 have kr:KR (λ_=>True) g h (g.inst σ.length a kh) h':=λb r o _ e1 e2=>⟨keep b o e2,(ro e2).trans e1⟩
 have H:=F.hr
 refine⟨F.gen ⟨λb o e=>keep _ _ (H.stays b o e),λp m=>⟨keep _ _ (H.aE p m).1,(H.aE p m).2⟩,(Θ (as:=g.φ) (bs:=[a])).trans ((congrArg (· +1) H.len).trans (Θ (as:=σ) (bs:=[⟨c,[]⟩])).symm),λk o e=>?_,λb r e=>?_,H.ff.keep keep⟩ ((H.mu _ _ F.loc).2.2.1.elim λo q=>(ro q).trans F.loc) u (λo e=>⟨o,keep _ _ e,rfl⟩) λ_ _ _=>kr.weak λ_ _=>trivial,
  ⟨⟨λb o e=>⟨o,keep _ _ e⟩,λb o e _=>.inl (keep _ _ e),u.nw,λ_ m=>.inl m,u.φ,λb o e=>.inl (ro e)⟩,λb o _ e=>⟨o,keep _ _ e,rfl⟩⟩⟩
 ·by_cases hk:k<σ.length
  ·exact H.obj u (kr.weak λ_ _=>trivial) ((List.getElem?_append_left hk).symm.trans e)
  ·cases Nat.le_antisymm (Nat.le_of_lt_succ (Nat.lt_of_lt_of_eq (ej.mp e).1 (Θ (as:=σ) (bs:=[⟨c,[]⟩])))) (Nat.not_lt.mp hk)
   cases(List.getElem?_concat_length ..).symm.trans e
   exact⟨a,H.len▸List.getElem?_concat_length ..,if_pos rfl,oa,_,ea,.new λd q=>have z:=hd d (jA.symm.trans q);⟨(if_neg z.2.1).trans (if_pos (q.symm.trans jA)),z.2.2⟩,.new,body,.new⟩
 ·cases z:h.get? b with
  |none=>
   have f:=H.fresh z
   exact⟨f.1,f.2.1,if q:b=a then q▸⟨_,ea⟩else if q2:some b=kh then(hd b q2.symm).2.2.imp λ_ x=>x.elim λ_ x=>x.elim λ_ x=>x.1 else ah (f.2.2.1.symm.trans (((if_neg q).trans (if_neg q2)).symm.trans e)),λ_=>f.2.2.2⟩
  |some o=>
   have q:=H.mu b r ((ro z).symm.trans e)
   exact⟨q.1,q.2.1,⟨o,keep _ _ z⟩,q.2.2.2⟩
end
section
variable{prog:Program}{w:World}{A:Around}{K:Frag}{R:Result->Shared->Prop}{h:Heap}{g:Array GenState}{d:Drawn}{t:Nat}{os:OsState}
variable{nm q:PySem.Str}{C N fI:Addr}{bs bm:List Value}{hdct:Bool}{sn:List PySem.Str}{sub:List Value}{ab:Bool}{col:Option Bool}{dd:Option Addr}{k0 k1 k2 k3 k5:Option Value}{B newId KH:String}
theorem KI(F:ExcBaseFacts B newId KH bm){rest:List Value}(X:K.In h)(hC:h.get? C=some (excClassObj nm q C N bs bm hdct sn sub ab col dd k0 k1 k2 k3 k5 newId))(hi:findIn K (.ref C) (PySem.Str.ofString "__init__")=some (some (.ref fI)))(hf:typeIn K (.ref fI)=some (.type "function"))
  (KJ:rest.length<=sizeLine)
  (hq:codeAny (model prog w) (A.under (.builtin "type.__call__" ⟨.ref C::rest,[]⟩)) (.call (.ref fI) ⟨.ref (h.objs.size+1)::rest,[]⟩) (InitBack (h.objs.size+1) R)
   ⟨(h.push {cls:=.type "tuple",data:=.seq rest.toArray}).push {cls:=.ref C,data:=.fields #[.ref h.objs.size,.none,.none,.none,.bool false,.none]},g,d,t,os⟩):
  codeAny (model prog w) A (.call (.ref C) ⟨rest,[]⟩) R ⟨h,g,d,t,os⟩:=by
 have f1:=tc_lookup
 have f2:=tc_bind (.ref C)
 have hT:(⟨h,g,d,t,os⟩:Shared).TypeIs (.ref C) "type":=⟨_,hC,rfl⟩
 refine codeAny_of_tree ?_
 show wpAny _ _ (callAny (.ref C) _) _ _ _
 repeat (any_goals (first|assumption|with_reducible refine wpAny_loadPart_at hC ?_|wp_step))
 refine⟨rfl,?_⟩
 change codeAny (model prog w) A (.call (.builtin "type.__call__") ⟨.ref C::rest,[]⟩) R _
 refine codeAny_call_builtin_at (Code.quiet_builtin _ (by decide+kernel)) entry_typeCall (wpAny_check_type_call_sub hC ?_)
 repeat (first|with_reducible refine wpAny_loadPart_at hC ?_|with_reducible refine wpAny_madeBy_exc hC ?_|wp_step)
 refine codeAny_call_builtin_code (Code.quiet_builtin _ F.quiet) (wpAny_check_new_sub F hC ?_)
 refine codeAny_exc_new_sub F hC ?_ KJ
 show wpAny _ _ _ _ _ _
 have KL:=Heap.get?_push_of_some {cls:=.ref C,data:=.fields #[.ref h.objs.size,.none,.none,.none,.bool false,.none]}
  (Heap.get?_push_of_some {cls:=.type "tuple",data:=.seq rest.toArray} hC)
 have Co:K.In ((h.push {cls:=.type "tuple",data:=.seq rest.toArray}).push {cls:=.ref C,data:=.fields #[.ref h.objs.size,.none,.none,.none,.bool false,.none]}):=X.keeps λb o e=>Heap.get?_push_of_some _ (Heap.get?_push_of_some _ e)
 have KN:((h.push {cls:=.type "tuple",data:=.seq rest.toArray}).push
   {cls:=.ref C,data:=.fields #[.ref h.objs.size,.none,.none,.none,.bool false,.none]}).get? (h.objs.size+1)=some
   {cls:=.ref C,data:=.fields #[.ref h.objs.size,.none,.none,.none,.bool false,.none]}:=by heap_get
 have KO:(Value.ref C::bm).contains (.ref C)=true:=by simp
 unfold isInstance
 repeat (first|with_reducible refine wpAny_loadPart_at KN ?_|(with_reducible refine wpAny_isSubtype_exc KL ?_;rw[KO])|wp_step)
 show wpAny _ _ (typeLookup (.ref C) _) _ _ _
 have L1:=looks_findIn (M:=model prog w) Co hi
 have L2:=bind_fn (M:=model prog w) Co (.ref (h.objs.size+1)) hf
 refine L1.at (wpAny_holding (wpAny_bind (L2.at ?_)))
 refine wpAny_bind (wpAny_call (codeAny_mono hq λr s' z=>?_))
 rcases r with e|(v|_|_|_)<;>first|exact z|exact z.elim|skip
 obtain⟨rfl,z⟩:=z
 exact wpAny_pure (wpAny_pure z)
end
end
section
theorem mZ.under{A:Around}{D:Nat}{fr:List Env}(x:mZ A D fr)(Cc:Addr)(vals:List Value):Cx (A.under (.builtin "type.__call__" ⟨.ref Cc::vals,[]⟩)) D fr:=
 ⟨x.handled,x.frames,by have:=x.depth;show A.depth+1+2*D+2<=_;exact bK this (by simp+arith),by
  have:=x.units
  show A.units+(1+3*0)+20*D+1500<=_
  exact bK this (by simp+arith)⟩
theorem iW.nm{K:Frag}(M:iW K):∀c,nsIn K mainGlobals (PySem.Str.ofString (Bz c))=some (some (.ref (clsAt c)))
 |.reader=>M.BG
 |.raised=>M.xh
theorem iW.kp{K:Frag}(M:iW K):∀c,keepIn K (.ref (clsAt c))=true
 |.reader=>M.BF
 |.raised=>M.BL
theorem VR.of_none{P:Params}{nw:List (Addr×Obj)}{φ:List Addr}{v:Value}(h:VR P nw φ v .none):v=.none:=by cases h;rfl
noncomputable def Cq(Qv Ex:Value->Shared->Prop)(r:Result)(s':Shared):Prop:=match r with
 |.ok (.ret v)=>Qv v s'
 |.ok _=>False
 |.error e=>Ex e s'
section
variable{m:Fx}{K:V->Loc->Hp->Prop}{X:Nat->Loc->Hp->Prop}{Qv Ex:Value->Shared->Prop}{q:Q}
theorem KP{r:Option CR}{n:Nat}{ρ:Loc}(H:tot (qZ r n ρ) K X){p:Prop}(k:∀r',r=some r'->(match r' with|.ret y σ=>y=.none∧K (.obj n) ρ σ|.exc k σ=>X k ρ σ)->p):p:=by
 rcases r with _|(⟨y,σ⟩|_)
 ·exact H.elim
 ·exact k _ rfl (by cases y<;>first|exact H.elim|exact⟨rfl,H⟩)
 ·exact k _ rfl H
theorem Cr(M:m.Ok){c:c_}{f:Fn}{ys:List V}{vs:List Value}{a Cc:Addr}{d:Option Addr}{oa:Obj}{h':Heap}(S:St m q)(R:mV m.w.params q.g vs ys)(ha:q.s.heap.get? a=none)(keep:∀b o,q.s.heap.get? b=some o->h'.get? b=some o)(ea:h'.get? a=some oa)(jA:oa.dict=d)
  (hd:∀e,d=some e->q.s.heap.get? e=none∧e≠a∧h'.Ns1 e λ_=>none)(body:hO (q.g.inst q.σ.length a d) h' q.σ.length oa c)
  (H:tot (qZ (m.C f (.obj q.σ.length::ys) (q.σ++[⟨c,[]⟩])) q.σ.length q.ρ) K X)(kx:KX m q X Ex)(kv:KV m (RV m.w.params) q K Qv):
  codeAny (model m.prog m.w) (m.A.under (.builtin "type.__call__" ⟨.ref Cc::vs,[]⟩)) (.call (.ref (addrOf f)) ⟨.ref a::vs,[]⟩) (InitBack a (Cq Qv Ex)) {q.s with heap:=h'}:=by
 have S2:=FR.KG S (c:=c) ha keep ea jA hd body
 have Ct:(q.g.inst q.σ.length a d).φ[q.σ.length]?=some a:=(FR.hr S).len▸List.getElem?_concat_length ..
 refine KP H λr hC H=>codeAny_mono (M.pC _ m.fr (M.cx.under Cc _) _ _ _ r hC _ _ _ (FR.hr S2.1) (.cons (.obj Ct) (S2.2.Il R))) λrr s2 p=>?_
 obtain⟨g',H',x,Q',p⟩:=p
 have F:=FR.called S2.1 H' x
 have T:=S2.2.trans x.ext
 cases r with
 |ret y cC=>
  obtain⟨v,rfl,hv⟩:=p
  cases H.1
  exact⟨VR.of_none hv,kv _ _ ⟨g',q.ρ,cC,s2⟩ H.2 F ⟨T,Q'⟩ (.obj (j_ x.φ Ct))⟩
 |exc k' cC=>
  obtain⟨b,rfl,h1,h2,h3⟩:=p
  exact kx _ b ⟨g',q.ρ,cC,s2⟩ H F ⟨T,Q'⟩ ⟨h1,h2,h3.exc m.env⟩
theorem KQ(M:m.Ok){ys:List V}{vs:List Value}(S:St m q)(R:mV m.w.params q.g vs ys)(hl:vs.length<=1000)(kx:KX m q X Ex)(kv:KV m (RV m.w.params) q K Qv):∀c:c_,tot (qZ (m.C (uq c) (.obj q.σ.length::ys) (q.σ++[⟨c,[]⟩])) q.σ.length q.ρ) K X->codeAny (model m.prog m.w) m.A (.call (.ref (clsAt c)) ⟨vs,[]⟩) (Cq Qv Ex) q.s
 |.reader,H=>by
  have X:=M.top.X.keeps (FR.hr S).stays
  refine make_core (makes_of X M.cls.BD) (looks_findIn X M.cls.BE) (λself=>bind_fn X self (uF M _)) (.inl rfl) ?_
  have e1:((q.s.heap.push emptyDict).push (instObj b7 q.s.heap.objs.size)).get? q.s.heap.objs.size=some emptyDict:=Heap.get?_push_of_some _ (Heap.get?_push_size _ rfl)
  exact Cr M (c:=.reader) (h':=(q.s.heap.push emptyDict).push (instObj b7 q.s.heap.objs.size)) (d:=some q.s.heap.objs.size) S R (Heap.get?_none_of_le (gv _)) (λb o e=>Heap.get?_push_of_some _ (Heap.get?_push_of_some _ e)) (by heap_get) rfl (λd q=>by
   cases q
   exact⟨Heap.get?_none_of_le (ξ _),eD (Nat.lt_succ_self _),emptyDict,#[],0,e1,rfl,λe he=>absurd he (Array.not_mem_empty _),.nil,λ_=>rfl⟩) ⟨rfl,rfl⟩ H kx kv
 |.raised,H=>by
  have X:=M.top.X.keeps (FR.hr S).stays
  obtain⟨nm,q',N,bs,hdct,sn,sub,ab,col,uG,k0,uH,k2,k3,k5,hC⟩:=M.cls.rG
  exact KI PySem.F.excBase_Exception X (X _ _ hC) M.cls.BK (uF M _) (gT hl) (Cr M (c:=.raised) (d:=none) S R (Heap.get?_none_of_le (gv _)) (λb o e=>Heap.get?_push_of_some _ (Heap.get?_push_of_some _ e)) (by heap_get) rfl (λd q=>nomatch q) ⟨rfl,#[.ref q.s.heap.objs.size,.none,.none,.none,.bool false,.none],rfl,Nat.lt_succ_of_le (show 4<=5 by decide),.inl rfl⟩ H kx kv)
theorem KU(M:m.Ok){c:c_}{f:Fn}{args:List E}(ha:gG m args):XE m (.new c f args):=λx hc=>rJ (P:=bx m (.new c f args)) (f:=λxs=>bY _ _ args xs&&(decide (f=uq c)&&decide (args.length<=1000))) hc λp xs p' g c1 q K X Qv Ex S H kx kv=>by
 cases(bd (bl (br c1)):f=uq c)
 exact wpAny_Call_ofName (globK M.toAmb0 g (M.cls.nm c) S (callWith_of (P:=m.K.In) (by rw[nh (bl c1)];rfl) (keeps_K (M.cls.kp c)) (uA (nh (bl c1)) ((ha _ _ (bl c1)).at S (rL H.ζ) kx λvs ys q1 h1 S1 T1 R1=>⟨M.top.X.keeps (FR.hr S1).stays,wpAny_call (KQ M S1 R1 ((Ω.length R1).trans h1.2▸bd (br (br c1))) (kx.to T1) (kv.to T1) c h1.1)⟩))))
end
end
section
theorem instK.nl{k:Nat}{r:Role}(x:instK k r):r≠.loc:=by rcases x with rfl|rfl|rfl<;>exact nofun
section
variable{P:Params}{base h h':Heap}{fr:List Env}{env:Env}{names:List PySem.Str}{g g':Gh}{ρ:Loc}{σ:Hp}
theorem HR.body(H:HR P base fr g σ h){k:Nat}{o:O}{a:Addr}{oa oa':Obj}{vs vs':Array Value}(ho:σ[k]?=some o)(aS:g.φ[k]?=some a)(hc:o.cls=.raised)(ea:h.get? a=some oa)(e':h'.get? a=some oa')(cls:oa'.cls=oa.cls)(dict:oa'.dict=oa.dict)(dat:oa.data=.fields vs)(KW:oa'.data=.fields vs')(sz:vs'.size=vs.size)
  (nw:g'.nw=g.nw)(φ:g'.φ=g.φ)(ro:∀b o,h.get? b=some o->g'.ro b=g.ro b)(xw:∀b r,h.get? b=none->g'.ro b=some r->r=.tb k∧∃o,h'.get? b=some o)
  (live:∀b ob,h.get? b=some ob->∃KY,h'.get? b=some KY)(keep:∀b ob,b≠a->g.ro b≠some (.tb k)->h.get? b=some ob->iS fr b ob (h'.get? b))(head:rj g' h' k vs'[1]?):HR P base fr g' σ h'∧ew fr g h g' h':=by
 obtain⟨a',z1,ra,Cu,mA,z3,z4,z5,z6,z7⟩:=H.objs k o ho
 cases aS.symm.trans z1
 cases ea.symm.trans z3
 rw[hc]at z6
 have u:Up g g':=⟨λ_ m=>nw▸m,φ▸ek _⟩
 have xy:∀{b r},g.ro b=some r->g'.ro b=some r:=λe=>(H.mu _ _ e).2.2.1.elim λo q=>(ro _ o q).trans e
 have kp:∀{b ob r},g.ro b=some r->r≠.loc->r≠.tb k->r≠.hN k->h.get? b=some ob->h'.get? b=some ob:=λe n1 n2 n3 e2=>(keep _ _ (nc e ra n3) (λw=>n2 (Option.some.inj (e.symm.trans w))) e2).elim id λq=>absurd q.1 ((H.mu _ _ e).2.2.2 n1)
 have kn:∀{b ob},instRole (g.ro b)=false->h.get? b=some ob->iS fr b ob (h'.get? b):=λi=>keep _ _ (λq=>aG (i.symm.trans (congrArg instRole (q▸ra)))) λq=>aG (i.symm.trans (congrArg instRole q))
 have st:∀{b ob},g.ro b=none->¬isFrame fr b->h.get? b=some ob->h'.get? b=some ob:=λr f e=>(kn (congrArg instRole r) e).elim id λq=>absurd q.1 f
 refine⟨⟨λb ob e=>st (A1 λr q=>ah ((H.mu b r q).1.symm.trans e)) (λ⟨e',m,f⟩=>(H.ff e' m).2.elim λL x=>x.elim λ_ x=>ah (x.2.1.symm.trans (Option.some.inj (x.1.symm.trans f)▸e))) (H.stays b ob e),λp m=>?_,(congrArg List.length φ).trans H.len,λk' o' e=>?_,λb r e=>?_,
  H.ff.to λe m L ol f q d=>(keep L ol (λw=>(H.mu _ _ ra).2.2.2 nofun (w▸⟨e,m,f⟩)) (λw=>(H.mu _ _ w).2.2.2 nofun ⟨e,m,f⟩) q).elim (λz=>⟨ol,z,d⟩) λz=>z.2.elim λsl z=>⟨_,z,d⟩⟩,⟨live,λb ob e i=>kn i e,u.nw,λp m=>.inl (nw▸m),u.φ,ro⟩⟩
 ·rw[nw]at m
  have z:=H.aE p m
  exact⟨st (A1 λr q=>(H.mu _ r q).2.1 p m rfl) z.2 z.1,z.2⟩
 ·by_cases q:k'=k
  ·subst q
   cases ho.symm.trans e
   exact⟨a,φ▸aS,xy ra,oa',mA,e',z4.imp (λz=>⟨dict.trans z.1,z.2⟩) λz=>z.imp λd z=>⟨dict.trans z.1,xy z.2.1,z.2.2.imp λod n=>n.imp λes n=>n.imp λep n=>⟨kp z.2.1 nofun nofun nofun n.1,n.2⟩⟩,z5.to u,hc▸⟨cls.trans z6.1,vs',KW,z6.2.elim λVq x=>by cases dat.symm.trans x.1;exact sz▸x.2.1,head⟩,z7⟩
  ·exact H.obj u (λb r ob c e1 e2=>⟨kp e1 c.nl (c.ne (.inr (.inr rfl)) (Ne.symm q)) (c.ne (.inl rfl) (Ne.symm q)) e2,xy e1⟩) e
 ·cases hb:h.get? b with
  |none=>
   have f:=H.fresh hb
   have z:=xw b r hb e
   exact⟨f.1,nw▸f.2.1,z.2,λ_=>f.2.2.2⟩
  |some ob=>
   have m:=H.mu b r ((ro b ob hb).symm.trans e)
   exact⟨m.1,nw▸m.2.1,live b ob hb,m.2.2.2⟩
theorem HR.raised(H:HR P base fr g σ h){k:Nat}{o:O}{a:Addr}(ho:σ[k]?=some o)(aS:g.φ[k]?=some a)(hc:o.cls=.raised):
  g.ro a=some (.hN k)∧∃oa vs,h.get? a=some oa∧oa.cls=.ref bX∧oa.data=.fields vs∧4<vs.size∧rj g h k vs[1]?:=by
 obtain⟨a',z1,ra,Cu,mA,z3,_,_,z6,_⟩:=H.objs k o ho
 cases aS.symm.trans z1
 rw[hc]at z6
 exact⟨ra,Cu,z6.2.imp λvs x=>⟨z3,z6.1,x⟩⟩
end
end
section
theorem Cv(f:Array Value->Array Value)(o:Obj):(o.mapFields f).dict=o.dict:=by
 obtain⟨c,d,dt,s⟩:=o
 cases dt<;>rfl
theorem KZ:findCls [] (.type "Exception") (.type "type") (PySem.Str.ofString "__init__")=some (.val (.builtin "Exception.__init__")):=by kernel_rfl
theorem K0:typeOf (.type "Exception")=pure (.type "type"):=by kernel_rfl
theorem K1:Manifest.isStub "Exception"=false:=by decide+kernel
theorem Cw{h h':Heap}{a:Addr}{oa:Obj}(ea:h'.get? a=some oa)(keep:∀b o,b≠a->h.get? b=some o->h'.get? b=some o)(b:Addr)(o:Obj)(e:h.get? b=some o):∃o',h'.get? b=some o':=if n:b=a then⟨_,n▸ea⟩else⟨o,keep b o n e⟩
section
variable{m:Fx}{prog:Program}{w:World}{A:Around}{K:Frag}{s:Shared}{Qv Ex:Value->Shared->Prop}
theorem K2(M:iW K)(X:K.In s.heap){a:Addr}{oa:Obj}{vs:Array Value}{vb:Value}(ea:s.heap.get? a=some oa)(ki:oa.cls=.ref bX)(hd:oa.data=.fields vs)(hV:0<vs.size)
  (h:∀h' x,h'.get? a=some (Obj.mapFields (·.setIfInBounds 0 x) oa)->(∀b ob,b≠a->s.heap.get? b=some ob->h'.get? b=some ob)->Qv .none {s with heap:=h'}):wpAny (model prog w) A (call (.builtin "Exception.__init__") [.ref a,vb]) Qv Ex s:=by
 obtain⟨nm,q',N,bs,hdct,sn,sub,ab,col,uG,k0,uH,k2,k3,k5,hC⟩:=M.rG
 have F:=PySem.F.excBase_Exception
 refine wpAny_call (codeAny_call_builtin F.init.plain F.initEntry (wpAny_check_init_sub F (X _ _ hC) ea ki ?_))
 have e1:=Heap.get?_push_of_some {cls:=.type "tuple",data:=.seq #[vb]} ea
 have fin:=h _ _ (Heap.get?_update_self (Obj.mapFields (·.setIfInBounds 0 (Value.ref s.heap.objs.size))) e1 (Obj.isFreed_of_fields (Obj.data_mapFields hd _))) λb ob n e=>(Heap.get?_update_other _ _ (Ne.symm n)).trans (Heap.get?_push_of_some _ e)
 refine wpAny_bind (wpAny_newObj_type (wpAny_bind (wpAny_bind (wpAny_field e1 hd (x:=vs[0]) (Array.getElem?_eq_getElem hV) (wpAny_bind (wpAny_setField e1 hd hV ?_))))) (gT (show 1<=1000 by decide)))
 cases vs[0]with
 |ref old=>exact wpAny_letGo (wpAny_pure fin)
 |_=>exact wpAny_pure (wpAny_pure fin)
theorem K3(M:m.Ok){q:Q}{va vb:Value}{v1:V}{K:V->Loc->Hp->Prop}(hx:isObj q.σ .raised v1=true)(S:St m q)(R:RV m.w.params q.g va v1)(kv:KV m (RV m.w.params) q K Qv)(H:K .none q.ρ q.σ):wpAny (model m.prog m.w) m.A (call (.builtin "Exception.__init__") [va,vb]) Qv Ex q.s:=
 VR.O (p:=λva=>wpAny (model m.prog m.w) m.A (call (.builtin "Exception.__init__") [va,vb]) Qv Ex q.s) R (Cm hx) λa k aS hx=>hx.el λob Cy bN=>by
  obtain⟨ra,oa,vs,ea,ki,hd,di,hh⟩:=(FR.hr S).raised Cy aS bN
  refine K2 M.cls (M.top.X.keeps (FR.hr S).stays) ea ki hd (Nat.zero_lt_of_lt di) λh' x e2 keep=>?_
  have n:∀{T},q.g.ro T=some (.tb k)->T≠a:=λe=>nc e ra nofun
  have Z:=(FR.hr S).body (g':=q.g) (fr:=m.fr) Cy aS bN ea e2 (Obj.cls_mapFields _ _) (Cv _ _) hd (Obj.data_mapFields hd _) (Array.size_setIfInBounds ..) rfl rfl (λ_ _ _=>rfl) (λb r n e=>ah (((FR.hr S).fresh n).2.2.1.symm.trans e)) (Cw e2 keep) (λb ob n _ e=>.inl (keep b ob n e))
   (by rw[Array.getElem?_setIfInBounds,if_neg (by decide)];exact hh.imp id λt=>t.imp λT t=>t.imp λoT t=>t.imp λts t=>⟨t.1,t.2.1,keep T oT (n t.2.1) t.2.2.1,t.2.2.2⟩)
  exact kv .none _ ⟨q.g,q.ρ,q.σ,{q.s with heap:=h'}⟩ H (FR.called S Z.1 Z.2) ⟨Z.2.ext,rfl,rfl⟩ .none
theorem K4{sc:Sc}{ns:List PySem.Str}{x:XP}{P:XP->Prop}{o v:E}(h:τ sc ns (.mN o v) x=true)(k:∀p0 ap y z p,(ap.endLine==p.line)=true->gi sc (PySem.Str.ofString "Exception") "Exception"=true->(notStar y&&(τ sc ns o y&&(notStar z&&τ sc ns v z)))=true->P (.Call (.Attribute (.Name (PySem.Str.ofString "Exception") p0) (PySem.Str.ofString "__init__") ap) [y,z] [] p)):P x:=
 rK (f:=λu xs=>tg u 2&&two xs λy z=>gi sc (nd u).nm "Exception"&&(notStar y&&(τ sc ns o y&&(notStar z&&τ sc ns v z)))) h λu ap xs p l c=>rH (p:=λxs=>P (.Call (.Attribute u _ ap) xs [] p)) (br c) λy z d=>
  bL (P:=λu=>P (.Call (.Attribute u _ ap) [y,z] [] p)) c (by decide) λ_=>(show P (.Call (.Attribute (.Name (nd u).nm _) _ ap) [y,z] [] p)from(lB (bl d)).e.symm▸k _ ap y z p l ((lB (bl d)).e▸bl d) (br d))
theorem K5(M:m.Ok){o v:E}(ho:XE m o)(hv:XE m v):XE m (.mN o v):=λx hc=>K4 (P:=bx m (.mN o v)) hc λp0 ap y z p e2 hg c q K X Qv Ex S H kx kv=>by
 have st:starEach [y,z] m.env=[(false,eval y m.env),(false,eval z m.env)]:=(jx (bl c) _).trans (congrArg _ (jx (bl (br (br c))) _))
 have T0:To m q ⟨q.g,q.ρ,q.σ,{q.s with toks:=q.s.toks+1}⟩:=⟨Ext.refl _ _ _,rfl,rfl⟩
 have pl:(backTo p (starEach [y,z] m.env)).any (·.1)=false:=by rw[st];rfl
 refine pF rfl pl (show 2<30 by decide) e2 (lC M (n:="Exception") hg (by decide) JU S λVr=>?_)
 obtain⟨ol,es,ep,q1,q2,q3,q4⟩:=FR.vars S
 refine method_type (K:=[]) (⟨⟨ol,es,ep,q1,q2,q3,λ_=>rfl⟩,λ_ _ e=>ah e,bC _⟩:Fr (⟨#[],{}⟩:Heap) m.env.locals q.s.heap (nsFind es)) (λ_ _ e=>ah e) K0 K1 KZ rfl (lA pl ?_)
 rw[st]
 exact spliced_cons ((ho y (bl (br c))).ζ (q:=⟨q.g,q.ρ,q.σ,{q.s with toks:=q.s.toks+1}⟩) S H (kx.to T0) λva v1 q1 h1 S1 T1 R1=>spliced_cons ((hv z (br (br (br c)))).ζ S1 h1 (kx.to (T0.trans T1)) λvb v2 q2 h2 S2 T2 R2=>spliced_nil
  (h2.if λhx h2=>K3 M hx S2 (T2.vr R1) (kv.to ((T0.trans T1).trans T2)) h2)))
end
end
section
noncomputable def ExcAt(h:Heap)(a:Addr)(f:Value):Prop:=
 ∃oa vs T oT ts,h.get? a=some oa∧oa.data=.fields vs∧vs[1]?=some (.ref T)∧h.get? T=some oT∧oT.data=.fields ts∧ts[3]?=some f
theorem ExcAt.thrown{h:Heap}{a:Addr}(x:ExcAt h a .none):rE h a:=
 x.imp λ_ x=>x.imp λ_ x=>x.elim λT x=>x.elim λoT x=>x.elim λts x=>⟨x.1,x.2.1,.inr ⟨T,oT,ts,x.2.2⟩⟩
theorem ExcAt.exc{h:Heap}{a:Addr}{env:Env}{L:Addr}(hf:env.frame=some L)(x:ExcAt h a (rawInt L)):rz h env a:=
 x.imp λ_ x=>x.imp λ_ x=>x.elim λT x=>x.elim λoT x=>x.elim λts x=>⟨x.1,x.2.1,.inr ⟨T,oT,ts,_,x.2.2.1,x.2.2.2.1,x.2.2.2.2.1,x.2.2.2.2.2,.inr ⟨L,hf,rfl⟩⟩⟩
theorem K6{fr:List Env}{b:Addr}(h:b∈fr.filterMap (·.frame)):isFrame fr b:=by
 exact List.mem_filterMap.mp h
section
variable{M:Model}{A:Around}{E:Value->Shared->Prop}{s:Shared}
theorem K7{base:Heap}{env:Env}{outer:List Env}{L e:Addr}{oe:Obj}{vs:Array Value}{head:Value}{uI:Bool}{Q:Unit->Shared->Prop}
  (nA:A.frames=some (env::outer))(hl:s.heap.FunFrames base (env::outer))(hf:env.frame=some L)
  (he:s.heap.get? e=some oe)(hd:oe.data=.fields vs)(di:1<vs.size)
  (h:∀h' T oT ts,s.heap.get? T=none->T≠e->h'.get? T=some oT->oT.data=.fields ts->3<ts.size->ts[3]?=some (rawInt L)->h'.get? e=some (Obj.mapFields (·.setIfInBounds 1 (.ref T)) oe)->(∀b o,b≠e->s.heap.get? b=some o->iS (env::outer) b o (h'.get? b))->Q () {s with heap:=h'}):
  wpAny M A (do let a<-frameOf env;let pl<-entryPlaceOf L uI;let b<-EntryCells.newEntry head a .none (rawInt L) .none pl;setField (.ref e) 1 b) Q E s:=by
 have K8:e∉(env::outer).filterMap (·.frame):=λhm=>by
  obtain⟨_,o,ho,K9⟩:=hl.mem hm
  rw[he]at ho;injection ho with ho;subst ho;exact K9 vs hd
 refine wpAny_bind (wpAny_frameOf_fun nA hl hf λbj uJ=>?_)
 refine wpAny_bind (wpAny_entryPlaceOf λpl K_=>?_)
 unfold EntryCells.newEntry newFields
 refine wpAny_bind (wpAny_newObj_type ?_ (K_.sizeOk5 _ _ _ _ _))
 have Cz:bj.get? e=some oe:=(uJ.2.1 e K8).trans he
 have CC:=Heap.get?_push_of_some (h:=bj) {cls:=.type "traceback",dict:=none,data:=.fields ([head,.ref L,.none,rawInt L,.none]++(if pl.isEmpty then List.replicate 6 Value.none else pl)).toArray} Cz
 refine wpAny_setField CC hd di ?_
 have CD:bj.objs.size≠e:=Nat.ne_of_gt (Heap.lt_size Cz)
 have La:=Obj.data_mapFields hd (·.setIfInBounds 1 (Value.ref bj.objs.size))
 have Lb:=Heap.get?_update_self (Obj.mapFields (·.setIfInBounds 1 (Value.ref bj.objs.size))) CC (Obj.isFreed_of_fields La)
 have Lc:=(Heap.get?_update_other (bj.push {cls:=.type "traceback",dict:=none,data:=.fields ([head,.ref L,.none,rawInt L,.none]++(if pl.isEmpty then List.replicate 6 Value.none else pl)).toArray})
  (Obj.mapFields (·.setIfInBounds 1 (Value.ref bj.objs.size))) (Ne.symm CD)).trans (Heap.get?_push_size bj rfl)
 refine h _ bj.objs.size _ _ (Heap.get?_none_of_le (by rw[uJ.1];exact ξ _)) CD Lc rfl (by simp only[List.size_toArray,Θ,List.length_cons,List.length_nil]<;>simp+arith) (by simp) Lb λb o Ld hb=>?_
 obtain⟨sl,q⟩:=uJ.2.2 b o hb
 have up:∀o',bj.get? b=some o'->((bj.push {cls:=.type "traceback",dict:=none,data:=.fields ([head,.ref L,.none,rawInt L,.none]++(if pl.isEmpty then List.replicate 6 Value.none else pl)).toArray}).update e (Obj.mapFields (·.setIfInBounds 1 (Value.ref bj.objs.size)))).get? b=some o':=λo' z=>
  (Heap.get?_update_other _ _ (Ne.symm Ld)).trans (Heap.get?_push_of_some _ z)
 by_cases hm:b∈(env::outer).filterMap (·.frame)
 ·exact .inr ⟨K6 hm,sl,up _ q⟩
 ·exact .inl (up _ ((uJ.2.1 b hm).trans hb))
end
section
variable{M:Model}{A:Around}{E:Value->Shared->Prop}{s:Shared}{P:Params}{base:Heap}{outer:List Env}{env:Env}{fr:List Env}{g:Gh}{σ:Hp}{k:Nat}{o:O}{a L:Addr}{h h':Heap}{oa:Obj}{vs:Array Value}
theorem HR.Lg(H:HR P base fr g σ h)(ho:σ[k]?=some o)(aS:g.φ[k]?=some a)(hc:o.cls=.raised)(ea:h.get? a=some oa)(hd:oa.data=.fields vs)(di:1<vs.size){T:Addr}{oT:Obj}{ts:Array Value}(nT:h.get? T=none)(t3:h'.get? T=some oT)(t4:oT.data=.fields ts)(t5:3<ts.size)(t7:h'.get? a=some (Obj.mapFields (·.setIfInBounds 1 (.ref T)) oa))
  (t8:∀b o,b≠a->h.get? b=some o->iS fr b o (h'.get? b)):(HR P base fr (g.role T (.tb k)) σ h'∧ew fr g h (g.role T (.tb k)) h')∧(vs.setIfInBounds 1 (.ref T))[1]?=some (.ref T):=
 have e1:(vs.setIfInBounds 1 (.ref T))[1]?=some (.ref T):=(Array.getElem?_setIfInBounds ..).trans ((if_pos rfl).trans (if_pos di))
 ⟨H.body ho aS hc ea t7 (Obj.cls_mapFields _ _) (Cv _ _) hd (Obj.data_mapFields hd _) Array.size_setIfInBounds rfl rfl (λb ob e=>if_neg λq=>ah (nT.symm.trans (q▸e))) (λb r n e=>if q:b=T then by subst q;cases(if_pos rfl).symm.trans e;exact⟨rfl,_,t3⟩else ah ((H.fresh n).2.2.1.symm.trans ((if_neg q).symm.trans e)))
  (λb ob e=>if q:b=a then⟨_,q▸t7⟩else(t8 b ob q e).elim (λz=>⟨_,z⟩) λz=>z.2.elim λ_ z=>⟨_,z⟩) (λb ob q _=>t8 b ob q) (.inr ⟨T,oT,ts,e1,if_pos rfl,t3,t4,t5⟩),e1⟩
theorem Lh{f:Array Value->Array Value}{oT:Obj}{ts:Array Value}(d:oT.data=.fields ts)(e:f ts=ts):Obj.mapFields f oT=oT:=by
 obtain⟨c,d',dt,sl⟩:=oT
 cases d
 exact congrArg (λt=>Obj.mk c d' (.fields t) sl) e
theorem set_same{ts:Array Value}{i:Nat}{v:Value}(h:ts[i]?=some v):ts.setIfInBounds i v=ts:=by
 obtain⟨l,rfl⟩:=Array.getElem?_eq_some_iff.mp h
 unfold Array.setIfInBounds
 rw[dif_pos l]
 exact Array.set_getElem_self l
theorem CE{a:Addr}:(Value.ref a !=Value.none)=true:=by simp
theorem HR.note{Q:Unit->Shared->Prop}(H:HR P base (env::outer) g σ s.heap)(nA:A.frames=some (env::outer))(hf:env.frame=some L)(ho:σ[k]?=some o)(aS:g.φ[k]?=some a)(hc:o.cls=.raised)(x:rz s.heap env a)
  (h:∀g' h',HR P base (env::outer) g' σ h'->ew (env::outer) g s.heap g' h'->ExcAt h' a (rawInt L)->Q () {s with heap:=h'}):wpAny M A (noteFrame (.ref a) env) Q E s:=by
 obtain⟨ra,oa,vs,ea,ki,hd,di,hh⟩:=H.raised ho aS hc
 obtain⟨oa',vs',xA,nz,x⟩:=x
 cases ea.symm.trans xA
 cases hd.symm.trans nz
 have di:1<vs.size:=Nat.lt_of_add_left_lt di
 have done:∀bj,(∀b,bj.get? b=s.heap.get? b)->∀head uI,wpAny M A (do let fo<-frameOf env;let pl<-entryPlaceOf L uI;let b<-EntryCells.newEntry head fo .none (rawInt L) .none pl;setField (.ref a) 1 b) Q E {s with heap:=bj}:=λbj eq head uI=>
  K7 (s:={s with heap:=bj}) nA (H.ff.keep λb o e=>(eq b).trans e).AZ hf ((eq a).trans ea) hd di λh' T oT ts t1 t2 t3 t4 t5 t6 t7 t8=>
   have Z:=H.Lg ho aS hc ea hd di ((eq T).symm.trans t1) t3 t4 t5 t7 λb ob q e=>t8 b ob q ((eq b).trans e)
   h _ _ Z.1.1 Z.1.2 ⟨_,_,T,oT,ts,t7,Obj.data_mapFields hd _,Z.2,t3,t4,t6⟩
 unfold noteFrame
 rw[hf]
 rcases x with x|⟨T,oT,ts,f,x1,x2,x3,x4,x5⟩
 ·exact wpAny_bind (wpAny_field ea hd x (done s.heap (λ_=>rfl) _ _))
 ·refine wpAny_bind (wpAny_field ea hd x1 ?_)
  rw[if_pos CE]
  refine wpAny_bind (wpAny_field x2 x3 x4 ?_)
  rcases x5 with rfl|⟨L',l1,rfl⟩
  ·have same:=Lh (f:=(·.setIfInBounds 3 Value.none)) x3 (set_same x4)
   exact wpAny_bind (wpAny_setField x2 x3 (Array.getElem?_eq_some_iff.mp x4).1 (done _ (λb=>if q:b=T then q▸((Heap.get?_update_self _ x2 (Obj.isFreed_of_fields (Obj.data_mapFields x3 _))).trans ((congrArg some same).trans x2.symm))else Heap.get?_update_other _ _ (Ne.symm q)) _ _))
  ·cases hf.symm.trans l1
   rw[if_pos (beq_self_eq_true _)]
   exact wpAny_pure (h g s.heap H ⟨λb o e=>⟨o,e⟩,λb o e _=>.inl e,λ_ m=>m,λ_ m=>.inl m,ek _,λ_ _ _=>rfl⟩ ⟨oa,vs,T,oT,ts,ea,hd,x1,x2,x3,x4⟩)
theorem rj.ref{T:Addr}{oT:Obj}{ts:Array Value}{x:Option Value}(hh:rj g h k x)(x1:x=some (.ref T))(x2:h.get? T=some oT)(x3:oT.data=.fields ts):g.ro T=some (.tb k)∧3<ts.size:=
 hh.elim (λq=>nomatch x1.symm.trans q) λ⟨T',lJ,pH,t1,t2,t3,t4,t5⟩=>by
  cases x1.symm.trans t1
  cases x2.symm.trans t3
  cases x3.symm.trans t4
  exact⟨t2,t5⟩
theorem HR.rS{Q:Unit->Shared->Prop}{f:Value}{fl:Option Addr}(H:HR P base fr g σ s.heap)(ho:σ[k]?=some o)(aS:g.φ[k]?=some a)(hc:o.cls=.raised)(x:ExcAt s.heap a f)
  (h:∀h',HR P base fr g σ h'->ew fr g s.heap g h'->ExcAt h' a (fl.elim .none λf=>rawInt f)->Q () {s with heap:=h'}):wpAny M A (setFlight (.ref a) fl) Q E s:=by
 obtain⟨ra,oa,vs,ea,ki,hd,di,hh⟩:=H.raised ho aS hc
 obtain⟨oa',vs',T,oT,ts,xA,nz,x1,x2,x3,x4⟩:=x
 cases ea.symm.trans xA
 cases hd.symm.trans nz
 have rT:=hh.ref x1 x2 x3
 refine wpAny_bind (wpAny_field ea hd x1 ?_)
 rw[if_pos CE]
 generalize (fl.elim Value.none λf=>rawInt f)=nf at h⊢
 refine wpAny_setField x2 x3 rT.2 ?_
 have eT:=Heap.get?_update_self (Obj.mapFields (·.setIfInBounds 3 nf)) x2 (Obj.isFreed_of_fields (Obj.data_mapFields x3 _))
 have ko:∀b,b≠T->(s.heap.update T (Obj.mapFields (·.setIfInBounds 3 nf))).get? b=s.heap.get? b:=λb q=>Heap.get?_update_other _ _ (Ne.symm q)
 generalize s.heap.update T (Obj.mapFields (·.setIfInBounds 3 nf))=h' at eT ko⊢
 have CF:=(ko a (nc ra rT.1 nofun)).trans ea
 have Z:=H.body ho aS hc ea CF rfl rfl hd hd rfl rfl rfl (λ_ _ _=>rfl) (λb r n e=>ah ((H.fresh n).2.2.1.symm.trans e)) (Cw eT λb o n e=>(ko b n).trans e) (λb ob _ n e=>.inl ((ko b λq=>n (q▸rT.1)).trans e)) (.inr ⟨T,_,_,x1,rT.1,eT,Obj.data_mapFields x3 _,Nat.lt_of_lt_of_eq rT.2 Array.size_setIfInBounds.symm⟩)
 exact h _ Z.1 Z.2 ⟨oa,vs,T,_,_,CF,hd,x1,eT,Obj.data_mapFields x3 _,(Array.getElem?_setIfInBounds ..).trans ((if_pos rfl).trans (if_pos rT.2))⟩
theorem ew.trans{fr:List Env}{c6 bI mS:Gh}{bj cB mT:Heap}(x:ew fr c6 bj bI cB)(y:ew fr bI cB mS mT):ew fr c6 bj mS mT where
 live b o e:=(x.live b o e).elim λo' e'=>y.live b o' e'
 keep b o e r:=(x.keep b o e r).trans λo' e'=>y.keep b o' e' ((congrArg instRole (x.ro b o e)).trans r)
 nw p m:=y.nw p (x.nw p m)
 gE p m:=(y.gE p m).elim (x.gE p) λq=>.inr (x.ext.s.back q)
 φ:=x.φ.trans y.φ
 ro b o e:=(x.live b o e).elim λo' e'=>(y.ro b o' e').trans (x.ro b o e)
theorem HR.leaving{Q:Unit->Shared->Prop}(H:HR P base (env::outer) g σ s.heap)(nA:A.frames=some (env::outer))(hf:env.frame=some L)(ho:σ[k]?=some o)(aS:g.φ[k]?=some a)(hc:o.cls=.raised)(x:rz s.heap env a)
  (h:∀g' h',HR P base (env::outer) g' σ h'->ew (env::outer) g s.heap g' h'->rE h' a->Q () {s with heap:=h'}):wpAny M A (leaving env (.ref a)) Q E s:=by
 unfold PySem.leaving
 refine wpAny_bind (H.note nA hf ho aS hc x λg' h' H' E' x'=>?_)
 refine HR.rS (s:={s with heap:=h'}) (fl:=none) H' ho (j_ E'.φ aS) hc x' λnB uK Li Lj=>?_
 exact h g' nB uK (E'.trans Li) Lj.thrown
end
end
section
noncomputable abbrev XS:=PySem.Stmt
noncomputable def nE(x:XP):Bool:= !tg x 15&&(!tg x 18&& !tg x 19)
noncomputable def CH(x:XP):Bool:= !tg x 3
noncomputable def nF(sc:Sc)(y:PySem.Str):Bool:=decide (sc.lookup y=some .local)
structure Sd where
 tag:Nat
 ts:List XP
 a:XP
 b:XP
 op:Operator
 o:Option XP
 o2:Option XP
 bs:List XS
 cs:List XS
 ds:List XS
 hs:List ExceptHandler
 p:Pos
noncomputable section
noncomputable def cu:Sd:=let z:XP:=.Name default default;⟨0,[],z,z,.Add,.none,.none,[],[],[],[],default⟩
noncomputable def sd(x:XS):Sd:=PySem.Stmt.casesOn (motive_2:=λ_=>Sd) x
 (λx x x x x x x x x x=>cu)
 (λx x x x x x x x x x=>cu)
 (λx x x x x x x x x x x=>cu)
 (λx0 x1=>{cu with tag:=7,o:=x0,p:=x1})
 (λx x=>cu)
 (λx0 x1 x2=>{cu with tag:=1,ts:=x0,a:=x1,p:=x2})
 (λx x x x x x x=>cu)
 (λx0 x1 x2 x3=>{cu with tag:=2,a:=x0,op:=x1,b:=x2,p:=x3})
 (λx x x x x=>cu)
 (λx0 x1 x2 x3 x4=>{cu with tag:=6,a:=x0,b:=x1,bs:=x2,cs:=x3,p:=x4})
 (λx x x x x=>cu)
 (λx0 x1 x2 x3=>{cu with tag:=5,a:=x0,bs:=x1,cs:=x2,p:=x3})
 (λx0 x1 x2 x3=>{cu with tag:=4,a:=x0,bs:=x1,cs:=x2,p:=x3})
 (λx x x=>cu)
 (λx x x=>cu)
 (λx x x=>cu)
 (λx0 x1 x2=>{cu with tag:=8,o:=x0,o2:=x1,p:=x2})
 (λx0 x1 x2 x3 x4=>{cu with tag:=10,bs:=x0,hs:=x1,cs:=x2,ds:=x3,p:=x4})
 (λx x x x x=>cu)
 (λx x x=>cu)
 (λx x=>cu)
 (λx x x x=>cu)
 (λx x=>cu)
 (λx x=>cu)
 (λx0 x1=>{cu with tag:=3,a:=x0,p:=x1})
 (λx=>cu)
 (λx0=>{cu with tag:=9,p:=x0})
 (λx=>cu)
noncomputable def Lk:List (Sd->XS):=[λd=>.Pass d.p,λd=>.Assign d.ts d.a d.p,λd=>.AugAssign d.a d.op d.b d.p,λd=>.Expr d.a d.p,λd=>.If d.a d.bs d.cs d.p,λd=>.While d.a d.bs d.cs d.p,λd=>.For d.a d.b d.bs d.cs d.p,λd=>.Return d.o d.p,λd=>.Raise d.o d.o2 d.p,λd=>.Break d.p,λd=>.Try d.bs d.hs d.cs d.ds d.p]
noncomputable def CI(k:Nat)(d:Sd):XS:=(Lk.getD k λd=>.Pass d.p) d
theorem Ll(x:XS):(sd x).tag=0∨x=CI (sd x).tag (sd x):=by cases x<;>first|exact .inl rfl|exact .inr rfl
noncomputable def sg(x:XS)(k:Nat):Bool:=(sd x).tag==k
structure CJ where
 t:Option XP
 n:Option PySem.Str
 b:List XS
 p:Pos
noncomputable def jC(x:ExceptHandler):CJ:=PySem.ExceptHandler.casesOn (motive_4:=λ_=>CJ) x λt n b p=>⟨t,n,b,p⟩
theorem Lm(x:ExceptHandler):x=.ExceptHandler (jC x).t (jC x).n (jC x).b (jC x).p:=by cases x;rfl
noncomputable def uL:E->Bool
 |.fm .. =>true
 |_=>false
noncomputable def uM(ns:List PySem.Str):List Nat->List XP->Bool
 |[],xs=>xs.isEmpty
 |_::_,[]=>false
 |i::is,x::xs=>dA ns i x&&uM ns is xs
noncomputable def xB(sc:Sc)(y:PySem.Str)(l:Nat)(v:XP):Bool:=nF sc y&&(decide (l=v.pos.line)&& !((nd v).sc.names.any λ(n,k)=>n==y&&(k==.local||k==.cell)))
noncomputable def xC(sc:Sc)(ns:List PySem.Str)(lo:Option E)(hi:E)(es:List XP):Bool:=match lo with
 |.none=>one es λh=>notStar h&&τ sc ns hi h
 |some l=>two es λh h'=>notStar h&&(τ sc ns l h&&(notStar h'&&τ sc ns hi h'))
noncomputable def Ln(sc:Sc)(ns:List PySem.Str)(x y:Nat)(a b:E)(n1 n2 v1 v2:XP):Bool:=
 tg n1 2&&(tg n2 2&&(decide (ns[x]?=some (nd n1).nm)&&(decide (ns[y]?=some (nd n2).nm)&&(notStar v1&&(τ sc ns a v1&&(notStar v2&&(τ sc ns b v2&&(decide ((nd n1).nm≠(nd n2).nm)&&(nF sc (nd n1).nm&&(nF sc (nd n2).nm&&(decide ((nd n1).p.line=(nd n2).p.line)&&
  (!(foldedForSure 8 v1&&foldedForSure 8 v2)&& !(constantsAlone 8 v1&&constantsAlone 8 v2)))))))))))))
noncomputable def xD:fM->Bool
 |.add=>true
 |.sub=>true
 |_=>false
noncomputable def xE(sc:Sc)(ns:List PySem.Str)(y:Nat)(fs:List ay)(h:ExceptHandler):Bool:=(jC h).t.any λc=>(jC h).n.any λmm=>one (jC h).b λs=>sg s 7&&(sd s).o.any λr=>tg c 2&&(gi sc (nd c).nm "Raised"&&(decide (ns[y]?=some mm)&&(nF sc mm&&τ sc ns (j9 y fs) r)))
mutual
noncomputable def CK(sc:Sc)(ns:List PySem.Str):S->XS->Bool
 |.asg x e,st=>sg st 1&&one (sd st).ts λt=>tg t 2&&(decide (ns[x]?=some (nd t).nm)&&(τ sc ns e (sd st).a&&(if uL e then xB sc (nd t).nm (nd t).p.line (sd st).a else nE (sd st).a)))
 |.own x,st=>sg st 1&&one (sd st).ts λt=>tg t 2&&(decide (ns[x]?=some (nd t).nm)&&(nF sc (nd t).nm&&(tg (sd st).a 4&&(nd (sd st).a).es.isEmpty)))
 |.cK xs e,st=>sg st 1&&one (sd st).ts λt=>tg t 3&&(uM ns xs (nd t).es&&(τ sc ns e (sd st).a&&(nE (sd st).a&&CH (sd st).a)))
 |.fT x y a b,st=>sg st 1&&one (sd st).ts λt=>tg t 3&&(tg (sd st).a 3&&two (nd t).es λn1 n2=>two (nd (sd st).a).es (Ln sc ns x y a b n1 n2))
 |.sat o f e,st=>sg st 1&&one (sd st).ts λt=>tg t 14&&(decide ((nd t).nm=fldStr f)&&(τ sc ns o (nd t).a&&(τ sc ns e (sd st).a&&nE (sd st).a)))
 |.j5 o f op e,st=>sg st 2&&(decide ((sd st).op=pk op)&&(xD op&&(τ sc ns e (sd st).b&&(tg (sd st).a 14&&(decide ((nd (sd st).a).nm=fldStr f)&&τ sc ns o (nd (sd st).a).a)))))
 |.aug x op e,st=>sg st 2&&(decide ((sd st).op=pk op)&&(xD op&&(τ sc ns e (sd st).b&&dA ns x (sd st).a)))
 |.ex e,st=>sg st 3&&(τ sc ns e (sd st).a&&nE (sd st).a)
 |.ifs c t e,st=>sg st 4&&(pE sc ns c (sd st).a&&(fY sc ns t (sd st).bs&&fY sc ns e (sd st).cs))
 |.bu c b,st=>sg st 5&&((sd st).cs.isEmpty&&(pE sc ns c (sd st).a&&fY sc ns b (sd st).bs))
 |.fU x lo hi b,st=>sg st 6&&((sd st).cs.isEmpty&&(dA ns x (sd st).a&&(fY sc ns b (sd st).bs&&(fn sc "range" (sd st).b&&xC sc ns lo hi (nd (sd st).b).es))))
 |.gO x it b,st=>sg st 6&&((sd st).cs.isEmpty&&(dA ns x (sd st).a&&(fY sc ns b (sd st).bs&&(xi (sd st).b&&τ sc ns it (sd st).b))))
 |.ret e,st=>sg st 7&&(sd st).o.any λa=>τ sc ns e a
 |.cq e,st=>sg st 8&&((sd st).o2.isNone&&(sd st).o.any λa=>τ sc ns e a)
 |.gP x f args y fs,st=>sg st 10&&((sd st).cs.isEmpty&&((sd st).ds.isEmpty&&one (sd st).bs λs=>sg s 1&&one (sd s).ts λn=>dA ns x n&&(τ sc ns (.call f args) (sd s).a&&one (sd st).hs (xE sc ns y fs))))
 |.brk,st=>sg st 9
noncomputable def fY(sc:Sc)(ns:List PySem.Str):List S->List XS->Bool
 |[],xs=>xs.isEmpty
 |_::_,[]=>false
 |s::r,x::xs=>CK sc ns s x&&fY sc ns r xs
end
end
theorem d9{x:XS}{P:XS->Prop}{k:Nat}{f:Bool}(h:(sg x k&&f)=true)(hk:k≠0)(q:f=true->P (CI k (sd x))):P x:=
 have e:(sd x).tag=k:=eq_of_beq (bl h)
 (Ll x).elim (λz=>(hk (e.symm.trans z)).elim) λz=>by rw[e]at z;exact z▸q (br h)
theorem pI{α:Type}{o:Option α}{f:α->Bool}(h:o.any f=true){p:Option α->Prop}(k:∀t,f t=true->p (some t)):p o:=by
 cases o with
 |none=>exact aG h
 |some t=>exact k t h
theorem kj{α:Type}{l:List α}(h:l.isEmpty=true){p:List α->Prop}(k:p []):p l:=cZ.mp h▸k
structure Fx.fv (m:Fx):Prop extends m.Ok where
 xF:∃outer L,m.fr=m.env::outer∧m.env.frame=some L
section
variable(m:Fx)
structure bz (q q':Q):Prop where
 e:cM m.fr q.g q.s.heap q'.g q'.s.heap
 q:dz q.s q'.s
structure KS (q:Q) (K:Flow->Loc->Hp->Prop) (Qv:PySem.Flow->Shared->Prop):Prop where
 nx:∀q',K .ο q'.ρ q'.σ->St m q'->bz m q q'->Qv .next q'.s
 bk:∀q',K .brk q'.ρ q'.σ->St m q'->bz m q q'->Qv .brk q'.s
 rt:∀v y q',K (.ret y) q'.ρ q'.σ->St m q'->bz m q q'->RV m.w.params q'.g v y->Qv (.ret v) q'.s
noncomputable def fw(q:Q)(X:Nat->Loc->Hp->Prop)(Ex:Value->Shared->Prop):Prop:=∀k a q',X k q'.ρ q'.σ->St m q'->bz m q q'->uy m q' k a->Ex (.ref a) q'.s
noncomputable def CM(t:Sem PySem.Flow)(c:Loc->Hp->M Flow):Prop:=∀(q:Q) (K:Flow->Loc->Hp->Prop) (X:Nat->Loc->Hp->Prop) (Qv:PySem.Flow->Shared->Prop) (Ex:Value->Shared->Prop),
 St m q->tot (c q.ρ q.σ) K X->fw m q X Ex->KS m q K Qv->wpAny (model m.prog m.w) m.A t Qv Ex q.s
noncomputable def aw(W:Nat)(st:S)(x:XS):Prop:=CM m (exec x m.env) (pd m.C W st)
noncomputable def ZS(W:Nat)(st:S):Prop:=∀x,CK m.env.scope.names m.names st x=true->aw m W st x
noncomputable def fy(W:Nat)(nG:List S):Prop:=∀xs,fY m.env.scope.names m.names nG xs=true->CM m (execs xs m.env) (θ m.C W nG)
end
section
variable{m:Fx}{q q1:Q}{X:Nat->Loc->Hp->Prop}{K:Flow->Loc->Hp->Prop}{Qv:PySem.Flow->Shared->Prop}{Ex:Value->Shared->Prop}{W:Nat}
theorem To.s(t:To m q q1):bz m q q1:=⟨t.e.s,t.q⟩
theorem bz.refl:bz m q q:=⟨cM.refl _ _ _,dz.refl _⟩
theorem bz.trans{q2:Q}(a:bz m q q1)(b:bz m q1 q2):bz m q q2:=⟨a.e.trans b.e,a.q.trans b.q⟩
theorem fw.to(k:fw m q X Ex)(t:bz m q q1):fw m q1 X Ex:=λn a q' h S T=>k n a q' h S (t.trans T)
theorem fw.x(k:fw m q X Ex):KX m q X Ex:=λn a q' h S T=>k n a q' h S T.s
theorem fw.tx(k:fw m q X Ex)(t:To m q q1):KX m q1 X Ex:=(k.to t.s).x
theorem KS.to(k:KS m q K Qv)(t:bz m q q1):KS m q1 K Qv:=⟨λq' h S T=>k.nx q' h S (t.trans T),λq' h S T=>k.bk q' h S (t.trans T),λv y q' h S T=>k.rt v y q' h S (t.trans T)⟩
theorem pJ{v:XP}(h:nE v=true){env:Env}(t:Option XP)(l:Nat):swapsWith v t l env=pure false:=by
 cases v<;>first|rfl|exact aG h
theorem rU{env:Env}{y:PySem.Str}(h:nF env.scope.names y=true):env.kindOf y=some .local:=of_decide_eq_true h
theorem CN:fy m W []:=λxs hc q K X Qv Ex S H _ k=>kj (p:=λxs=>wpAny (model m.prog m.w) m.A (execs xs m.env) Qv Ex q.s) hc (wpAny_execs_nil (k.nx q H S bz.refl))
theorem CO{st:S}{nG:List S}(h1:ZS m W st)(h2:fy m W nG):fy m W (st::nG):=λxs hc q K X Qv Ex S H kx k=>by
 cases xs with
 |nil=>exact aG hc
 |cons x xs=>exact wpAny_execs_cons (h1 x (bl hc) q _ X _ Ex S H.ζ kx ⟨λq1 h S1 T=>h2 xs (br hc) q1 K X Qv Ex S1 h (kx.to T) (k.to T),λq1 h S1 T=>k.bk q1 h S1 T,λv y q1 h S1 T R=>k.rt v y q1 h S1 T R⟩)
theorem rV{x:Nat}{y:PySem.Str}{v:Value}{z:V}{Qu:Unit->Shared->Prop}(S:St m q)(hy:m.names[x]?=some y)(R:RV m.w.params q.g v z)(k:∀h' tk,St m ⟨q.g,q.ρ.set x (.v z),q.σ,{q.s with heap:=h',toks:=tk}⟩->bz m q ⟨q.g,q.ρ.set x (.v z),q.σ,{q.s with heap:=h',toks:=tk}⟩->Qu () {q.s with heap:=h',toks:=tk}):wpAny (model m.prog m.w) m.A (storeName m.env y v) Qu Ex q.s:=
 FR.Bn S hy R λh' tk F' E'=>k h' tk F' ⟨E',rfl,rfl⟩
theorem uN{x:Nat}{y:PySem.Str}{v:Value}{z:V}{Qu:Unit->Shared->Prop}(S1:St m q1)(T:bz m q q1)(hy:m.names[x]?=some y)(R:RV m.w.params q1.g v z)(k:KS m q K Qv)(H:K .ο (q1.ρ.set x (.v z)) q1.σ)(u:∀s,Qv .next s->Qu () s):wpAny (model m.prog m.w) m.A (storeName m.env y v) Qu Ex q1.s:=
 rV S1 hy R λh' tk S2 T2=>u _ (k.nx _ H S2 (T.trans T2))
theorem Lo{x:Nat}:ZS m W (.own x):=λst hc=>d9 (P:=aw m W (.own x)) hc (by decide) λc=>dW (p:=λts=>aw m W (.own x) (.Assign ts (sd st).a _)) c λt c=>bL (P:=λt=>aw m W (.own x) (.Assign [t] _ _)) c (by decide) λc=>
 bL (P:=λa=>aw m W (.own x) (.Assign [_] a _)) (br (br c)) (by decide) λd=>kj (p:=λes=>aw m W (.own x) (.Assign [_] (.List es _) _)) d λq K X Qv Ex S H kx k=>
  wpAny_Assign_Name (List_ (spliced_nil (wpAny_newObj_type (FR.I4 S (bd (bl c)) (rU (bl (br c))) λg' h' tk F' E'=>k.nx ⟨g',q.ρ.set x (.own []),q.σ,_⟩ H F' ⟨E',rfl,rfl⟩) (bC _)))) (pJ rfl _ _)
theorem Lp{x:Nat}{e:E}(h:XE m e)(hn:uL e=false):ZS m W (.asg x e):=λst hc=>d9 (P:=aw m W (.asg x e)) hc (by decide) λc=>dW (p:=λts=>aw m W (.asg x e) (.Assign ts (sd st).a _)) c λt c=>bL (P:=λt=>aw m W (.asg x e) (.Assign [t] _ _)) c (by decide) λc q K X Qv Ex S H kx k=>
 wpAny_Assign_Name ((h _ (bl (br c))).ζ S H kx.x λv y q1 h1 S1 T R=>uN S1 T.s (bd (bl c)) R k h1 λ_ h=>h) (pJ (by have c:=br (br c);rw[hn]at c;exact c) _ _)
theorem Lq{e:E}(h:XE m e):ZS m W (.ex e):=λst hc=>d9 (P:=aw m W (.ex e)) hc (by decide) λc q K X Qv Ex S H kx k=>
 wpAny_Expr_any ((h _ (bl c)).ζ S H kx.x λv y q1 h1 S1 T R=>k.nx q1 h1 S1 T.s) (FR.cg S).inter (pJ (br c) _ _)
theorem Lr{e:E}(h:XE m e):ZS m W (.ret e):=λst hc=>d9 (P:=aw m W (.ret e)) hc (by decide) λc=>pI (p:=λo=>aw m W (.ret e) (.Return o _)) c λa c q K X Qv Ex S H kx k=>
 wpAny_Return_some ((h a c).ζ S H kx.x λv y q1 h1 S1 T R=>k.rt v y q1 h1 S1 T.s R)
theorem Lu:ZS m W .brk:=λst hc=>d9 (P:=aw m W .brk) (f:=true) (bD.mpr ⟨hc,rfl⟩) (by decide) λ_ q K X Qv Ex S H kx k=>wpAny_Break (k.bk q H S bz.refl)
theorem Lv{c:E}{t e:List S}(xG:XT m c)(ht:fy m W t)(Lw:fy m W e):ZS m W (.ifs c t e):=λst hc=>d9 (P:=aw m W (.ifs c t e)) hc (by decide) λcc q K X Qv Ex S H kx k=>
 wpAny_If ((xG _ (bl cc)).at (K:=λb ρ h=>tot (if b=true then θ m.C W t ρ h else θ m.C W e ρ h) K X) S (gI (gH (tot.ζ H) λy ρ h=>BZ)) kx.x λv b q1 h1 S1 T R=>by
  cases R
  cases v
  ·exact Lw _ (br (br cc)) q1 K X Qv Ex S1 h1 (kx.to T.s) (k.to T.s)
  ·exact ht _ (bl (br cc)) q1 K X Qv Ex S1 h1 (kx.to T.s) (k.to T.s))
end
end
section
section
variable{m:Fx}
theorem Ω.dropLast{P:Params}{nw:List (Addr×Obj)}{φ:List Addr}{vs:List Value}{xs:List V}(h:Ω P nw φ vs xs):Ω P nw φ vs.dropLast xs.dropLast:=by
 rw[List.dropLast_eq_take,List.dropLast_eq_take,h.length];exact h.take _
theorem Ly(vs:Array Value):(vs.eraseIdxIfInBounds (vs.size - 1)).toList=vs.toList.dropLast:=by
 obtain⟨l⟩:=vs
 cases l with
 |nil=>rfl
 |cons a l=>
  unfold Array.eraseIdxIfInBounds
  rw[dif_pos (show(⟨a::l⟩:Array Value).size - 1<(⟨a::l⟩:Array Value).size from Nat.lt_succ_self l.length),Array.toList_eraseIdx,List.eraseIdx_eq_dropLast rfl]
theorem Lz(M:m.Ok){i:Nat}:XE m (.pop i):=λx hc=>Jj (P:=bx m (.pop i)) hc λo ap p c0 c q K X Qv Ex S H kx kv=>tot.own H λys hv H=>H.up λy hy H=>
 pF (xp c) rfl (show 0<30 by decide) c0 (pG M c S hv λa O pl=>O.r S hv λob vs n R=>
  getMethod_builtin R.lst.typeIs PySem.F.plainAttrs_list PySem.F.slot_list_pop PySem.F.type_list_pop (λa' e=>by cases e;exact⟨ob,R.e,R.c.2.1⟩) (lA rfl (spliced_nil (by
   obtain⟨yv,e1,r1⟩:=R.r.get (R.sz▸List.getLast?_eq_getElem?.symm.trans hy)
   have ho:=R.e.trans (congrArg some (R.c.eq R.d))
   refine call_meets PySem.F.slot_list_pop ⟨_,ho,rfl⟩ PySem.F.entry_list_pop (PySem.F.args_list_pop_1 _) (PySem.MeetsSeq.list_pop_last a vs n yv (Array.getElem?_toList▸e1) R.l) ⟨ho,?_⟩
   have e':=Heap.get?_update_self (Obj.mapSeq λxs=>xs.eraseIdxIfInBounds (vs.size - 1)) ho rfl
   obtain⟨nn,xx⟩:=Obj.data_mapSeq (o:={cls:=.type "list",dict:=none,data:=.seq vs n,slots:= #[]}) rfl (λxs=>xs.eraseIdxIfInBounds (vs.size - 1))
   have Z:=O.up (tk:=q.s.toks) (ys':=ys.dropLast) (vs':=vs.eraseIdxIfInBounds (vs.size - 1)) (n':=nn) R S (Heap.SameBut.update ..) e' ⟨rfl,rfl,rfl⟩ xx (η (PySem.MeetsSeq.size_erased vs _) R.l) (by rw[Ly];exact R.r.dropLast)
   exact kv _ _ ⟨q.g,q.ρ.set i (.own ys.dropLast),q.σ,_⟩ H Z.1 Z.2 r1))))
variable{W:Nat}
theorem CQ{op:fM}(h:xD op=true):op=.add∨op=.sub:=by cases op<;>first|exact .inl rfl|exact .inr rfl|exact aG h
theorem tot.uO{α:Type}{b:Bool}{r:M α}{K:α->Loc->Hp->Prop}{X:Nat->Loc->Hp->Prop}(H:tot (if b=true then Option.none else r) K X):b=false∧tot r K X:=by
 cases b
 ·exact⟨rfl,H⟩
 ·exact H.elim
theorem CU{ρ:Loc}{x:Nat}{v:V}(h:valAt ρ x=some v):ρ[x]?=some (.v v):=by
 unfold valAt at h
 generalize ρ[x]?=o at h⊢
 rcases o with _|(_|_|_)<;>first|exact ah h|exact congrArg _ (congrArg _ (Option.some.inj h))
theorem LA{x:Nat}{e:E}{op:fM}(h:XE m e):ZS m W (.aug x op e):=λst hc=>d9 (P:=aw m W (.aug x op e)) hc (by decide) λc=>(show aw m W (.aug x op e) (.AugAssign _ (sd st).op _ _)from(bd (bl c)).symm▸iX (P:=λa=>aw m W (.aug x op e) (.AugAssign a _ _ _)) (br (br (br c))) λy p hy q K X Qv Ex S H kx k=>
 H.ob.el λold ho H=>wpAny_AugAssign_Name (FR.Bm S hy (CU ho) λvo ro=>(h _ (bl (br (br c)))).ζ S (tot.uO H).2 kx.x λv y q1 h1 S1 T1 R1=>
  Bb (CQ (bl (br c))) (tot.uO H).1 S1 (T1.vr ro) R1 (h1.ob.mono λnew h1 r g2 s2 F2 E2 R2 S2=>uN (q1:=⟨g2,q1.ρ,q1.σ,s2⟩) F2 (T1.trans ⟨E2,S2⟩).s hy R2 k h1 λ_ h=>h)))
theorem LB(M:m.Ok){o e:E}{f:ay}(ho:XE m o)(h:XE m e):ZS m W (.sat o f e):=λst hc=>d9 (P:=aw m W (.sat o f e)) hc (by decide) λc=>dW (p:=λts=>aw m W (.sat o f e) (.Assign ts (sd st).a _)) c λt c=>
 xm (P:=λt=>aw m W (.sat o f e) (.Assign [t] _ _)) (f:=λa=>τ _ _ o a&&(τ _ _ e (sd st).a&&nE (sd st).a)) c λa p c q K X Qv Ex S H kx k=>
  wpAny_Assign_stores ((h _ (bl (br c))).ζ S H kx.x λv y q1 h1 S1 T1 R1=>by
   show wpAny _ _ (assign (.Attribute _ _ _) m.env v) _ _ _
   rw[arm_assign_Attribute]
   exact wpAny_bind (wpAny_holding ((ho _ (bl c)).ζ S1 h1 (kx.tx T1) λvo z q2 h2 S2 T2 R2=>wpAny_bind (wpAny_standAt (wpAny_bind (wpAny_holding (Ci M.toAmb0 S2 R2 (T2.vr R1) (h2.ob.mono λcC h2 g3 s3 F3 E3 S3=>wpAny_release (k.nx ⟨g3,q2.ρ,cC,s3⟩ h2 F3 ((T1.trans T2).trans ⟨E3,S3⟩).s)))))))))
   (by unfold swapsWithSole;exact pJ (br (br c)) _ _) rfl
theorem LC(M:m.Ok){o e:E}{f:ay}{op:fM}(ho:XE m o)(h:XE m e):ZS m W (.j5 o f op e):=λst hc=>d9 (P:=aw m W (.j5 o f op e)) hc (by decide) λc=>(show aw m W (.j5 o f op e) (.AugAssign _ (sd st).op _ _)from(bd (bl c)).symm▸xm (P:=λa=>aw m W (.j5 o f op e) (.AugAssign a _ _ _)) (f:=τ _ _ o) (br (br (br c))) λa p c' q K X Qv Ex S H kx k=>
 wpAny_AugAssign_AttributeAny ((ho _ c').ζ S H kx.x λvo z q1 h1 S1 T1 R1=>B_ M.toAmb0 S1 R1 (h1.ob.mono λold h1 va ga sa Fa Ea Ra Sa=>by
  have Ta:To m q ⟨ga,q1.ρ,q1.σ,sa⟩:=T1.trans ⟨Ea,Sa⟩
  exact(h _ (bl (br (br c)))).ζ (q:=⟨ga,q1.ρ,q1.σ,sa⟩) Fa (tot.uO h1).2 (kx.tx Ta) λv y q2 h2 S2 T2 R2=>Bb (CQ (bl (br c))) (tot.uO h1).1 S2 (T2.vr Ra) R2 (h2.ob.mono λnew h2 r g3 s3 F3 E3 R3 S3=>
   Ci M.toAmb0 F3 (E3.vr (T2.vr (Ea.vr R1))) R3 (h2.ob.mono λcC h2 g4 s4 F4 E4 S4=>k.nx ⟨g4,q2.ρ,cC,s4⟩ h2 F4 (Ta.trans (T2.trans ⟨E3.trans E4,S3.trans S4⟩)).s)))))
end
end
section
section
variable{M:Model}{A:Around}{E:Value->Shared->Prop}{h:Heap}{g:Array GenState}{d:Drawn}{t:Nat}{os:OsState}{env:Env}
variable{nm q:PySem.Str}{C N:Addr}{bs bm:List Value}{hdct:Bool}{sn:List PySem.Str}{sub:List Value}{ab:Bool}{col:Option Bool}{dd:Option Addr}{k0 k1 k2 k3 k5:Option Value}{newId:String}
variable{a:Addr}{od:Option Addr}{vs:Array Value}{sl:Array (Option Value)}
theorem LD{c:String}{Q:Value->Shared->Prop}(xH:bm.contains (.type "BaseException")=true)(hC:h.get? C=some (excClassObj nm q C N bs bm hdct sn sub ab col dd k0 k1 k2 k3 k5 newId))(he:h.get? a=some ⟨.ref C,od,.fields vs,sl⟩)(hq:Q (.ref a) ⟨h,g,d,t,os⟩):
  wpAny M A (excFromValue (.ref a) c) Q E ⟨h,g,d,t,os⟩:=by
 have LF:(Value.ref C::bm).contains (.type "BaseException")=true:=by rw[List.contains_cons,xH,Bool.or_true]
 unfold excFromValue
 repeat (first|exact hq|with_reducible refine wpAny_loadPart_at he ?_|with_reducible refine wpAny_loadPart_at hC ?_|(with_reducible refine wpAny_isSubtype_exc hC ?_;rw[LF])|wp_step)
theorem LG{Q:Bool->Shared->Prop}(hC:h.get? C=some (excClassObj nm q C N bs bm hdct sn sub ab col dd k0 k1 k2 k3 k5 newId))(he:h.get? a=some ⟨.ref C,od,.fields vs,sl⟩)(hq:Q false ⟨h,g,d,t,os⟩):
  wpAny M A (isType (.ref a)) Q E ⟨h,g,d,t,os⟩:=by
 unfold isType
 repeat (first|exact hq|with_reducible refine wpAny_loadPart_at he ?_|with_reducible refine wpAny_loadPart_at hC ?_|wp_step)
theorem LH{Q:Value->Shared->Prop}(hC:h.get? C=some (excClassObj nm q C N bs bm hdct sn sub ab col dd k0 k1 k2 k3 k5 newId))(he:h.get? a=some ⟨.ref C,od,.fields vs,sl⟩)(hq:Q (.ref a) ⟨h,g,d,t,os⟩):
  wpAny M A (raisedInstance (.ref a)) Q E ⟨h,g,d,t,os⟩:=by
 unfold raisedInstance
 repeat (first|exact hq|with_reducible refine wpAny_loadPart_at he ?_|with_reducible refine wpAny_loadPart_at hC ?_|wp_step)
theorem LI{x:Sem Value}{s:Shared}{Q:PySem.Flow->Shared->Prop}(xH:bm.contains (.type "BaseException")=true)(hh:A.handled=none)
  (H:wpAny M A x (λv ar=>∃a od vs sl,v=.ref a∧ar.heap.get? C=some (excClassObj nm q C N bs bm hdct sn sub ab col dd k0 k1 k2 k3 k5 newId)∧ar.heap.get? a=some ⟨.ref C,od,.fields vs,sl⟩∧wpAny M A (setFlight (.ref a) none) (λ_ fu=>E (.ref a) fu) E ar) E s):
  wpAny M A (raiseStmt env (some x) none) Q E s:=by
 unfold raiseStmt
 refine wpAny_bind (wpAny_mono H (λv ar bj=>?_) λ_ _ x=>x)
 obtain⟨a,od,vs,sl,rfl,hC,he,hE⟩:=bj
 obtain⟨hp,g,d,tk,os⟩:=ar
 refine wpAny_bind (wpAny_pure ?_)
 refine wpAny_bind (wpAny_holding (LD xH hC he ?_))
 refine wpAny_bind (LG hC he ?_)
 show wpAny M A (raisedInstance (.ref a)>>=λe=>do setFlight e none;raiseNew e) _ _ _
 refine wpAny_bind (LH hC he ?_)
 exact wpAny_bind (wpAny_mono hE (λ_ _ x=>wpAny_raiseNew_none hh x) λ_ _ x=>x)
end
section
variable{m:Fx}{q q1:Q}{X:Nat->Loc->Hp->Prop}{K:Flow->Loc->Hp->Prop}{Qv:PySem.Flow->Shared->Prop}{Ex:Value->Shared->Prop}{W:Nat}
theorem LJ{k:Nat}{a:Addr}{o:O}(ho:q.σ[k]?=some o)(bN:o.cls=.raised)(S:St m q)(aS:q.g.φ[k]?=some a)(H:X k q.ρ q.σ)(kx:fw m q X Ex):∃od vs sl,q.s.heap.get? a=some ⟨.ref bX,od,.fields vs,sl⟩∧wpAny (model m.prog m.w) m.A (setFlight (.ref a) none) (λ_ fu=>Ex (.ref a) fu) Ex q.s:=by
 obtain⟨ra,⟨oc,od,Vs,uE⟩,vs,ea,ki,hd,di,hh⟩:=(FR.hr S).raised ho aS bN
 cases ki
 cases hd
 refine⟨od,vs,uE,ea,hh.elim (λz=>wpAny_bind (wpAny_field ea rfl z (wpAny_pure (kx k a q H S bz.refl ⟨aS,⟨o,ho,bN⟩,_,_,ea,rfl,.inl z⟩)))) λhh=>hh.elim λT t=>t.elim λoT t=>t.elim λts t=>?_⟩
 exact HR.rS (fl:=none) (FR.hr S) ho aS bN ⟨_,_,T,oT,ts,ea,rfl,t.1,t.2.2.1,t.2.2.2.1,Array.getElem?_eq_getElem t.2.2.2.2⟩ λh2 H2 E2 x2=>kx k a ⟨q.g,q.ρ,q.σ,{q.s with heap:=h2}⟩ H (FR.called S H2 E2) ⟨E2.ext.s,rfl,rfl⟩ ⟨aS,⟨o,ho,bN⟩,x2.thrown.exc m.env⟩
theorem LK(M:m.Ok){e:E}(h:XE m e):ZS m W (.cq e):=λst hc=>d9 (P:=aw m W (.cq e)) hc (by decide) λc=>(show aw m W (.cq e) (.Raise _ (sd st).o2 _)from(kT.mp (bl c)).symm▸pI (p:=λo=>aw m W (.cq e) (.Raise o _ _)) (br c) λa c q K X Qv Ex S H kx k=>by
 obtain⟨nm,q',N,bs,hdct,sn,sub,ab,col,uG,k0,uH,k2,k3,k5,hC⟩:=M.cls.rG
 rw[arm_exec_Raise]
 refine wpAny_bind (wpAny_standAt ?_)
 show wpAny _ _ (raiseStmt m.env (some (do let v<-eval _ m.env;standAt _;pure v)) none) _ _ _
 refine LI (C:=bX) (nm:=nm) (q:=q') (N:=N) (bs:=bs) (bm:=[.type "Exception",.type "BaseException",.type "object"]) (hdct:=hdct) (sn:=sn) (sub:=sub) (ab:=ab) (col:=col) (dd:=uG) (k0:=k0) (k1:=uH) (k2:=k2) (k3:=k3) (k5:=k5) (newId:="Exception.__new__") rfl M.cx.handled ?_
 refine wpAny_bind ((h a c).ζ S H kx.x λv y q1 h1 S1 T1 R1=>wpAny_bind (wpAny_standAt (wpAny_pure ?_)))
 exact VR.O (p:=λv=>∃a od vs sl,v=.ref a∧_∧q1.s.heap.get? a=some ⟨.ref bX,od,.fields vs,sl⟩∧wpAny (model m.prog m.w) m.A (setFlight (.ref a) none) (λ_ fu=>Ex (.ref a) fu) Ex q1.s) R1 h1.ob λa n aS h1=>h1.bind.el λo ho h1=>h1.if λbN h1=>
  (LJ ho bN S1 aS h1 (kx.to T1.s)).elim λod z=>z.elim λvs z=>z.elim λsl z=>⟨a,od,vs,sl,rfl,M.top.X.keeps (FR.hr S1).stays _ _ hC,z⟩)
theorem CV(M:m.fv){k:Nat}{a:Addr}{q':Q}(kx:fw m q X Ex)(h:X k q'.ρ q'.σ)(S:St m q')(T:bz m q q')(t:uy m q' k a):notedBy (model m.prog m.w) m.A m.env (cameBackBy (model m.prog m.w) m.A m.env Ex) (.ref a) q'.s:=by
 obtain⟨outer,L,hf,hL⟩:=M.xF
 obtain⟨aS,⟨o,ho,hc⟩,x⟩:=t
 have H0:=FR.hr S
 have nH:=M.cx.frames
 have xI:∀{g':Gh} {h':Heap},HR m.w.params m.base (m.env::outer) g' q'.σ h'->ew (m.env::outer) q'.g q'.s.heap g' h'->St m ⟨g',q'.ρ,q'.σ,{q'.s with heap:=h'}⟩∧bz m q ⟨g',q'.ρ,q'.σ,{q'.s with heap:=h'}⟩:=λH1 E1=>
  ⟨FR.called S (hf▸H1) (hf▸E1),T.trans ⟨(show ew m.fr _ _ _ _ from hf▸E1).ext.s,rfl,rfl⟩⟩
 rw[hf]at H0 nH
 unfold notedBy
 refine HR.note H0 nH hL ho aS hc x λg1 h1 H1 E1 x1=>?_
 unfold cameBackBy
 obtain⟨oa,vs,T',oT,ts,z1,z2,z3,z4,z5,z6⟩:=id x1
 refine wpAny_bind (wpAny_field z1 z2 z3 ?_)
 rw[if_neg (show¬((Value.ref T'==Value.none)=true)from ς)]
 refine HR.rS (s:={q'.s with heap:=h1}) (fl:=m.env.frame) H1 ho (j_ E1.φ aS) hc x1 λh2 H2 E2 x2=>?_
 have E3:=E1.trans E2
 rw[hL]at x2
 obtain⟨S3,T3⟩:=xI H2 E3
 exact kx k a ⟨g1,q'.ρ,q'.σ,{q'.s with heap:=h2}⟩ h S3 T3 ⟨j_ E3.φ aS,⟨o,ho,hc⟩,x2.exc hL⟩
theorem turn(M:m.fv){b:List S}{body:List XS}{q0:Q}{f:Loc->Hp->Mine.M Flow}{Qn:PySem.Flow->Shared->Prop}(hb:fy m W b)(hc:fY m.env.scope.names m.names b body=true)(S:St m q)(T:bz m q0 q)(kx:fw m q0 X Ex)(k:KS m q0 K Qv)
  (H:tot ((θ m.C W b q.ρ q.σ).ζ λfl ρ h=>match fl with
   |.ο=>f ρ h
   |.brk=>some (.ok .ο ρ h)
   |.ret v=>some (.ok (.ret v) ρ h)) K X)
  (hn:∀q2,tot (f q2.ρ q2.σ) K X->St m q2->bz m q q2->Qn .next q2.s)(hk:∀s,Qv .next s->Qn .brk s)(hr:∀v s,Qv (.ret v) s->Qn (.ret v) s):
  wpAny (model m.prog m.w) m.A (execs body m.env) Qn (notedBy (model m.prog m.w) m.A m.env (cameBackBy (model m.prog m.w) m.A m.env Ex)) q.s:=
 hb body hc q _ X _ _ S H.ζ (λn a q' h S1 T1 t=>CV M kx h S1 (T.trans T1) t) ⟨λq1 h S1 T1=>hn q1 h S1 T1,λq1 h S1 T1=>hk _ (k.nx q1 h S1 (T.trans T1)),λv y q1 h S1 T1 R=>hr v _ (k.rt v y q1 h S1 (T.trans T1) R)⟩
theorem LL(M:m.fv){c:E}{b:List S}(xG:XT m c)(hb:fy m W b):ZS m W (.bu c b):=λst hc=>d9 (P:=aw m W (.bu c b)) hc (by decide) λcc=>kj (p:=λcs=>aw m W (.bu c b) (.While _ _ cs _)) (bl cc) λq K X Qv Ex S H kx k=>by
 refine wpAny_While (codeAny_whileLoop (λn s'=>∃q',q'.s=s'∧St m q'∧bz m q q'∧tot (ub (λρ h=>(ν m.C c ρ h).ζ λx ρ h=>up (a_ x) ρ h) (λρ h=>θ m.C W b ρ h) n q'.ρ q'.σ) K X) ?_ W ⟨q,rfl,S,bz.refl,H⟩)
 rintro n _ ⟨q1,rfl,S1,T1,h1⟩
 cases n with
 |zero=>exact h1.elim
 |succ n=>
  refine(xG _ (bl (br cc))).ζ S1 h1 (λn a q' h S2 T2 t=>CV M kx h S2 (T1.trans T2.s) t) λv t q2 h2 S2 T2 R2=>?_
  cases R2
  cases v
  ·exact wpAny_execs_nil (k.nx q2 h2 S2 (T1.trans T2.s))
  ·exact turn M hb (br (br cc)) S2 (T1.trans T2.s) kx k h2 (λq3 h3 S3 T3=>⟨n,Nat.lt_succ_self _,q3,rfl,S3,(T1.trans T2.s).trans T3,h3⟩) (λ_ h=>h) λ_ _ h=>h
end
end
section
structure Off (base:Heap) (fr:List Env) (g:Gh) (b:Addr):Prop where
 ro:g.ro b=none
 nw:∀p∈g.nw,p.1≠b
 base:base.get? b=none
 fr:¬isFrame fr b
section
variable{P:Params}{base h h':Heap}{fr:List Env}{env:Env}{names:List PySem.Str}{g g':Gh}{ρ:Loc}{σ:Hp}{it:Addr}
theorem FR.fZ(F:FR P base fr env names g ρ σ h)(x:Off base fr g it)(keep:∀b o,b≠it->h.get? b=some o->h'.get? b=some o):FR P base fr env names g ρ σ h':=by
 have kr:∀{b o r},g.ro b=some r->h.get? b=some o->h'.get? b=some o:=λe=>keep _ _ λq=>ah (x.ro.symm.trans (q▸e))
 have H:=F.hr
 exact F.gen ⟨λb o e=>keep b o (λq=>ah (x.base.symm.trans (q▸e))) (H.stays b o e),λp m=>⟨keep _ _ (x.nw p m) (H.aE p m).1,(H.aE p m).2⟩,H.len,λk o e=>H.obj Up.refl (λb r o _ e1 e2=>⟨kr e1 e2,e1⟩) e,λb r e=>have q:=H.mu b r e;⟨q.1,q.2.1,q.2.2.1.imp λo=>kr e,q.2.2.2⟩,
  H.ff.to λe m L o f z d=>⟨o,keep L o (λq=>x.fr ⟨e,m,q▸f⟩) z,d⟩⟩ F.loc Up.refl (λo e=>⟨o,kr F.loc e,rfl⟩) λ_ _ _ b r o _ e1 e2=>⟨kr e1 e2,e1⟩
theorem cM.fZ{g₀:Gh}{h₀:Heap}(x:cM fr g₀ h₀ g h)(new:h₀.get? it=Option.none)(keep:∀b o,b≠it->h.get? b=some o->h'.get? b=some o):cM fr g₀ h₀ g h':=
 have n:∀{b o},h₀.get? b=some o->b≠it:=λe q=>ah (new.symm.trans (q▸e))
 {x with
  live:=λb o e=>(x.live b o e).imp λo'=>keep b o' (n e)
  keep:=λb o e r=>(x.keep b o e r).imp (keep b _ (n e)) λq=>⟨q.1,q.2.imp λsl=>keep b _ (n e)⟩}
theorem Off.to{o:Obj}(n:Off base fr g it)(x:cM fr g h g' h')(e:h.get? it=some o):Off base fr g' it∧h'.get? it=some o:=
 ⟨⟨x.none e n.ro,λp hp w=>(x.gE p hp).elim (λz=>n.nw p z w) λz=>z.elim (λz=>ah (z.symm.trans (w▸e))) λz=>z.elim λ_ z=>ah (n.ro.symm.trans (w▸z)),n.base,n.fr⟩,(x.keep it o e n.ro).elim id λz=>absurd z.1 n.fr⟩
theorem HR.off(H:HR P base fr g σ h):Off base fr g h.objs.size:=have n:=H.ry;⟨n.2.2.1,n.2.1,n.1,n.2.2.2⟩
end
structure jD (prog:Program) (w:World) (A:Around) (g:Gh) (it:Addr) (xs:List V) (J:Heap->Nat->Prop):Prop where
 keep:∀h h' i,J h i->(∀o,h.get? it=some o->h'.get? it=some o)->J h' i
 live:∀h i,J h i->∃o,h.get? it=some o
 step:∀i v (ar:Shared) (c6:Gh) (Q:Option Value->Shared->Prop) (E:Value->Shared->Prop),J ar.heap i->xs[i]?=some v->Up g c6->(∀p∈c6.nw,ar.heap.get? p.1=some p.2)->
  (∀vv h' tk,RV w.params c6 vv v->J h' (i+1)->Heap.SameBut it ar.heap h'->Q (some vv) {ar with heap:=h',toks:=tk})->wpAny (model prog w) A (pyNext (.ref it)) Q E ar
 fin:∀i (ar:Shared) (c6:Gh) (Q:Option Value->Shared->Prop) (E:Value->Shared->Prop),J ar.heap i->xs[i]?=none->Up g c6->(∀p∈c6.nw,ar.heap.get? p.1=some p.2)->
  (∀h',Heap.ExtBut it ar.heap h'->Q none {ar with heap:=h'})->wpAny (model prog w) A (pyNext (.ref it)) Q E ar
noncomputable def Tn(f:Nat->Nat)(p:Q->Nat->Prop)(k:Nat)(s:Shared):Prop:=∃q i,q.s=s∧k=f i∧p q i
@[elab_as_elim] theorem Tn.el{f:Nat->Nat}{p:Q->Nat->Prop}{k:Nat}{s:Shared}{r:Nat->Shared->Prop}(h:Tn f p k s)(H:∀q i,p q i->r (f i) q.s):r k s:=by
 obtain⟨q,i,rfl,rfl,h⟩:=h
 exact H q i h
section
variable{m:Fx}{q q1:Q}{X:Nat->Loc->Hp->Prop}{K:Flow->Loc->Hp->Prop}{Qv:PySem.Flow->Shared->Prop}{Ex:Value->Shared->Prop}{W:Nat}
structure FI (m:Fx) (W:Nat) (b:List S) (x:Nat) (it:Addr) (xs:List V) (J:Heap->Nat->Prop) (g:Gh) (q0:Q) (K:Flow->Loc->Hp->Prop) (X:Nat->Loc->Hp->Prop) (q:Q) (i:Nat):Prop where
 S:St m q
 T:bz m q0 q
 n:Off m.base m.fr q.g it
 J:J q.s.heap i
 u:Up g q.g
 H:tot (forL x (λρ h=>θ m.C W b ρ h) (xs.drop i) q.ρ q.σ) K X
theorem LM(M:m.fv){x:Nat}{y:PySem.Str}{yp:Pos}{body:List XS}{b:List S}{it:Addr}{xs:List V}{J:Heap->Nat->Prop}(hy:m.names[x]?=some y)(hc:fY m.env.scope.names m.names b body=true)(hb:fy m W b)
  {q0:Q}(I:jD m.prog m.w m.A q.g it xs J)(S:St m q)(hit:J q.s.heap 0)(n:Off m.base m.fr q.g it)(T:bz m q0 q)(new:q0.s.heap.get? it=none)
  (H:tot (forL x (λρ h=>θ m.C W b ρ h) xs q.ρ q.σ) K X)(kx:fw m q0 X Ex)(k:KS m q0 K Qv):
  codeAny (model m.prog m.w) m.A (.forLoop (.Name y yp) (.ref it) body [] m.env) (λr s'=>match r with|.ok f=>Qv f s'|.error e=>cameBackBy (model m.prog m.w) m.A m.env Ex e s') q.s:=by
 refine codeAny_forLoop (Tn (xs.length - ·) (FI m W b x it xs J q.g q0 K X)) (λn s' Z=>Z.el λq' i Z=>?_) _ ⟨q,0,rfl,rfl,S,T,n,hit,Up.refl,H⟩
 have aE:=λp m=>((FR.hr Z.S).aE p m).1
 have h':=Z.H
 cases hv:xs[i]?with
 |none=>
  rw[kU (List.getElem?_eq_none_iff.mp hv)]at h'
  exact I.fin i q'.s q'.g _ _ Z.J hv Z.u aE λh1 hx=>wpAny_execs_nil (k.nx ⟨q'.g,q'.ρ,q'.σ,{q'.s with heap:=h1}⟩ h' (FR.fZ Z.S Z.n hx) ⟨Z.T.e.fZ new hx,Z.T.q⟩)
 |some v=>
  obtain⟨hV,e⟩:=ej.mp hv
  rw[List.drop_eq_getElem_cons hV,e]at h'
  refine I.step i v q'.s q'.g _ _ Z.J hv Z.u aE λvv h1 tk rv CW hs=>(I.live _ _ CW).elim λoi nI=>?_
  have kp:∀b o,b≠it->q'.s.heap.get? b=some o->h1.get? b=some o:=λb o n e=>(hs.2 b n).trans e
  refine PySem.wpAny_assign_Name (rV (q:=⟨q'.g,q'.ρ,q'.σ,{q'.s with heap:=h1,toks:=tk}⟩) (FR.fZ Z.S Z.n kp) hy rv λh2 rW S2 T2=>?_)
  have N2:=Z.n.to T2.e nI
  have CX:bz m q0 _:=bz.trans (q1:=⟨q'.g,q'.ρ,q'.σ,{q'.s with heap:=h1,toks:=tk}⟩) ⟨Z.T.e.fZ new kp,Z.T.q⟩ T2
  refine turn M hb hc S2 CX kx k (f:=λρ h=>forL x (λρ h=>θ m.C W b ρ h) (xs.drop (i+1)) ρ h) h' (λq3 h3 S3 T3=>?_) (λ_ h=>h) λ_ _ h=>h
  have N3:=N2.1.to T3.e N2.2
  exact⟨xs.length - (i+1),Nat.sub_succ_lt_self xs.length i hV,q3,i+1,rfl,rfl,S3,CX.trans T3,N3.1,I.keep _ _ _ CW (λo q=>Option.some.inj (nI.symm.trans q)▸N3.2),⟨λp m=>T3.e.nw p (Z.u.nw p m),Z.u.φ.trans T3.e.φ⟩,h3⟩
end
end
section
section
variable{prog:Program}{w:World}{A:Around}{g:Gh}{it:Addr}
theorem iter_tuple(hh:A.handled=none){t:Addr}{o:Obj}{vs:Array Value}{n:Nat}{xs:List V}(m:(t,o)∈g.nw)(c:o.cls=.type "tuple")(d:o.data=.seq vs n)(r:Ω w.params g.nw g.φ vs.toList xs):
  jD prog w A g it xs (λh i=>h.IsTupleIter it t i)where
 keep h h' i q k:=q.imp λo q=>⟨k o q.1,q.2⟩
 live h i q:=q.imp λo q=>q.1
 step i v ar c6 Q E J hv u aE h:=(r.get hv).elim λvv e=>wpAny_pyNext_tuple_item J ⟨o,aE _ (u.nw _ m),c,n,d⟩ (x:=vv) ((Array.getElem?_toList ..).symm.trans e.1) λh' J' sb=>h vv h' ar.toks (e.2.up u) J' sb
 fin i ar c6 Q E J hv u aE h:=wpAny_pyNext_tuple_end hh J ⟨o,aE _ (u.nw _ m),c,n,d⟩ (Array.getElem?_eq_none_iff.mpr (η (Ψ r.length) (List.getElem?_eq_none_iff.mp hv))) h
section
variable{x:PySem.Str}{i:Nat}
theorem CY(hx:PyData.strOk x=true){v:V}(hv:(x.cps.toList.map λc=>V.str [c])[i]?=some v){p:Prop}(k:∀c,x.cps[i]?=some c->(∀P nw φ t,VR P nw φ (.str ⟨#[c]⟩ t) v)->p):p:=by
 obtain⟨c,e1,rfl⟩:=fG.mp ((eE ..).symm.trans hv)
 exact k c ((Array.getElem?_toList ..).symm.trans e1) λP nw φ t=>VR.ka (mW (s:=[c]) rfl λd m=>jV.mp m▸iV.mp hx c (jf e1)) (gT (show 1<=1000 by decide)) rfl
theorem CZ(hv:(x.cps.toList.map λc=>V.str [c])[i]?=none):x.cps[i]?=none:=(Array.getElem?_toList ..).symm.trans (Option.map_eq_none_iff.mp ((eE ..).symm.trans hv))
end
theorem LN(hh:A.handled=none){x:PySem.Str}{t:Tok}(hx:PyData.strOk x=true):
  jD prog w A g it (x.cps.toList.map λc=>V.str [c]) (λh i=>h.IsStrIter it "str_ascii_iterator" x t i)where
 keep h h' i q k:=q.imp λo q=>⟨k o q.1,q.2⟩
 live h i q:=q.imp λo q=>q.1
 step i v ar c6 Q E J hv u aE h:=CY hx hv λc e r=>wpAny_pyNext_ascii_item J e λh' J' sb=>h _ h' _ (r ..) J' sb
 fin i ar c6 Q E J hv u aE h:=wpAny_pyNext_ascii_end hh J (CZ hv) h
theorem LO(hh:A.handled=none){x:PySem.Str}{t:Tok}(hx:PyData.strOk x=true):
  jD prog w A g it (x.cps.toList.map λc=>V.str [c]) (λh i=>h.IsStrIter it "str_iterator" x t i)where
 keep h h' i q k:=q.imp λo q=>⟨k o q.1,q.2⟩
 live h i q:=q.imp λo q=>q.1
 step i v ar c6 Q E J hv u aE h:=CY hx hv λc e r=>wpAny_pyNext_wide_item J e λh' J' sb=>h _ h' _ (r ..) J' sb
 fin i ar c6 Q E J hv u aE h:=wpAny_pyNext_wide_end hh J (CZ hv) h
theorem LQ{lo hi:Int}{i:Nat}{v:V}(hv:(gR lo hi)[i]?=some v):i<(hi - lo).toNat∧v=.int (lo+i):=by
 obtain⟨c,e1,rfl⟩:=fG.mp ((eE ..).symm.trans hv)
 obtain⟨l,e⟩:=ej.mp e1
 cases(List.getElem_range ..).symm.trans e
 exact⟨Nat.lt_of_lt_of_eq l List.length_range,rfl⟩
theorem C0(hh:A.handled=none){lo hi:Int}:
  jD prog w A g it (gR lo hi) (λh i=>IsRangeIter h it (lo+i) ((hi - lo).toNat - (i:Int)) 1)where
 keep h h' i e k:=k _ e
 live h i e:=⟨_,e⟩
 step i v ar c6 Q E J hv u aE h:=by
  obtain⟨l,rfl⟩:=LQ hv
  refine wpAny_pyNext_range_item J (Int.sub_pos_of_lt (cJ.mpr l)) λh' J' sb=>h _ h' _ (.int _ _) ?_ sb
  rw[Int.add_assoc,Int.sub_sub]at J'
  exact J'
 fin i ar c6 Q E J hv u aE h:=wpAny_pyNext_range_end hh J (Int.sub_nonpos_of_le (aK.mpr (η (Ψ ((b_ ..).trans List.length_range).symm) (List.getElem?_eq_none_iff.mp hv)))) h
theorem cL.pairs{nw:List (Addr×Obj)}{φ:List Addr}{es:List DictEntry}{kvs:List (List Nat×V)}(r:cL w.params nw φ es kvs):
  ∃ps:List (PySem.Str×Value),Pairs (strKind prog w) es ps∧(∀e∈es,∃k,(strKind prog w).is k e.key=true∧e.hash=(strKind prog w).hash k)∧kvs.map (·.1)=ps.map (λp=>p.1.cps.toList)∧∀p∈ps,PyData.strOk p.1=true:=
 r.ind (p:=λes kvs=>∃ps:List (PySem.Str×Value),Pairs (strKind prog w) es ps∧(∀e∈es,∃k,(strKind prog w).is k e.key=true∧e.hash=(strKind prog w).hash k)∧kvs.map (·.1)=ps.map (λp=>p.1.cps.toList)∧∀p∈ps,PyData.strOk p.1=true)
  ⟨[],.nil,λ_ h=>absurd h iD,rfl,λ_ h=>absurd h iD⟩ λ{e x t es v kvs} hk hs hh _ _ ih=>by
   have hi:(strKind prog w).is x e.key=true:=by rw[hk];exact decide_eq_true rfl
   exact ih.elim λps h=>⟨(x,e.val)::ps,.cons hi rfl h.1,List.forall_mem_cons.mpr ⟨⟨x,hi,hh⟩,h.2.1⟩,congrArg _ h.2.2.1,List.forall_mem_cons.mpr ⟨hs,h.2.2.2⟩⟩
theorem uP{α β:Type}(f:α->β):∀{l:List α},(l.map f).Nodup->l.Nodup
 |[],_=>.nil
 |a::l,h=>by
  rw[List.map_cons,jg]at h
  exact jg.mpr ⟨λm=>h.1 (List.mem_map_of_mem m),uP f h.2⟩
theorem C1(hh:A.handled=none){d:Addr}{o:Obj}{es:Array DictEntry}{n:Nat}{kvs:List (List Nat×V)}(m:(d,o)∈g.nw)(c:o.ExactDict)(da:o.data=.dict es n)(r:cL w.params g.nw g.φ es.toList kvs)(nd:(kvs.map (·.1)).Nodup)(n2:∀p∈kvs,p.1.length<=1000):
  ∃ps:List (PySem.Str×Value),(∀h:Heap,h.get? d=some o->h.DictAt (strKind prog w) d ps n)∧∀it,jD prog w A g it (kvs.map λp=>V.str p.1) (λh i=>h.IsKeyIter it d i ps.length n):=by
 obtain⟨ps,h1,h2,h3,h4⟩:=cL.pairs (prog:=prog) r
 have at_:∀h:Heap,h.get? d=some o->h.DictAt (strKind prog w) d ps n:=λh e=>⟨o,es,e,c,da,λe' m=>h2 e' (Array.mem_toList_iff.mpr m),h1,uP (λx:PySem.Str=>x.cps.toList) (by rw[List.map_map];rw[h3]at nd;exact nd)⟩
 have ex:kvs.map (λp=>V.str p.1)=ps.map λp=>V.str p.1.cps.toList:=(List.map_map (f:=Prod.fst) (g:=V.str)).symm.trans ((congrArg (List.map V.str) h3).trans List.map_map)
 have sz:∀p∈ps,p.1.cps.toList.length<=1000:=λp hp=>by
  have z:p.1.cps.toList∈kvs.map (·.1):=h3▸List.mem_map_of_mem (f:=λp:PySem.Str×Value=>p.1.cps.toList) hp
  obtain⟨q,hq,e⟩:=List.mem_map.mp z
  exact e▸n2 q hq
 rw[ex]
 exact⟨ps,at_,λit=>{
  keep:=λh h' i q k=>q.imp λo q=>⟨k o q.1,q.2⟩
  live:=λh i q=>q.imp λo q=>q.1
  step:=λi v ar c6 Q E J hv u aE h=>by
   obtain⟨⟨k,vv⟩,e1,rfl⟩:=fG.mp ((eE ..).symm.trans hv)
   refine wpAny_pyNext_dict_item J (at_ _ (aE _ (u.nw _ m))) e1 λkey h' hk J' sb=>?_
   obtain⟨t,rfl⟩:=Value.isStrOf_shape hk
   exact h _ h' ar.toks (.ka (h4 _ (jf e1)) (gT (sz _ (jf e1))) rfl) J' sb
  fin:=λi ar c6 Q E J hv u aE h=>wpAny_pyNext_dict_end hh J (at_ _ (aE _ (u.nw _ m))) (Option.map_eq_none_iff.mp ((eE ..).symm.trans hv)) h}⟩
end
end
section
theorem C2{env:Env}{x:XP}(h:xi x=true)(v:Value):foldedSetIterable x env v=pure v:=by
 cases x<;>first|rfl|exact aG h
theorem C3{lo hi:Int}:Builtin.Range.rangeSize lo hi 1=((hi - lo).toNat:Int) - ((0:Nat):Int):=by
 refine(rangeSize_one ..).trans (Eq.trans ?_ (Int.sub_zero _).symm)
 by_cases h:lo<hi
 ·exact(if_pos h).trans (Int.toNat_of_nonneg (Int.sub_nonneg_of_le (Int.le_of_lt h))).symm
 ·exact(if_neg h).trans (congrArg Int.ofNat (Int.toNat_of_nonpos (Int.sub_nonpos_of_le (Int.not_lt.mp h)))).symm
theorem C4{lo hi:Int}(h:0<=lo∧lo<=dy∧hi<=dy∧ -dy<=hi):Builtin.Range.small lo hi 1=true:=
 small_one (Int.le_trans (by decide) h.1) (Int.lt_of_le_of_lt h.2.1 (by decide)) (Int.le_trans (by decide) h.2.2.2) (Int.lt_of_le_of_lt h.2.2.1 (by decide))
section
variable{m:Fx}{q q1:Q}{X:Nat->Loc->Hp->Prop}{K:Flow->Loc->Hp->Prop}{Qv:PySem.Flow->Shared->Prop}{Ex:Value->Shared->Prop}{W:Nat}
noncomputable def uQ(m:Fx)(y:PySem.Str)(yp:Pos)(body:List XS)(Qv:PySem.Flow->Shared->Prop)(Ex:Value->Shared->Prop)(it:Value)(s:Shared):Prop:=
 codeAny (model m.prog m.w) m.A (.forLoop (.Name y yp) it body [] m.env) (λr s'=>match r with|.ok f=>Qv f s'|.error e=>cameBackBy (model m.prog m.w) m.A m.env Ex e s') s
theorem rX(M:m.fv){x:Nat}{y:PySem.Str}{yp:Pos}{body:List XS}{b:List S}{o:Obj}{xs:List V}{J:Heap->Nat->Prop}(hy:m.names[x]?=some y)(hc:fY m.env.scope.names m.names b body=true)(hb:fy m W b)
  (I:jD m.prog m.w m.A q1.g q1.s.heap.objs.size xs J)(S:St m q1)(hit:J (q1.s.heap.push o) 0)(T:To m q q1)
  (H:tot (forL x (λρ h=>θ m.C W b ρ h) xs q1.ρ q1.σ) K X)(kx:fw m q X Ex)(k:KS m q K Qv):uQ m y yp body Qv Ex (.ref q1.s.heap.objs.size) {q1.s with heap:=q1.s.heap.push o}:=
 LM M (q:=⟨q1.g,q1.ρ,q1.σ,{q1.s with heap:=q1.s.heap.push o}⟩) (q0:=q) hy hc hb I (FR.push S o) hit (FR.hr S).off (bz.trans T.s ⟨(Ext.push o).s,rfl,rfl⟩) (T.e.s.back (Heap.get?_none_of_le (ξ _))) H kx k
theorem LU(M:m.fv){x:Nat}{y:PySem.Str}{yp:Pos}{body:List XS}{b:List S}(hy:m.names[x]?=some y)(cb:fY m.env.scope.names m.names b body=true)(hb:fy m W b){v:Value}{z:V}(S:St m q1)(R:RV m.w.params q1.g v z)(T:To m q q1)
  (H:tt (itemsOf z) λxs=>tot (forL x (λρ h=>θ m.C W b ρ h) xs q1.ρ q1.σ) K X)(kx:fw m q X Ex)(k:KS m q K Qv):wpAny (model m.prog m.w) m.A (pyIter v) (uQ m y yp body Qv Ex) Ex q1.s:=by
 cases R with
 |str x' t hs hl=>
  by_cases ha:x'.cps.all (· <128)=true
  ·exact wpAny_pyIter_ascii ha (rX M hy cb hb (LN M.cx.handled hs) S ⟨_,Heap.get?_push_size _ rfl,rfl,rfl⟩ T H kx k)
  ·exact wpAny_pyIter_wide (Bool.not_eq_true _▸ha) (rX M hy cb hb (LO M.cx.handled hs) S ⟨_,Heap.get?_push_size _ rfl,rfl,rfl⟩ T H kx k)
 |tup i c d l r=>exact wpAny_pyIter_tuple ⟨_,((FR.hr S).aE _ i).1,c,_,d⟩ (rX M hy cb hb (iter_tuple M.cx.handled i c d r) S ⟨_,Heap.get?_push_size _ rfl,rfl,rfl⟩ T H kx k)
 |dict i c d sm r=>exact H.if λnd H=>(C1 (prog:=m.prog) M.cx.handled i c d r nd.1 nd.2).elim λps p=>wpAny_pyIter_dict sm (p.1 _ ((FR.hr S).aE _ i).1) (rX M hy cb hb (p.2 _) S ⟨_,Heap.get?_push_size _ rfl,rfl,rfl⟩ T H kx k)
 |_=>exact H.elim
theorem LV(M:m.fv){x:Nat}{it:E}{b:List S}(h:XE m it)(hb:fy m W b):ZS m W (.gO x it b):=λst hc=>d9 (P:=aw m W (.gO x it b)) hc (by decide) λcc=>kj (p:=λcs=>aw m W (.gO x it b) (.For _ _ _ cs _)) (bl cc) (iX (P:=λt=>aw m W (.gO x it b) (.For t _ _ [] _)) (bl (br cc)) λy yp hy q K X Qv Ex S H kx k=>
 have c:=br (br (br cc))
 wpAny_For ((h _ (br c)).ζ S H kx.x λv z q1 h1 S1 T1 R1=>LU M hy (bl (br (br cc))) hb S1 R1 T1 h1.ob kx k) (C2 (bl c)))
theorem C5(M:m.fv){x:Nat}{y:PySem.Str}{yp:Pos}{body:List XS}{b:List S}(hy:m.names[x]?=some y)(hc:fY m.env.scope.names m.names b body=true)(hb:fy m W b){lo hi:Int}{t u v:Tok}{tk:Nat}(S:St m q1)
  (hx:0<=lo∧lo<=dy∧hi<=dy∧ -dy<=hi)(T:To m q q1)(H:tot (forL x (λρ h=>θ m.C W b ρ h) (gR lo hi) q1.ρ q1.σ) K X)(kx:fw m q X Ex)(k:KS m q K Qv):
  wpAny (model m.prog m.w) m.A (pyIter (.ref q1.s.heap.objs.size)) (uQ m y yp body Qv Ex) Ex {q1.s with heap:=q1.s.heap.push {cls:=.type "range",data:=.fields #[.int lo t,.int hi u,.int 1 v]},toks:=tk}:=
 wpAny_pyIter_range (Heap.get?_push_size _ rfl) (C4 hx) (rX M (q1:=⟨q1.g,q1.ρ,q1.σ,{q1.s with heap:=q1.s.heap.push {cls:=.type "range",data:=.fields #[.int lo t,.int hi u,.int 1 v]},toks:=tk}⟩) hy hc hb (C0 M.cx.handled (lo:=lo) (hi:=hi)) (FR.push S _) (by
  show IsRangeIter _ _ _ _ _
  rw[C3]
  unfold IsRangeIter
  rw[show lo+((0:Nat):Int)=lo from Int.add_zero lo]
  exact Heap.get?_push_size _ rfl) (T.trans ⟨Ext.push _,rfl,rfl⟩) H kx k)
theorem LW{α:Type}{g:Gh}{v:Value}{y:V}{f:Option Int->Option α}{K:α->Prop}{p:Value->Prop}(h:RV m.w.params g v y)(H:tt ((j7 (some y)).bind f) K)(k:∀i t,tt (f (some i)) K->p (.int i t)):p v:=
 have H:tt (b6 y λi=>f (some i)) K:=by cases y<;>exact H
 VR.I h H k
theorem LY(M:m.fv){x:Nat}{y:PySem.Str}{yp:Pos}{body:List XS}{b:List S}{lo:Option E}{hi:E}(hl:∀l,lo=some l->XE m l)(hh:XE m hi)(hy:m.names[x]?=some y)(cb:fY m.env.scope.names m.names b body=true)(hb:fy m W b){xs:List XP}{p':Pos}(c:xC m.env.scope.names m.names lo hi xs=true)(S:St m q)
  (H:tot (pd m.C W (.fU x lo hi b) q.ρ q.σ) K X)(kx:fw m q X Ex)(k:KS m q K Qv):wpAny (model m.prog m.w) m.A (callWith p' (.type "range") [] (backTo p' (starEach xs m.env)) []) (λv ar=>wpAny (model m.prog m.w) m.A (pyIter v) (uQ m y yp body Qv Ex) Ex ar) Ex q.s:=by
 cases lo with
 |none=>exact dW (p:=λxs=>wpAny (model m.prog m.w) m.A (callWith p' (.type "range") [] (backTo p' (starEach xs m.env)) []) _ Ex q.s) c λz c=>rM (lE (bl c)) (rO (bl c) ((hh _ (br c)).ζ S H kx.x λv z q1 h1 S1 T1 R1=>
   VR.I (p:=λv=>wpAny (model m.prog m.w) m.A (call (.type "range") [v]) _ Ex q1.s) R1 h1.ob λu t h1=>h1.if λok h1=>call_range_1 (C5 M hy cb hb S1 ok T1 h1 kx k)))
 |some l=>
  exact rH (p:=λxs=>wpAny (model m.prog m.w) m.A (callWith p' (.type "range") [] (backTo p' (starEach xs m.env)) []) _ Ex q.s) c λz z' c=>by
   have st:starEach [z,z'] m.env=[(false,eval z m.env),(false,eval z' m.env)]:=(jx (bl c) _).trans (congrArg _ (jx (bl (br (br c))) _))
   rw[st]
   exact rM rfl (spliced_cons ((hl l rfl _ (bl (br c))).at S H.ζ.ζ kx.x λv1 z1 q1 h1 S1 T1 R1=>spliced_cons ((hh _ (br (br (br c)))).ζ S1 h1 (kx.tx T1) λv2 z2 q2 h2 S2 T2 R2=>spliced_nil (
    LW (p:=λv1=>wpAny (model m.prog m.w) m.A (call (.type "range") [v1,v2]) _ Ex q2.s) (T2.vr R1) h2.ob λa t h2=>VR.I (p:=λv2=>wpAny (model m.prog m.w) m.A (call (.type "range") [_,v2]) _ Ex q2.s) R2 h2 λu t' h2=>h2.if λok h2=>call_range_2 (C5 M hy cb hb S2 ok (T1.trans T2) h2 kx k)))))
theorem LZ(M:m.fv){x:Nat}{lo:Option E}{hi:E}{b:List S}(hl:∀l,lo=some l->XE m l)(hh:XE m hi)(hb:fy m W b):ZS m W (.fU x lo hi b):=λst hc=>d9 (P:=aw m W (.fU x lo hi b)) hc (by decide) λcc=>kj (p:=λcs=>aw m W (.fU x lo hi b) (.For _ _ _ cs _)) (bl cc) (iX (P:=λt=>aw m W (.fU x lo hi b) (.For t _ _ [] _)) (bl (br cc)) λy yp hy=>
 rJ (P:=λi=>aw m W (.fU x lo hi b) (.For (.Name y yp) i _ [] _)) (f:=xC _ _ lo hi) (br (br (br cc))) λp xs p' g c q K X Qv Ex S H kx k=>wpAny_For (wpAny_Call_ofName (lC M.toOk g (by decide) boot_range S (LY M hl hh hy (bl (br (br cc))) hb c S H kx k))) (λ_=>rfl))
end
end
section
theorem C6{env:Env}{ns:List PySem.Str}:∀{is:List Nat} {ts:List XP},uM ns is ts=true->(assignEach ts env).length=is.length∧(assignEach ts env).findIdx? (·.1)=none
 |[],ts,h=>kj (p:=λts=>(assignEach ts env).length=0∧(assignEach ts env).findIdx? (·.1)=none) h ⟨rfl,rfl⟩
 |i::is,[],h=>aG h
 |i::is,t::ts,h=>iX (P:=λt=>(assignEach (t::ts) env).length=(i::is).length∧(assignEach (t::ts) env).findIdx? (·.1)=none) (bl h) λy p _=>
  have z:=C6 (env:=env) (br h)
  ⟨congrArg Nat.succ z.1,(List.findIdx?_cons ..).trans ((if_neg ς).trans (congrArg _ z.2))⟩
theorem C7:∀{xs:List Nat} {ρ:Loc} {ys:List V} {P:Loc->Prop},tt (pa ρ xs ys) P->xs.length=ys.length
 |[],_,[],_,_=>rfl
 |_::xs,_,_::_,_,h=>congrArg Nat.succ (C7 (xs:=xs) h)
 |[],_,_::_,_,h=>h.elim
 |_::_,_,[],_,h=>h.elim
theorem L5{v:XP}(h:CH v=true){ts:List XP}{k:Nat}{p:Pos}{env:Env}:swappedStores [.Tuple ts k p] v env=pure none:=by cases v<;>first|rfl|exact aG h
section
variable{m:Fx}{W:Nat}
theorem C8{Qu:Unit->Shared->Prop}{Ex:Value->Shared->Prop}:∀{is:List Nat} {ts:List XP} {vs:List Value} {ys:List V} {q:Q},uM m.names is ts=true->mV m.w.params q.g vs ys->St m q->
  tt (pa q.ρ is ys) (λaH=>∀h' tk,St m ⟨q.g,aH,q.σ,{q.s with heap:=h',toks:=tk}⟩->bz m q ⟨q.g,aH,q.σ,{q.s with heap:=h',toks:=tk}⟩->Qu () {q.s with heap:=h',toks:=tk})->wpAny (model m.prog m.w) m.A (assignInOrder ((assignEach ts m.env).map (·.2)) vs) Qu Ex q.s
 |[],ts,vs,[],q,hn,hv,S,h=>kj (p:=λts=>wpAny (model m.prog m.w) m.A (assignInOrder ((assignEach ts m.env).map (·.2)) vs) Qu Ex q.s) hn (wpAny_pure (h q.s.heap q.s.toks S bz.refl))
 |[],ts,vs,_::_,q,hn,hv,S,h=>h.elim
 |i::is,[],vs,ys,q,hn,hv,S,h=>aG hn
 |i::is,t::ts,vs,ys,q,hn,hv,S,h=>by
  refine iX (P:=λt=>wpAny (model m.prog m.w) m.A (assignInOrder ((assignEach (t::ts) m.env).map (·.2)) vs) Qu Ex q.s) (bl hn) λy p hy=>?_
  cases hv with
  |nil=>exact h.elim
  |cons nv L6=>
   exact wpAny_bind (wpAny_holding (PySem.wpAny_assign_Name (rV S hy nv λh1 jE S1 T1=>C8 (q:=⟨q.g,q.ρ.set i (.v _),q.σ,{q.s with heap:=h1,toks:=jE}⟩) (br hn) L6 S1 (tt.mono h λaH h h' tk S2 T2=>h h' tk S2 (T1.trans T2)))))
theorem L7(M:m.Ok){xs:List Nat}{e:E}(h:XE m e):ZS m W (.cK xs e):=λst hc=>d9 (P:=aw m W (.cK xs e)) hc (by decide) λc=>dW (p:=λts=>aw m W (.cK xs e) (.Assign ts (sd st).a _)) c λt c=>bL (P:=λt=>aw m W (.cK xs e) (.Assign [t] _ _)) c (by decide) λc q K X Qv Ex S H kx k=>
 Assign_Tuple ((h _ (bl (br c))).ζ S H kx.x λv y q1 h1 S1 T1 R1=>VR.T (p:=λv=>wpAny (model m.prog m.w) m.A (assign _ m.env v) _ Ex q1.s) R1 h1.ob λa ys o vs n R h1=>by
   have z:=C6 (env:=m.env) (bl c)
   refine PySem.wpAny_assign_Tuple M.cx.handled ⟨o,((FR.hr S1).aE _ R.m).1,R.c,n,R.d⟩ (z.1.trans ((C7 h1).trans R.r.length.symm)) z.2 λh' hx=>?_
   have kp:∀b ob,q1.s.heap.get? b=some ob->h'.get? b=some ob:=λb ob e=>hx b ob (eD (Heap.lt_size e)) e
   exact C8 (q:=⟨q1.g,q1.ρ,q1.σ,{q1.s with heap:=h'}⟩) (bl c) R.r (FR.keeps S1 kp) (h1.mono λaH H h2 tk S2 T2=>k.nx ⟨q1.g,aH,q1.σ,{q1.s with heap:=h2,toks:=tk}⟩ H S2 (T1.s.trans (bz.trans (q1:=⟨q1.g,q1.ρ,q1.σ,{q1.s with heap:=h'}⟩) ⟨(Ext.keeps kp).s,rfl,rfl⟩ T2))))
  (by unfold swapsWithSole;exact pJ (bl (br (br c))) _ _) (L5 (br (br (br c))))
theorem L8{α:Type}{c1 c2 c3 c4 c5:Bool}{a b x:α}(h1:c1=false)(h2:c2=false)(h3:c3=false)(h4:c4=false)(h5:c5=false):(if c1=true then a else if c2=true then a else if c3=true then a else if c4=true then a else if c5=true then b else x)=x:=by
 subst h1 h2 h3 h4 h5;rfl
theorem L9{f:XP->Option PySem.Str}{a b:XP}{n1 n2:PySem.Str}(h1:f a=some n1)(h2:f b=some n2):[a,b].filterMap f=[n1,n2]:=(List.filterMap_cons_some h1).trans (congrArg _ (List.filterMap_cons_some h2))
theorem L_{n1 n2:PySem.Str}(hn:n1≠n2):[n1,n2].eraseDups=[n1,n2]:=by simp[List.eraseDups_cons,Ne.symm hn]
theorem C9{v:XP}(h:notStar v=true):(match(generalizing:=false) v with|.Starred .. =>true|_=>false)=false:=by cases v<;>first|rfl|exact aG h
theorem Ma{env:Env}{n1 n2:PySem.Str}{p1 p2 tp Mb:Pos}{k k':Nat}{v1 v2:XP}(hk:env.blockKind=.function)(s1:notStar v1=true)(s2:notStar v2=true)(l1:env.kindOf n1=some .local)(l2:env.kindOf n2=some .local)(hp:p1.line=p2.line)(hn:n1≠n2)
  (hf:(foldedForSure 8 v1&&foldedForSure 8 v2)=false)(hc:(constantsAlone 8 v1&&constantsAlone 8 v2)=false):
  swappedStores [.Tuple [.Name n1 p1,.Name n2 p2] k tp] (.Tuple [v1,v2] k' Mb) env=pure (some [n1,n2]):=by
 have z:=L9 (f:=λ|.Name id pos=>if env.kindOf id==some .local&&pos.line==p1.line then some id else none|_=>none) (a:=.Name n1 p1) (b:=.Name n2 p2) (if_pos (by rw[l1];exact beq_self_eq_true p1.line)) (if_pos (by rw[l2];exact beq_iff_eq.mpr hp.symm))
 refine(L8 (by rw[hk];rfl) ?_ ?_ ?_ ?_).trans (congrArg (λl=>(pure (some l):Sem (Option (List PySem.Str)))) z)
 ·exact Bool.or_eq_false_iff.mpr ⟨C9 s1,Bool.or_eq_false_iff.mpr ⟨C9 s2,rfl⟩⟩
 ·refine(congrArg (λl:List PySem.Str=>l.length !=2||l.eraseDups.length !=l.length) z).trans ?_
  rw[L_ hn];rfl
 ·rw[List.all_cons,List.all_cons,List.all_nil,gM];exact hf
 ·rw[List.all_cons,List.all_cons,List.all_nil,gM];exact hc
theorem Mc(M:m.Ok){x y:Nat}{a b:E}(ha:XE m a)(hb:XE m b):ZS m W (.fT x y a b):=λst hc=>d9 (P:=aw m W (.fT x y a b)) hc (by decide) λc=>dW (p:=λts=>aw m W (.fT x y a b) (.Assign ts (sd st).a _)) c λt c=>bL (P:=λt=>aw m W (.fT x y a b) (.Assign [t] _ _)) c (by decide) λc=>bL (P:=λv=>aw m W (.fT x y a b) (.Assign _ v _)) c (by decide) λc=>
 rH (p:=λns=>aw m W (.fT x y a b) (.Assign [.Tuple ns _ _] _ _)) c λn1 n2 c=>rH (p:=λvs=>aw m W (.fT x y a b) (.Assign _ (.Tuple vs _ _) _)) c λv1 v2 c=>
 bL (P:=λn=>aw m W (.fT x y a b) (.Assign [.Tuple [n,_] _ _] _ _)) c (by decide) λc=>bL (P:=λn=>aw m W (.fT x y a b) (.Assign [.Tuple [_,n] _ _] _ _)) c (by decide) λc q K X Qv Ex S H kx k=>by
  have r3:=br (br c);have r7:=br (br (br (br r3)));have pK:=br (br (br r7))
  have hk:m.env.blockKind=.function:=by unfold Env.blockKind;rw[(FR.cg S).kind];rfl
  refine Assign_Tuple_swapped (names:=[(nd n1).nm,(nd n2).nm]) (Tuple_ ?_) (by unfold swapsWithSole;rfl) (Ma hk (bl r3) (bl (br (br r3))) (rU (bl (br r7))) (rU (bl (br (br r7)))) (bd (bl pK)) (bd (bl r7)) (bn (bl (br pK))) (bn (br (br pK))))
  rw[jx (bl r3),jx (bl (br (br r3)))]
  refine spliced_cons ((ha v1 (bl (br r3))).ζ S H kx.x λva z1 q1 h1 S1 T1 R1=>spliced_cons ((hb v2 (bl (br (br (br r3))))).ζ S1 h1 (kx.tx T1) λvb z2 q2 h2 S2 T2 R2=>spliced_nil (wpAny_newObj_type ?_ (gT (show 2<=1000 by decide)))))
  refine wpAny_unpackItems_tuple (items:= #[va,vb]) M.cx.handled ⟨_,Heap.get?_push_size _ rfl,rfl,0,rfl⟩ λh' Md=>?_
  have kp:∀b ob,q2.s.heap.get? b=some ob->h'.get? b=some ob:=λb ob e=>
   have e1:=Heap.get?_push_of_some {cls:=.type "tuple",data:=.seq #[va,vb]} e
   Md b ob (eD (Heap.lt_size e1)) e1
  have T3:To m q ⟨q2.g,q2.ρ,q2.σ,{q2.s with heap:=h'}⟩:=(T1.trans T2).trans ⟨Ext.keeps kp,rfl,rfl⟩
  exact wpAny_bind (wpAny_holding (wpAny_bindName (rV (q:=⟨q2.g,q2.ρ,q2.σ,{q2.s with heap:=h'}⟩) (FR.keeps S2 kp) (bd (bl (br c))) R2 λh4 Vt S4 T4=>wpAny_bind (wpAny_holding (wpAny_bindName (uN S4 (T3.s.trans T4) (bd (bl c)) (T2.vr R1) k h2 λ_ h=>wpAny_pure h))))))
end
end
section
section
variable{C:Δ}{ρ:Loc}{σ:Hp}{α:Type}{K:α->Loc->Hp->Prop}{X:Nat->Loc->Hp->Prop}
noncomputable abbrev pL(_:Nat)(_:Loc)(_:Hp):Prop:=False
theorem Me{o:Option α}(H:tot (up o ρ σ) K X):tot (up o ρ σ) K pL:=by cases o<;>exact H
theorem Mf{i:Nat}{K:V->Loc->Hp->Prop}(H:tot (ν C (.loc i) ρ σ) K X):tot (ν C (.loc i) ρ σ) K pL:=by
 have H:tot (k9 ρ[i]? i ρ σ) K X:=H
 show tot (k9 ρ[i]? i ρ σ) K pL
 revert H
 rcases ρ[i]?with _|(_|_|_)<;>exact id
theorem C_{y:Nat}:∀{fs:List ay} {ρ:Loc} {σ:Hp} {K:List V->Loc->Hp->Prop},tot (ft C (fs.map λf=>.attr (.loc y) f) ρ σ) K X->tot (ft C (fs.map λf=>.attr (.loc y) f) ρ σ) K pL
 |[],_,_,_,H=>H
 |_::_,_,_,_,H=>gI (gH (gI (gH (Mf H.ζ.ζ) λ_ _ _=>Me)) λ_ _ _ H=>gI (gH (C_ H.ζ) λ_ _ _ H=>H))
theorem Mg{y:Nat}{fs:List ay}{K:V->Loc->Hp->Prop}(H:tot (ν C (j9 y fs) ρ σ) K X):tot (ν C (j9 y fs) ρ σ) K pL:=gI (gH (C_ H.ζ) λ_ _ _ H=>H)
theorem tot.tr{β:Type}{r:M β}{f:β->Loc->Hp->M α}{g:Nat->Loc->Hp->M α}(H:tot (wY r f g) K X):tot r (λv ρ h=>tot (f v ρ h) K X) λk ρ h=>tot (g k ρ h) K X:=by
 rcases r with _|(_|_)<;>exact H
end
section
variable{P:Params}{base h h':Heap}{fr:List Env}{env:Env}{names:List PySem.Str}{g:Gh}{ρ:Loc}{σ:Hp}{m:PySem.Str->Option Value}
theorem FR.forget(F:FR P base fr env names g ρ σ h)(n:h'.Ns env.locals m)(sb:Heap.SameBut env.locals h h'):FR P base fr env names g (ρ.map λ_=>.un) σ h'∧cM fr g h g h':=by
 have keep:∀b ob,b≠env.locals->h.get? b=some ob->h'.get? b=some ob:=λb ob hb e=>(sb.2 b hb).trans e
 obtain⟨o',cN,kg,p1,p2,p3,p4⟩:=n
 have n:∀{c x},g.ro c=some (.cell x)->c≠env.locals:=λe=>nc e F.loc nofun
 obtain⟨o,es,ep,q1,q2,q3,q4⟩:=F.vars
 refine⟨⟨F.hr.upd env.locals F.loc rfl keep ⟨o',p1,λvs q=>nomatch p2.symm.trans q⟩,F.cg,F.nodup,(b_ ..).trans F.len,F.loc,o',cN,kg,p1,p2,p3,λj y sl hy uh=>?_⟩,
  ⟨λb ob e=>if z:b=env.locals then⟨o',z▸p1⟩else⟨ob,keep b ob z e⟩,λb ob e r=>.inl (keep b ob (λq=>ah (r.symm.trans (q▸F.loc))) e),λ_ m=>m,λ_ m=>.inl m,ek _,λ_ _ _=>.inl rfl⟩⟩
 obtain⟨Mh,e0,rfl⟩:=fG.mp ((eE ..).symm.trans uh)
 exact(q4 j y Mh hy e0).kind.imp_right λz=>⟨z.1,z.2.imp λc z=>z.imp λoc z=>z.imp λcv z=>⟨z.1,z.2.1,keep c oc (n z.2.1) z.2.2.1,z.2.2.2⟩⟩
end
section
variable{prog:Program}{w:World}{A:Around}{env:Env}{s:Shared}{Q:PySem.Flow->Shared->Prop}{E:Value->Shared->Prop}
noncomputable abbrev pM(_:Value)(_:Shared):Prop:=False
theorem rY{M:Model}{α:Type}{t:Sem α}{Q R:α->Shared->Prop}(h:wpAny M A t R pM s)(k:∀v s,R v s->Q v s):wpAny M A t Q E s:=wpAny_mono h k λ_ _ h=>h.elim
theorem Mi{e:Value}{t:XP}{n:PySem.Str}{C':XS}{body:List XS}{pos:Pos}(Mj:e≠byPass)
  (h:wpAny (model prog w) (A.mark (some e)) (eval t env) (λc s=>wpAny (model prog w) (A.mark (some e)) (excMatches e c) (λb s=>b=true∧wpAny (model prog w) (A.mark (some e)) (setFlight e .none) (λ_ s=>wpAny (model prog w) (A.mark (some e)) (storeName env n e) (λ_ s=>
   wpAny (model prog w) (A.mark (some e)) (execs (C'::body) env) (λf s=>wpAny (model prog w) A (do bindName env n .none;unbindBehindTheSuite env n pos) (λ_ s=>Q f s) E s) pM s) pM s) pM s) pM s) pM s):
  wpAny (model prog w) A (handleBy e env [.ExceptHandler (some t) (some n) (C'::body) pos]) Q E s:=
 wpAny_handleBy_cons (codeAny_handlers_test (rY h λc s h=>rY h λb s h=>by
  obtain⟨rfl,h⟩:=h
  exact codeAny_handlers_suite_as (rY h λ_ s h=>rY h λ_ s h=>rY h λf s h=>h))) Mj
end
section
variable{m:Fx}{q q1:Q}{X:Nat->Loc->Hp->Prop}{K:Flow->Loc->Hp->Prop}{Qv:PySem.Flow->Shared->Prop}{Ex:Value->Shared->Prop}{W:Nat}
structure uR (m:Fx) (q1 q:Q) (k:Nat) (a:Addr):Prop where
 r:q.ρ=q1.ρ
 s:q.σ=q1.σ
 S:St m q
 T:bz m q1 q
 hk:q.g.φ[k]?=some a
 x:ExcAt q.s.heap a .none
theorem Mk{k:Nat}{a:Addr}{o:O}{A:Around}{E:Value->Shared->Prop}{Qu:Unit->Shared->Prop}(ho:q.σ[k]?=some o)(hc:o.cls=.raised)(h0:uR m q1 q k a)(hf:∀(q3:Q),uR m q1 q3 k a->Qu () q3.s):wpAny (model m.prog m.w) A (setFlight (.ref a) none) Qu E q.s:=
 HR.rS (fl:=none) (FR.hr h0.S) ho h0.hk hc h0.x λh3 H3 E3 x3=>hf ⟨q.g,q.ρ,q.σ,{q.s with heap:=h3}⟩ ⟨h0.r,h0.s,FR.called h0.S H3 E3,h0.T.trans ⟨E3.ext.s,rfl,rfl⟩,h0.hk,x3⟩
theorem Ml(M:m.fv){k:Nat}{a:Addr}{E:Value->Shared->Prop}{Qu:Unit->Shared->Prop}(S:St m q1)(t:uy m q1 k a)(h:∀q3,uR m q1 q3 k a->Qu () q3.s):
  wpAny (model m.prog m.w) m.A (noteFrame (.ref a) m.env) (λ_ s2=>wpAny (model m.prog m.w) m.A (setFlight (.ref a) none) Qu E s2) E q1.s:=by
 obtain⟨outer,L,hf,hL⟩:=M.xF
 obtain⟨aS,⟨o,ho,hc⟩,x⟩:=t
 have H0:=FR.hr S
 have nH:=M.cx.frames
 have xI:∀{g':Gh} {h':Heap},HR m.w.params m.base (m.env::outer) g' q1.σ h'->ew (m.env::outer) q1.g q1.s.heap g' h'->St m ⟨g',q1.ρ,q1.σ,{q1.s with heap:=h'}⟩∧bz m q1 ⟨g',q1.ρ,q1.σ,{q1.s with heap:=h'}⟩:=λH1 E1=>
  ⟨FR.called S (hf▸H1) (hf▸E1),⟨(show ew m.fr _ _ _ _ from hf▸E1).ext.s,rfl,rfl⟩⟩
 rw[hf]at H0 nH
 exact HR.note H0 nH hL ho aS hc x λg2 h2 H2 E2 x2=>HR.rS (s:={q1.s with heap:=h2}) (fl:=none) H2 ho (j_ E2.φ aS) hc x2 λh3 H3 E3 x3=>
  have Z:=xI H3 (E2.trans E3)
  h ⟨g2,q1.ρ,q1.σ,{q1.s with heap:=h3}⟩ ⟨rfl,rfl,Z.1,Z.2,j_ E2.φ aS,x3⟩
theorem Mm{sc:Sc}{ns:List PySem.Str}{y:Nat}{fs:List ay}{h:ExceptHandler}(hc:xE sc ns y fs h=true){P:ExceptHandler->Prop}
  (k:∀p mm r rp hp,gi sc (PySem.Str.ofString "Raised") "Raised"=true->ns[y]?=some mm->nF sc mm=true->τ sc ns (j9 y fs) r=true->P (.ExceptHandler (some (.Name (PySem.Str.ofString "Raised") p)) (some mm) [.Return (some r) rp] hp)):P h:=by
 rw[Lm h]
 exact pI (p:=λt=>P (.ExceptHandler t _ _ _)) hc λc hc=>pI (p:=λn=>P (.ExceptHandler _ n _ _)) hc λmm hc=>dW (p:=λb=>P (.ExceptHandler _ _ b _)) hc λs hc=>d9 (P:=λs=>P (.ExceptHandler _ _ [s] _)) hc (by decide) λhc=>pI (p:=λo=>P (.ExceptHandler _ _ [.Return o _] _)) hc λr hc=>
  bL (P:=λc=>P (.ExceptHandler (some c) _ _ _)) hc (by decide) λhc=>(show P (.ExceptHandler (some (.Name (nd c).nm _)) _ _ _)from(lB (bl hc)).e.symm▸k _ mm r _ _ ((lB (bl hc)).e▸bl hc) (bd (bl (br hc))) (bl (br (br hc))) (br (br (br hc))))
theorem Mn(M:Amb0 m.base m.K m.names){y:Nat}{fs:List ay}:XE m (j9 y fs):=BV (jy λe me=>by
 obtain⟨f,_,rfl⟩:=List.mem_map.mp me
 exact Cn M (BS M _))
theorem Mo(M:m.fv){y k':Nat}{fs:List ay}{a:Addr}{h:ExceptHandler}{o:O}{q3:Q}(hc:xE m.env.scope.names m.names y fs h=true)(ho:q1.σ[k']?=some o)(bN:o.cls=.raised)(h3:uR m q1 q3 k' a)(T1:bz m q q1)(k:KS m q K Qv)
  (H:tot ((ν m.C (j9 y fs) (q1.ρ.set y (.v (.obj k'))) q1.σ).ζ λv ρ h=>some (.ok (.ret v) (ρ.map λ_=>.un) h)) K X):wpAny (model m.prog m.w) m.A (handleBy (.ref a) m.env [h]) Qv Ex q3.s:=
 Mm (P:=λh=>wpAny (model m.prog m.w) m.A (handleBy (.ref a) m.env [h]) Qv Ex q3.s) hc λp mm r rp hp hg hy hl c=>by
  obtain⟨nm,q',N,bs,hdct,sn,sub,ab,col,uG,k0,uH,k2,k3,k5,hC⟩:=M.cls.rG
  have ho:=(congrArg (·[k']?) h3.s).trans ho
  refine Mi (λq=>nomatch q) (globK (m:={m with A:=m.A.mark (some (.ref a))}) M.toAmb0 hg M.cls.xh h3.S ?_)
  obtain⟨ra,oa,vs,ea,ki,_⟩:=(FR.hr h3.S).raised ho h3.hk bN
  refine wpAny_excMatches_sub_self (M.top.X.keeps (FR.hr h3.S).stays _ _ hC) ea ki (by decide) ⟨rfl,Mk (q:=q3) ho bN h3 λq4 h4=>?_⟩
  refine FR.Bn (s:=q4.s) h4.S hy (y:=.obj k') (.obj h4.hk) λh5 Dc F5 E5=>wpAny_execs_cons (wpAny_Return_some ?_)
  rw[<-h4.r,<-h4.s]at H
  refine Mn (m:={m with A:=m.A.mark (some (.ref a))}) M.toAmb0 r c ⟨q4.g,q4.ρ.set y (.v (.obj k')),q4.σ,{q4.s with heap:=h5,toks:=Dc}⟩ _ _ _ _ F5 (Mg H.ζ) (λ_ _ _ h=>h.elim) λvv z q6 h6 S6 T6 R6=>?_
  obtain⟨ol,Mp,Mq,z1,z2,z3,z4⟩:=FR.vars S6
  refine wpAny_nameGoes (rU hl) ⟨ol,Mp,Mq,z1,z2,z3,λ_=>rfl⟩ (by rw[(FR.cg S6).kind];rfl) λh7 m7 n7 Mr=>?_
  have Z:=FR.forget S6 n7 Mr
  exact k.rt vv z ⟨q6.g,q6.ρ.map λ_=>.un,q6.σ,{q6.s with heap:=h7,toks:=q6.s.toks+1}⟩ h6 Z.1 (T1.trans (h4.T.trans ((show bz m q4 ⟨q4.g,q4.ρ.set y (.v (.obj k')),q4.σ,{q4.s with heap:=h5,toks:=Dc}⟩from⟨E5,rfl,rfl⟩).trans ((show bz m _ q6 from⟨T6.e.s,T6.q⟩).trans ⟨Z.2,rfl,rfl⟩)))) R6
theorem Ms(M:m.fv){x y:Nat}{f:Fn}{args:List E}{fs:List ay}(ha:gG m args):ZS m W (.gP x f args y fs):=λst hc=>d9 (P:=aw m W (.gP x f args y fs)) hc (by decide) λc=>kj (p:=λcs=>aw m W (.gP x f args y fs) (.Try _ _ cs _ _)) (bl c) (kj (p:=λds=>aw m W (.gP x f args y fs) (.Try _ _ [] ds _)) (bl (br c))
 (dW (p:=λbs=>aw m W (.gP x f args y fs) (.Try bs _ [] [] _)) (br (br c)) λs c=>d9 (P:=λs=>aw m W (.gP x f args y fs) (.Try [s] _ [] [] _)) c (by decide) λc=>dW (p:=λts=>aw m W (.gP x f args y fs) (.Try [.Assign ts (sd s).a _] _ [] [] _)) c λt c=>iX (P:=λt=>aw m W (.gP x f args y fs) (.Try [.Assign [t] (sd s).a _] _ [] [] _)) (bl c) λy1 p1 hx=>
 dW (p:=λhs=>aw m W (.gP x f args y fs) (.Try [.Assign [_] (sd s).a _] hs [] [] _)) (br (br c)) λh hh q K X Qv Ex S H kx k=>
  wpAny_Try_except (wpAny_execs_cons (wpAny_Assign_Name (Ck M.toOk ha _ (bl (br c)) q _ _ _ _ S H.tr (λk' a q1 h1 S1 T1 t=>Ml M S1 t λq3 h3=>t.ho.elim λo ho=>Mo M hh ho.1 ho.2 h3 T1.s k h1)
   (λv z q1 h1 S1 T1 R1=>uN S1 T1.s hx R1 k h1 λ_ h=>wpAny_execs_nil (wpAny_execs_nil h))) (pJ (BP (P:=λx=>nE x=true) (bl (br c)) λ_ _ _ _ _ _=>rfl) _ _)))))
end
end
section
noncomputable def pairsOf(env:Env)(pos:Pos):List (Option PySem.Expr)->List PySem.Expr->List (Sem Value×Sem Value)
 |some k::ks,v::vs=>(eval k env,do let x<-eval v env;standAt pos;pure x)::pairsOf env pos ks vs
 |_,_=>[]
theorem xJ{sc:Sc}{ns:List PySem.Str}{k:List Nat}{e:E}{r:List (List Nat×E)}{ks:List (Option XP)}{vs:List XP}{P:List (Option XP)->List XP->Prop}(h:ju sc ns ((k,e)::r) ks vs=true)
  (κ:∀n p ks v vs,k.all (· <128)=true->k.length<=1000->τ sc ns e v=true->ju sc ns r ks vs=true->P (some (.Constant (pD k) n p)::ks) (v::vs)):P ks vs:=by
 cases ks with
 |nil=>exact aG h
 |cons q ks=>
  cases vs with
  |nil=>exact aG h
  |cons v vs=>exact pI (p:=λq=>P (q::ks) (v::vs)) (bl h) λq c=>m9 (P:=λq=>P (some q::ks) (v::vs)) c λn p=>κ n p ks v vs (bl (br h)) (bd (bl (br (br h)))) (bl (br (br (br h)))) (br (br (br (br h))))
theorem xK{sc:Sc}{ns:List PySem.Str}{env:Env}{pos:Pos}:∀{kvs:List (List Nat×E)} {ks:List (Option XP)} {vs:List XP},ju sc ns kvs ks vs=true->
  (evalEachOpt ks env).zip ((evalEach vs env).map λv=>do let x<-v;standAt pos;pure x)=(pairsOf env pos ks vs).map (λp=>(some p.1,p.2))∧(pairsOf env pos ks vs).length=kvs.length
 |[],ks,vs,h=>by
  rw[cZ.mp (bl h),cZ.mp (br h)];exact⟨rfl,rfl⟩
 |(k,e)::r,ks,vs,h=>xJ (P:=λks vs=>(evalEachOpt ks env).zip ((evalEach vs env).map λv=>do let x<-v;standAt pos;pure x)=(pairsOf env pos ks vs).map (λp=>(some p.1,p.2))∧(pairsOf env pos ks vs).length=r.length+1) h λn p ks v vs _ _ _ c4=>
  have⟨a,b⟩:=xK (env:=env) (pos:=pos) c4
  ⟨congrArg (List.cons _) a,congrArg Nat.succ b⟩
inductive RP (P:Params) (g:Gh):List (PySem.Str×Value)->List (List Nat×V)->Prop
 |nil:RP P g [] []
 |cons {x:PySem.Str} {k:List Nat} {v:Value} {y:V} {vs:List (PySem.Str×Value)} {kvs:List (List Nat×V)}:x.cps.toList=k->PyData.strOk x=true->RV P g v y->RP P g vs kvs->RP P g ((x,v)::vs) ((k,y)::kvs)
noncomputable def RK(prog:Program)(w:World)(g:Gh)(vs:List (Value×Value))(kvs:List (List Nat×V)):Prop:=∃ps:List (PySem.Str×Value),Carries (strKind prog w) vs ps∧RP w.params g ps kvs
section
variable{prog:Program}{w:World}{P:Params}{g g':Gh}{ps:List (PySem.Str×Value)}{kvs:List (List Nat×V)}
theorem xM(x:PySem.Str)(t:Tok):(strKind prog w).is x (.str x t)=true:=decide_eq_true rfl
theorem RP.keys(r:RP P g ps kvs):kvs.map (·.1)=ps.map λp=>p.1.cps.toList:=by
 induction r with
 |nil=>rfl
 |cons a _ _ _ ih=>subst a;exact congrArg _ ih
theorem RP.up(r:RP P g ps kvs)(u:Up g g'):RP P g' ps kvs:=by
 induction r with
 |nil=>exact .nil
 |cons a b c _ ih=>exact .cons a b (VR.up c u) ih
theorem RP.nodup(r:RP P g ps kvs)(nd:(kvs.map (·.1)).Nodup):(ps.map (·.1)).Nodup:=uP (λx:PySem.Str=>x.cps.toList) (by rw[List.map_map];rw[r.keys]at nd;exact nd)
theorem RP.Mu{es:List DictEntry}(hp:Pairs (strKind prog w) es ps):∀{kvs:List (List Nat×V)},RP w.params g ps kvs->(∀e∈es,∃k,(strKind prog w).is k e.key=true∧e.hash=(strKind prog w).hash k)->cL w.params g.nw g.φ es kvs:=by
 induction hp with
 |nil=>intro kvs r _;cases r;exact .nil
 |cons h1 h2 _ ih=>
  intro kvs r hk
  cases r with
  |cons a b c r=>
   obtain⟨t,ht⟩:=Value.isStrOf_shape h1
   obtain⟨k',k1,k2⟩:=hk _ (.head _)
   cases(strKind prog w).inj _ _ _ k1 h1
   subst a
   exact .cons ht b k2 (h2▸c) (ih r λe m=>hk e (.tail _ m))
end
section
variable{prog:Program}{base:Heap}{K:Frag}{fr:List Env}{env:Env}{names:List PySem.Str}{w:World}
theorem Ext.fZ{g₀ g:Gh}{h₀ h h':Heap}{it:Addr}(x:Ext fr g₀ h₀ g h)(new:h₀.get? it=none)(keep:∀b o,b≠it->h.get? b=some o->h'.get? b=some o):Ext fr g₀ h₀ g h':=
 ⟨x.s.fZ new keep,λb ob r e=>(x.loc b ob r e).imp λo' z=>⟨keep b o' (λq=>ah (new.symm.trans (q▸e))) z.1,z.2⟩⟩
theorem Ext.Dd{g₀ g:Gh}{h₀ h h':Heap}{d:Addr}{o:Obj}(x:Ext fr g₀ h₀ g h)(new:h₀.get? d=none)(keep:∀b o,b≠d->h.get? b=some o->h'.get? b=some o):Ext fr g₀ h₀ (g.add d o) h':=
 have y:=x.fZ new keep
 ⟨⟨y.live,y.keep,λp m=>.tail _ (y.nw p m),λp m=>(dx.mp m).elim (λq=>.inr (.inl (q▸new))) (y.gE p),y.φ,y.ro⟩,y.loc⟩
theorem De{kvs:List (List Nat×V)}{ps:List (PySem.Str×Value)}{d:Addr}{g₀ g:Gh}{h₀ h h':Heap}{ρ:Loc}{σ:Hp}(F:FR w.params base fr env names g ρ σ h)(E:Ext fr g₀ h₀ g h)(new:h₀.get? d=none)(F0:Off base fr g d)(hd:sysModules<d)
  (r:RP w.params g ps kvs)(D:h'.DictOf (strKind prog w) d ps)(keep:∀b o,b≠d->h.get? b=some o->h'.get? b=some o):
  ∃g',FR w.params base fr env names g' ρ σ h'∧Ext fr g₀ h₀ g' h'∧RV w.params g' (.ref d) (.dict kvs):=by
 obtain⟨o,es,n,e,c,da,hk,hp,hn⟩:=D
 exact⟨g.add d o,(F.fZ F0 keep).add e F0.ro F0.fr,E.Dd new keep,.dict (es:=es.toList) (n:=n) (.head _) c (da.trans (by rw[Array.toArray_toList])) (beq_eq_false_iff_ne.mpr (Nat.ne_of_gt hd)) (RP.Mu hp (r.up Up.add) λe m=>hk e (Array.mem_toList_iff.mp m))⟩
theorem Df(M:Amb0 base K names){P:Params}{g:Gh}{σ:Hp}{h:Heap}(H:HR P base fr g σ h):sysModules<h.objs.size:=by
 obtain⟨mg,mb,⟨og,_,_,eg,_⟩,_⟩:=M.top.w_
 exact gn (show 1<3 by decide) (Heap.lt_size (H.stays _ _ eg))
end
section
variable{m:Fx}
theorem Dg{k:List Nat}(h:k.all (· <128)=true):PyData.strOk ⟨k.toArray⟩=true:=mW (s:=k) rfl λd hd=>gn (of_decide_eq_true (dM.mp h d hd)) (by decide)
theorem Dh{pos:Pos}:∀{kvs:List (List Nat×E)},(∀p∈kvs,XE m p.2)->∀{ks:List (Option XP)} {vs:List XP},ju m.env.scope.names m.names kvs ks vs=true->ct m (RK m.prog m.w) (evalPairs (pairsOf m.env pos ks vs)) (jn m.C kvs)
 |[],_,ks,vs,h=>λq K X Qv Ex S H kx kv=>by
  rw[cZ.mp (bl h),cZ.mp (br h)]
  exact evalPairs_nil (kv.here S H ⟨[],trivial,.nil⟩)
 |(k,e)::r,hs,ks,vs,h=>xJ (P:=λks vs=>ct m (RK m.prog m.w) (evalPairs (pairsOf m.env pos ks vs)) (jn m.C ((k,e)::r))) h λn p ks v vs c1 c2 c3 c4 q K X Qv Ex S H kx kv=>
  have T0:To m q ⟨q.g,q.ρ,q.σ,{q.s with toks:=q.s.toks+1}⟩:=⟨Ext.refl _ _ _,rfl,rfl⟩
  evalPairs_cons (Constant_str (wpAny_bind ((hs _ (.head _) v c3).ζ (q:=⟨q.g,q.ρ,q.σ,{q.s with toks:=q.s.toks+1}⟩) S H (kx.to T0) λva y q1 h1 S1 T1 R1=>wpAny_bind (wpAny_standAt (wpAny_pure
   ((Dh (λp i=>hs p (.tail _ i)) c4).ζ S1 h1 (kx.to (T0.trans T1)) λws zs q2 h2 S2 T2 R2=>kv _ _ q2 h2 S2 ((T0.trans T1).trans T2) (R2.elim λps z=>⟨(⟨k.toArray⟩,va)::ps,⟨xM _ _,rfl,z.1⟩,.cons rfl (Dg c1) (T2.vr R1) z.2⟩)))))))
theorem Di{C:Δ}{X:Nat->Loc->Hp->Prop}:∀{kvs:List (List Nat×E)} {ρ:Loc} {σ:Hp} {K:List (List Nat×V)->Loc->Hp->Prop},tot (jn C kvs ρ σ) K X->tot (jn C kvs ρ σ) (λout ρ h=>K out ρ h∧out.map (·.1)=kvs.map (·.1)) X
 |[],_,_,_,h=>⟨h,rfl⟩
 |(k,_)::_,_,_,_,h=>gI (gH h.ζ λ_ _ _ h=>gI (gH (Di h.ζ) λ_ _ _ h=>⟨h.1,congrArg (List.cons k) h.2⟩))
theorem Mw(M:Amb0 m.base m.K m.names){kvs:List (List Nat×E)}(hs:∀p∈kvs,XE m p.2)(hl:kvs.length<=15)(he:kvs.isEmpty=false)(nd:(kvs.map (·.1)).Nodup){ks:List (Option XP)}{vs:List XP}{pos:Pos}(c1:ju m.env.scope.names m.names kvs ks vs=true):bx m (.hJ kvs) (.Dict ks vs pos):=λq K X Qv Ex S H kx kv=>by
 have Z:=xK (env:=m.env) (pos:=pos) c1
 refine wpAny_Dict_pairs (knd:=strKind m.prog m.w) Z.1 (λq=>aG (he.symm.trans (cZ.mpr (List.length_eq_zero_iff.mp (Z.2.symm.trans (congrArg List.length q)))))) (le_of_eq_of_le Z.2 hl) ?_
 have N:=(FR.hr S).off
 have T0:To m q ⟨q.g,q.ρ,q.σ,{q.s with heap:=q.s.heap.push {cls:=.type "dict",data:=.dict #[]}}⟩:=⟨Ext.push _,rfl,rfl⟩
 refine(Dh hs c1).at (q:=⟨q.g,q.ρ,q.σ,{q.s with heap:=q.s.heap.push {cls:=.type "dict",data:=.dict #[]}}⟩) (FR.push S _) (Di H.ζ) (kx.to T0) λws out q2 h2 S2 T2 R2=>R2.elim λps p=>?_
 have N2:=N.to T2.e.s (Heap.get?_push_size _ rfl)
 refine⟨ps,p.1,⟨_,#[],0,N2.2,⟨rfl,rfl,rfl⟩,rfl,λe h=>absurd h (Array.not_mem_empty _),.nil,.nil⟩,λh' D' sb=>?_⟩
 rw[merged_nil_of_nodup ps (p.2.nodup (h2.2▸nd))]at D'
 exact(De S2 (T0.trans T2).e (Heap.get?_none_of_le (ξ _)) N2.1 (Df M (FR.hr S)) p.2 D' λb o hb e=>(sb.2 b hb).trans e).elim λg3 z=>kv _ _ ⟨g3,q2.ρ,q2.σ,{q2.s with heap:=h',toks:=q2.s.toks+ws.length}⟩ h2.1 z.1 ⟨z.2.1,(T0.trans T2).q⟩ z.2.2
end
end
section
noncomputable abbrev Pr:=Sem Value×Sem Value
theorem Dj{p:Pr}{run rest:List Pr}:(run++[p]).length+rest.length=run.length+(p::rest).length:=by
 rw[Θ];exact Nat.succ_add_eq_add_succ ..
theorem Dk{p:Pr}{run rest:List Pr}:run++[p]++rest=run++p::rest:=aN ..
theorem Dm(f:(Option (Sem Value)×Sem Value)->(Option Addr×List Pr)->Sem (ForInStep (Option Addr×List Pr)))(main:Option Addr)
  (hf:∀(p:Pr) (run:List Pr),run.length+1<17->f (some p.1,p.2) (main,run)=pure (.yield (main,run++[p]))):
  ∀(items run:List Pr),run.length+items.length<17->forIn (items.map λp=>(some p.1,p.2)) (main,run) f=pure (main,run++items)
 |[],run,_=>by rw[List.map_nil,List.forIn_nil,ck]
 |p::rest,run,h=>by
  rw[List.map_cons,List.forIn_cons,hf p run (aX (az (Nat.succ_le_succ (bC _)) _) h),pure_bind]
  exact(Dm f main hf rest (run++[p]) (Dj▸h)).trans (congrArg (λl=>(pure (main,l):Sem (Option Addr×List Pr))) Dk)
theorem Dp(f:(Option (Sem Value)×Sem Value)->(Option Addr×List Pr)->Sem (ForInStep (Option Addr×List Pr)))(rest:List (Option (Sem Value)×Sem Value))
  (hf:∀(p:Pr) (run:List Pr),run.length+1<17->f (some p.1,p.2) (none,run)=pure (.yield (none,run++[p])))
  (hl:∀(p:Pr) (run:List Pr),run.length+1=17->f (some p.1,p.2) (none,run)=do let d<-subDict (run++[p]);pure (.yield (some d,[]))):
  ∀(p:Pr) (items run:List Pr),run.length+(p::items).length=17->forIn (((p::items).map λp=>(some p.1,p.2))++rest) ((none:Option Addr),run) f=do let d<-subDict (run++p::items);forIn rest (some d,[]) f
 |p,[],run,h=>by
  rw[List.map_cons,List.map_nil,List.cons_append,List.nil_append,List.forIn_cons,hl p run h,bind_assoc]
  rfl
 |p,q::r,run,h=>by
  rw[List.map_cons,List.cons_append,List.forIn_cons,hf p run (Nat.lt_of_lt_of_eq (Nat.add_lt_add_left (Nat.succ_lt_succ (gu _)) _) h),pure_bind]
  exact(Dp f rest hf hl q r (run++[p]) (Dj.trans h)).trans (congrArg (λl=>(do let d<-subDict l;forIn rest (some d,[]) f:Sem (Option Addr×List Pr))) Dk)
theorem cnt{run:List Pr}{p:Pr}:(run++[p]).length=run.length+1:=Θ
theorem Mx(p1:Pr)(l1 l2:List Pr)(h1:(p1::l1).length=17)(h2:l2.isEmpty=false)(h3:l2.length<17):dictDisplay ((p1::l1++l2).map λp=>(some p.1,p.2))=(do
  let d<-subDict (p1::l1)
  let sub<-holding [.ref d] (subDict l2)
  (holding [.ref d,.ref sub] (mergeMapping d (.ref sub) false)).onRaise λx=>do let _<-holding [.ref d,x] (runValue (.builtin "proto.let_go" {}))
  pure (.ref d)):=by
 unfold dictDisplay
 dsimp only
 have no:∀{p:Pr} {run:List Pr},run.length+1<17->((run++[(p.1,p.2)]).length==17)=false:=λh=>beq_false_of_ne (eD (cnt▸h))
 rw[fc,Dp _ _ (λp run h=>by
  simp only[no h,Bool.false_eq_true,if_false]) (λp run h=>by
  have xN:((run++[(p.1,p.2)]).length==17)=true:=beq_iff_eq.mpr (cnt.trans h)
  have My:(run++[(p.1,p.2)]).isEmpty=false:=by cases run<;>rfl
  simp only[xN,if_true,My,Bool.false_eq_true,if_false,bind_assoc,pure_bind]) p1 l1 [] ((bR _).trans h1)]
 simp only[bind_assoc,List.nil_append]
 congr 1
 funext d
 rw[Dm _ _ (λp run h=>by
  simp only[no h,Bool.false_eq_true,if_false]) l2 [] (aX (Ψ (bR _)) h3)]
 simp only[List.nil_append,pure_bind,h2,Bool.false_eq_true,if_false,bind_assoc]
section
variable{prog:Program}{w:World}{A:Around}{E:Value->Shared->Prop}{s:Shared}
theorem Mz{d:Addr}{kvs:List (PySem.Str×Value)}{k:PySem.Str}{key v:Value}{Q:Unit->Shared->Prop}(xO:(strKind prog w).is k key=true)(hm:s.heap.DictOf (strKind prog w) d kvs)(Dq:k∉kvs.map (·.1))(di:kvs.length<=1000)
  (hQ:∀h',h'.DictOf (strKind prog w) d (kvs++[(k,v)])->Heap.SameBut d s.heap h'->Q () {s with heap:=h'}):wpAny (model prog w) A (dictPut d ((strKind prog w).hash k) key v) Q E s:=by
 obtain⟨o,es,ep,ho,hc,hd,hk,hp,hn⟩:=hm
 refine wpAny_bind (wpAny_dictFind_of xO ho hd hk ?_)
 have MA:(es.findIdx? λe=>(strKind prog w).is k e.key)=none:=by
  rw[show(es.findIdx? λe=>(strKind prog w).is k e.key)=es.toList.findIdx? _ from List.findIdx?_toArray ..,hp.findIdx k,List.findIdx?_eq_none_iff]
  exact λkv rZ=>decide_eq_false λq=>Dq (q▸List.mem_map_of_mem rZ)
 rw[MA]
 refine wpAny_updateDictKeys (hz:=η (Ψ hp.length) (gT di)) ho hd (hQ _ ⟨_,_,ep+1,Heap.get?_update_self _ ho (Obj.isFreed_of_dict (Obj.data_mapDictKeys hd _)),hc.mapDictKeys _,Obj.data_mapDictKeys hd _,hk.push xO _,?_,?_⟩ (Heap.SameBut.update ..))
 ·rw[Array.toList_push]
  exact hp.append xO ((strKind prog w).hash k) v
 ·rw[fc,List.nodup_append]
  exact⟨hn,jg.mpr ⟨iD,.nil⟩,λa ha b hb e=>have hb:b=k:=jV.mp hb;Dq (hb▸e▸ha)⟩
structure MI (prog:Program) (w:World) (s:Shared) (d:Addr) (kvs more:List (PySem.Str×Value)) (o:Addr) (oo:Obj) (n i:Nat) (h:Heap):Prop where
 le:i<=n
 D:h.DictOf (strKind prog w) d (kvs++more.take i)
 o:h.get? o=some oo
 sb:Heap.SameBut d s.heap h
noncomputable def nJ(s:Shared)(n:Nat)(p:Nat->Heap->Prop)(l:List Nat)(s':Shared):Prop:=∃h i,s'={s with heap:=h}∧l=List.range' i (n - i)∧p i h
@[elab_as_elim] theorem nJ.step{n:Nat}{p:Nat->Heap->Prop}{x:Nat}{l:List Nat}{s':Shared}(I:nJ s n p (x::l) s'){r:Nat->List Nat->Shared->Prop}(k:∀h i,p i h->i<n->r i (List.range' (i+1) (n - (i+1))) {s with heap:=h}):r x l s':=by
 obtain⟨h,i,rfl,e,z⟩:=I
 by_cases lt:i<n
 ·rw[show n - i=(n - (i+1))+1 from(Nat.succ_pred_eq_of_pos (Nat.sub_pos_of_lt lt)).symm,List.range'_succ]at e
  cases e
  exact k h _ z lt
 ·rw[Nat.sub_eq_zero_of_le (Nat.not_lt.mp lt)]at e;exact nomatch e
@[elab_as_elim] theorem nJ.fin{n:Nat}{p:Nat->Heap->Prop}{s':Shared}(I:nJ s n p [] s')(le:∀i h,p i h->i<=n){r:Shared->Prop}(k:∀h,p n h->r {s with heap:=h}):r s':=by
 obtain⟨h,i,rfl,e,z⟩:=I
 have q:n - i=0:=(List.length_range' ..).symm.trans (congrArg List.length e).symm
 cases Nat.le_antisymm (le i h z) (Nat.le_of_sub_eq_zero q)
 exact k h z
theorem MB{d o:Addr}{kvs more:List (PySem.Str×Value)}{Q:Unit->Shared->Prop}(MC:d≠o)(MD:(o==sysModules)=false)(hd:s.heap.DictOf (strKind prog w) d kvs)(ho:s.heap.DictOf (strKind prog w) o more)(xN:kvs.length≠0)(nd:((kvs++more).map (·.1)).Nodup)(di:kvs.length+more.length<=1000)
  (hQ:∀h',h'.DictOf (strKind prog w) d (kvs++more)->Heap.SameBut d s.heap h'->Q () {s with heap:=h'}):wpAny (model prog w) A (mergeMapping d (.ref o) false) Q E s:=by
 have hT:s.TypeIs (.ref o) "dict":=ho.typeIs
 obtain⟨od,Vu,Vv,ME,xP,MF,Vw,MG,_⟩:=id hd
 obtain⟨oo,r_,Vx,xQ,Vy,uS,MH,Ds,_⟩:=ho
 have hlen:more.length=r_.size:=Ds.length.symm
 unfold mergeMapping
 refine wpAny_bind (wpAny_isInstance (T:="dict") (b:=true) hT isSubtype_dict_dict ?_)
 rw[if_pos rfl]
 refine wpAny_bind (wpAny_specialOf hT F.slot_dict_iter.lookup ?_)
 rw[show((some (Value.builtin "dict.__iter__"):Option Value)==some (.builtin "dict.__iter__"))=true from by decide]
 refine wpAny_bind (wpAny_pure ?_)
 dsimp only
 rw[if_neg (by rw[MD];exact ς)]
 refine wpAny_bind (wpAny_dictEntries ME MF ?_)
 rw[if_neg (λq=>xN (MG.length.symm.trans (Array.isEmpty_iff_size_eq_zero.mp q)))]
 refine wpAny_bind (wpAny_dictEntries xQ uS (wpAny_bind (wpAny_dictEpoch xQ uS (wpAny_bind ?_))))
 rw[List.range_eq_range']
 refine wpAny_forIn_list _ (λrest _ s'=>nJ s r_.size (MI prog w s d kvs more o oo r_.size) rest s') _ (λx rest b s' I=>nJ.step I λh' i I hV=>?_) (λb s' I=>nJ.fin I (λ_ _ z=>z.le) λh I=>wpAny_pure (hQ h (jU (Ψ hlen)▸I.D) I.sb)) _ _ ⟨s.heap,0,rfl,rfl,bC _,(ck kvs).symm▸hd,xQ,Heap.SameBut.refl _ _⟩
 refine wpAny_bind (wpAny_dictEntries I.o uS ?_)
 rw[Array.getElem?_eq_getElem hV]
 have rZ:more[i]?=some (more[i]'(hlen▸hV)):=jW _
 generalize more[i]'(hlen▸hV)=kv at rZ
 have z:=Ds.get? (e:=r_[i]) ((Array.getElem?_toList ..).trans (Array.getElem?_eq_getElem hV)) rZ
 obtain⟨k',Dt,MJ⟩:=MH r_[i] (Array.getElem_mem hV)
 cases(strKind prog w).inj _ _ _ Dt z.1
 have tk:more.take (i+1)=more.take i++[kv]:=by rw[List.take_add_one,rZ];rfl
 dsimp only
 refine wpAny_bind (wpAny_holding ?_)
 rw[if_neg (by decide),MJ,z.2]
 refine Mz (s:={s with heap:=h'}) Dt I.D ?_ ?_ λnB MK uT=>?_
 ·have n2:((kvs++more.take i++[kv]).map (·.1)).Nodup:=by
   rw[aN,<-tk]
   exact nd.sublist (((List.Sublist.refl kvs).append (List.take_sublist _ _)).map _)
  rw[fc,List.nodup_append]at n2
  exact λhm=>n2.2.2 kv.1 hm kv.1 (.head _) rfl
 ·rw[Θ,List.length_take];exact η (az (Nat.min_le_right ..) _) di
 ·have Du:nB.get? o=some oo:=(uT.2 o (Ne.symm MC)).trans I.o
  refine wpAny_bind (wpAny_dictEpoch (s:={s with heap:=nB}) Du uS ?_)
  rw[if_neg (by simp)]
  exact wpAny_pure ⟨nB,i+1,rfl,rfl,hV,by rw[tk,<-aN];exact MK,Du,I.sb.trans uT⟩
end
end
section
section
variable{prog:Program}{w:World}{A:Around}{E:Value->Shared->Prop}
noncomputable def Cp(prog:Program)(w:World)(x:PySem.Str)(i:Int)(p:Pr):Prop:=
 (∀(A:Around) (E:Value->Shared->Prop) (s:Shared) (Q:Value->Shared->Prop),Q (.str x s.toks) {s with toks:=s.toks+1}->wpAny (model prog w) A p.1 Q E s)∧
 ∀(A:Around) (E:Value->Shared->Prop) (s:Shared) (Q:Value->Shared->Prop),Q (.int i s.toks) {s with toks:=s.toks+1}->wpAny (model prog w) A p.2 Q E s
inductive CP (prog:Program) (w:World):List Pr->List (PySem.Str×Int)->Prop
 |nil:CP prog w [] []
 |cons {p:Pr} {ps:List Pr} {x:PySem.Str} {i:Int} {xs:List (PySem.Str×Int)}:Cp prog w x i p->CP prog w ps xs->CP prog w (p::ps) ((x,i)::xs)
theorem CP.take{ps:List Pr}{xs:List (PySem.Str×Int)}(h:CP prog w ps xs):∀n,CP prog w (ps.take n) (xs.take n):=by
 induction h with
 |nil=>intro n;cases n<;>exact .nil
 |cons a _ ih=>intro n;cases n with
  |zero=>exact .nil
  |succ n=>exact .cons a (ih n)
theorem CP.drop{ps:List Pr}{xs:List (PySem.Str×Int)}(h:CP prog w ps xs):∀n,CP prog w (ps.drop n) (xs.drop n):=by
 induction h with
 |nil=>intro n;cases n<;>exact .nil
 |cons a r ih=>intro n;cases n with
  |zero=>exact .cons a r
  |succ n=>exact ih n
theorem CP.length{ps:List Pr}{xs:List (PySem.Str×Int)}(h:CP prog w ps xs):ps.length=xs.length:=by
 induction h with
 |nil=>rfl
 |cons _ _ ih=>exact congrArg Nat.succ ih
inductive RI:List (PySem.Str×Value)->List (PySem.Str×Int)->Prop
 |nil:RI [] []
 |cons {x:PySem.Str} {i:Int} {t:Tok} {ps:List (PySem.Str×Value)} {xs:List (PySem.Str×Int)}:RI ps xs->RI ((x,.int i t)::ps) ((x,i)::xs)
theorem RI.keys{ps:List (PySem.Str×Value)}{xs:List (PySem.Str×Int)}(h:RI ps xs):ps.map (·.1)=xs.map (·.1):=by
 induction h with
 |nil=>rfl
 |cons _ ih=>exact congrArg _ ih
theorem RI.append{ps Dv:List (PySem.Str×Value)}{xs Dw:List (PySem.Str×Int)}(h:RI ps xs)(k:RI Dv Dw):RI (ps++Dv) (xs++Dw):=by
 induction h with
 |nil=>exact k
 |cons _ ih=>exact .cons ih
theorem ML{d:Addr}{pairs:List Pr}{xs:List (PySem.Str×Int)}(c:CP prog w pairs xs):∀{acc:List (PySem.Str×Value)} {s:Shared} {Q:PUnit->Shared->Prop},s.heap.DictOf (strKind prog w) d acc->(acc.map (·.1)++xs.map (·.1)).Nodup->acc.length+pairs.length<=1000->
  (∀ps h' tk,RI ps xs->h'.DictOf (strKind prog w) d (acc++ps)->Heap.SameBut d s.heap h'->Q PUnit.unit {s with heap:=h',toks:=tk})->
  wpAny (model prog w) A (forIn pairs PUnit.unit λ(p:Pr) (_:PUnit)=>(do let kv<-p.1;let vv<-holding [kv] p.2;holding [kv,vv] (dictSet d kv vv);pure (ForInStep.yield PUnit.unit):Sem (ForInStep PUnit))) Q E s:=by
 induction c with
 |nil=>
  intro acc s Q hm _ _ h
  rw[List.forIn_nil]
  exact wpAny_pure (h [] s.heap s.toks .nil ((ck acc).symm▸hm) (Heap.SameBut.refl _ _))
 |@cons p _ x i xs a _ ih=>
  intro acc s Q hm nd hl h
  rw[List.forIn_cons]
  have e0:∀ps,acc++[(x,Value.int i (s.toks+1))]++ps=acc++(x,.int i (s.toks+1))::ps:=λps=>aN ..
  have Dx:((acc++[(x,Value.int i (s.toks+1))]).map (·.1)++xs.map (·.1)).Nodup:=by rw[fc,aN];exact nd
  refine wpAny_bind (wpAny_bind (a.1 _ _ _ _ (wpAny_bind (wpAny_holding (a.2 _ _ _ _ (wpAny_bind (wpAny_holding (wpAny_dictSet_pairs (knd:=strKind prog w) (k:=x) (kvs:=acc) (s:={s with toks:=s.toks+1+1}) (xM x _) hm (λh' xR MM=>wpAny_pure ?_) (gT (η (aP ..) hl))))))))))
  have xR:h'.DictOf (strKind prog w) d (acc++[(x,.int i (s.toks+1))]):=merged_append_of_fresh acc [(x,Value.int i (s.toks+1))] (List.nodup_append.mp Dx).1▸xR
  exact ih (s:={s with heap:=h',toks:=_}) xR Dx (by rw[Θ];exact η (Ψ (Nat.succ_add_eq_add_succ ..)) hl) λps nB tk ri MN uT=>h ((x,.int i _)::ps) nB tk (.cons ri) (e0 ps▸MN) (MM.trans uT)
theorem MO{s:Shared}{pairs:List Pr}{xs:List (PySem.Str×Int)}{Q:Addr->Shared->Prop}(c:CP prog w pairs xs)(hl:15<pairs.length)(hu:pairs.length<=1000)(nd:(xs.map (·.1)).Nodup)
  (h:∀ps h' tk,RI ps xs->h'.DictOf (strKind prog w) s.heap.objs.size ps->Heap.SameBut s.heap.objs.size (s.heap.push {cls:=.type "dict",data:=.dict #[]}) h'->Q s.heap.objs.size {s with heap:=h',toks:=tk}):wpAny (model prog w) A (subDict pairs) Q E s:=by
 unfold subDict
 refine wpAny_bind (wpAny_alloc (wpAny_bind (wpAny_holding ?_)))
 rw[if_neg (Nat.not_le.mpr hl)]
 exact wpAny_bind (wpAny_rule (wpAny_bind (ML c (acc:=[]) (s:={s with heap:=s.heap.push {cls:=.type "dict",data:=.dict #[]}}) (Heap.DictOf.new _) nd (η (Ψ (bR _)) hu) λps h' tk ri hm hs=>wpAny_pure (wpAny_pure (h ps h' tk ri hm hs)))))
theorem MP{pairs:List Pr}{xs:List (PySem.Str×Int)}(c:CP prog w pairs xs):∀{s:Shared} {Q:List (Value×Value)->Shared->Prop},(∀vs tk ps,Carries (strKind prog w) vs ps->RI ps xs->Q vs {s with toks:=tk})->wpAny (model prog w) A (evalPairs pairs) Q E s:=by
 induction c with
 |nil=>exact λh=>evalPairs_nil (h [] _ [] trivial .nil)
 |cons a _ ih=>exact λ{s Q} h=>evalPairs_cons (a.1 _ _ _ _ (a.2 _ _ _ _ (ih (s:={s with toks:=s.toks+1+1}) λvs tk ps hc ri=>h _ tk ((_,.int _ _)::ps) ⟨xM _ _,rfl,hc⟩ (.cons ri))))
theorem MQ{s:Shared}{pairs:List Pr}{xs:List (PySem.Str×Int)}{Q:Addr->Shared->Prop}(c:CP prog w pairs xs)(hl:pairs.length<=15)(nd:(xs.map (·.1)).Nodup)
  (h:∀ps h' tk,RI ps xs->h'.DictOf (strKind prog w) s.heap.objs.size ps->Heap.SameBut s.heap.objs.size (s.heap.push {cls:=.type "dict",data:=.dict #[]}) h'->Q s.heap.objs.size {s with heap:=h',toks:=tk}):wpAny (model prog w) A (subDict pairs) Q E s:=
 wpAny_subDict (knd:=strKind prog w) hl (MP c λvs tk ps hc ri=>⟨ps,hc,Heap.DictOf.new _,λh' hm hs=>h ps h' _ ri (merged_nil_of_nodup ps (ri.keys.symm▸nd)▸hm) hs⟩)
end
section
variable{m:Fx}
theorem MR{e:E}(h:isInt e=true){p:E->Prop}(k:∀i,p (.int i)):p e:=by cases e<;>first|exact k _|exact aG h
structure Cs (m:Fx) (kvs:List (List Nat×E)) (pairs:List Pr) (xs:List (PySem.Str×Int)):Prop where
 c:CP m.prog m.w pairs xs
 k:kvs.map (·.1)=xs.map λx=>x.1.cps.toList
 e:∀ρ σ,jn m.C kvs ρ σ=some (.ok (xs.map λx=>(x.1.cps.toList,V.int x.2)) ρ σ)
 r:∀(P:Params) (g:Gh) (ps:List (PySem.Str×Value)),RI ps xs->RP P g ps (xs.map λx=>(x.1.cps.toList,V.int x.2))
theorem Dy{pos:Pos}:∀{kvs:List (List Nat×E)} {ks:List (Option XP)} {vs:List XP},ju m.env.scope.names m.names kvs ks vs=true->(kvs.all λp=>isInt p.2)=true->∃xs:List (PySem.Str×Int),Cs m kvs (pairsOf m.env pos ks vs) xs
 |[],ks,vs,hc,_=>by
  rw[cZ.mp (bl hc),cZ.mp (br hc)]
  exact⟨[],.nil,rfl,λ_ _=>rfl,λP g ps r=>by cases r;exact .nil⟩
 |(k,e)::r,ks,vs,hc,hi=>
  have hi:=List.all_cons.symm.trans hi
  MR (p:=λe=>ju m.env.scope.names m.names ((k,e)::r) ks vs=true->∃xs:List (PySem.Str×Int),Cs m ((k,e)::r) (pairsOf m.env pos ks vs) xs) (bl hi) (λi hc=>
   xJ (P:=λks vs=>∃xs:List (PySem.Str×Int),Cs m ((k,.int i)::r) (pairsOf m.env pos ks vs) xs) hc λn p ks v vs c1 c2 c3 c4=>(Dy (pos:=pos) c4 (br hi)).elim λxs z=>
    m9 (P:=λv=>∃xs:List (PySem.Str×Int),Cs m ((k,.int i)::r) (pairsOf m.env pos (some (.Constant (pD k) n p)::ks) (v::vs)) xs) c3 λk2 p2=>⟨(⟨k.toArray⟩,i)::xs,.cons (show Cp m.prog m.w ⟨k.toArray⟩ i (eval (.Constant (pD k) n p) m.env,do let x<-eval (.Constant (.int i) k2 p2) m.env;standAt pos;pure x)from⟨λA E s Q h=>(Constant_str h:wpAny (model m.prog m.w) A (eval (.Constant (pD k) n p) m.env) Q E s),λA E s Q h=>wpAny_bind (wpAny_Constant_int (wpAny_bind (wpAny_standAt (wpAny_pure h))))⟩) z.c,congrArg (List.cons k) z.k,
     λρ σ=>congrArg (λo=>M.ζ o λvs ρ h=>some (.ok ((k,V.int i)::vs) ρ h)) (z.e ρ σ),λP g ps r=>by cases r with|cons r=>exact .cons rfl (Dg c1) (.int _ _) (z.r P g _ r)⟩) hc
theorem MS(ps:List Pr)(hl:18<=ps.length)(hu:ps.length<=31):∃p l1 l2,ps=p::l1++l2∧(p::l1).length=17∧l2.isEmpty=false∧l2.length<=15:=by
 have l1:(ps.take 17).length=17:=List.length_take.trans (fH (iE hl))
 have l2:(ps.drop 17).length=ps.length - 17:=cY
 have e:=(fJ 17 ps).symm
 generalize ps.take 17=a at l1 e
 generalize ps.drop 17=b at l2 e
 cases a with
 |nil=>exact nomatch l1
 |cons p a=>exact⟨p,a,b,e,l1,List.isEmpty_eq_false_iff.mpr λq=>by subst q;exact absurd (Nat.le_of_sub_eq_zero l2.symm) (Nat.not_le.mpr hl),l2▸η (Nat.sub_le_sub_right hu 17) (by decide)⟩
theorem MT(M:Amb0 m.base m.K m.names){kvs:List (List Nat×E)}(hl:18<=kvs.length)(hu:kvs.length<=31)(hi:BA kvs=true)(nd:(kvs.map (·.1)).Nodup){ks:List (Option XP)}{vs:List XP}{pos:Pos}(c1:ju m.env.scope.names m.names kvs ks vs=true):bx m (.hJ kvs) (.Dict ks vs pos):=λq K X Qv Ex S H kx kv=>by
 have Z:=xK (env:=m.env) (pos:=pos) c1
 obtain⟨xs,C⟩:=Dy (m:=m) (pos:=pos) c1 hi
 have H:tot ((jn m.C kvs q.ρ q.σ).ζ λvs ρ h=>some (.ok (.dict vs) ρ h)) K X:=H
 rw[C.e]at H
 obtain⟨p1,l1,l2,e,t1,t2,t3⟩:=MS (pairsOf m.env pos ks vs) (Z.2.symm▸hl) (Z.2.symm▸hu)
 have CA:CP m.prog m.w (p1::l1) (xs.take 17):=by have z:=C.c.take 17;rw[e,List.take_left' t1]at z;exact z
 have CB:CP m.prog m.w l2 (xs.drop 17):=by have z:=C.c.drop 17;rw[e,List.drop_left' t1]at z;exact z
 have xS:((xs.take 17).map (·.1)++(xs.drop 17).map (·.1)).Nodup:=by
  rw[<-fc,fJ]
  exact uP (λx:PySem.Str=>x.cps.toList) (by rw[List.map_map];rw[C.k]at nd;exact nd)
 have N:=(FR.hr S).off
 have Dz:=Df M (FR.hr S)
 rw[arm_eval_Dict,Z.1,e,Mx p1 l1 l2 t1 t2 (aX t3 (by decide))]
 refine wpAny_bind (wpAny_standAt (wpAny_bind (MO CA (by rw[t1];decide) (by rw[t1];decide) (List.nodup_append.mp xS).1 λxT h1 jE xU d1 s1=>?_)))
 have k1:∀b o,q.s.heap.get? b=some o->h1.get? b=some o:=λb o e=>(s1.2 b (eD (Heap.lt_size e))).trans (Heap.get?_push_of_some _ e)
 have xV:q.s.heap.objs.size<h1.objs.size:=d1.elim λo x=>x.elim λes x=>x.elim λn x=>Heap.lt_size x.1
 refine wpAny_bind (wpAny_holding (MQ (s:={q.s with heap:=h1,toks:=jE}) CB t3 (List.nodup_append.mp xS).2.1 λxW h2 rW xX d2 s2=>?_))
 have ne:q.s.heap.objs.size≠h1.objs.size:=eD xV
 have k2:∀b o,q.s.heap.get? b=some o->h2.get? b=some o:=λb o e=>(s2.2 b (eD (gn (Heap.lt_size e) xV))).trans (Heap.get?_push_of_some _ (k1 b o e))
 have ri:RI (xT++xW) xs:=fJ 17 xs▸xU.append xX
 have DA:xT.length=17:=(b_ ..).symm.trans ((congrArg List.length xU.keys).trans ((b_ ..).trans (CA.length.symm.trans t1)))
 have MU:xW.length=l2.length:=(b_ ..).symm.trans ((congrArg List.length xX.keys).trans ((b_ ..).trans CB.length.symm))
 refine wpAny_bind (wpAny_onRaise (wpAny_holding (MB (s:={q.s with heap:=h2,toks:=rW}) (kvs:=xT) (more:=xW) ne (beq_eq_false_iff_ne.mpr (Nat.ne_of_gt (gn Dz xV))) ((d1.push _).sameBut s2 ne) d2 (by rw[DA];decide) (by rw[fc,xU.keys,xX.keys];exact xS) (by rw[DA,MU];exact η (az t3 17) (by decide)) λh3 d3 s3=>wpAny_pure ?_)))
 exact(De S (Ext.refl m.fr q.g q.s.heap) (Heap.get?_none_of_le (ξ _)) N Dz (C.r m.w.params q.g _ ri) d3 λb o n e=>(s3.2 b n).trans (k2 b o e)).elim λg4 z=>kv _ _ ⟨g4,q.ρ,q.σ,{q.s with heap:=h3,toks:=rW}⟩ H z.1 ⟨z.2.1,rfl,rfl⟩ z.2.2
theorem MV(M:Amb0 m.base m.K m.names){kvs:List (List Nat×E)}(hs:∀p∈kvs,XE m p.2):XE m (.hJ kvs):=λx hc=>bL (P:=bx m (.hJ kvs)) hc (by decide) λc=>by
 have r1:=br c;have r2:=br r1
 have nd:(kvs.map (·.1)).Nodup:=bd (br r2)
 exact(e_.mp (bl r1)).elim (λh=>Mw M hs (bd h) (bn (bl r2)) nd (bl c)) λh=>MT M (bd (bl h)) (bd (bl (br h))) (br (br h)) nd (bl c)
end
end
section
noncomputable def cellAt(cells:List (PySem.Str×Addr))(b:Addr):Option (PySem.Str×Addr):=cells.find? λp=>decide (p.2=b)&&decide (cells.lookup p.1=some b)
noncomputable def instOf(r:Option Role):Option Role:=r.filter Role.inst
noncomputable def Gh.callee(g:Gh)(L:Addr)(cells:List (PySem.Str×Addr)):Gh:=
 {nw:=g.nw,φ:=g.φ,ro:=λb=>if b=L then some .loc else(cellAt cells b).elim (instOf (g.ro b)) λp=>some (.cell p.1)}
noncomputable def Gh.back(g bI:Gh)(h:Heap):Gh:={nw:=bI.nw,φ:=bI.φ,ro:=λb=>if(h.get? b).isSome then g.ro b else instOf (bI.ro b)}
theorem instOf_some{r:Option Role}{x:Role}(h:instOf r=some x):r=some x∧x.inst=true:=Option.filter_eq_some_iff.mp h
theorem instOf_of{r:Option Role}{x:Role}(e:r=some x)(i:x.inst=true):instOf r=some x:=Option.filter_eq_some_iff.mpr ⟨e,i⟩
theorem instOf_none{r:Option Role}(i:instRole r=false):instOf r=none:=by
 cases r with
 |none=>rfl
 |some x=>exact if_neg λq=>aG (i.symm.trans q)
section
variable{ko:PySem.Str->Option NameKind}{x:PySem.Str}{v:Value}
theorem DB{α β:Type}{ns:List α}{vs:List β}{x:α}(h:x∈(ns.zip vs).map (·.1)):x∈ns:=(List.mem_map.mp h).elim λp h=>h.2▸(List.of_mem_zip h.1).1
theorem DC:∀{bs:List (PySem.Str×Value)} {m:PySem.Str->Option Value},x∉bs.map (·.1)->bindL ko bs m x=m x
 |[],_,_=>rfl
 |(n,v)::r,m,h=>(DC (bs:=r) λq=>h (.tail _ q)).trans (by
  split
  ·exact if_neg λq=>h (dx.mpr (.inl q))
  ·rfl)
theorem DD:∀{bs:List (PySem.Str×Value)} {m:PySem.Str->Option Value},x∉bs.map (·.1)->bindC ko bs m x=m x
 |[],_,_=>rfl
 |(n,v)::r,m,h=>(DD (bs:=r) λq=>h (.tail _ q)).trans (by
  split
  ·rfl
  ·exact if_neg λq=>h (dx.mpr (.inl q)))
theorem xY:∀{ns:List PySem.Str} {vs:List Value} {m:PySem.Str->Option Value} {i:Nat},ns.Nodup->ns[i]?=some x->vs[i]?=some v->(ko x=some .local->bindL ko (ns.zip vs) m x=some v)∧(ko x=some .cell->bindC ko (ns.zip vs) m x=some v)
 |[],_,_,_,_,e,_=>ah e
 |_::_,[],_,_,_,_,e=>ah e
 |n::ns,w::vs,m,0,hn,e1,e2=>by
  cases e1;cases e2
  have z:∀vs:List Value,x∉(ns.zip vs).map (·.1):=λvs h=>(jg.mp hn).1 (DB h)
  exact⟨λk=>(DC (z vs)).trans (by rw[if_pos k];exact if_pos rfl),λk=>(DD (z vs)).trans (by rw[if_neg (by rw[k];decide)];exact if_pos rfl)⟩
 |n::ns,w::vs,m,i+1,hn,e1,e2=>⟨(xY (jg.mp hn).2 e1 e2).1,(xY (jg.mp hn).2 e1 e2).2⟩
end
section
variable{P:Params}{base h bj cB:Heap}{fr uU:List Env}{env:Env}{names:List PySem.Str}{g bI:Gh}{ρ:Loc}{σ jF:Hp}{s ar:Shared}{m cm:PySem.Str->Option Value}{C b c:Addr}{o:Obj}{cl:List (PySem.Str×Addr)}{r:Role}{n:PySem.Str}
theorem xZ{p:PySem.Str×Addr}(h:cellAt cl b=some p):p∈cl∧p.2=b∧cl.lookup p.1=some b:=have z:=List.find?_some h;⟨List.mem_of_find?_eq_some h,bd (bl z),bd (br z)⟩
theorem uV(e:(g.callee C cl).ro b=some r):(b=C∧r=.loc)∨(∃n,r=.cell n∧cl.lookup n=some b)∨(r.inst=true∧g.ro b=some r):=by
 by_cases q:b=C
 ·exact .inl ⟨q,(Option.some.inj ((if_pos q).symm.trans e)).symm⟩
 ·have e:(cellAt cl b).elim (instOf (g.ro b)) (λp=>some (Role.cell p.1))=some r:=(if_neg q).symm.trans e
  cases z:cellAt cl b with
  |none=>rw[z]at e;exact .inr (.inr (instOf_some e).symm)
  |some p=>rw[z]at e;exact .inr (.inl ⟨p.1,(Option.some.inj e).symm,(xZ z).2.2⟩)
theorem x6:(g.callee C cl).ro C=some .loc:=if_pos rfl
theorem x7(n:b≠C)(hc:∀n,cl.lookup n≠some b):(g.callee C cl).ro b=instOf (g.ro b):=(if_neg n).trans (by
 cases z:cellAt cl b with
 |none=>rfl
 |some p=>exact absurd (xZ z).2.2 (hc _))
theorem DE(ne:c≠C)(u:∀n',(n',c)∈cl->n'=n)(e:cl.lookup n=some c):(g.callee C cl).ro c=some (.cell n):=(if_neg ne).trans (by
 cases z:cellAt cl c with
 |none=>exact absurd (bD.mpr ⟨decide_eq_true rfl,decide_eq_true e⟩) (List.find?_eq_none.mp z _ (mem_of_lookup e))
 |some p=>
  have q:=xZ z
  exact congrArg (λn=>some (Role.cell n)) (u p.1 (q.2.1▸q.1)))
theorem x8(i:Nat):(g.callee C cl).ro b≠some (.own i):=λq=>(uV q).elim (λc=>nomatch c.2) λc=>c.elim (λc=>c.elim λ_ c=>nomatch c.1) λc=>nomatch c.1
theorem lK(e:h.get? b=some o):(g.back bI h).ro b=g.ro b:=if_pos (by rw[e];rfl)
theorem DF(e:h.get? b=none):(g.back bI h).ro b=instOf (bI.ro b):=if_neg (by rw[e];exact ς)
theorem HR.back(H:HR P base fr g σ h)(keep:∀b o,h.get? b=some o->bj.get? b=some o)(fs:∀e∈fr,e∈uU)(km:HR P base uU bI jF cB)(E:cM uU (g.callee C cl) bj bI cB):HR P base fr (g.back bI h) jF cB:=by
 have inst:∀{b r},bI.ro b=some r->r.inst=true->(g.back bI h).ro b=some r:=λ{b r} e i=>by
  cases q:h.get? b with
  |none=>exact(DF q).trans (instOf_of e i)
  |some o=>
   refine(lK q).trans ?_
   have z:(g.callee C cl).ro b=some r:=(E.ro b o (keep _ _ q)).elim (λz=>z.symm.trans e) λz=>ah (z.2.symm.trans e)
   exact(uV z).elim (λc=>aG (c.2▸i:Role.inst .loc=true)) λc=>c.elim (λc=>c.elim λn c=>aG (c.1▸i:Role.inst (.cell n)=true)) (·.2)
 have fb:∀{b},isFrame fr b->isFrame uU b:=λx=>x.imp λe x=>⟨fs e x.1,x.2⟩
 refine⟨km.stays,λp m=>⟨(km.aE p m).1,λc=>(km.aE p m).2 (fb c)⟩,km.len,λk o e=>km.obj (g':=g.back bI h) ⟨λ_ m=>m,ek _⟩ (λb r o c e1 e2=>⟨e2,inst e1 c.inst⟩) e,λb r e=>?_,λe m=>km.ff e (fs e m)⟩
 cases q:h.get? b with
 |none=>
  have z:=km.mu b r (instOf_some ((DF q).symm.trans e)).1
  exact⟨z.1,z.2.1,z.2.2.1,λc d=>z.2.2.2 c (fb d)⟩
 |some o=>
  have z:=H.mu b r ((lK q).symm.trans e)
  exact⟨z.1,λp m w=>(E.gE p m).elim (λm=>z.2.1 p m w) λx=>x.elim (λx=>ah (x.symm.trans (w▸keep _ _ q))) λx=>x.elim λi x=>x8 i x,E.live b o (keep _ _ q),z.2.2.2⟩
theorem DG(x:InCallC s env.locals m env.cells cm ar)(h:s.heap.get? b=some o):(g.callee env.locals env.cells).ro b=instOf (g.ro b):=
 have lt:b<env.locals:=d6 (Heap.lt_size h) x.toInCall.fresh
 x7 (eD lt) λn q=>Nat.lt_asymm lt (x.above n b (mem_of_lookup q))
theorem FR.callee(H:HR P base fr g σ s.heap)(x:InCallC s env.locals m env.cells cm ar)(cg:uc env)(uW:env.frame=some env.locals)(nd:names.Nodup)(len:ρ.length=names.length)
  (kinds:∀(i:Nat) (n:PySem.Str),names[i]?=some n->env.kindOf n=some .local∨(env.kindOf n=some .cell∧∃c,env.cells.lookup n=some c))
  (vars:∀(i:Nat) (n:PySem.Str) (sl:Slot),names[i]?=some n->ρ[i]?=some sl->sl=.un∨∃y v,sl=.v y∧VR P g.nw g.φ v y∧(env.kindOf n=some .local->m n=some v)∧(env.kindOf n=some .cell->cm n=some v)):
  FR P base (env::fr) env names (g.callee env.locals env.cells) ρ σ ar.heap:=by
 have keep:=x.toInCall.keep
 have fresh:=x.toInCall.fresh
 have x9:∀{b},s.heap.objs.size<=b->base.get? b=none∧(∀p∈g.nw,p.1≠b)∧g.ro b=none∧¬isFrame fr b:=λlt=>H.fresh (Heap.get?_none_of_le lt)
 have DH:∀{b},b≠env.locals->¬isFrame fr b->¬isFrame (env::fr) b:=λne n ⟨e',m,f⟩=>(dx.mp m).elim (λq=>ne (Option.some.inj ((q▸f).symm.trans uW))) λm=>n ⟨e',m,f⟩
 have DJ:∀{b o},s.heap.get? b=some o->¬isFrame fr b->¬isFrame (env::fr) b:=λe=>DH (eD (d6 (Heap.lt_size e) fresh))
 obtain⟨ol,es,ep,n1,n2,n3,n4⟩:=x.toInCall.ns
 refine⟨⟨λb o e=>keep b o (H.stays b o e),λp mm=>⟨keep _ _ (H.aE p mm).1,DJ (H.aE p mm).1 (H.aE p mm).2⟩,H.len,λk o e=>H.obj (g':=g.callee env.locals env.cells) ⟨λ_ m=>m,ek _⟩ (λb r o c e1 e2=>⟨keep b o e2,(DG x e2).trans (instOf_of e1 c.inst)⟩) e,λb r e=>?_,λe mm=>(dx.mp mm).elim (λq=>q▸⟨by rw[cg.kind];decide,_,ol,uW,(x9 fresh).1,n1,λvs q=>nomatch n2.symm.trans q⟩) (H.ff.keep keep e)⟩,
  cg,nd,len,x6,ol,es,ep,n1,n2,n3,λi n sl hi hs=>?_⟩
 ·rcases uV e with⟨rfl,rfl⟩|⟨n,rfl,hl⟩|⟨hi,hr⟩
  ·have z:=x9 fresh
   exact⟨z.1,z.2.1,⟨ol,n1⟩,λc=>absurd rfl c⟩
  ·have ab:=x.above _ _ (mem_of_lookup hl)
   have z:=x9 (η fresh (bE ab))
   exact⟨z.1,z.2.1,(x.cell n b hl).imp λ_ c=>c.1,λ_=>DH (Nat.ne_of_gt ab) z.2.2.2⟩
  ·have q:=H.mu b r hr
   exact⟨q.1,q.2.1,q.2.2.1.imp λo=>keep b o,λc=>q.2.2.1.elim λo z=>DJ z (q.2.2.2 c)⟩
 ·have DK:∀{c},env.cells.lookup n=some c->∃oc,(g.callee env.locals env.cells).ro c=some (.cell n)∧ar.heap.get? c=some oc∧oc.data=.cell (cm n):=λhc=>(x.cell n _ hc).imp λoc z=>⟨DE (Nat.ne_of_gt (x.above _ _ (mem_of_lookup hc))) (λn' h=>name_of_addr x.apart h (mem_of_lookup hc)) hc,z⟩
  rcases vars i n sl hi hs with rfl|⟨y,v,rfl,hv,h1,h2⟩
  ·exact(kinds i n hi).imp id λk=>⟨k.1,k.2.imp λc hc=>(DK hc).imp λoc z=>⟨_,hc,z⟩⟩
  ·exact⟨v,(kinds i n hi).imp (λk=>⟨k,(n4 n).trans (h1 k)⟩) λk=>⟨k.1,k.2.imp λc hc=>(DK hc).imp λoc z=>⟨hc,z.1,z.2.1,z.2.2.trans (congrArg _ (h2 k.1))⟩⟩,hv⟩
theorem HR.ret(H:HR P base fr g σ s.heap)(x:InCallC s env.locals m env.cells cm ar)(uW:env.frame=some env.locals)(km:HR P base (env::fr) bI jF cB)(E:cM (env::fr) (g.callee env.locals env.cells) ar.heap bI cB):
  HR P base fr (g.back bI s.heap) jF cB∧ew fr g s.heap (g.back bI s.heap) cB:=by
 have keep:=x.toInCall.keep
 have back:∀{b},ar.heap.get? b=none->s.heap.get? b=none:=λ{b} q=>by
  cases e:s.heap.get? b with
  |none=>rfl
  |some o=>exact ah (q.symm.trans (keep _ _ e))
 exact⟨H.back keep (λ_ m=>.tail _ m) km E,λb o e=>E.live b o (keep _ _ e),λb o e i=>(E.keep b o (keep _ _ e) ((DG x e).trans (instOf_none i))).imp_right λz=>⟨z.1.elim λe' z=>(dx.mp z.1).elim (λq=>absurd (Heap.lt_size e) (Nat.not_lt.mpr (Option.some.inj (uW.symm.trans (q▸z.2))▸x.toInCall.fresh))) λm=>⟨e',m,z.2⟩,z.2⟩,
  λp m=>E.nw p m,λp m=>(E.gE p m).imp id λz=>z.elim back λz=>z.elim λi z=>absurd z (x8 i),E.φ,λb o e=>lK e⟩
end
end
end Mine
end
section
set_option maxRecDepth 100000
namespace Mine
noncomputable def Rs.loc{α:Type}:Rs α->Loc
 |.ok _ ρ _=>ρ
 |.ex _ ρ _=>ρ
noncomputable def kq(ρ:Loc):Prop:=∀(i:Nat) (sl:Slot),ρ[i]?=some sl->∃x,sl=Slot.v x
noncomputable def Kp{α:Type}(ρ:Loc)(m:M α):Prop:=match m with
 |.none=>True
 |some r=>r.loc=ρ
theorem Kp.ζ{α β:Type}{ρ:Loc}{m:M α}{f:α->Loc->Hp->M β}(h:Kp ρ m)(k:∀a h,Kp ρ (f a ρ h)):Kp ρ (m.ζ f):=by
 rcases m with _|⟨a,aH,h'⟩|_
 ·exact h
 ·cases(h:aH=ρ);exact k a h'
 ·exact h
theorem Kp.ok{α:Type}{ρ:Loc}{a:α}{h:Hp}:Kp ρ (some (.ok a ρ h)):=rfl
theorem Kp.none{α:Type}{ρ:Loc}:Kp ρ (Option.none:M α):=trivial
theorem Kp.up{α:Type}{ρ:Loc}{o:Option α}{h:Hp}:Kp ρ (up o ρ h):=by cases o<;>trivial
theorem Kp.cr{ρ:Loc}{o:Option CR}:Kp ρ (fp o ρ):=by rcases o with _|_|_<;>trivial
theorem Kp.slot{ρ:Loc}{i:Nat}{h:Hp}(a:kq ρ):Kp ρ (k9 ρ[i]? i ρ h):=by
 cases e:ρ[i]?with
 |none=>exact Kp.none
 |some sl=>obtain⟨x,rfl⟩:=a i _ e;exact Kp.ok
theorem Kp.own{ρ:Loc}{i:Nat}{g:List V->M V}(a:kq ρ):Kp ρ (gQ ρ[i]? g):=by
 cases e:ρ[i]?with
 |none=>exact Kp.none
 |some sl=>obtain⟨x,rfl⟩:=a i _ e;exact Kp.none
theorem Kp.br{ρ:Loc}{o:Option Bool}{α:Type}{p q:M α}(h:Kp ρ p)(k:Kp ρ q):Kp ρ (dh o p q):=by rcases o with _|_|_<;>first|exact Kp.none|assumption
theorem Kp.if{ρ:Loc}{c:Prop}[Decidable c]{α:Type}{p:M α}(h:Kp ρ p):Kp ρ (if c then p else Option.none):=by split<;>first|assumption|exact Kp.none
theorem Kp.nw{ρ:Loc}{o:Option CR}{k:V}:Kp ρ (match o with
  |some (.ret .none h')=>some (.ok k ρ h')
  |some (.exc k h')=>some (.ex k ρ h')
  |_=>Option.none):=by
 rcases o with _|⟨_|_⟩|_<;>trivial
theorem DL(C:Δ)(e:E):∀ρ σ,kq ρ->Kp ρ (ν C e ρ σ):=
 E.rec (motive_1:=λe=>∀ρ σ,kq ρ->Kp ρ (ν C e ρ σ)) (motive_2:=λes=>∀ρ σ,kq ρ->Kp ρ (ft C es ρ σ)∧Kp ρ (evalAnd C es ρ σ)∧Kp ρ (evalOr C es ρ σ))
  (motive_3:=λkvs=>∀ρ σ,kq ρ->Kp ρ (jn C kvs ρ σ)) (motive_4:=λo=>∀ρ σ,kq ρ->Kp ρ (mR C o ρ σ)) (motive_5:=λp=>∀ρ σ,kq ρ->Kp ρ (ν C p.2 ρ σ))
  (λ_ _ _=>Kp.ok) (λ_ _ _ _=>Kp.ok) (λ_ _ _ _=>Kp.ok) (λ_ _ _ _=>Kp.ok)
  (λi ρ σ a=>Kp.slot a)
  (λes h ρ σ a=>(h ρ σ a).1.ζ λ_ _=>Kp.ok)
  (λes h ρ σ a=>(h ρ σ a).1.ζ λ_ _=>Kp.ok)
  (λes h ρ σ a=>(h ρ σ a).ζ λ_ _=>Kp.ok)
  (λop x y hx hy ρ σ a=>(hx ρ σ a).ζ λ_ h=>(hy ρ h a).ζ λ_ _=>Kp.up)
  (λx hx ρ σ a=>(hx ρ σ a).ζ λ_ _=>Kp.up)
  (λx hx ρ σ a=>(hx ρ σ a).ζ λ_ _=>Kp.up)
  (λes h ρ σ a=>(h ρ σ a).2.1) (λes h ρ σ a=>(h ρ σ a).2.2)
  (λop x y hx hy ρ σ a=>(hx ρ σ a).ζ λ_ h=>(hy ρ h a).ζ λ_ _=>Kp.up)
  (λo1 o2 x y z hx hy hz ρ σ a=>(hx ρ σ a).ζ λv h=>(hy ρ h a).ζ λw h=>Kp.br (o:=aY o1 v w) ((hz ρ h a).ζ λ_ _=>Kp.up) Kp.ok)
  (λc x y hc hx hy ρ σ a=>(hc ρ σ a).ζ λv h=>Kp.br (o:=a_ v) (hx ρ h a) (hy ρ h a))
  (λx y hx hy ρ σ a=>(hx ρ σ a).ζ λ_ h=>(hy ρ h a).ζ λ_ _=>Kp.up)
  (λx lo hi hx hl hh ρ σ a=>(hx ρ σ a).ζ λv h=>(hl ρ h a).ζ λl h=>(hh ρ h a).ζ λ_ _=>Kp.up)
  (λf es h ρ σ a=>(h ρ σ a).1.ζ λ_ _=>Kp.cr)
  (λb x hx ρ σ a=>(hx ρ σ a).ζ λ_ _=>Kp.up)
  (λm x es hx h ρ σ a=>(hx ρ σ a).ζ λv h'=>Kp.if ((h ρ h' a).1.ζ λ_ _=>Kp.up))
  (λi e he ρ σ a=>Kp.own a) (λi ρ σ a=>Kp.own a) (λi es he ρ σ a=>Kp.own a) (λi ρ σ a=>Kp.own a) (λi e he ρ σ a=>Kp.own a) (λi ρ σ a=>Kp.own a)
  (λo f ho ρ σ a=>(ho ρ σ a).ζ λ_ _=>Kp.up)
  (λf o es ho h ρ σ a=>(ho ρ σ a).ζ λv h'=>Kp.if ((h ρ h' a).1.ζ λ_ _=>Kp.cr))
  (λc f es h ρ σ a=>(h ρ σ a).1.ζ λvs h=>Kp.nw (o:=C f (.obj h.length::vs) (h++[⟨c,[]⟩])))
  (λo v ho hv ρ σ a=>(ho ρ σ a).ζ λ_ h=>(hv ρ h a).ζ λ_ _=>Kp.if Kp.ok)
  (λn cs cond elt hc he ρ σ a=>Kp.up.ζ λ_ _=>Kp.up.ζ λ_ _=>Kp.ok)
  (λit cs cond elt hi hc he ρ σ a=>(hi ρ σ a).ζ λ_ _=>Kp.up.ζ λ_ _=>Kp.up.ζ λ_ _=>Kp.if (Kp.up.ζ λ_ _=>Kp.ok))
  (λρ σ a=>⟨Kp.ok,Kp.none,Kp.none⟩)
  (λe es he hs ρ σ a=>⟨(he ρ σ a).ζ λ_ h=>(hs ρ h a).1.ζ λ_ _=>Kp.ok,match es,hs with
   |[],_=>he ρ σ a
   |_::_,hs=>(he ρ σ a).ζ λv h=>Kp.br (o:=a_ v) (hs ρ h a).2.1 Kp.ok,match es,hs with
   |[],_=>he ρ σ a
   |_::_,hs=>(he ρ σ a).ζ λv h=>Kp.br (o:=a_ v) Kp.ok (hs ρ h a).2.2⟩)
  (λ_ _ _=>Kp.ok)
  (λp r hp hr ρ σ a=>(hp ρ σ a).ζ λ_ h=>(hr ρ h a).ζ λ_ _=>Kp.ok)
  (λ_ _ _=>Kp.ok) (λe he ρ σ a=>(he ρ σ a).ζ λ_ _=>Kp.ok) (λk e he=>he) e
end Mine
end
section
open PySem PySem.Calls PyProof.Rows PySem.W
set_option maxRecDepth 100000
namespace Mine
section
structure ku (base:Heap) (fr:List Env) (g:Gh) (h₀:Heap) (b:Addr):Prop extends o:Off base fr g b where
 new:h₀.get? b=none
noncomputable def se(g:Gh)(cl:List (PySem.Str×Addr)):Prop:=∀n c,(n,c)∈cl->g.ro c=some (.cell n)
section
variable{P:Params}{base:Heap}{fr:List Env}{env lL:Env}{names pN:List PySem.Str}{g bI:Gh}{ρ aH:Loc}{σ jF:Hp}{h cB:Heap}{C b c:Addr}{cl:List (PySem.Str×Addr)}{r:Role}{n:PySem.Str}
theorem MW(bN:se g cl)(hC:g.ro C=none)(e:cl.lookup n=some c):(g.callee C cl).ro c=some (.cell n):=
 have hm:=bN _ _ (mem_of_lookup e)
 DE (λq=>ah (hC.symm.trans (q▸hm))) (λn' h=>by cases(bN n' c h).symm.trans hm;rfl) e
theorem x_(bN:se g cl)(n:b≠C)(hr:∀x,g.ro b=some (.cell x)->cl.lookup x≠some b)(hi:instRole (g.ro b)=false):(g.callee C cl).ro b=none:=(x7 n λx e=>hr x (bN _ _ (mem_of_lookup e)) e).trans (instOf_none hi)
theorem FR.inner(F:FR P base fr env names g ρ σ h)(bN:se g cl)(O:Off base fr g C)(hl:lL.locals=C)(cg:uc lL)(nd:pN.Nodup)(len:aH.length=pN.length)
  (vars:∃o es ep,h.get? C=some o∧o.data=.dict es ep∧StrKeys es∧∀i x sl,pN[i]?=some x->aH[i]?=some sl->jq P (g.callee C cl) lL h es i x sl):FR P base fr lL pN (g.callee C cl) aH σ h:=by
 subst hl
 exact⟨⟨F.hr.stays,F.hr.aE,F.hr.len,λk o e=>F.hr.obj (g':=g.callee lL.locals cl) ⟨λ_ m=>m,ek _⟩ (λb r o c e1 e2=>⟨e2,(x7 (λq=>ah (O.ro.symm.trans (q▸e1))) λn q=>aG ((congrArg Role.inst (Option.some.inj ((bN _ _ (mem_of_lookup q)).symm.trans e1))).trans c.inst)).trans (instOf_of e1 c.inst)⟩) e,
  λb r e=>(uV e).elim (λz=>⟨z.1▸O.base,z.1▸O.nw,vars.imp λo x=>x.elim λes x=>x.elim λep x=>z.1▸x.1,λc=>absurd z.2 c⟩) λz=>z.elim (λz=>z.elim λn z=>z.1▸F.hr.mu b _ (bN _ _ (mem_of_lookup z.2))) λz=>F.hr.mu b _ z.2,F.hr.ff⟩,cg,nd,len,x6,vars⟩
theorem FR.outer{g₀:Gh}{h₀:Heap}(F:FR P base fr env names g ρ σ h)(x:Ext fr g₀ h₀ g h)(fC:ku base fr g h₀ C)(bN:se g cl)(uX:FR P base fr lL pN bI aH jF cB)(E:Ext fr (g.callee C cl) h bI cB)
  (MX:∀(i:Nat) (n:PySem.Str) (c:Addr) (sl:Slot),names[i]?=some n->ρ[i]?=some sl->cl.lookup n=some c->env.kindOf n=some .cell∧env.cells.lookup n=some c∧∃(k:Nat) (y:V),sl=.v y∧pN[k]?=some n∧aH[k]?=some (.v y)∧lL.kindOf n=some .cell∧lL.cells.lookup n=some c):
  FR P base fr env names (g.back bI h) ρ jF cB∧Ext fr g₀ h₀ (g.back bI h) cB∧∀b,ku base fr g h₀ b->(∃o,h.get? b=some o)->ku base fr (g.back bI h) h₀ b∧(b≠C->∀o,h.get? b=some o->cB.get? b=some o):=by
 have DM:∀p∈bI.nw,p∈g.nw∨h.get? p.1=none:=λp m=>(E.gE p m).imp id λz=>z.elim id λz=>z.elim λi z=>absurd z (x8 i)
 have nC:∀{b r},g.ro b=some r->b≠C:=λe q=>ah (fC.ro.symm.trans (q▸e))
 have DN:∀{b o},b≠C->g.ro b=none->h.get? b=some o->iS fr b o (cB.get? b):=λn e e2=>E.keep _ _ e2 (x_ bN n (λx q=>ah (e.symm.trans q)) (congrArg instRole e))
 have loc:∀{b o},g.ro b=some .loc->h.get? b=some o->∃o',cB.get? b=some o'∧o'.data=o.data:=λe e2=>(E.keep _ _ e2 (x_ bN (nC e) (λx q=>nomatch e.symm.trans q) (congrArg instRole e))).elim (λq=>⟨_,q,rfl⟩) λq=>q.2.elim λsl q=>⟨_,q,rfl⟩
 obtain⟨ol,es,ep,q1,q2,q3,q4⟩:=F.vars
 refine⟨⟨F.hr.back (λ_ _ e=>e) (λ_ m=>m) uX.hr E.s,F.cg,F.nodup,F.len,(lK q1).trans F.loc,(loc F.loc q1).elim λo' z=>⟨o',es,ep,z.1,z.2.trans q2,q3,λi n sl hi hs=>?_⟩⟩,
  ⟨⟨λb o e=>(x.live b o e).elim λo' e'=>E.live b o' e',λb o e r=>(x.keep b o e r).trans λo' e'=>DN (λq=>ah (fC.new.symm.trans (q▸e))) (x.s.none e r) e',λp m=>E.nw p (x.nw p m),λp m=>(DM p m).elim (x.gE p) λw=>.inr (.inl (x.s.back w)),x.φ.trans E.φ,λb o e=>(x.live b o e).elim λo' e'=>(lK e').symm▸x.ro b o e⟩,
   λb o r e=>(x.loc b o r e).elim λo' z=>(loc ((x.ro b o e).elim (·.trans r) λw=>w.1.elim λi w=>nomatch r.symm.trans w) z.1).imp λwZ w=>⟨w.1,w.2.trans z.2⟩⟩,
  λb fb ⟨o,e⟩=>⟨⟨⟨(lK e).trans fb.ro,λp m z=>(DM p m).elim (λw=>fb.nw p w z) λw=>ah (w.symm.trans (z▸e)),fb.base,fb.fr⟩,fb.new⟩,λn o' e'=>(DN n fb.ro e').elim id λq=>absurd q.1 fb.fr⟩⟩
 cases hn:cl.lookup n with
 |none=>exact(q4 i n sl hi hs).to rfl ⟨E.nw,E.φ⟩ λb r o c e1 e2=>⟨(E.keep b o e2 (x_ bN (nC e1) (λx q z=>by
   cases e1.symm.trans q
   rcases c with c|c<;>cases c
   exact ah (hn.symm.trans z)) ((congrArg instRole e1).trans c.ni))).elim id λq=>absurd q.1 ((F.hr.mu _ _ e1).2.2.2 c.nl),(lK e2).trans e1⟩
 |some c=>
  obtain⟨k1,k2,kk,y,rfl,z2,z3,z4,z5⟩:=MX i n c sl hi hs hn
  obtain⟨o2,Vz,VA,_,_,_,w4⟩:=uX.vars
  have hc:=bN _ _ (mem_of_lookup hn)
  exact(w4 kk n _ z2 z3).imp λv2 a=>⟨a.1.elim (λa=>nomatch z4.symm.trans a.1) λa=>a.2.elim λc' a=>a.elim λoc a=>by
   cases z5.symm.trans a.1
   exact .inr ⟨k1,c,oc,k2,(F.hr.mu _ _ hc).2.2.1.elim λo q=>(lK q).trans hc,a.2.2⟩,a.2⟩
end
end
noncomputable def isFree(x:PySem.Str×NameKind):Bool:=x.2==.free
noncomputable def ya(cells:List (PySem.Str×Addr))(l:List (PySem.Str×NameKind)):List (PySem.Str×Addr):=(l.filter isFree).map λx=>(x.1,(cells.lookup x.1).getD 0)
noncomputable def fz(env:Env)(scope:Scope):List (PySem.Str×Addr):=(ya env.cells scope.names).reverse
theorem MY{env:Env}{scope:Scope}(h:∀x∈scope.names,(x.2==.free)=true->∃c,env.cells.lookup x.1=some c):closureFor scope env=pure (fz env scope):=by
 have go:∀(l:List (PySem.Str×NameKind)) (acc:List (PySem.Str×Addr)),(∀x∈l,(x.2==.free)=true->∃c,env.cells.lookup x.1=some c)->(forIn l acc λ(x:PySem.Str×NameKind) (cs:List (PySem.Str×Addr))=>(if(x.2==.free)=true then do let c<-cellOf env x.1;pure (ForInStep.yield ((x.1,c)::cs))else pure (ForInStep.yield cs):Sem _))=pure ((ya env.cells l).reverse++acc):=by
  intro l
  induction l with
  |nil=>intro acc _;exact List.forIn_nil ..
  |cons x r ih=>
   intro acc h
   rw[List.forIn_cons]
   unfold ya
   by_cases q:(x.2==NameKind.free)=true
   ·obtain⟨c,hc⟩:=h _ (.head _) q
    have e:cellOf env x.1=pure c:=by unfold cellOf;rw[hc]
    rw[if_pos q,e,List.filter_cons_of_pos (p:=isFree) q,List.map_cons,List.reverse_cons,aN,hc]
    exact ih _ λx m=>h x (.tail _ m)
   ·rw[if_neg q,List.filter_cons_of_neg (p:=isFree) q]
    exact ih _ λx m=>h x (.tail _ m)
 unfold closureFor fz
 have:=go scope.names [] h
 rw[ck]at this
 simp only at this⊢
 rw[<-this]
 simp only[bind_pure]
theorem DO{env:Env}{scope:Scope}{n:PySem.Str}{c:Addr}(h:(n,c)∈fz env scope):∃x∈scope.names,(x.2==.free)=true∧n=x.1∧c=(env.cells.lookup x.1).getD 0:=by
 obtain⟨x,h,e⟩:=List.mem_map.mp (List.mem_reverse.mp h)
 have z:=List.mem_filter.mp h
 cases e
 exact⟨x,z.1,z.2,rfl,rfl⟩
theorem yb{α:Type}{n:PySem.Str}{c:α}:∀{l:List (PySem.Str×α)},(n,c)∈l->∃c',l.lookup n=some c'
 |(m,d)::r,h=>by
  rw[List.lookup_cons]
  cases q:n==m with
  |true=>exact⟨d,rfl⟩
  |false=>exact yb ((dx.mp h).elim (λh=>by cases h;exact aG ((beq_self_eq_true n).symm.trans q).symm) id)
theorem DP{env:Env}{scope:Scope}{n:PySem.Str}{c:Addr}(h:(n,.free)∈scope.names)(e:env.cells.lookup n=some c):(fz env scope).lookup n=some c:=by
 obtain⟨c2,h2⟩:=yb (List.mem_reverse.mpr (List.mem_map_of_mem (f:=λx:PySem.Str×NameKind=>(x.1,(env.cells.lookup x.1).getD 0)) (List.mem_filter.mpr ⟨h,(rfl:isFree (n,.free)=true)⟩)))
 obtain⟨x,_,_,rfl,rfl⟩:=DO (mem_of_lookup h2)
 exact h2.trans (by rw[e];rfl)
theorem DQ{α:Type}{n:PySem.Str}{c:α}:∀{l:List (PySem.Str×α)},(l.map (·.1)).Nodup->(n,c)∈l->l.lookup n=some c
 |(m,d)::r,nd,h=>by
  have nd:=jg.mp nd
  rw[List.lookup_cons]
  rcases dx.mp h with h1|h1
  ·cases h1;rw[beq_self_eq_true]
  ·rw[beq_eq_false_iff_ne.mpr λq=>nd.1 (List.mem_map.mpr ⟨(n,c),h1,q⟩)]
   exact DQ nd.2 h1
theorem DR{scope:Scope}{env:Env}(hk:env.scope.kind=.function):(relabel scope env).names=dU env.scope.names scope.names:=by
 unfold relabel dU
 refine List.map_congr_left λx _=>?_
 obtain⟨n,k⟩:=x
 rw[hk]
 have e:(env.kindOf n==some .cell)=decide (env.scope.names.lookup n=some .cell):=by rw[Bool.eq_iff_iff,beq_iff_eq,decide_eq_true_iff];rfl
 dsimp only
 rw[e,show(ScopeKind.function==ScopeKind.function)=true from rfl,gM]
section
structure ky (sc:Sc) (ns:List PySem.Str) (v:PySem.Str) (cs:List Nat) (scope:Scope):Prop where
 kind:scope.kind=.function
 at_:∀i∈cs,ns[i]?=some (ns.getD i v)
 nd:(eO ns v cs).Nodup
 m8:(v==PySem.Str.ofString "__debug__")=false
 loc:(dU sc scope.names).lookup v=some .local
 sj:∀i∈cs,(dU sc scope.names).lookup (ns.getD i v)=some .cell∧(ns.getD i v,.free)∈scope.names
 MZ:∀x∈scope.names,x.2≠.cell
 free:∀x∈scope.names,(x.2==.free)=true->sc.lookup x.1=some .cell∧∃i∈cs,ns.getD i v=x.1
 keys:(scope.names.map (·.1)).Nodup
theorem M0{α:Type}{l:List α}{v:α}{i:Nat}(h:i<l.length):l[i]?=some (l.getD i v):=by
 rw[List.getD_eq_getElem?_getD,jW h];rfl
theorem yc{sc:Sc}{ns:List PySem.Str}{v:PySem.Str}{cs:List Nat}{scope:Scope}(h:rF sc ns v cs scope=true):ky sc ns v cs scope:=by
 have r1:=br h;have r2:=br r1;have r3:=br r2;have r4:=br r3;have r5:=br r4;have r6:=br r5
 have z:=λx m=>dM.mp (bl r6) x m
 exact⟨bd (bl h),λi m=>M0 (bd (dM.mp (bl r1) i m)),bd (bl r2),bn (bl r3),bd (bl r4),λi m=>have c:=dM.mp (bl r5) i m;⟨bd (bl c),mem_of_lookup (bd (br c))⟩,
  λx m e=>aG ((bn (bl (z x m))).symm.trans (beq_iff_eq.mpr e)),λx m e=>(e_.mp (br (z x m))).elim (λq=>aG ((bn q).symm.trans e)) λq=>⟨bd (bl q),(jh.mp (br q)).imp λi q=>⟨q.1,bd q.2⟩⟩,bd (br r6)⟩
theorem M1{α:Type}{l:List α}(nd:l.Nodup){i j:Nat}{x:α}(hi:l[i]?=some x)(hj:l[j]?=some x):i=j:=by
 obtain⟨l1,e1⟩:=ej.mp hi
 obtain⟨l2,e2⟩:=ej.mp hj
 exact(List.getElem_inj nd).mp (e1.trans e2.symm)
structure iZ (ρ:Loc) (cs:List Nat) (c:List Slot):Prop where
 len:c.length=cs.length
 at_:∀(k i:Nat),cs[k]?=some i->∃y,ρ[i]?=some (.v y)∧c[k]?=some (.v y)
 all:∀sl∈c,∃y,sl=Slot.v y
theorem uY{ρ:Loc}:∀{cs:List Nat} {c:List Slot},mO ρ cs=some c->iZ ρ cs c
 |[],c,h=>by cases h;exact⟨rfl,λ_ _ e=>ah e,λ_ m=>absurd m iD⟩
 |i::r,c,h=>by
  obtain⟨x,hx,h⟩:=Option.bind_eq_some_iff.mp h
  obtain⟨c',hc,rfl⟩:=fG.mp h
  have z:=uY hc
  exact⟨congrArg Nat.succ z.len,λk j e=>match k,e with
   |0,e=>Option.some.inj e▸⟨x,CU hx,rfl⟩
   |k+1,e=>z.at_ k j e,List.forall_mem_cons.mpr ⟨⟨x,rfl⟩,z.all⟩⟩
section
variable{w:World}{base:Heap}{fr:List Env}{env:Env}{names:List PySem.Str}{scope:Scope}{v:PySem.Str}{cs:List Nat}{g g₀ bI:Gh}{ρ:Loc}{σ jF:Hp}{h:Heap}{c:List Slot}{C Dl it:Addr}{s₀ s fu:Shared}
structure jG (w:World) (base:Heap) (fr:List Env) (env:Env) (names:List PySem.Str) (g₀:Gh) (s₀:Shared) (ρ:Loc) (C Dl it:Addr) (g:Gh) (σ:Hp) (s:Shared):Prop where
 F:FR w.params base fr env names g ρ σ s.heap
 E:Ext fr g₀ s₀.heap g s.heap
 S:dz s₀ s
 fC:ku base fr g s₀.heap C
 fD:ku base fr g s₀.heap Dl
 fI:ku base fr g s₀.heap it
 m:∃m,s.heap.Ns C m
structure M3 (P:Params) (g:Gh) (env:Env) (h:Heap) (n:PySem.Str) (y:V) (a:Addr) (o:Obj) (val:Value):Prop where
 k:env.kindOf n=some .cell
 l:env.cells.lookup n=some a
 r:g.ro a=some (.cell n)
 e:h.get? a=some o
 d:o.data=.cell (some val)
 v:VR P g.nw g.φ val y
theorem yd(ok:ky env.scope.names names v cs scope)(F:FR w.params base fr env names g ρ σ h)(hc:iZ ρ cs c){i:Nat}(mi:i∈cs){p:Prop}(k:∀(j:Nat) (y:V) (val:Value) (a:Addr) (o:Obj),cs[j]?=some i->c[j]?=some (Slot.v y)->ρ[i]?=some (Slot.v y)->M3 w.params g env h (names.getD i v) y a o val->p):p:=by
 obtain⟨j,hj⟩:=List.mem_iff_getElem?.mp mi
 obtain⟨y,hy,DS⟩:=hc.at_ j i hj
 obtain⟨o,es,ep,_,_,_,q4⟩:=F.vars
 obtain⟨val,a,vr⟩:=q4 i _ _ (ok.at_ i mi) hy
 have kc:env.kindOf (names.getD i v)=some .cell:=(ok.free _ (ok.sj i mi).2 rfl).1
 exact a.elim (λa=>nomatch kc.symm.trans a.1) λa=>a.2.elim λa z=>z.elim λo z=>k j y val a o hj DS hy ⟨kc,z.1,z.2.1,z.2.2.1,z.2.2.2,vr⟩
theorem ye(ok:ky env.scope.names names v cs scope)(F:FR w.params base fr env names g ρ σ h)(hc:iZ ρ cs c){n:PySem.Str}{a:Addr}(m:(n,a)∈fz env scope):g.ro a=some (.cell n)∧∃i∈cs,names.getD i v=n:=by
 obtain⟨x,z1,z2,rfl,rfl⟩:=DO m
 obtain⟨i,mi,hn⟩:=(ok.free x z1 z2).2
 exact⟨yd ok F hc mi λj y val a o _ _ _ R=>by rw[<-hn,R.l];exact R.r,i,mi,hn⟩
theorem uZ(F:FR w.params base fr env names g ρ σ h)(n:PySem.Str):(compEnvC scope (fz env scope) C env).kindOf n=(dU env.scope.names scope.names).lookup n:=by
 show(relabel scope env).names.lookup n=_
 rw[DR F.cg.kind]
theorem M4{x:V}{vv:Value}{m:PySem.Str->Option Value}(ok:ky env.scope.names names v cs scope)(I:jG w base fr env names g₀ s₀ ρ C Dl it g σ s)(hc:iZ ρ cs c)(hn:s.heap.Ns C m)(hm:m v=some vv)(hx:RV w.params g vv x):
  FR w.params base fr (compEnvC scope (fz env scope) C env) (eO names v cs) (g.callee C (fz env scope)) (.v x::c) σ s.heap:=by
 have bN:se g (fz env scope):=λn a m=>(ye ok I.F hc m).1
 refine I.F.inner bN I.fC.o rfl ⟨ok.kind,I.F.cg.globals,I.F.cg.builtins,?_⟩ ok.nd (congrArg Nat.succ (hc.len.trans (b_ ..).symm)) (hn.imp λo z=>z.imp λes z=>z.imp λep z=>⟨z.1,z.2.1,z.2.2.1,λi n sl hi hs=>?_⟩)
 ·unfold interactive
  rw[show(compEnvC scope (fz env scope) C env).scope.kind=.function from ok.kind];rfl
 ·cases i with
  |zero=>
   cases hi
   cases hs
   exact⟨vv,.inl ⟨(uZ I.F _).trans ok.loc,(z.2.2.2 _).trans hm⟩,hx⟩
  |succ k=>
   obtain⟨i,hk,rfl⟩:=fG.mp ((eE ..).symm.trans hi)
   have mi:=jf hk
   refine yd ok I.F hc mi λj y val a o hj DS hy R=>?_
   obtain⟨y',M5,sq⟩:=hc.at_ k i hk
   cases hy.symm.trans M5
   cases sq.symm.trans hs
   have lk:=DP (ok.sj i mi).2 R.l
   exact⟨val,.inr ⟨(uZ I.F _).trans (ok.sj i mi).1,a,o,lk,MW bN I.fC.ro lk,R.e,R.d⟩,R.v⟩
theorem M6{x:V}(ok:ky env.scope.names names v cs scope)(I:jG w base fr env names g₀ s₀ ρ C Dl it g σ s)(hc:iZ ρ cs c)
  (lD:∃o,s.heap.get? Dl=some o)(lI:∃o,s.heap.get? it=some o)(uX:FR w.params base fr (compEnvC scope (fz env scope) C env) (eO names v cs) bI (.v x::c) jF fu.heap)(E:Ext fr (g.callee C (fz env scope)) s.heap bI fu.heap)(S:dz s fu):
  jG w base fr env names g₀ s₀ ρ C Dl it (g.back bI s.heap) jF fu∧(Dl≠C->∀o,s.heap.get? Dl=some o->fu.heap.get? Dl=some o)∧(it≠C->∀o,s.heap.get? it=some o->fu.heap.get? it=some o):=by
 have Z:=FR.outer I.F I.E I.fC (λn a m=>(ye ok I.F hc m).1) uX E λi n a sl hi hs hl=>by
  obtain⟨_,j,mj,rfl⟩:=ye ok I.F hc (mem_of_lookup hl)
  cases M1 I.F.nodup hi (ok.at_ j mj)
  refine yd ok I.F hc mj λk y val a' o hk sq hy R=>?_
  cases hy.symm.trans hs
  cases hl.symm.trans (DP (ok.sj i mj).2 R.l)
  exact⟨R.k,R.l,k+1,y,rfl,(eE ..).trans (congrArg (Option.map _) hk),sq,(uZ I.F _).trans (ok.sj i mj).1,hl⟩
 obtain⟨m,o,es,ep,n1,n2⟩:=I.m
 have aC:=Z.2.2 C I.fC ⟨o,n1⟩
 have aD:=Z.2.2 Dl I.fD lD
 have aI:=Z.2.2 it I.fI lI
 exact⟨⟨Z.1,Z.2.1,I.S.trans S,aC.1,aD.1,aI.1,m,(E.loc C o x6 n1).imp λo' z=>⟨es,ep,z.1,z.2.trans n2.1,n2.2⟩⟩,aD.2,aI.2⟩
end
end
section
theorem DT{α:Type}{ρ:Loc}{m:M α}{P:α×Hp->Prop}(H:tt (hM m) P)(kp:Kp ρ m):tot m (λa aH h=>aH=ρ∧P (a,h)) pL:=by
 rcases m with _|_|_
 ·exact H
 ·exact⟨kp,H⟩
 ·exact H
theorem DU{x:V}{c:List Slot}(h:∀sl∈c,∃y,sl=Slot.v y):kq (.v x::c):=λi sl e=>match i,e with
 |0,e=>⟨x,(Option.some.inj e).symm⟩
 |i+1,e=>h sl (jf (i:=i) e)
noncomputable abbrev Fx.aj(m:Fx)(scope:Scope)(v:PySem.Str)(cs:List Nat)(C:Addr):Fx:={m with env:=compEnvC scope (fz m.env scope) C m.env,names:=eO m.names v cs}
noncomputable abbrev d_(vs:Array Value)(n:Nat):Obj:={cls:=.type "list",dict:=none,data:=.seq vs n,slots:= #[]}
structure CL where
 m:Fx
 scope:Scope
 v:PySem.Str
 cs:List Nat
 c:List Slot
 ρ:Loc
 cond:Option E
 elt:E
 C:Addr
 D:Addr
 it:Addr
 xs:List V
 J:Heap->Nat->Prop
 g1:Gh
 g0:Gh
 s0:Shared
 K:List V->Hp->Prop
noncomputable abbrev CL.aj(L:CL):Fx:=L.m.aj L.scope L.v L.cs L.C
noncomputable def CL.Inv(L:CL)(q:Q):Prop:=jG L.m.w L.m.base L.m.fr L.m.env L.m.names L.g0 L.s0 L.ρ L.C L.D L.it q.g q.σ q.s
noncomputable def CL.go(L:CL)(xs:List V)(σ:Hp):Option (List V×Hp):=fq (λx h=>j8 L.m.C L.cond (.v x::L.c) h) (λx h=>ν L.m.C L.elt (.v x::L.c) h) xs σ
structure CL.Ok (L:CL):Prop where
 ok:ky L.m.env.scope.names L.m.names L.v L.cs L.scope
 hc:iZ L.ρ L.cs L.c
 hE:XE L.aj L.elt
 hT:∀e,L.cond=some e->XT L.aj e
 i0:L.D≠L.C
 sx:L.it≠L.C
 yf:L.D≠L.it
 It:jD L.m.prog L.m.w L.m.A L.g1 L.it L.xs L.J
 hx:L.xs.length<=af
structure CL.Ls (L:CL) (xs:List V) (n:Nat) (q:Q) (vs:Array Value) (k:Nat) (ys:List V):Prop where
 D:q.s.heap.get? L.D=some (d_ vs k)
 sz:vs.size<=n
 r:Ω L.m.w.params q.g.nw q.g.φ vs.toList ys
 H:tt (L.go xs q.σ) λt=>L.K (ys++t.1) t.2
structure CL.I (L:CL) (q:Q) (i:Nat):Prop where
 I:L.Inv q
 le:i<=L.xs.length
 J:L.J q.s.heap i
 u:Up L.g1 q.g
 l:∃vs k ys,L.Ls (L.xs.drop i) i q vs k ys
noncomputable def CL.Nx(L:CL)(i:Nat)(s:Shared):Prop:=∃n,n<L.xs.length - i∧Tn (L.xs.length - ·) L.I n s
section
variable{L:CL}{i:Nat}{q q':Q}{vs:Array Value}{k:Nat}{ys:List V}{x:V}{E:Value->Shared->Prop}
theorem CL.nx(lt:i<L.xs.length)(I:L.Inv q)(J:L.J q.s.heap (i+1))(u:Up L.g1 q.g)(l:L.Ls (L.xs.drop (i+1)) (i+1) q vs k ys):L.Nx i q.s:=⟨L.xs.length - (i+1),Nat.sub_succ_lt_self _ i lt,q,i+1,rfl,rfl,I,lt,J,u,vs,k,ys,l⟩
theorem DV:af<sizeLine:=by rw[jr];decide
theorem Up.trans{g g' DW:Gh}(a:Up g g')(b:Up g' DW):Up g DW:=⟨λp m=>b.nw p (a.nw p m),a.φ.trans b.φ⟩
theorem jG.turn{w:World}{base:Heap}{fr:List Env}{env:Env}{names:List PySem.Str}{g₀ g:Gh}{s₀ s:Shared}{ρ:Loc}{C Dl it a:Addr}{σ:Hp}{h':Heap}{tk:Nat}{m:PySem.Str->Option Value}(I:jG w base fr env names g₀ s₀ ρ C Dl it g σ s)(f:ku base fr g s₀.heap a)(n:h'.Ns C m)(k:∀b o,b≠a->s.heap.get? b=some o->h'.get? b=some o):
  jG w base fr env names g₀ s₀ ρ C Dl it g σ {s with heap:=h',toks:=tk}:=⟨I.F.fZ f.o k,I.E.fZ f.new k,I.S.trans ⟨rfl,rfl⟩,I.fC,I.fD,I.fI,m,n⟩
theorem CL.M7(O:L.Ok){elt:XP}(he:τ L.aj.env.scope.names L.aj.names L.elt elt=true)(lt:i<L.xs.length)(I:L.Inv q)(J:L.J q.s.heap (i+1))(u:Up L.g1 q.g)(hD:q.s.heap.get? L.D=some (d_ vs k))(sz:vs.size<=i)(r:Ω L.m.w.params q.g.nw q.g.φ vs.toList ys)
  (F:FR L.m.w.params L.m.base L.m.fr L.aj.env L.aj.names q'.g (.v x::L.c) q'.σ q'.s.heap)(T:Ext L.m.fr (q.g.callee L.C (fz L.m.env L.scope)) q.s.heap q'.g q'.s.heap)(S:dz q.s q'.s)(b:Bool)
  (H:tt (if b=true then(hM (ν L.m.C L.elt (.v x::L.c) q'.σ)).bind λp=>(L.go (L.xs.drop (i+1)) p.2).map λt=>(p.1::t.1,t.2)else L.go (L.xs.drop (i+1)) q'.σ) λt=>L.K (ys++t.1) t.2):
  if b=true then wpAny (model L.m.prog L.m.w) L.m.A (eval elt L.aj.env) (λxv s=>wpAny (model L.m.prog L.m.w) L.m.A (call (.builtin "list.append") [.ref L.D,xv]) (λ_ s=>L.Nx i s) E s) E q'.s else L.Nx i q'.s:=by
 obtain⟨oi,nI⟩:=O.It.live _ _ J
 have out:∀{q2:Q},FR L.m.w.params L.m.base L.m.fr L.aj.env L.aj.names q2.g (.v x::L.c) q2.σ q2.s.heap->Ext L.m.fr (q.g.callee L.C (fz L.m.env L.scope)) q.s.heap q2.g q2.s.heap->dz q.s q2.s->L.Inv ⟨q.g.back q2.g q.s.heap,L.ρ,q2.σ,q2.s⟩∧q2.s.heap.get? L.D=some (d_ vs k)∧q2.s.heap.get? L.it=some oi:=λF T S=>
  have Z:=M6 O.ok I O.hc ⟨_,hD⟩ ⟨_,nI⟩ F T S
  ⟨Z.1,Z.2.1 O.i0 _ hD,Z.2.2 O.sx _ nI⟩
 have jk:∀{h':Heap},h'.get? L.it=some oi->L.J h' (i+1):=λe=>O.It.keep _ _ _ J λo z=>Option.some.inj (nI.symm.trans z)▸e
 cases b with
 |false=>
  have Z:=out F T S
  exact CL.nx (q:=⟨q.g.back q'.g q.s.heap,L.ρ,q'.σ,q'.s⟩) lt Z.1 (jk Z.2.2) (u.trans ⟨T.nw,T.φ⟩) ⟨Z.2.1,bW sz,r.mono T.nw T.φ,H⟩
 |true=>
  refine O.hE elt he ⟨q'.g,.v x::L.c,q'.σ,q'.s⟩ _ _ _ _ F (DT H.bind (DL L.m.C L.elt _ _ (DU O.hc.all))) (λ_ _ _ h=>h.elim) λval y q5 h5 F5 T5 R5=>?_
  have F5:=(show FR L.m.w.params L.m.base L.m.fr L.aj.env L.aj.names q5.g (.v x::L.c) q5.σ q5.s.heap from(show q5.ρ=.v x::L.c from h5.1)▸F5)
  have sy:=T.trans T5.e
  have Z:=out F5 sy (S.trans T5.q)
  refine append_at Z.2.1 (λh6 M8 e6=>?_) (bE (aX (η sz (η (bE lt) O.hx)) DV))
  have k6:∀b o,b≠L.D->q5.s.heap.get? b=some o->h6.get? b=some o:=λb o n e=>(M8.2 b n).trans e
  obtain⟨m3,M9⟩:=Z.1.m
  refine CL.nx (q:=⟨q.g.back q5.g q.s.heap,L.ρ,q5.σ,{q5.s with heap:=h6}⟩) (ys:=ys++[y]) lt (Z.1.turn (tk:=q5.s.toks) Z.1.fD (M9.at' λo e=>k6 _ o (Ne.symm O.i0) e) k6) (jk (k6 _ _ (Ne.symm O.yf) Z.2.2)) (u.trans ⟨sy.nw,sy.φ⟩) ⟨e6,by rw[Array.size_push];exact Nat.succ_le_succ sz,?_,(tt.map h5.2).mono λt h=>(aN ..).symm▸h⟩
  rw[Array.toList_push]
  exact(r.mono sy.nw sy.φ).snoc R5
theorem CL.loop(O:L.Ok){elt iter:XP}{vp pos:Pos}{ifs:List XP}{R:Result->Shared->Prop}(pO:xj (dU L.m.env.scope.names L.scope.names) (eO L.m.names L.v L.cs) L.cond ifs=true)(u0:τ (dU L.m.env.scope.names L.scope.names) (eO L.m.names L.v L.cs) L.elt elt=true)
  (hR:∀q vs k zs,L.Inv q->q.s.heap.get? L.D=some (d_ vs k)->vs.size<=sizeLine->Ω L.m.w.params q.g.nw q.g.φ vs.toList zs->L.K zs q.σ->R (.ok .next) q.s)
  (I0:L.I q 0):codeAny (model L.m.prog L.m.w) L.m.A (.compLoop (.ListComp elt [⟨.Name L.v vp,iter,ifs,0⟩] L.scope pos) 0 (.ref L.it) (.ref L.D) L.aj.env) R q.s:=by
 have sn:L.aj.env.scope.names=dU L.m.env.scope.names L.scope.names:=DR I0.I.F.cg.kind
 rw[<-sn]at pO u0
 refine codeAny_compLoop_tests (Tn (L.xs.length - ·) L.I) (λn s Z=>Z.el λq i Z=>?_) _ ⟨q,0,rfl,rfl,I0⟩
 obtain⟨vs,k,ys,l⟩:=Z.l
 have aE:=λp m=>(Z.I.F.hr.aE p m).1
 obtain⟨m,hn⟩:=Z.I.m
 have H:=l.H
 cases hv:L.xs[i]?with
 |none=>
  rw[kU (List.getElem?_eq_none_iff.mp hv)]at H
  exact O.It.fin i q.s q.g _ _ Z.J hv Z.u aE λh' yg=>hR ⟨q.g,q.ρ,q.σ,{q.s with heap:=h'}⟩ vs k ys (Z.I.turn (tk:=q.s.toks) Z.I.fI (hn.at' λo e=>yg _ o (Ne.symm O.sx) e) yg) (yg _ _ O.yf l.D) (η l.sz (η Z.le (η O.hx (bE DV)))) l.r (ck ys▸H)
 |some x=>
  obtain⟨lt,e⟩:=ej.mp hv
  rw[List.drop_eq_getElem_cons lt,e]at H
  refine O.It.step i x q.s q.g _ _ Z.J hv Z.u aE λvv h1 jE rv DX yh=>?_
  have k1:∀b o,b≠L.it->q.s.heap.get? b=some o->h1.get? b=some o:=λb o n e=>(yh.2 b n).trans e
  have I1:=Z.I.turn (tk:=jE) Z.I.fI (hn.at' λo e=>k1 _ o (Ne.symm O.sx) e) k1
  have kl:L.aj.env.kindOf L.v=some .local:=(uZ Z.I.F _).trans O.ok.loc
  refine PySem.wpAny_assign_Name (wpAny_storeName_local (s:={q.s with heap:=h1,toks:=jE}) kl (hn.at' λo e=>k1 _ o (Ne.symm O.sx) e) (λh2 DY yi=>?_) (by
   rw[show L.aj.env.scope.kind=.function from O.ok.kind];rfl))
  have k2:∀b o,b≠L.C->h1.get? b=some o->h2.get? b=some o:=λb o n e=>(yi.2 b n).trans e
  obtain⟨oi,nI⟩:=O.It.live _ _ DX
  have I2:=I1.turn (tk:=jE+1) Z.I.fC DY k2
  have F3:=M4 O.ok I2 O.hc DY (if_pos rfl) rv
  have go:=λ{E:Value->Shared->Prop} {q':Q}=>CL.M7 (E:=E) (q':=q') (q:=⟨q.g,L.ρ,q.σ,{q.s with heap:=h2,toks:=jE+1}⟩) (x:=x) O u0 lt I2 (O.It.keep _ _ _ DX λo e=>k2 _ _ O.sx e) Z.u (k2 _ _ O.i0 (k1 _ _ O.yf l.D)) l.sz l.r
  have H:tt (hM (j8 L.m.C L.cond (.v x::L.c) q.σ)) λp=>tt (if p.1=true then(hM (ν L.m.C L.elt (.v x::L.c) p.2)).bind λp=>(L.go (L.xs.drop (i+1)) p.2).map λt=>(p.1::t.1,t.2)else L.go (L.xs.drop (i+1)) p.2) λt=>L.K (ys++t.1) t.2:=H.bind
  generalize xP:L.cond=cd at H pO
  cases cd with
  |none=>
   rw[cZ.mp pO]
   exact wpAny_tests_nil (go (q':=⟨q.g.callee L.C (fz L.m.env L.scope),.v x::L.c,q.σ,{q.s with heap:=h2,toks:=jE+1}⟩) F3 (Ext.refl _ _ _) (dz.refl _) true H)
  |some ce=>exact dW (p:=λifs=>wpAny (model L.m.prog L.m.w) L.m.A (forIn ifs true _) _ _ _) pO λcx nH=>wpAny_tests_one (O.hT ce xP cx (jv nH) ⟨_,.v x::L.c,q.σ,{q.s with heap:=h2,toks:=jE+1}⟩ _ _ _ _ F3 (DT H (Kp.ζ (DL L.m.C ce _ _ (DU O.hc.all)) λ_ _=>Kp.up)) (λ_ _ _ h=>h.elim) λbb b' q5 h5 F5 T5 R5=>by
    cases R5
    exact go (q':=q5) ((show q5.ρ=.v x::L.c from h5.1)▸F5) T5.e T5.q bb h5.2)
end
end
section
section
variable{μ:Fx}{q:Q}
theorem FR.free{g₀:Gh}{h₀:Heap}(F:St μ q)(E:Ext μ.fr g₀ h₀ q.g q.s.heap):ku μ.base μ.fr q.g h₀ q.s.heap.objs.size:=⟨(FR.hr F).off,E.s.back (Heap.get?_none_of_le (ξ _))⟩
structure M_ (μ:Fx) (cs:List Nat) (cond:Option E) (bT:E) (c:List Slot) (g₀:Gh) (s₀:Shared) (K:List V->Loc->Hp->Prop) (it:Addr) (xs:List V) (J:Heap->Nat->Prop) (q:Q):Prop where
 hc:iZ q.ρ cs c
 It:jD μ.prog μ.w μ.A q.g it xs J
 Js:∀i (s:Shared) (Q:Value->Shared->Prop) (E:Value->Shared->Prop),J s.heap i->Q (.ref it) s->wpAny (model μ.prog μ.w) μ.A (pyIter (.ref it)) Q E s
 hx:xs.length<=af
 F:St μ q
 E:Ext μ.fr g₀ s₀.heap q.g q.s.heap
 S:dz s₀ q.s
 f:ku μ.base μ.fr q.g s₀.heap it
 J:J q.s.heap 0
 H:tt (fq (λx h=>j8 μ.C cond (.v x::c) h) (λx h=>ν μ.C bT (.v x::c) h) xs q.σ) λt=>K t.1 q.ρ t.2
noncomputable def sC(μ:Fx)(cs:List Nat)(cond:Option E)(bT:E)(g₀:Gh)(s₀:Shared)(K:List V->Loc->Hp->Prop)(DZ:Value)(s:Shared):Prop:=∃c it xs J q,DZ=.ref it∧q.s=s∧M_ μ cs cond bT c g₀ s₀ K it xs J q
theorem yj{elt iter:XP}{v:PySem.Str}{vp pos Na:Pos}{ifs:List XP}{scope:Scope}{cond:Option E}{bT:E}{cs:List Nat}(ok:ky μ.env.scope.names μ.names v cs scope)
  (pO:xj (dU μ.env.scope.names scope.names) (eO μ.names v cs) cond ifs=true)(u0:τ (dU μ.env.scope.names scope.names) (eO μ.names v cs) bT elt=true)
  (hE:∀C,XE (μ.aj scope v cs C) bT)(hT:∀C e,cond=some e->XT (μ.aj scope v cs C) e)
  (hs:∀x,foldedSetIterable iter μ.env x=pure x){g₀:Gh}{s₀:Shared}{K:List V->Loc->Hp->Prop}{use:Option (Value->Sem Unit)}{Q:Value->Shared->Prop}{Ex:Value->Shared->Prop}(Nb:∀x∈scope.names,(x.2==.free)=true->∃a,μ.env.cells.lookup x.1=some a)
  (hQ:∀ρ C Dl it (q:Mine.Q) vs k zs,jG μ.w μ.base μ.fr μ.env μ.names g₀ s₀ ρ C Dl it q.g q.σ q.s->Dl≠C->q.s.heap.get? Dl=some (d_ vs k)->vs.size<=sizeLine->Ω μ.w.params q.g.nw q.g.φ vs.toList zs->K zs ρ q.σ->compPost (model μ.prog μ.w) μ.A Ex use Q (.ref Dl) C (.ok .next) q.s)
  (h:wpAny (model μ.prog μ.w) μ.A (eval iter μ.env) (λxv ar=>wpAny (model μ.prog μ.w) μ.A (pyIter xv) (sC μ cs cond bT g₀ s₀ K) Ex ar) Ex s₀):
  wpAny (model μ.prog μ.w) μ.A (comprehension (.ListComp elt [⟨.Name v vp,iter,ifs,0⟩] scope pos) scope μ.env Na (newList []) false (eval iter μ.env) use) Q Ex s₀:=by
 refine wpAny_comprehension_free (use:=use) rfl hs (MY Nb) ok.kind (λx m e=>DQ ok.keys (e▸(show(x.1,x.2)∈scope.names from m))) (wpAny_mono h (λxv ar bj=>wpAny_mono bj (λDZ fu cB=>?_) λ_ _ e=>e) λ_ _ e=>e)
 obtain⟨c,it,xs,J,q,rfl,rfl,Z⟩:=cB
 refine wpAny_newObj_type (wpAny_newFunctionEnv ok.MZ (λy hy=>absurd hy iD) (λbj Nc Nf=>?_) ok.kind) (bC _)
 have lt:q.s.heap.objs.size<(q.s.heap.push (d_ #[] 0)).objs.size:=Nat.lt_of_lt_of_eq (Nat.lt_succ_self _) (Heap.size_push ..).symm
 have lI:it<q.s.heap.objs.size:=(Z.It.live _ _ Z.J).elim λ_ e=>Heap.lt_size e
 have keep:∀b o,(q.s.heap.push (d_ #[] 0)).get? b=some o->bj.get? b=some o:=λb o e=>(Nf.2 b (eD (Heap.lt_size e))).trans (Heap.get?_push_of_some _ e)
 have yn:∀b o,q.s.heap.get? b=some o->bj.get? b=some o:=λb o e=>keep b o (Heap.get?_push_of_some _ e)
 have J0:=Z.It.keep _ _ _ Z.J λo e=>yn _ _ e
 have loop:=CL.loop (L:=⟨μ,scope,v,cs,c,q.ρ,cond,bT,(q.s.heap.push (d_ #[] 0)).objs.size,q.s.heap.objs.size,it,xs,J,q.g,g₀,s₀,λzs h=>K zs q.ρ h⟩) (vp:=vp) (pos:=pos) (iter:=iter) (R:=compPost (model μ.prog μ.w) μ.A Ex use Q (.ref q.s.heap.objs.size) (q.s.heap.push (d_ #[] 0)).objs.size)
  (q:=⟨q.g,q.ρ,q.σ,{q.s with heap:=bj,toks:=q.s.toks+([]:List (PySem.Str×Value)).length}⟩) ⟨ok,Z.hc,hE _,hT _,eD lt,eD (gn lI lt),Nat.ne_of_gt lI,Z.It,Z.hx⟩ pO u0 (λq' vs k zs I hD hl hv hK=>hQ q.ρ _ _ it q' vs k zs I (eD lt) hD hl hv hK)
  ⟨⟨FR.keeps Z.F yn,Z.E.trans (Ext.keeps yn),Z.S.trans ⟨rfl,rfl⟩,FR.free (q:=⟨q.g,q.ρ,q.σ,{q.s with heap:=q.s.heap.push (d_ #[] 0)}⟩) (FR.push Z.F _) (Z.E.trans (Ext.push _)),FR.free Z.F Z.E,Z.f,_,Nc⟩,bC _,J0,Up.refl,#[],0,[],keep _ _ (Heap.get?_push_size _ rfl),ξ _,.nil,Z.H⟩
 exact codeAny_compStart_list loop (Z.Js 0 _ _ _ J0 loop)
theorem Off.add{base:Heap}{fr:List Env}{g:Gh}{a d:Addr}{o:Obj}(x:Off base fr g a)(n:d≠a):Off base fr (g.add d o) a:=⟨x.ro,λp m=>(dx.mp m).elim (λq=>q▸n) (x.nw p),x.base,x.fr⟩
theorem D0{q q':Q}{ρ:Loc}{zs:List V}{C Dl it:Addr}{vs:Array Value}{n:Nat}(I:jG μ.w μ.base μ.fr μ.env μ.names q.g q.s ρ C Dl it q'.g q'.σ q'.s)(hD:q'.s.heap.get? Dl=some (d_ vs n))(hl:vs.size<=sizeLine)(hv:Ω μ.w.params q'.g.nw q'.g.φ vs.toList zs):
  St μ ⟨q'.g.add Dl (d_ vs n),ρ,q'.σ,q'.s⟩∧To μ q ⟨q'.g.add Dl (d_ vs n),ρ,q'.σ,q'.s⟩∧RV μ.w.params (q'.g.add Dl (d_ vs n)) (.ref Dl) (.list zs):=
 ⟨I.F.add hD I.fD.ro I.fD.fr,⟨I.E.Dd I.fD.new (λb o _ e=>e),I.S⟩,VR.list (vs:=vs.toList) (n:=n) (.head _) rfl rfl hl (hv.up Up.add)⟩
theorem D8{q q':Q}{ρ:Loc}{zs:List V}{C Dl it:Addr}{vs:Array Value}{n:Nat}{K:V->Loc->Hp->Prop}{Qv Ex:Value->Shared->Prop}(I:jG μ.w μ.base μ.fr μ.env μ.names q.g q.s ρ C Dl it q'.g q'.σ q'.s)(i0:Dl≠C)(hD:q'.s.heap.get? Dl=some (d_ vs n))(hl:vs.size<=sizeLine)(hv:Ω μ.w.params q'.g.nw q'.g.φ vs.toList zs)
  (kv:KV μ (RV μ.w.params) q K Qv)(h:K (.list zs) ρ q'.σ):compPost (model μ.prog μ.w) μ.A Ex none Qv (.ref Dl) C (.ok .next) q'.s:=
 I.m.imp λm hn=>⟨hn,λh' sb=>by
  have k:∀b o,b≠C->q'.s.heap.get? b=some o->h'.get? b=some o:=λb o n e=>(sb.2 b n).trans e
  have Z:=D0 I hD hl hv
  exact kv _ (.list zs) ⟨q'.g.add Dl (d_ vs n),ρ,q'.σ,{q'.s with heap:=h'}⟩ h (FR.fZ Z.1 (I.fC.o.add i0) k) ⟨Z.2.1.e.fZ I.fC.new k,Z.2.1.q⟩ Z.2.2⟩
end
end
section
section
variable{base:Heap}{fr:List Env}{env:Env}{names:List PySem.Str}{w:World}
theorem yo{scope:Scope}{v:PySem.Str}{cs:List Nat}{g:Gh}{ρ:Loc}{σ:Hp}{h:Heap}(ok:ky env.scope.names names v cs scope)(F:FR w.params base fr env names g ρ σ h):∀x∈scope.names,(x.2==.free)=true->∃a,env.cells.lookup x.1=some a:=λx m e=>by
 have z:=ok.free x m e
 obtain⟨i,mi,hn⟩:=z.2
 have hi:names[i]?=some x.1:=hn▸ok.at_ i mi
 obtain⟨o,es,ep,_,_,_,q4⟩:=F.vars
 exact(q4 i x.1 _ hi (jW (F.len.symm▸(ej.mp hi).1))).kind.elim (λk=>nomatch z.1.symm.trans k) λk=>k.2.imp λc k=>k.elim λ_ k=>k.elim λ_ k=>k.1
end
section
variable{μ:Fx}{q q1:Q}{cs:List Nat}{cond:Option E}{bT:E}{c:List Slot}{K:V->Loc->Hp->Prop}{X:Nat->Loc->Hp->Prop}{Ex:Value->Shared->Prop}
theorem Fx.Ok.comp(M:μ.Ok){v:PySem.Str}{cs:List Nat}{scope:Scope}{C:Addr}(ok:ky μ.env.scope.names μ.names v cs scope):(μ.aj scope v cs C).Ok:=
 {M with m8:=List.forall_mem_cons.mpr ⟨ok.m8,λx m=>(List.mem_map.mp m).elim λi m=>m.2▸M.xn (ok.at_ i m.1)⟩}
theorem yq(hc:iZ q1.ρ cs c){xs:List V}{J:Heap->Nat->Prop}{o:Obj}(It:jD μ.prog μ.w μ.A q1.g q1.s.heap.objs.size xs J)(Js:∀i (s:Shared) (Q:Value->Shared->Prop) (E:Value->Shared->Prop),J s.heap i->Q (.ref q1.s.heap.objs.size) s->wpAny (model μ.prog μ.w) μ.A (pyIter (.ref q1.s.heap.objs.size)) Q E s)(hx:xs.length<=af)(F:St μ q1)(T:To μ q q1)(J0:J (q1.s.heap.push o) 0)
  (H:tt (fq (λx h=>j8 μ.C cond (.v x::c) h) (λx h=>ν μ.C bT (.v x::c) h) xs q1.σ) λt=>K (.list t.1) q1.ρ t.2):sC μ cs cond bT q.g q.s (λzs=>K (.list zs)) (.ref q1.s.heap.objs.size) {q1.s with heap:=q1.s.heap.push o}:=
 ⟨c,_,xs,J,⟨q1.g,q1.ρ,q1.σ,{q1.s with heap:=q1.s.heap.push o}⟩,rfl,rfl,hc,It,Js,hx,FR.push F _,T.e.trans (Ext.push _),T.q.trans ⟨rfl,rfl⟩,FR.free F T.e,J0,H⟩
theorem Ng(M:μ.Ok){x:V}{v:Value}(F:St μ q1)(T:To μ q q1)(R:RV μ.w.params q1.g v x)(hc:iZ q1.ρ cs c)(H:tt (keysOf x) λxs=>tot (if xs.length<=af then(up (fq (λx h=>j8 μ.C cond (.v x::c) h) (λx h=>ν μ.C bT (.v x::c) h) xs q1.σ) q1.ρ q1.σ).ζ λp ρ _=>some (.ok (.list p.1) ρ p.2)else Option.none) K X):
  wpAny (model μ.prog μ.w) μ.A (pyIter v) (sC μ cs cond bT q.g q.s λzs=>K (.list zs)) Ex q1.s:=by
 cases R with
 |tup i cc d l r=>exact tot.if (show tot _ K X from H) λhx H=>wpAny_pyIter_tuple ⟨_,((FR.hr F).aE _ i).1,cc,_,d⟩ (yq hc (iter_tuple M.cx.handled i cc d r) (λi s Q E hj hq=>wpAny_pyIter_tupleiter hj hq) hx F T ⟨_,Heap.get?_push_size _ rfl,rfl,rfl⟩ H.ob)
 |dict i cc d sm r=>exact H.if λnd H=>tot.if (show tot _ K X from H) λhx H=>(C1 (prog:=μ.prog) M.cx.handled i cc d r nd.1 nd.2).elim λps p=>wpAny_pyIter_dict sm (p.1 _ ((FR.hr F).aE _ i).1) (yq hc (p.2 _) (λi s Q E hj hq=>wpAny_pyIter_keyiter hj hq) hx F T ⟨_,Heap.get?_push_size _ rfl,rfl,rfl⟩ H.ob)
 |_=>exact H.elim
theorem D9{n:Nat}:gR 0 n=(List.range n).map λk=>V.int (k:Nat):=List.map_congr_left λk _=>congrArg V.int (Int.zero_add _)
theorem Nh(M:μ.Ok){n:Nat}{t u v:Tok}{tk:Nat}(F:St μ q)(hn:n<=100)(hc:iZ q.ρ cs c)
  (H:tt (fq (λx h=>j8 μ.C cond (.v x::c) h) (λx h=>ν μ.C bT (.v x::c) h) (gR 0 n) q.σ) λt=>K (.list t.1) q.ρ t.2):
  wpAny (model μ.prog μ.w) μ.A (pyIter (.ref q.s.heap.objs.size)) (sC μ cs cond bT q.g q.s λzs=>K (.list zs)) Ex {q.s with heap:=q.s.heap.push {cls:=.type "range",data:=.fields #[.int 0 t,.int n u,.int 1 v]},toks:=tk}:=
 have hm:(n:Int)<=dy:=Int.le_trans (aK.mpr hn) (by decide)
 wpAny_pyIter_range (Heap.get?_push_size _ rfl) (C4 ⟨Int.le_refl _,by decide,hm,Int.le_trans (by decide) (eC n)⟩) (yq (q1:=⟨q.g,q.ρ,q.σ,{q.s with heap:=q.s.heap.push {cls:=.type "range",data:=.fields #[.int 0 t,.int n u,.int 1 v]},toks:=tk}⟩) hc (C0 M.cx.handled) (λi s Q E hj hq=>wpAny_pyIter_rangeiter hj hq) (by rw[D9,b_,List.length_range];exact η hn (by decide)) (FR.push F _) ⟨Ext.push _,rfl,rfl⟩ (by
  show IsRangeIter _ _ _ _ _
  rw[C3]
  exact Heap.get?_push_size _ rfl) H)
theorem D_(M:μ.Ok){n:Nat}{ip cp:Pos}{kk:Nat}{kp:Pos}(F:St μ q)(Ni:gi μ.env.scope.names (PySem.Str.ofString "range") "range"=true)(hn:n<=100)(hc:iZ q.ρ cs c)
  (H:tt (fq (λx h=>j8 μ.C cond (.v x::c) h) (λx h=>ν μ.C bT (.v x::c) h) ((List.range n).map λk=>V.int (k:Nat)) q.σ) λt=>K (.list t.1) q.ρ t.2):
  wpAny (model μ.prog μ.w) μ.A (eval (.Call (.Name (PySem.Str.ofString "range") ip) [.Constant (.int n) kk kp] [] cp) μ.env) (λxv ar=>wpAny (model μ.prog μ.w) μ.A (pyIter xv) (sC μ cs cond bT q.g q.s λzs=>K (.list zs)) Ex ar) Ex q.s:=
 wpAny_Call_ofName (lC M (n:="range") Ni (by decide) boot_range F (rM rfl (rO rfl (wpAny_Constant_int (call_range_1 (Nh M F hn hc (D9.symm▸H)))))))
theorem Eb{g:Comprehension}{f:Bool}(h:(tg g.target 2&&(decide (g.is_async=0)&&f))=true){p:Comprehension->Prop}(k:f=true->p ⟨.Name (nd g.target).nm (nd g.target).p,g.iter,g.ifs,0⟩):p g:=by
 obtain⟨t,z,ifs,a⟩:=g
 cases(bd (bl (br h)):a=0)
 exact bL (P:=λt'=>p ⟨t',z,ifs,0⟩) h (by decide) λc=>k (br c)
theorem Nj(M:μ.Ok){it:E}(hi:XE μ it)(hE:∀m':Fx,m'.Ok->XE m' bT)(hT:∀e,cond=some e->∀m':Fx,m'.Ok->XT m' e):XE μ (.comp it cs cond bT):=λx hc=>bL (P:=bx μ (.comp it cs cond bT)) hc (by decide) λc=>dW (p:=λg=>bx μ (.comp it cs cond bT) (.ListComp _ g _ _)) c λg c=>Eb (p:=λg=>bx μ (.comp it cs cond bT) (.ListComp _ [g] _ _)) c λc q K X Qv Ex S H kx kv=>by
 have r2:=br c;have r3:=br r2
 have ok:=yc (bl r3)
 rw[eval_ListComp]
 exact yj ok (bl (br r3)) (br (br r3)) (λC=>hE _ (M.comp ok)) (λC e he=>hT e he _ (M.comp ok)) (C2 (bl c)) (g₀:=q.g) (s₀:=q.s) (K:=λzs=>K (.list zs)) (yo ok S) (λρ C Dl it q' vs n zs I i0 hD hl hv h=>D8 I i0 hD hl hv kv h)
  ((hi _ (bl r2)).ζ S H kx λv y q1 h1 S1 T1 R1=>h1.ob.el λcc sD h1=>Ng M S1 T1 R1 (uY sD) h1.ob)
theorem Ec{sc:Sc}{ns:List PySem.Str}{x:XP}{P:XP->Prop}{n:Nat}{cond elt:E}(h:τ sc ns (.fm n cs cond elt) x=true)
  (k:∀y v vp ip kk kp cp c scope pos,gi sc (PySem.Str.ofString "range") "range"=true->n<=100->rF sc ns v cs scope=true->τ (dU sc scope.names) (eO ns v cs) cond c=true->τ (dU sc scope.names) (eO ns v cs) elt y=true->
   P (.ListComp y [⟨.Name v vp,.Call (.Name (PySem.Str.ofString "range") ip) [.Constant (.int n) kk kp] [] cp,[c],0⟩] scope pos)):P x:=
 bL h (by decide) λc=>dW (p:=λg=>P (.ListComp _ g _ _)) c λg c=>Eb (p:=λg=>P (.ListComp _ [g] _ _)) c λc=>
  rJ (P:=λi=>P (.ListComp _ [⟨_,i,_,0⟩] _ _)) (f:=λes=>one es (λy=>ly (.int n) y)&&(decide (n<=100)&&(rF sc ns (nd g.target).nm cs (nd x).sc&&(one g.ifs (λc=>τ (dU sc (nd x).sc.names) (eO ns (nd g.target).nm cs) cond c)&&τ (dU sc (nd x).sc.names) (eO ns (nd g.target).nm cs) elt (nd x).a)))) c λp xs p' gg c=>
  dW (p:=λxs=>P (.ListComp _ [⟨_,.Call _ xs [] _,_,0⟩] _ _)) (bl c) λy d=>m9 (P:=λy=>P (.ListComp _ [⟨_,.Call _ [y] [] _,_,0⟩] _ _)) d λkk kp=>dW (p:=λifs=>P (.ListComp _ [⟨_,_,ifs,0⟩] _ _)) (bl (br (br (br c)))) λcx d=>k _ _ _ _ _ _ _ _ _ _ gg (bd (bl (br c))) (bl (br (br c))) d (br (br (br (br c))))
theorem Nk(M:μ.Ok){n:Nat}{cond bT:E}(hE:∀m':Fx,m'.Ok->XE m' bT)(hT:∀m':Fx,m'.Ok->XT m' cond):XE μ (.fm n cs cond bT):=λx hc=>Ec (P:=bx μ (.fm n cs cond bT)) hc λy v vp ip kk kp cp c scope pos hg hn c1 c2 c3 q K X Qv Ex S H kx kv=>by
 have ok:=yc c1
 rw[eval_ListComp]
 exact H.ob.el λcc sD H=>yj (cond:=some cond) (ifs:=[c]) ok c2 c3 (λC=>hE _ (M.comp ok)) (λC e he=>by cases he;exact hT _ (M.comp ok)) (λ_=>rfl) (g₀:=q.g) (s₀:=q.s) (K:=λzs=>K (.list zs)) (yo ok S) (λρ C Dl it q' vs n zs I i0 hD hl hv h=>D8 I i0 hD hl hv kv h) (D_ M S hg hn (uY sD) H.ob)
end
end
section
section
variable{μ:Fx}{W:Nat}
theorem Nl(M:μ.Ok){x n:Nat}{cs:List Nat}{cond bT:E}(hE:∀m':Fx,m'.Ok->XE m' bT)(hT:∀m':Fx,m'.Ok->XT m' cond):ZS μ W (.asg x (.fm n cs cond bT)):=λst hc=>d9 (P:=aw μ W (.asg x (.fm n cs cond bT))) hc (by decide) λc=>dW (p:=λts=>aw μ W (.asg x (.fm n cs cond bT)) (.Assign ts (sd st).a _)) c λt c=>bL (P:=λt=>aw μ W (.asg x (.fm n cs cond bT)) (.Assign [t] _ _)) c (by decide) λc=>by
 have r2:xB μ.env.scope.names (nd t).nm (nd t).p.line (sd st).a=true:=br (br c)
 revert r2
 refine Ec (P:=λb=>xB μ.env.scope.names (nd t).nm (nd t).p.line b=true->aw μ W (.asg x (.fm n cs cond bT)) (.Assign [.Name (nd t).nm (nd t).p] b _)) (bl (br c)) λelt v vp ip kk kp cp cx scope pos hg hn c1 c2 c3 r2 q K X Qv Ex S H kx k=>?_
 have ok:=yc c1
 have Nm:μ.env.blockKind=.function:=by unfold Env.blockKind;rw[(FR.cg S).kind];rfl
 rw[exec_Assign_Name_used _ _ _ _ (by
  unfold swapsWith
  show(pure _:Sem Bool)=pure true
  have Nn:(scope.names.any λ(n,k)=>n==(nd t).nm&&(k==.local||k==.cell))=false:=bn (br (br r2))
  have c8:(nd t).p.line=pos.line:=bd (bl (br r2))
  congr 1
  rw[Nm,show μ.env.kindOf (nd t).nm=some .local from rU (bl r2),Nn]
  have:(PySem.Expr.ListComp elt [⟨.Name v vp,.Call (.Name (PySem.Str.ofString "range") ip) [.Constant (.int n) kk kp] [] cp,[cx],0⟩] scope pos).pos.line=pos.line:=rfl
  rw[this,c8];simp)]
 refine wpAny_bind (wpAny_standAt (wpAny_bind (wpAny_bind (wpAny_mono (H.ζ.ob.el λcc sD H=>yj (use:=some (assign (.Name (nd t).nm (nd t).p) μ.env)) (Q:=λ_ s'=>Qv .next s') (cond:=some cond) (ifs:=[cx]) ok c2 c3 (λC=>hE _ (M.comp ok)) (λC e he=>by cases he;exact hT _ (M.comp ok)) (λ_=>rfl) (g₀:=q.g) (s₀:=q.s) (K:=λzs ρ h=>K .ο (ρ.set x (.v (.list zs))) h) (yo ok S) (λρ C Dl it q' vs n zs I i0 hD hl hv h=>?_) (D_ (K:=λv ρ h=>K .ο (ρ.set x (.v v)) h) M S hg hn (uY sD) H.ob)) (λ_ s' hq=>wpAny_pure (wpAny_pure hq)) λ_ _ e=>e))))
 have Z:=D0 I hD hl hv
 refine PySem.wpAny_assign_Name (rV (q:=⟨q'.g.add Dl (d_ vs n),ρ,q'.σ,q'.s⟩) Z.1 (bd (bl c)) Z.2.2 λh2 rW S2 T2=>?_)
 obtain⟨m,om,Np,Nq,m1,m2⟩:=I.m
 have N:=(I.fC.o.add (o:=d_ vs n) i0).to T2.e m1
 refine⟨m,⟨om,Np,Nq,N.2,m2⟩,λh3 sb=>?_⟩
 have k3:∀b o,b≠C->h2.get? b=some o->h3.get? b=some o:=λb o n e=>(sb.2 b n).trans e
 have T3:=Z.2.1.s.trans T2
 exact k.nx ⟨q'.g.add Dl (d_ vs n),ρ.set x (.v (.list zs)),q'.σ,{q'.s with heap:=h3,toks:=rW}⟩ h (FR.fZ S2 N.1 k3) ⟨T3.e.fZ I.fC.new k3,T3.q⟩
end
end
section
noncomputable def Nr(k:Nat):Bool:= !(k==7)&&(!(k==8)&&(!(k==10)&& !(k==9)))
theorem cW{x:XP}{k:Nat}(h:tg x k=true)(hk:Nr k=true):lz x=true:=by
 unfold lz tg at*
 rw[eq_of_beq h,bn (bl hk),bn (bl (br hk)),bn (bl (br (br hk))),bn (br (br (br hk)))];rfl
theorem Nt{x:XP}(h:tg x 7=true)(hu:(nd x).uo=.USub):lz x=true:=by
 unfold lz tg at*
 rw[eq_of_beq h,hu];rfl
noncomputable def PE(e:E):Prop:=∀m:Fx,m.Ok->XE m e∧XT m e
theorem cO{e:E}(hp:∀sc ns x,τ sc ns e x=true->lz x=true)(ht:∀sc ns x,pE sc ns e x=τ sc ns e x)(he:∀m:Fx,m.Ok->XE m e):PE e:=λm M=>⟨he m M,Jy (he m M) hp ht⟩
theorem dX(e:E):PE e:=by
 refine E.rec (motive_1:=PE) (motive_2:=λes=>∀e∈es,PE e) (motive_3:=λkvs=>∀p∈kvs,PE p.2) (motive_4:=λo=>∀e,o=some e->PE e) (motive_5:=λp=>PE p.2)
  ?_ ?_ ?_ ?_ ?_ ?_ ?_ ?_ ?_ ?_ ?_ ?_ ?_ ?_ ?_ ?_ ?_ ?_ ?_ ?_ ?_ ?_ ?_ ?_ ?_ ?_ ?_ ?_ ?_ ?_ ?_ ?_ ?_ ?_ ?_ ?_ ?_ ?_ ?_ ?_ e
 ·exact cO (λ_ _ _ h=>cW (bl h) rfl) (λ_ _ _=>rfl) λm M=>Jk
 ·exact λb=>cO (λ_ _ _ h=>cW (bl h) rfl) (λ_ _ _=>rfl) λm M=>Jl b
 ·exact λi=>cO (λ_ _ _ h=>cW (bl h) rfl) (λ_ _ _=>rfl) λm M=>Jm i
 ·exact λt=>cO (λ_ _ _ h=>cW (bl (bl h)) rfl) (λ_ _ _=>rfl) λm M=>Jn t
 ·exact λi=>cO (λ_ _ _ h=>cW (bl h) rfl) (λ_ _ _=>rfl) λm M=>BS M.toAmb0 i
 ·exact λes h=>cO (λ_ _ _ h=>cW (bl h) rfl) (λ_ _ _=>rfl) λm M=>BV (jy λe i=>(h e i m M).1)
 ·exact λes h=>cO (λ_ _ _ h=>cW (bl h) rfl) (λ_ _ _=>rfl) λm M=>Jq (jy λe i=>(h e i m M).1)
 ·exact λkvs h=>cO (λ_ _ _ h=>cW (bl h) rfl) (λ_ _ _=>rfl) λm M=>MV M.toAmb0 λp i=>(h p i m M).1
 ·exact λop a b ha hb=>cO (λ_ _ _ h=>cW (bl h) rfl) (λ_ _ _=>rfl) λm M=>Jr (ha m M).1 (hb m M).1
 ·exact λa ha=>cO (λ_ _ _ h=>Nt (bl h) (bd (bl (br h)))) (λ_ _ _=>rfl) λm M=>Jt (ha m M).1
 ·exact λa ha m M=>⟨Ju (ha m M).1,JA (ha m M).2⟩
 ·exact λes h m M=>⟨JG λe i=>(h e i m M).1,JL λe i=>(h e i m M).2⟩
 ·exact λes h m M=>⟨JH λe i=>(h e i m M).1,JM λe i=>(h e i m M).2⟩
 ·exact λop a b ha hb m M=>⟨Jv M (ha m M).1 (hb m M).1,Jx M (ha m M).1 (hb m M).1⟩
 ·exact λo1 o2 a b c ha hb hc m M=>⟨JO M (ha m M).1 (hb m M).1 (hc m M).1,JQ M (ha m M).1 (hb m M).1 (hc m M).1⟩
 ·exact λc a b hc ha hb m M=>⟨JB (hc m M).2 (ha m M).1 (hb m M).1,JN (hc m M).2 (ha m M).2 (hb m M).2⟩
 ·exact λa i ha hi=>cO (λ_ _ _ h=>cW (bl h) rfl) (λ_ _ _=>rfl) λm M=>JC (ha m M).1 (hi m M).1
 ·exact λa lo hi ha rN xo=>cO (λ_ _ _ h=>cW (bl h) rfl) (λ_ _ _=>rfl) λm M=>JS (ha m M).1 (match lo,rN with
   |.none,_=>B5
   |some e,h=>B6 (h e rfl m M).1) (match hi,xo with
   |.none,_=>B5
   |some e,h=>B6 (h e rfl m M).1)
 ·exact λf es h=>cO (λ_ _ _ h=>cW (bl (bl h)) rfl) (λ_ _ _=>rfl) λm M=>Ck M (jy λe i=>(h e i m M).1)
 ·exact λb a ha=>cO (λ_ _ _ h=>cW (bl (bl h)) rfl) (λ_ _ _=>rfl) λm M=>JW M (ha m M).1
 ·exact λt r es hr h=>cO (λ_ _ _ h=>cW (bl (bl h)) rfl) (λ_ _ _=>rfl) λm M=>JY (hr m M).1 (jy λe i=>(h e i m M).1)
 ·exact λx e he=>cO (λ_ _ _ h=>cW (bl (bl h)) rfl) (λ_ _ _=>rfl) λm M=>J5 M (he m M).1
 ·exact λx=>cO (λ_ _ _ h=>cW (bl (bl h)) rfl) (λ_ _ _=>rfl) λm M=>Lz M
 ·exact λx es h=>cO (λ_ _ _ h=>cW (bl (bl h)) rfl) (λ_ _ _=>rfl) λm M=>KC M (jy λe i=>(h e i m M).1)
 ·exact λx=>cO (λ_ _ _ h=>cW (bl (bl h)) rfl) (λ_ _ _=>rfl) λm M=>J2 M
 ·exact λx e he=>cO (λ_ _ _ h=>cW (bl h) rfl) (λ_ _ _=>rfl) λm M=>J4 M (he m M).1
 ·exact λx m M=>⟨λx hc=>(nomatch hc),J3 M⟩
 ·exact λe f he=>cO (λ_ _ _ h=>cW (bl h) rfl) (λ_ _ _=>rfl) λm M=>Cn M.toAmb0 (he m M).1
 ·exact λf e es he h=>cO (λ_ _ _ h=>cW (bl (bl h)) rfl) (λ_ _ _=>rfl) λm M=>Ky M (he m M).1 (jy λe i=>(h e i m M).1)
 ·exact λc f es h=>cO (λ_ _ _ h=>cW (bl (bl h)) rfl) (λ_ _ _=>rfl) λm M=>KU M (jy λe i=>(h e i m M).1)
 ·exact λe v he hv=>cO (λ_ _ _ h=>cW (bl (bl h)) rfl) (λ_ _ _=>rfl) λm M=>K5 M (he m M).1 (hv m M).1
 ·exact λn cs c e hc he=>cO (λ_ _ _ h=>cW (bl h) rfl) (λ_ _ _=>rfl) λm M=>Nk M (λm' M'=>(he m' M').1) λm' M'=>(hc m' M').2
 ·exact λit cs c e hi hc he=>cO (λ_ _ _ h=>cW (bl h) rfl) (λ_ _ _=>rfl) λm M=>Nj M (hi m M).1 (λm' M'=>(he m' M').1) λe q m' M'=>(hc e q m' M').2
 ·exact λ_ h=>nomatch h
 ·exact λe es he h=>List.forall_mem_cons.mpr ⟨he,h⟩
 ·exact λ_ h=>nomatch h
 ·exact λp r hp h=>List.forall_mem_cons.mpr ⟨hp,h⟩
 ·exact λ_ h=>nomatch h
 ·exact λe he x q=>Option.some.inj q▸he
 ·exact λk e he=>he
theorem Nu{m:Fx}(M:m.Ok)(es:List E):gG m es:=jy λe _=>(dX e m M).1
section
variable{m:Fx}{W:Nat}
theorem Nv{e:E}(h:uL e=true){p:E->Prop}(k:∀n cs c e,p (.fm n cs c e)):p e:=by cases e<;>first|exact k _ _ _ _|exact aG h
theorem Nw(M:m.fv)(st:S):ZS m W st:=
 S.rec (motive_1:=ZS m W) (motive_2:=fy m W)
  (λx e=>if hq:uL e=true then Nv (p:=λe=>ZS m W (.asg x e)) hq λn cs c e=>Nl M.toOk (λm' M'=>(dX e m' M').1) λm' M'=>(dX c m' M').2 else Lp (dX e m M.toOk).1 (Bool.eq_false_iff.mpr hq))
  (λx=>Lo) (λxs e=>L7 M.toOk (dX e m M.toOk).1) (λx y a b=>Mc M.toOk (dX a m M.toOk).1 (dX b m M.toOk).1)
  (λa f e=>LB M.toOk (dX a m M.toOk).1 (dX e m M.toOk).1) (λa f op e=>LC M.toOk (dX a m M.toOk).1 (dX e m M.toOk).1)
  (λx op e=>LA (dX e m M.toOk).1) (λe=>Lq (dX e m M.toOk).1)
  (λc t e ht he=>Lv (dX c m M.toOk).2 ht he) (λc b hb=>LL M (dX c m M.toOk).2 hb)
  (λx lo hi b hb=>LZ M (λl _=>(dX l m M.toOk).1) (dX hi m M.toOk).1 hb) (λx it b hb=>LV M (dX it m M.toOk).1 hb)
  (λe=>Lr (dX e m M.toOk).1) (λe=>LK M.toOk (dX e m M.toOk).1) (λx f args y fs=>Ms M (Nu M.toOk args)) Lu
  CN (λs r hs hr=>CO hs hr) st
theorem Ed(M:m.fv):∀nG:List S,fy m W nG
 |[]=>CN
 |s::r=>CO (Nw M s) (Ed M r)
end
end
section
noncomputable def yr:Value->Bool
 |.none=>true
 |_=>false
noncomputable def vBool:Value->Option Bool
 |.bool b=>some b
 |_=>none
noncomputable def vInt:Value->Option Int
 |.int i _=>some i
 |_=>none
noncomputable def vStr:Value->Option PySem.Str
 |.str s _=>some s
 |_=>none
noncomputable def yt:Value->Option Addr
 |.ref a=>some a
 |_=>none
noncomputable def Ee:Data->Option (Array Value)
 |.seq vs _=>some vs
 |_=>none
noncomputable def Ef:Data->Option (Array Value)
 |.fields vs=>some vs
 |_=>none
noncomputable def yw:Data->Option FuncData
 |.func f=>some f
 |_=>none
noncomputable def Eg:FuncBody->Option (List XS)
 |.stmts b=>some b
 |_=>none
noncomputable def dv(v:Value)(x:V):Bool:=match x with
 |.none=>yr v
 |.bool b=>(vBool v).any λc=>decide (c=b)
 |.int i=>(vInt v).any λj=>decide (j=i)
 |.str t=>(vStr v).any λs=>decide (s.cps.toList=t)&&(t.all (· <128)&&decide (t.length<=1000))
 |_=>true
noncomputable def nK:List Value->List V->Bool
 |[],xs=>xs.isEmpty
 |_::_,[]=>false
 |v::vs,x::xs=>dv v x&&nK vs xs
noncomputable def codeOk(K:Frag)(cd:Value)(q:PySem.Str):Bool:=(yt cd).any λc=>(K.lookup c).any λo=>(Ef o.data).any λvs=>(vs[1]?).any λy=>(vStr y).any λs=>decide (s=q)
noncomputable def dfltOk(K:Frag)(v:Value)(ds:List V):Bool:=(yr v&&ds.isEmpty)||(yt v).any λt=>(K.lookup t).any λo=>(Ee o.data).any λvs=>nK vs.toList ds
noncomputable def Eh(K:Frag)(d:χ)(ns:List PySem.Str)(fd:FuncData):Bool:=
 fd.closure.isEmpty&&(decide (fd.globals=mainGlobals)&&(decide (fd.builtins=builtinsNs)&&(decide (fd.scope.kind=.function)&&(!fd.scope.isCoroutine&&(!fd.scope.isGenerator&&
  (fd.params.posonlyargs.isEmpty&&(fd.params.vararg.isNone&&(fd.params.kwonlyargs.isEmpty&&(fd.params.kwarg.isNone&&(decide (fd.params.args.map (·.arg)=ns.take d.np)&&
  (decide ns.Nodup&&(decide (ns.length=d.nl)&&(decide (d.np<=d.nl)&&(decide (d.dflt.length<=d.np)&&(ns.all (λx=>decide (fd.scope.names.lookup x=some .local)||decide (fd.scope.names.lookup x=some .cell))&&
  (ns.all (λx=> !(x==PySem.Str.ofString "__debug__"))&&(codeOk K fd.code fd.qualname&&(dfltOk K fd.defaults d.dflt&&(Eg fd.body).any λbody=>fY fd.scope.names ns d.body body))))))))))))))))))
noncomputable def Ny(f:Fn):List PySem.Str:=(Ih f).map PySem.Str.ofString
noncomputable def yx(K:Frag)(f:Fn):Bool:=(K.lookup (addrOf f)).any λo=>(yw o.data).any λfd=>Eh K (Mine.prog f) (Ny f) fd
theorem f5{α:Type}{o:Option α}{f:α->Bool}(h:o.any f=true):∃a,o=some a∧f a=true:=by
 cases o with
 |none=>exact aG h
 |some a=>exact⟨a,rfl,h⟩
theorem Nz{v:Value}{x:Bool}(h:vBool v=some x):v=.bool x:=by cases v<;>first|(cases h;rfl)|exact ah h
theorem NA{v:Value}{x:Int}(h:vInt v=some x):∃t,v=.int x t:=by cases v<;>first|(cases h;exact⟨_,rfl⟩)|exact ah h
theorem Ei{v:Value}{x:PySem.Str}(h:vStr v=some x):∃t,v=.str x t:=by cases v<;>first|(cases h;exact⟨_,rfl⟩)|exact ah h
theorem Ej{v:Value}{x:Addr}(h:yt v=some x):v=.ref x:=by cases v<;>first|(cases h;rfl)|exact ah h
theorem Ek{v:Value}(h:yr v=true):v=.none:=by cases v<;>first|rfl|exact aG h
theorem NB{v:Data}{x:Array Value}(h:Ee v=some x):∃n,v=.seq x n:=by cases v<;>first|(cases h;exact⟨_,rfl⟩)|exact ah h
theorem NC{v:Data}{x:Array Value}(h:Ef v=some x):v=.fields x:=by cases v<;>first|(cases h;rfl)|exact ah h
theorem El{v:Data}{x:FuncData}(h:yw v=some x):v=.func x:=by cases v<;>first|(cases h;rfl)|exact ah h
theorem ND{v:FuncBody}{x:List XS}(h:Eg v=some x):v=.stmts x:=by cases v<;>first|(cases h;rfl)|exact ah h
theorem yy{x:PySem.Str}:∀{l:List (PySem.Str×NameKind)} {n:Nat} {acc:List (PySem.Str×Addr)},((x,NameKind.cell)∈l∨∃c,(x,c)∈acc)->∃c,(x,c)∈cellsFrom n l acc
 |[],_,acc,h=>h.elim (λh=>absurd h iD) id
 |(m,k)::r,n,acc,h=>by
  unfold cellsFrom
  split
  ·exact yy (h.elim (λh=>(dx.mp h).elim (λh=>.inr (by cases h;exact⟨_,.head _⟩)) .inl) λh=>.inr (h.imp λ_ h=>.tail _ h))
  ·rename_i q
   exact yy (h.imp (λh=>(dx.mp h).elim (λh=>by cases h;exact absurd rfl q) id) id)
section
variable{P:Params}{nw:List (Addr×Obj)}{φ:List Addr}
theorem NF{v:Value}:∀{x:V},dv v x=true->x.flat=true->VR P nw φ v x
 |.none,h,_=>Ek h▸.none
 |.bool _,h,_=>(f5 h).elim λc z=>Nz z.1▸bd z.2▸.bool _
 |.int _,h,_=>(f5 h).elim λc z=>(NA z.1).elim λt e=>e▸bd z.2▸.int _ _
 |.str t,h,_=>(f5 h).elim λc z=>(Ei z.1).elim λtk e=>e▸.ka (mW (bd (bl z.2)) λd m=>gn (bd (dM.mp (bl (br z.2)) d m)) (by decide)) (gT (show c.cps.toList.length<=1000 from(bd (bl z.2)).symm▸bd (br (br z.2)))) (bd (bl z.2))
 |.tup _,_,f=>aG f
 |.list _,_,f=>aG f
 |.dict _,_,f=>aG f
 |.obj _,_,f=>aG f
theorem Em:∀{vs:List Value} {xs:List V},nK vs xs=true->vs.length=xs.length
 |[],xs,h=>(List.length_eq_zero_iff.mpr (cZ.mp h)).symm
 |_::_,[],h=>aG h
 |_::_,_::_,h=>congrArg Nat.succ (Em (br h))
theorem yz:∀{vs:List Value} {xs:List V} (k:Nat),nK vs xs=true->nK (vs.drop k) (xs.drop k)=true
 |[],xs,k,h=>by rw[cZ.mp h];cases k<;>rfl
 |_::_,[],_,h=>aG h
 |_::_,_::_,0,h=>h
 |_::_,_::_,k+1,h=>yz k (br h)
theorem En:∀{vs:List Value} {xs:List V},nK vs xs=true->xs.all V.flat=true->Ω P nw φ vs xs
 |[],xs,h,_=>cZ.mp h▸.nil
 |_::_,[],h,_=>aG h
 |_::_,_::_,h,f=>.cons (NF (bl h) (bl (List.all_cons.symm.trans f))) (En (br h) (br (List.all_cons.symm.trans f)))
end
structure Eo (d:χ) (args:List V) (ρ:Loc) (k:Nat):Prop where
 len:args.length+(d.dflt.drop k).length=d.np
 le:k<=args.length
 fl:(d.dflt.drop k).all V.flat=true
 e:ρ=(args++d.dflt.drop k).map Slot.v++List.replicate (d.nl - d.np) Slot.un
theorem NG{d:χ}{args:List V}{ρ:Loc}(hd:d.dflt.length<=d.np)(h:ph d args=some ρ):∃k,k<=d.dflt.length∧Eo d args ρ k:=by
 unfold ph at h
 by_cases q:args.length<=d.np∧d.np<=args.length+d.dflt.length∧(d.dflt.drop (d.dflt.length - (d.np - args.length))).all V.flat=true
 ·rw[if_pos q]at h
  have e:d.dflt.length - (d.dflt.length - (d.np - args.length))=d.np - args.length:=Nat.sub_sub_self (Nat.sub_le_iff_le_add'.mpr q.2.1)
  exact⟨_,Nat.sub_le _ _,by rw[cY,e];exact Nat.add_sub_of_le q.1,Nat.sub_le_iff_le_add.mpr (η hd (Ψ (Nat.add_sub_of_le q.1).symm)),q.2.2,(Option.some.inj h).symm⟩
 ·rw[if_neg q]at h;exact ah h
noncomputable def NH(r:CR):Flow->Loc->Hp->Prop
 |.ret v,_,h=>r=.ret v h
 |.ο,_,h=>r=.ret .none h
 |.brk,_,_=>False
theorem Ep{C:Δ}{W:Nat}{d:χ}{args:List V}{σ:Hp}{r:CR}(h:jo C W d args σ=some r):∃ρ,ph d args=some ρ∧tot (θ C W d.body ρ σ) (NH r) λk _ h=>r=.exc k h:=by
 unfold jo at h
 cases hb:ph d args with
 |none=>rw[hb]at h;exact ah h
 |some ρ=>
  rw[hb]at h
  refine⟨ρ,rfl,?_⟩
  revert h
  dsimp only
  generalize θ C W d.body ρ σ=m
  rcases m with _|⟨_|_|_,_,_⟩|_<;>intro h<;>first|exact ah h|exact(Option.some.inj h).symm
section
variable{prog:Program}{w:World}{base:Heap}{K:Frag}
theorem Er{A:Around}{D:Nat}{fr:List Env}(x:Cx A (D+1) fr)(env:Env):mZ (A.deeper env) D (env::fr):=by
 refine⟨x.handled,by show A.frames.map _=_;rw[x.frames];rfl,?_,?_⟩
 ·have:=x.depth
  show A.depth+1+2*D+3<=_
  exact bK this (by simp+arith)
 ·have:=x.units
  show A.units+3+20*D+1510<=_
  exact bK this (by simp+arith)
theorem NI{s:Shared}{v:Value}{dl:List V}(X:K.In s.heap)(h:dfltOk K v dl=true):∃ds:List Value,(∀(M:Model) (A:Around) (E:Value->Shared->Prop) (Q:Option (Array Value)->Shared->Prop),(∀r:Option (Array Value),(r.getD #[]).toList=ds->Q r s)->wpAny M A (seqItems? v) Q E s)∧nK ds dl=true:=
 (e_.mp h).elim (λh=>⟨[],λM A E Q q=>by
  rw[Ek (bl h)]
  exact wpAny_bind (wpAny_pure (wpAny_pure (q _ rfl))),br h⟩) λh=>(f5 h).elim λt z=>(f5 z.2).elim λo y=>(f5 y.2).elim λvs x=>(NB x.1).elim λn e=>⟨vs.toList,λM A E Q q=>Ej z.1▸wpAny_seqItems (X _ _ y.1) e (q _ rfl),x.2⟩
theorem code_at{h:Heap}{cd:Value}{q:PySem.Str}(X:K.In h)(k:codeOk K cd q=true):h.CodeRec cd q:=
 (f5 k).elim λt z=>(f5 z.2).elim λo y=>(f5 y.2).elim λvs x=>(f5 x.2).elim λu w=>(f5 w.2).elim λs v=>(Ei v.1).elim λtk e=>⟨t,o,vs,tk,Ej z.1,X _ _ y.1,NC x.1,w.1.trans (congrArg some (e.trans (congrArg (Value.str · tk) (bd v.2))))⟩
structure yA (K:Frag) (d:χ) (ns:List PySem.Str) (fd:FuncData):Prop where
 cl:fd.closure=[]
 gl:fd.globals=mainGlobals
 bi:fd.builtins=builtinsNs
 kind:fd.scope.kind=.function
 co:fd.scope.isCoroutine=false
 ge:fd.scope.isGenerator=false
 pp:Bw fd.params
 args:fd.params.args.map (·.arg)=ns.take d.np
 nd:ns.Nodup
 len:ns.length=d.nl
 np:d.np<=d.nl
 dl:d.dflt.length<=d.np
 kinds:∀x∈ns,fd.scope.names.lookup x=some .local∨fd.scope.names.lookup x=some .cell
 m8:∀x∈ns,(x==PySem.Str.ofString "__debug__")=false
 code:codeOk K fd.code fd.qualname=true
 dflt:dfltOk K fd.defaults d.dflt=true
 body:∃body,fd.body=.stmts body∧fY fd.scope.names ns d.body body=true
theorem NJ{d:χ}{ns:List PySem.Str}{fd:FuncData}(h:Eh K d ns fd=true):yA K d ns fd:=by
 have r1:=br h;have r2:=br r1;have r3:=br r2;have r4:=br r3;have r5:=br r4;have r6:=br r5;have r7:=br r6;have r8:=br r7;have r9:=br r8;have pK:=br r9;have Es:=br pK;have Et:=br Es;have Eu:=br Et;have Ew:=br Eu;have Ey:=br Ew;have Ez:=br Ey;have EA:=br Ez;have EB:=br EA
 exact⟨cZ.mp (bl h),bd (bl r1),bd (bl r2),bd (bl r3),bn (bl r4),bn (bl r5),⟨cZ.mp (bl r6),kT.mp (bl r7),cZ.mp (bl r8),kT.mp (bl r9)⟩,bd (bl pK),bd (bl Es),bd (bl Et),bd (bl Eu),bd (bl Ew),
  λx m=>(e_.mp (dM.mp (bl Ey) x m)).imp bd bd,λx m=>bn (dM.mp (bl Ez) x m),bl EA,bl EB,(f5 (br EB)).imp λb z=>⟨ND z.1,z.2⟩⟩
theorem NK{d:χ}{ns:List PySem.Str}{fd:FuncData}(O:yA K d ns fd){g:Gh}{args:List V}{vals ds:List Value}{ρ:Loc}{k:Nat}(B:Eo d args ρ k)(yB:Ω w.params g.nw g.φ (vals++ds) (args++d.dflt.drop k)){ko:PySem.Str->Option NameKind}{i:Nat}{n:PySem.Str}{sl:Slot}(hi:ns[i]?=some n)(hs:ρ[i]?=some sl):
  sl=.un∨∃y v,sl=.v y∧VR w.params g.nw g.φ v y∧(ko n=some .local->bindL ko ((ns.take d.np).zip (vals++ds)) (λ_=>none) n=some v)∧(ko n=some .cell->bindC ko ((ns.take d.np).zip (vals++ds)) (λ_=>none) n=some v):=by
 have l:((args++d.dflt.drop k).map Slot.v).length=d.np:=(b_ ..).trans (Θ.trans B.len)
 rw[B.e]at hs
 by_cases yC:i<d.np
 ·rw[List.getElem?_append_left (l.symm▸yC)]at hs
  obtain⟨y,hy,rfl⟩:=fG.mp ((eE ..).symm.trans hs)
  obtain⟨v,e1,e2⟩:=yB.get hy
  have z:=xY (ko:=ko) (m:=λ_=>none) (O.nd.sublist (List.take_sublist d.np _)) ((List.getElem?_take_of_lt yC).trans hi) e1
  exact .inr ⟨y,v,rfl,e2,z.1,z.2⟩
 ·rw[List.getElem?_append_right (l.symm▸Nat.not_lt.mp yC)]at hs
  exact .inl (List.eq_of_mem_replicate (jf hs))
theorem NL(top:ui base K)(free:ur K)(fns:uu K)(jt:uv K)(cls:iW K){W D:Nat}{C:Δ}(h:um prog w base D C){A:Around}{fr:List Env}(cx:Cx A (D+1) fr){d:χ}{ns:List PySem.Str}{fd:FuncData}{o:Obj}{fa:Addr}(hK:K.lookup fa=some o)(hd:o.data=.func fd)(O:yA K d ns fd)
  {args:List V}{σ:Hp}{r:CR}(hr:jo C W d args σ=some r){g:Gh}{s:Shared}{vals:List Value}(H:HR w.params base fr g σ s.heap)(hv:Ω w.params g.nw g.φ vals args):codeAny (model prog w) A (.call (.ref fa) ⟨vals,[]⟩) (uj w.params base fr g s r) s:=by
 obtain⟨ρ,hb,hr⟩:=Ep hr
 obtain⟨k,hk,B⟩:=NG O.dl hb
 have X:=top.X.keeps H.stays
 obtain⟨ds,NM,jC⟩:=NI (s:=s) X O.dflt
 obtain⟨body,NN,sq⟩:=O.body
 have NO:(ds.drop k).length=(d.dflt.drop k).length:=Em (yz k jC)
 have yB:Ω w.params g.nw g.φ (vals++ds.drop k) (args++d.dflt.drop k):=hv.append (En (yz k jC) B.fl)
 have EC:(ns.take d.np).length=d.np:=List.length_take.trans (fH (O.len.symm▸O.np))
 have la:((ns.take d.np).take args.length).length=args.length:=List.length_take.trans (fH (EC.symm▸B.len▸aP _ _))
 have ED:∀x∈ns,fd.scope.names.lookup x=some .local∨(fd.scope.names.lookup x=some .cell∧∃c,(cellsFrom (s.heap.objs.size+1) fd.scope.names []).lookup x=some c):=λx m=>(O.kinds x m).imp id λq=>⟨q,(yy (n:=s.heap.objs.size+1) (acc:=[]) (.inl (mem_of_lookup q))).elim λc m=>yb m⟩
 refine codeAny_call_function (by have:=cx.depth;exact bK this (by simp+arith)) (X _ _ hK) hd O.co O.ge NN (code_at X O.code) ?_
 refine I9 (A:=(ns.take d.np).take args.length) (B:=(ns.take d.np).drop args.length) (D1:=ds.take k) (D2:=ds.drop k) O.pp (O.args.trans (fJ ..).symm) ((fJ ..).symm▸O.nd.sublist (List.take_sublist _ _)) (hv.length.trans la.symm)
  (NO.trans (cY.trans (by rw[EC,<-B.len,dN])).symm) (by rw[la];exact η (List.length_take_le _ _) B.le) (by rw[fJ];exact NM) _ _ _ _ ?_
 rw[fJ,O.cl]
 refine wpAny_newFunctionEnv_cells O.kind (λx m=>(ED x.1 (kS (DB (List.mem_map_of_mem m)))).imp id λq=>⟨q.1,q.2.elim λc hc=>by rw[hc];rfl⟩) λenv he s' x=>?_
 have u3:env.scope=fd.scope:=he▸rfl
 have sE:env.frame=some env.locals:=he▸rfl
 have NP:env.cells=cellsFrom (s.heap.objs.size+1) fd.scope.names []:=he▸rfl
 have cg:uc env:=⟨u3▸O.kind,he▸O.gl,he▸O.bi,by unfold interactive;rw[u3,O.kind];rfl⟩
 have ko:∀n,env.kindOf n=fd.scope.names.lookup n:=λn=>by unfold Env.kindOf;rw[u3]
 have NQ:ρ.length=ns.length:=by rw[B.e,Θ,b_,Θ,B.len,List.length_replicate,Nat.add_sub_of_le O.np,O.len]
 have F:=FR.callee (names:=ns) (ρ:=ρ) H x cg sE O.nd NQ (λi n hi=>by rw[ko,NP];exact ED n (jf hi)) λi n sl=>NK O B yB
 have M:Fx.fv ⟨prog,w,base,K,env::fr,env,ns,A.deeper env,D,C⟩:=
  {top:=top,free:=free,fns:=fns,jt:=jt,cls:=cls,m8:=O.m8,cx:=Er cx env,pC:=h,xF:=⟨fr,_,rfl,sE⟩}
 have S0:dz s s':=x.done.elim λ_ z=>z.elim λ_ z=>z.1▸⟨rfl,rfl⟩
 have fin:∀{v y} {q2:Q},r=.ret y q2.σ->St ⟨prog,w,base,K,env::fr,env,ns,A.deeper env,D,C⟩ q2->bz ⟨prog,w,base,K,env::fr,env,ns,A.deeper env,D,C⟩ ⟨_,ρ,σ,s'⟩ q2->VR w.params q2.g.nw q2.g.φ v y->uj w.params base fr g s r (.ok (.ret v)) q2.s:=λe S2 T2 R2=>by
  subst e
  have Z:=H.ret x sE (FR.hr S2) T2.e
  exact⟨_,Z.1,Z.2,S0.trans T2.q,_,rfl,R2⟩
 refine⟨(top.lim.keeps H.stays).keeps x.toInCall.keep,codeAny_func (Ed (W:=W) M d.body body (u3▸sq) ⟨_,ρ,σ,s'⟩ _ _ _ _ F hr (λk a q2 e S2 T2 t=>?_) ⟨λq2 e S2 T2=>fin e S2 T2 .none,λq2 e S2 T2=>e.elim,λv y q2 e S2 T2 R2=>fin e S2 T2 R2⟩)⟩
 subst e
 exact t.ho.elim λo ho=>(FR.hr S2).leaving (Er cx env).frames sE ho.1 t.hk ho.2 t.x λg3 h3 H3 E3 x3=>
  have Z:=H.ret x sE H3 (T2.e.trans E3.ext.s)
  ⟨_,Z.1,Z.2,(S0.trans T2.q).trans ⟨rfl,rfl⟩,a,rfl,j_ E3.φ t.hk,t.ho,x3⟩
theorem EE(top:ui base K)(free:ur K)(fns:uu K)(jt:uv K)(cls:iW K)(u4:∀f,f≠.j0->yx K f=true){W:Nat}:∀D,um prog w base D (ι Mine.prog W D)
 |0=>λA fr cx f args σ r hr=>ah hr
 |D+1=>λA fr cx f args σ r hr g s vals H hv=>by
  have nb:f≠.j0:=λq=>by
   subst q
   obtain⟨ρ,hb,hr⟩:=Ep (show jo _ W (Mine.prog .j0) args σ=some r from hr)
   exact hr.elim
  exact(f5 (u4 f nb)).elim λo z=>(f5 z.2).elim λfd y=>NL top free fns jt cls (EE top free fns jt cls u4 D) cx z.1 (El y.1) (NJ y.2) hr H hv
end
end
noncomputable def sG:List Fn:=List.finRange 88
theorem NR(f:Fn):f∈sG:=List.mem_finRange f
theorem NS{p:Fn->Bool}(h:sG.all p=true)(f:Fn):p f=true:=dM.mp h f (NR f)
theorem EF{p:ay->Bool}(h:lG.all p=true)(f:ay):p f=true:=dM.mp h f (rQ f)
theorem bor{p q:Prop}[Decidable p][Decidable q](h:(decide p||decide q)=true)(n:¬p):q:=(e_.mp h).elim (λh=>absurd (bd h) n) bd
noncomputable def yD(K:Frag)(f:Fn):Bool:=
 (decide (f=.j0)||yx K f)&&((decide (f∈[Fn.iH,.iJ,.cn,.eH,.dc,.fO,.dQ,.eI])||decide (nsIn K mainGlobals (PySem.Str.ofString (nameOf f))=some (some (.ref (addrOf f)))))&&
  (((K.lookup (addrOf f)).any λo=>(yw o.data).isSome&&decide (o.cls=.type "function"))&&(decide (f∉meths)||decide (findIn K (.ref b7) (PySem.Str.ofString (nameOf f))=some (some (.ref (addrOf f)))))))
noncomputable def EG(K:Frag):Bool:=(sG.take 60).all (yD K)
noncomputable def good(K:Frag):Bool:=(sG.drop 60).all (yD K)&&((freeNames.all λn=>decide (nsIn K mainGlobals (PySem.Str.ofString n)=some none))&&
 ((lG.all λf=>decide (¬gD .reader f=true)||decide (findIn K (.ref b7) (fldStr f)=some none))&&(lG.all λf=>decide (¬gD .raised f=true)||decide (findIn K (.ref bX) (fldStr f)=some none))))
noncomputable def NT:Obj:=excClassObj (PySem.Str.ofString "Raised") (PySem.Str.ofString "Raised") bX 32 [.type "Exception"] [.type "Exception",.type "BaseException",.type "object"] true [] [] false none none (some (.ref 15)) none (some (.str (PySem.Str.ofString "Raised") 189)) (some (.str (PySem.Str.ofString "Raised") 197)) (some (.bool true)) "Exception.__new__"
noncomputable def u5(K:Frag):=(findIn K (.ref b7) (PySem.Str.ofString "__getattribute__"),findIn K (.ref b7) (PySem.Str.ofString "__getattr__"),hasDictIn K b7,findIn K (.ref b7) (PySem.Str.ofString "__setattr__"),plainOver K b7,
 (clsIn K b7).map (·.mro),makesIn K b7,findIn K (.ref b7) (PySem.Str.ofString "__init__"),keepIn K (.ref b7),nsIn K mainGlobals (PySem.Str.ofString "ExprReader"),
 findIn K (.ref bX) (PySem.Str.ofString "__getattribute__"),findIn K (.ref bX) (PySem.Str.ofString "__getattr__"),hasDictIn K bX,findIn K (.ref bX) (PySem.Str.ofString "__setattr__"),(clsIn K bX).map (·.mro),
 findIn K (.ref bX) (PySem.Str.ofString "__init__"),keepIn K (.ref bX),K.lookup bX,nsIn K mainGlobals (PySem.Str.ofString "Raised"),good K)
noncomputable def EH:type_of%(u5 []):=(some (some (.builtin "object.__getattribute__")),some none,true,some (some (.builtin "object.__setattr__")),true,some [.ref b7,.type "object"],true,some (some (.ref (addrOf .iJ))),true,some (some (.ref b7)),
 some (some (.builtin "BaseException.__getattribute__")),some none,true,some (some (.builtin "object.__setattr__")),some [.ref bX,.type "Exception",.type "BaseException",.type "object"],some (some (.ref (addrOf .iH))),true,some NT,some (some (.ref bX)),true)
noncomputable def EI:List Addr:=[3,33,350]++List.range 673
noncomputable abbrev pw:=PySem.Challenge.pw_np0146_01
noncomputable def i3:Program:={pw with main:={pw.main with body:=[89].filterMap λi=>pw.main.body[i]?}}
noncomputable def sH:List PySem.Str:=(pw.boundNames.filter λn=>n !=PySem.Str.ofString "law")
noncomputable def yE(p:Program)(w:World)(m:Nat)(ann:Option Value)(n:Nat):SharedT->Thread->Option SharedT:=
 @Nat.rec (λ_=>SharedT->Thread->Option SharedT) (λ_ _=>none) (λ_ ih s t=>@Bool.rec (λ_=>Option SharedT)
  (@Bool.rec (λ_=>Option SharedT) none (@Option.rec (SharedT×Thread) (λ_=>Option SharedT) none (λr=>@Prod.rec SharedT Thread (λ_=>Option SharedT) (λs t=>ih s t) r)
   (PySem.W.Fast.tw10156331382660048174 (PySem.W.Fast.tw11892475500146522536 PySem.W.Fast.tw14364793385576792824) p w s t)) (PySem.W.Fast.tw6613529449190102663 m ann t)) (some s) (through t)) n
noncomputable def u6(l:List Obj)(t:BT)(n:Nat):Option (BT×Nat):=match l with
 |[]=>some (t,n)
 |o::l=>bif ((t.ins n o).get n).isSome then u6 l (t.ins n o) (n+1)else none
noncomputable def yF(p:Program)(w:World)(N:Nat)(s₀:Shared):Option SharedT:=
 (u6 s₀.heap.objs.toList .nil 0).bind λx=>yE p w s₀.heap.objs.size (PySem.W.Fast.tw8920871248978507458 s₀.heap mainGlobals "__annotations__") N ⟨x.1,x.2,s₀.heap.life,s₀.gens,s₀.drawn,s₀.toks,s₀.os⟩ (topStub p)
noncomputable def fence(p:Program)(w:World)(N:Nat):Option Shared:=
 (PySem.W.Fast.tw10274390034422433532 PySem.W.Fast.tw14364793385576792824 (opening p) w N (PySem.W.Fast.tw1435165496053646825 (opening p)).1 (PySem.W.Fast.tw1435165496053646825 (opening p)).2).bind (PySem.W.Fast.tw14289696077712309145 p)
noncomputable def u7(s:SharedT):Frag:=EI.filterMap λa=>bif Nat.blt a s.n then((s.tree.get a).bind alive).map λo=>(a,o)else none
noncomputable def gate(s₀ s:Shared):Bool:=(s₀.heap.isNs mainGlobals&&s₀.gens.size==0)&&(staticsOk (importedModules pw.main.body) s₀.heap s.heap&&namesBound pw s.heap&&gensDone s&&laidKept s₀.heap s.heap)
theorem NU(w:World):((fence pw w 3400).bind λs₀=>(yF pw w 3400 s₀).map λs=>(gate s₀ s.abs,PySem.W.Fast.tw4187177175401517315 i3 sH (PySem.W.Fast.tw5923862056798008813 pw.main.body) (λs=>xlAt i3 [] s&&recOk [] s) true s.abs))=some (true,openGood i3 sH):=by kernel_rfl
theorem NV(w:World):((fence pw w 3400).bind (yF pw w 3400)).map (λs=>u5 (u7 s))=some EH:=by kernel_rfl
theorem runC(w:World):((fence pw w 3400).bind (yF pw w 3400)).map (λs=>EG (u7 s))=some true:=by kernel_rfl
theorem EJ{life:Life}{T:BT}{m:Nat}:∀{l:List Obj} {t:BT} {n:Nat},u6 l t n=some (T,m)->absHeap T m life=⟨(absHeap t n life).objs++l.toArray,life⟩
 |[],t,n,h=>by cases h;exact congrArg (Heap.mk · life) Array.append_empty.symm
 |o::l,t,n,h=>by
  unfold u6 at h
  cases g:((t.ins n o).get n).isSome with
  |false=>rw[g]at h;exact ah h
  |true=>
   rw[g]at h
   exact(EJ h).trans (congrArg (Heap.mk · life) (Array.toList_inj.mp (by rw[absHeap_ins g];simp[Heap.push])))
theorem EK{p:Program}{w:World}{m:Nat}{ann:Option Value}{S':SharedT}:∀{n:Nat} {S:SharedT} {t:Thread},yE p w m ann n S t=some S'->topRun treeTable p w m ann n S.abs t=some S'.abs
 |0,_,_,h=>ah h
 |n+1,S,t,h=>by
  have h:@Bool.rec (λ_=>Option SharedT) (@Bool.rec (λ_=>Option SharedT) none (@Option.rec (SharedT×Thread) (λ_=>Option SharedT) none (λr=>@Prod.rec SharedT Thread (λ_=>Option SharedT) (λs t=>yE p w m ann n s t) r)
   (stepT (denote treeTable) p w S t)) (stepOk m ann t)) (some S) (through t)=some S':=by
   rw[PySem.W.Fast.te10156331382660048174,PySem.W.Fast.te11892475500146522536,PySem.W.Fast.te14364793385576792824,PySem.W.Fast.te6613529449190102663];exact h
  unfold topRun
  cases ht:through t with
  |true=>rw[ht]at h;exact congrArg (Option.map SharedT.abs) h
  |false=>
   rw[ht]at h
   cases hk:stepOk m ann t with
   |false=>rw[hk]at h;exact ah h
   |true=>
    rw[hk]at h
    cases hs:stepT (denote treeTable) p w S t with
    |none=>rw[hs]at h;exact ah h
    |some r=>rw[hs]at h;dsimp only;rw[stepT_spec (s':=r.1) (t':=r.2) hs];exact EK h
theorem NW(s:SharedT):(u7 s).In s.abs.heap:=by
 unfold u7
 generalize EI=l
 intro a o e
 induction l with
 |nil=>exact ah e
 |cons b l ih=>
  rw[List.filterMap_cons]at e
  cases q:(bif Nat.blt b s.n then((s.tree.get b).bind alive).map λo=>(b,o)else none)with
  |none=>rw[q]at e;exact ih e
  |some x=>
   rw[q]at e
   cases lt:Nat.blt b s.n with
   |false=>rw[lt]at q;exact ah q
   |true=>
    rw[lt]at q
    obtain⟨o',e1,e2⟩:=fG.mp q
    obtain⟨wZ,e3,e4⟩:=Option.bind_eq_some_iff.mp e1
    subst e2
    rw[List.lookup_cons]at e
    cases ab:a==b with
    |true=>
     rw[ab]at e
     cases eq_of_beq ab
     exact(abs_get (Φ lt) e3).trans (e4.trans e)
    |false=>rw[ab]at e;exact ih e
structure yG (K:Frag):Prop where
 u4:∀f,f≠.j0->yx K f=true
 free:ur K
 fns:uu K
 jt:uv K
 cls:iW K
theorem NY{K:Frag}(h:u5 K=EH)(hA:EG K=true):yG K:=by
 have e:=λ{α:Type} (f:type_of%(u5 K)->α)=>congrArg f h
 have g:good K=true:=e (·.2.2.2.2.2.2.2.2.2.2.2.2.2.2.2.2.2.2.2)
 have m:=λf=>NS (p:=yD K) (by rw[<-fJ 60 sG,List.all_append];exact look_both hA (bl g)) f
 exact⟨λf n=>(e_.mp (bl (m f))).elim (λh=>absurd (bd h) n) id,λn k=>bd (dM.mp (bl (br g)) n k),λf n=>bor (bl (br (m f))) n,
  λf=>(f5 (bl (br (br (m f))))).elim λo z=>by
   obtain⟨fd,e⟩:=Option.isSome_iff_exists.mp (bl z.2)
   obtain⟨c,d,dt,sl⟩:=o
   cases(bd (br z.2):c=.type "function")
   cases(El e:dt=.func fd)
   exact⟨d,fd,sl,z.1⟩,
  {uw:=e (·.1),xa:=e (·.2.1),xb:=e (·.2.2.1),BB:=e (·.2.2.2.1),Ja:=e (·.2.2.2.2.1),BC:=e (·.2.2.2.2.2.1),BD:=e (·.2.2.2.2.2.2.1),BE:=e (·.2.2.2.2.2.2.2.1),BF:=e (·.2.2.2.2.2.2.2.2.1),BG:=e (·.2.2.2.2.2.2.2.2.2.1),
   BH:=e (·.2.2.2.2.2.2.2.2.2.2.1),BI:=e (·.2.2.2.2.2.2.2.2.2.2.2.1),xe:=e (·.2.2.2.2.2.2.2.2.2.2.2.2.1),BJ:=e (·.2.2.2.2.2.2.2.2.2.2.2.2.2.1),xg:=e (·.2.2.2.2.2.2.2.2.2.2.2.2.2.2.1),BK:=e (·.2.2.2.2.2.2.2.2.2.2.2.2.2.2.2.1),BL:=e (·.2.2.2.2.2.2.2.2.2.2.2.2.2.2.2.2.1),
   rG:=⟨_,_,_,_,_,_,_,_,_,_,_,_,_,_,_,e (·.2.2.2.2.2.2.2.2.2.2.2.2.2.2.2.2.2.1)⟩,xh:=e (·.2.2.2.2.2.2.2.2.2.2.2.2.2.2.2.2.2.2.1),
   xd:=λf n=>bor (br (br (br (m f)))) λk=>k n,xc:=λf n=>bor (EF (bl (br (br g))) f) λk=>k n,xf:=λf n=>bor (EF (br (br (br g))) f) λk=>k n}⟩
noncomputable def u9(h:Heap):Prop:=∃K:Frag,K.In h∧yG K
theorem left:LeftO pw i3 sH (λs=>xlAt i3 [] s&&recOk [] s) (λs=>u9 s.heap) (λ_=>True) 3400:=λw=>by
 obtain⟨s₀,e0,e1⟩:=Option.bind_eq_some_iff.mp (NU w)
 obtain⟨s,e2,e3⟩:=fG.mp e1
 obtain⟨s',e4,e5⟩:=fG.mp (NV w)
 obtain⟨VB,e8,e9⟩:=fG.mp (runC w)
 rw[e0]at e4 e8
 cases e2.symm.trans e4
 cases e2.symm.trans e8
 obtain⟨⟨T,n⟩,e6,e7⟩:=Option.bind_eq_some_iff.mp e2
 have g1:gate s₀ s.abs=true:=congrArg (·.1) e3
 have f:fencedOpening treeTable pw w 3400=some s₀:=by
  unfold fencedOpening
  rw[PySem.W.Fast.te14289696077712309145,PySem.W.Fast.te10274390034422433532,PySem.W.Fast.te14364793385576792824,PySem.W.Fast.te1435165496053646825]
  exact e0
 have r:=EK e7
 have hp:=EJ (life:=s₀.heap.life) e6
 rw[<-PySem.W.Fast.te8920871248978507458]at r
 have ss:SharedT.abs ⟨T,n,s₀.heap.life,s₀.gens,s₀.drawn,s₀.toks,s₀.os⟩=s₀:=by
  unfold SharedT.abs
  rw[hp]
  obtain⟨⟨o,l⟩,_,_,_,_⟩:=s₀
  exact congrArg (Shared.mk · _ _ _ _) (congrArg (Heap.mk · l) (Array.toList_inj.mp (by show(([]:List Obj).toArray++o.toList.toArray).toList=o.toList;simp)))
 rw[ss]at r
 have t:topFrom treeTable pw w 3400 s₀=some s.abs:=by
  unfold topFrom
  rw[bl g1]
  dsimp only
  rw[r]
  show(match _ with|true=>_|false=>_)=_
  rw[br g1]
 unfold openEnds
 rw[f]
 refine(congrArg (Option.map _) t).trans (congrArg some (Prod.ext ?_ (eq_true ⟨_,NW s,NY e5 e9⟩)))
 rw[PySem.W.Fast.te4187177175401517315,PySem.W.Fast.te5923862056798008813]
 exact congrArg (·.2) e3
noncomputable abbrev pP:=PySem.Challenge.rw_np0146_01
noncomputable def yH:DefRec×List (PySem.Str×PySem.Expr):=(defOf i3 (PySem.Str.ofString "law")).get (by kernel_rfl)
theorem NZ:yH.1.name=PySem.Str.ofString "law":=by kernel_rfl
theorem sA:noRoadLSs {strict:= !(importedModules pw.main.body).all cThrough.contains,foot:=none,bare:=(["vars","dir","locals"]:List PySem.Str).filter (readsOut pw pw.main.body)} pw.main.body=true:=by
 rw[PySem.W.Fast.te8326940854005059898,PySem.W.Fast.te13343964577679436407];kernel_rfl
theorem sB:looksOpen pw=true:=look_both (look_both (look_both (by rw[PySem.W.Fast.te8377067652309620493,PySem.W.Fast.te11788848310118352699,PySem.W.Fast.te12862048085361865435,PySem.W.Fast.te9807087744658564304];kernel_rfl) (by kernel_rfl)) sA) (by rw[PySem.W.Fast.te17119622794617984870,PySem.W.Fast.te17868728402115742887];kernel_rfl)
theorem sR:pP.row.wellSaid=true:=by
 unfold OpenRow.wellSaid OpenRow.partSaid
 rw[show looksOpen pP.row.prog=true from sB];kernel_rfl
theorem N0:pP.wellSaid=true:=by
 rw[PySem.W.Fast.te9446332074065402090]
 delta PySem.W.Fast.tw9446332074065402090
 rw[show PySem.W.Fast.tw17960256430627541270 (PySem.W.Fast.tw2368527892694137696 pP)=true by rw[<-PySem.W.Fast.te17960256430627541270,<-PySem.W.Fast.te2368527892694137696];exact sR]
 kernel_rfl
theorem hd(walk:WalkO i3 sH (XL i3 []) (λ_ h=>u9 h) pP.row.toRowW yH.1 yH.2 λf vs=>PySem.call f vs):pP.Holds:=
 holds_law N0 λk=>holds_open (q:=i3) (loose:=sH) (Xt:=λs=>xlAt i3 [] s&&recOk [] s) (XP:=XL i3 []) (Yf:=λs=>u9 s.heap) (Ya:=λ_=>True) (YP:=λ_ h=>u9 h) (N:=3400) left
  (λ_ _ e=>of_eq_true e) (λ_ _ _ x k=>x.imp λ_ y=>⟨y.1.keeps k,y.2⟩) (λs e=>xl_of s (bl e)) XL.keeps (by kernel_rfl) (by kernel_rfl) (by kernel_rfl) (λs e=>recFacts_of (br e)) (by kernel_rfl) k
  (by kernel_rfl) ⟨rfl,rfl,rfl,rfl,rfl,by decide+kernel⟩ ⟨[.list []],by decide+kernel,by decide+kernel⟩ walk
noncomputable def u_:Nat:=1000000
noncomputable def vc:Nat:=300
theorem yI{P:Params}{nw:List (Addr×Obj)}{φ:List Addr}:∀{vs:List Value} {xs:List Int},IntsAre vs xs->Ω P nw φ vs (xs.map V.int)
 |_,_,.nil=>.nil
 |_,_,.cons n t r=>.cons (.int n t) (yI r)
theorem N1:Cx callerA vc []:=⟨rfl,rfl,by decide+kernel,by decide+kernel⟩
theorem N4{w:World}{prog:Program}{ar:Shared}{mg mb:PySem.Str->Option Value}{p:Program}{loose:List PySem.Str}{N5:ExcName->Option Value}{fa la:Addr}{vs:List Value}{xs:List Int}{K:Frag}(KX:K.In ar.heap)(gd:yG K)(T:Top p loose N5 mg mb ar.heap)
  (yJ:mg (PySem.Str.ofString "law")=some (.ref fa))(hL:ar.heap.IsList la vs.toArray)(hI:IntsAre vs xs)(hl:xs.length<=63){Q:Value->Shared->Prop}{Ex:Value->Shared->Prop}
  (pure:∃cC,ι Mine.prog u_ vc .eK [.list (xs.map V.int)] []=some (.ret (.bool true) cC))
  (h:∀s',ar.heap.StaysIn s'.heap->dz ar s'->Q (.bool true) s'):wpAny (model prog w) callerA (call (.ref fa) [.ref la]) Q Ex ar:=by
 have top:ui ar.heap K:=⟨KX,⟨mg,mb,T.g,T.b,T.builtins⟩,T.nolimit⟩
 have N6:fa=addrOf .eK:=by
  have e:=mg_of KX T.g (gd.fns .eK (by decide))
  have e2:mg (PySem.Str.ofString "law")=some (.ref (addrOf .eK)):=e
  rw[yJ]at e2
  cases e2;rfl
 subst N6
 have pC:=EE (prog:=prog) (w:=w) (W:=u_) top gd.free gd.fns gd.jt gd.cls gd.u4 vc
 obtain⟨cC,hp⟩:=pure
 obtain⟨o,e,c,n,d⟩:=hL
 have hlen:vs.length=xs.length:=by have:=(yI (P:=w.params) (nw:=[]) (φ:=[]) hI).length;simpa using this
 have H:HR w.params ar.heap [] ⟨[(la,o)],[],λ_=>none⟩ [] ar.heap:=by
  refine⟨λ_ _ e=>e,λp m=>?_,rfl,λk o e=>by simp at e,λb r e=>(by cases e),λe m=>(by cases m)⟩
  simp only[dx,iD,or_false]at m
  subst m
  exact⟨e,λ⟨_,m,_⟩=>by cases m⟩
 refine wpAny_call (codeAny_mono (pC callerA [] N1 .eK _ _ _ hp _ ar [.ref la] H (.cons (.list (.head _) c d (by rw[jr];omega) (yI hI)) .nil)) λrr s' p=>?_)
 obtain⟨g',H',E',S',v,rfl,hv⟩:=p
 have:v=.bool true:=by cases hv;rfl
 subst this
 exact h s' H'.stays S'
theorem holds_of(pure:∀xs:List Int,xs.length<=63->∃cC,ι Mine.prog u_ vc .eK [.list (xs.map V.int)] []=some (.ret (.bool true) cC)):PySem.Challenge.rw_np0146_01.Holds:=by
 refine Mine.hd ?_
 intro w s₀ ar mg mb G Y fa o pm cd doc dV kV ho hd xP hD yJ hg args vals as N7 N8 N9 vd rN
 obtain⟨K,KX,gd⟩:=Y
 refine Ground.open G ?_
 intro T B D TE TW
 have N_:mg (PySem.Str.ofString "law")=some (.ref fa):=NZ▸yJ
 wrow_args N7 N8 N9 vd rN
 rename_i xs hs VC sI VD VE a3 a4 la vs as hL ra w1 r0 hI hr VF VG
 refine N4 KX gd T N_ hL hI (by omega) (pure xs (by omega)) λs' st S=>?_
 refine⟨.inl ⟨.bool true,.bool true,[],rfl,?_,.bool true,?_,?_⟩,.of_keep st,S.2,.of_eq (S.1.trans hg)⟩
 ·intro cls;rfl
 ·kernel_rfl
 ·exact λ_=>⟨.nil,λa m=>by cases m⟩
end Mine
end
section
set_option maxRecDepth 100000
namespace Mine
section
noncomputable def Gives(d:Nat)(W:Nat)(f:Fn)(args:List V)(h:Hp)(r:CR):Prop:=∀D,d<=D->ι prog W D f args h=some r
theorem ak{d W:Nat}{f:Fn}{args:List V}{h:Hp}{r:CR}(k:∀D,d<=D->jo (ι prog W D) W (prog f) args h=some r):Gives (d+1) W f args h r:=by
 intro D hD
 cases D with
 |zero=>omega
 |succ D=>exact k D (by exact bK hD (by simp+arith))
section
variable{α β:Type}{C:Δ}{W:Nat}{ρ:Loc}{h:Hp}
@[simp] theorem EL{a:α}{f:α->Loc->Hp->M β}:M.ζ (some (.ok a ρ h)) f=f a ρ h:=rfl
@[simp] theorem N'{a b:M α}:dh (some true) a b=a:=rfl
@[simp] theorem VH{a b:M α}:dh (some false) a b=b:=rfl
@[simp] theorem VI{b:Bool}:a_ (.bool b)=some b:=rfl
theorem Oa{o1 o2:gy}{a b c:E}:ν C (.fR o1 o2 a b c) ρ h=(ν C a ρ h).ζ λx ρ h=>(ν C b ρ h).ζ λy ρ h=>dh (aY o1 x y) ((ν C c ρ h).ζ λz ρ h=>up ((aY o2 y z).map .bool) ρ h) (some (.ok (.bool false) ρ h)):=rfl
noncomputable def bG(x:V)(l u:Option V):Option V:=(j7 l).bind λl=>(j7 u).bind λu=>wW x l u
noncomputable def yK(f:Flow)(k:M Flow)(ρ:Loc)(h:Hp):M Flow:=match f with
 |.ο=>k
 |.brk=>some (.ok .brk ρ h)
 |.ret v=>some (.ok (.ret v) ρ h)
theorem Ob:θ C W [] ρ h=some (.ok .ο ρ h):=rfl
theorem EM{s:S}{r:List S}:θ C W (s::r) ρ h=(pd C W s ρ h).ζ λf ρ h=>yK f (θ C W r ρ h) ρ h:=rfl
noncomputable def yL(f:Flow)(k:M Flow)(ρ:Loc)(h:Hp):M Flow:=match f with
 |.ο=>k
 |.brk=>some (.ok .ο ρ h)
 |.ret v=>some (.ok (.ret v) ρ h)
end
section
variable{C:Δ}{W:Nat}{ρ:Loc}{h:Hp}
noncomputable def cy(C:Δ)(W x:Nat)(b:List S)(xs:List V)(ρ:Loc)(h:Hp):M Flow:=forL x (λρ h=>θ C W b ρ h) xs ρ h
noncomputable def aO(C:Δ)(W:Nat)(c:E)(b:List S)(n:Nat)(ρ:Loc)(h:Hp):M Flow:=ub (λρ h=>(ν C c ρ h).ζ λx ρ h=>up (a_ x) ρ h) (λρ h=>θ C W b ρ h) n ρ h
theorem Oc{x:Nat}{b:List S}:cy C W x b [] ρ h=some (.ok .ο ρ h):=rfl
theorem nL{x:Nat}{b:List S}{v:V}{r:List V}:cy C W x b (v::r) ρ h=(θ C W b (ρ.set x (.v v)) h).ζ λf ρ h=>yL f (cy C W x b r ρ h) ρ h:=rfl
theorem bU{c:E}{b:List S}{n:Nat}:aO C W c b (n+1) ρ h=(ν C c ρ h).ζ λx ρ h=>dh (a_ x) ((θ C W b ρ h).ζ λf ρ h=>yL f (aO C W c b n ρ h) ρ h) (some (.ok .ο ρ h)):=by
 show M.ζ ((ν C c ρ h).ζ λx ρ h=>up (a_ x) ρ h) _=_
 rcases ν C c ρ h with _|(⟨x,_,_⟩|_)
 ·rfl
 ·show M.ζ (up (a_ x) _ _) _=dh (a_ x) _ _
  rcases a_ x with _|_|_<;>rfl
 ·rfl
end
noncomputable def π(m:M Flow):Option CR:=match m with
 |some (.ok (.ret v) _ h)=>some (.ret v h)
 |some (.ok .ο _ h)=>some (.ret .none h)
 |some (.ex k _ h)=>some (.exc k h)
 |_=>Option.none
theorem ω{C:Δ}{W:Nat}{d:χ}{args:List V}{h:Hp}{ρ:Loc}(hb:ph d args=some ρ):jo C W d args h=π (θ C W d.body ρ h):=by
 unfold jo
 rw[hb]
 dsimp only
 rcases θ C W d.body ρ h with _|⟨_|_|_,_,_⟩|_<;>rfl
@[simp] theorem VJ{n:Nat}:dS n []=true:=rfl
@[simp] theorem Od{n:Nat}{v:V}{r:List V}:dS n (v::r)=(V.plain n v&&dS n r):=rfl
@[simp] theorem VK{n:Nat}:V.plain n .none=true:=rfl
@[simp] theorem VL{n:Nat}{b:Bool}:V.plain n (.bool b)=true:=rfl
@[simp] theorem VM{n:Nat}{i:Int}:V.plain n (.int i)=true:=rfl
@[simp] theorem VN{n:Nat}{s:List Nat}:V.plain n (.str s)=true:=rfl
@[simp] theorem VO{x y:List Nat}:V.eqv (.str x) (.str y)=(x==y):=rfl
@[simp] theorem VP{x y:Int}:V.eqv (.int x) (.int y)=(x==y):=rfl
@[simp] theorem VS{x y:Bool}:V.eqv (.bool x) (.bool y)=(x==y):=rfl
theorem EN{s:List Nat}{vs:List V}:iO (.str s) (.tup vs)=if dS et vs then some (vs.any λy=>y.eqv (.str s))else Option.none:=by
 show(if(dS et vs&&true)=true then _ else _)=_
 rw[gM]
theorem VT{c:Nat}{s:List Nat}:iO (.str [c]) (.str s)=some (decide (c∈s)):=rfl
section
variable{a b:Int}{x y:List Nat}{u v:List V}{p q:V}
@[simp] theorem VU:dR .add (.int a) (.int b)=some (.int (a+b)):=rfl
@[simp] theorem VV:dR .sub (.int a) (.int b)=some (.int (a - b)):=rfl
@[simp] theorem VW:dR .mul (.int a) (.int b)=if eL b||eL a then some (.int (a*b))else Option.none:=rfl
@[simp] theorem VX:dR .fdiv (.int a) (.int b)=if 0<b∧b<1000000 then some (.int (Int.fdiv a b))else Option.none:=rfl
@[simp] theorem VY:dR .mod (.int a) (.int b)=if b≠0 then some (.int (Int.fmod a b))else Option.none:=rfl
@[simp] theorem VZ:dR .pow (.int a) (.int b)=if a=8∧0<=b∧b<10 then some (.int (a^b.toNat))else Option.none:=rfl
@[simp] theorem V0:dR .add (.str x) (.str y)=bS (x++y):=rfl
@[simp] theorem V1:dR .add (.list u) (.list v)=wQ (u++v):=rfl
@[simp] theorem V2:aY .eq (.str x) (.str y)=some (x==y):=rfl
@[simp] theorem V3:aY .eq (.int a) (.int b)=some (a==b):=rfl
@[simp] theorem V4:aY .ne (.str x) (.str y)=some (!(x==y)):=rfl
@[simp] theorem V5:aY .ne (.int a) (.int b)=some (!(a==b)):=rfl
@[simp] theorem V6:aY .lt (.int a) (.int b)=some (decide (a<b)):=rfl
@[simp] theorem V7:aY .le (.int a) (.int b)=some (decide (a<=b)):=rfl
@[simp] theorem V8:aY .gt (.int a) (.int b)=some (decide (b<a)):=rfl
@[simp] theorem V9:aY .ge (.int a) (.int b)=some (decide (b<=a)):=rfl
@[simp] theorem Oe:aY .aj p q=iO p q:=rfl
@[simp] theorem Of:aY .fN p q=(iO p q).map (!·):=rfl
@[simp] theorem V_:aY .is .none .none=some true:=rfl
@[simp] theorem V':aY .is (.int a) .none=some false:=rfl
@[simp] theorem Wa{b:Bool}:aY .is (.bool b) .none=some false:=rfl
@[simp] theorem Wb:aY .is (.tup u) .none=some false:=rfl
@[simp] theorem Wc:aY .jj .none .none=some false:=rfl
@[simp] theorem Wd:aY .jj (.int a) .none=some true:=rfl
@[simp] theorem We{b:Bool}:aY .jj (.bool b) .none=some true:=rfl
@[simp] theorem Wf:aY .jj (.tup u) .none=some true:=rfl
end
section
variable{a b:Int}{x y:List Nat}{u v:List V}{p q:V}{d:List (List Nat×V)}{ρ:Loc}{k:Nat}{ks:List Nat}{c:Bool}
@[simp] theorem Wg:V.flat .none=true:=rfl
@[simp] theorem Wh:V.flat (.bool c)=true:=rfl
@[simp] theorem Wi:V.flat (.int a)=true:=rfl
@[simp] theorem Wj:V.flat (.str x)=true:=rfl
@[simp] theorem Wk:V.isList .none=false:=rfl
@[simp] theorem Wl:V.isList (.bool c)=false:=rfl
@[simp] theorem Wm:V.isList (.int a)=false:=rfl
@[simp] theorem Wn:V.isList (.str x)=false:=rfl
@[simp] theorem Wo:V.isList (.tup u)=false:=rfl
end
end
section
noncomputable def nN{α:Type}(r:Rs α)(K:α->Loc->Hp->Prop)(X:Nat->Loc->Hp->Prop):Prop:=match r with
 |.ok a ρ h=>K a ρ h
 |.ex k ρ h=>X k ρ h
noncomputable def Le{α:Type}(m:M α)(K:α->Loc->Hp->Prop)(X:Nat->Loc->Hp->Prop):Prop:=∀r,m=some r->nN r K X
section
variable{α β:Type}{K:α->Loc->Hp->Prop}{X:Nat->Loc->Hp->Prop}{ρ:Loc}{h:Hp}
theorem Le.ζ{m:M β}{f:β->Loc->Hp->M α}(H:Le (m.ζ f) K X){K':β->Loc->Hp->Prop}(g:∀b ρ h,Le (f b ρ h) K X->K' b ρ h):Le m K' X:=by
 rintro (⟨b,ρ,h⟩|⟨k,ρ,h⟩) e
 ·exact g _ _ _ λr e'=>H r (by rw[e];exact e')
 ·exact H _ (by rw[e];rfl)
theorem Le.tr{m:M β}{f:β->Loc->Hp->M α}{g:Nat->Loc->Hp->M α}(H:Le (wY m f g) K X){K':β->Loc->Hp->Prop}{X':Nat->Loc->Hp->Prop}(a:∀b ρ h,Le (f b ρ h) K X->K' b ρ h)(b:∀k ρ h,Le (g k ρ h) K X->X' k ρ h):Le m K' X':=by
 rintro r rfl
 cases r
 ·exact a _ _ _ H
 ·exact b _ _ _ H
theorem Le.one{a:α}(H:Le (some (.ok a ρ h)) K X):K a ρ h:=H _ rfl
theorem Le.exc{k:Nat}(H:Le (some (.ex k ρ h)) K X):X k ρ h:=H _ rfl
theorem Le.to{m m':M α}(H:Le m K X)(e:m'=m):Le m' K X:=e▸H
theorem Le.up{o:Option α}{a:α}(H:Le (Mine.up o ρ h) K X)(e:o=some a):K a ρ h:=(H.to (congrArg (Mine.up · ρ h) e.symm)).one
theorem Le.ob{o:Option β}{f:β->Loc->Hp->M α}{a:β}(H:Le ((Mine.up o ρ h).ζ f) K X)(e:o=some a):Le (f a ρ h) K X:=H.to (congrArg (λo=>M.ζ (Mine.up o ρ h) f) e.symm)
theorem Le.om{o:Option β}{f:β->α}{a:β}(H:Le (Mine.up (o.map f) ρ h) K X)(e:o=some a):K (f a) ρ h:=H.up (congrArg (Option.map f) e)
theorem Le.pos{c:Prop}[Decidable c]{m n:M α}(H:Le (if c then m else n) K X)(e:c):Le m K X:=H.to (if_pos e).symm
theorem Le.neg{c:Prop}[Decidable c]{m n:M α}(H:Le (if c then m else n) K X)(e:¬c):Le n K X:=H.to (if_neg e).symm
theorem Le.own{s:Option Slot}{f:List V->M V}{K:V->Loc->Hp->Prop}{vs:List V}(H:Le (gQ s f) K X)(e:s=some (.own vs)):Le (f vs) K X:=H.to (congrArg (gQ · f) e.symm)
theorem Le.br{t:Bool}{s:Option Bool}{a b:M α}(H:Le (dh s a b) K X)(e:s=some t):Le (dh (some t) a b) K X:=H.to (congrArg (dh · a b) e.symm)
theorem Le.cr{r:CR}{s:Option CR}{K:V->Loc->Hp->Prop}(H:Le (fp s ρ) K X)(e:s=some r):Le (fp (some r) ρ) K X:=H.to (congrArg (fp · ρ) e.symm)
end
noncomputable def kz(b:Bool)(p q:Prop):Prop:=match b with
 |true=>p
 |false=>q
noncomputable def yM(x y:V)(k:Int->Int->Prop)(e:Prop):Prop:=match x with
 |.int a=>match y with
  |.int b=>k a b
  |_=>e
 |_=>e
noncomputable def ve(op:fM)(x y:V)(K:V->Prop):Prop:=match op with
 |.add=>yM x y (λa b=>K (.int (a+b))) (∀r,t9 x y=some r->K r)
 |.sub=>yM x y (λa b=>K (.int (a - b))) (∀r,dR .sub x y=some r->K r)
 |op=>∀r,dR op x y=some r->K r
noncomputable def vf(op:gy)(x y:V)(K:Bool->Prop):Prop:=∀r,aY op x y=some r->K r
noncomputable def EO(b:Bi)(x:V)(K:V->Prop):Prop:=∀r,k8 b x=some r->K r
noncomputable def wT(v:V)(K:Bool->Prop):Prop:=match v with
 |.bool b=>∀t,b=t->K t
 |_=>True
noncomputable def f6:Loc->Nat->Slot->(Loc->Prop)->Prop
 |[],_,_,K=>K []
 |_::r,0,s,K=>K (s::r)
 |a::r,n+1,s,K=>f6 r n s λr=>K (a::r)
noncomputable def sJ:Loc->Nat->(Slot->Prop)->Prop
 |[],_,_=>True
 |a::_,0,K=>K a
 |_::r,n+1,K=>sJ r n K
theorem gJ:∀{ρ:Loc} {i:Nat} {s:Slot} {K:Loc->Prop},K (ρ.set i s)->f6 ρ i s K
 |[],_,_,_,H=>H
 |_::_,0,_,_,H=>H
 |_::r,n+1,_,_,H=>gJ (ρ:=r) (i:=n) H
theorem vg:∀{ρ:Loc} {i:Nat} {K:Slot->Prop},(∀s,ρ[i]?=some s->K s)->sJ ρ i K
 |[],_,_,_=>trivial
 |_::_,0,_,H=>H _ rfl
 |_::r,n+1,_,H=>vg (ρ:=r) (i:=n) λs e=>H s e
noncomputable def jH(ρ:Loc)(i:Nat)(K:List V->Prop):Prop:=sJ ρ i λs=>match s with
 |.own vs=>K vs
 |_=>True
noncomputable def Og(i:Nat)(ρ:Loc)(h:Hp)(K:V->Loc->Hp->Prop):Prop:=sJ ρ i λs=>match s with
 |.v x=>K x ρ h
 |.own vs=>f6 ρ i (.v (.list vs)) λρ=>K (.list vs) ρ h
 |.un=>True
theorem kA{ρ:Loc}{i:Nat}{K:List V->Prop}(H:∀vs,ρ[i]?=some (.own vs)->K vs):jH ρ i K:=vg λs e=>by
 cases s<;>first|trivial|exact H _ e
noncomputable def yN(r:CR)(ρ:Loc)(K:V->Loc->Hp->Prop)(X:Nat->Loc->Hp->Prop):Prop:=match r with
 |.ret v h=>K v ρ h
 |.exc k h=>X k ρ h
noncomputable def EP(o:Nat)(r:CR)(ρ:Loc)(K:V->Loc->Hp->Prop)(X:Nat->Loc->Hp->Prop):Prop:=match r with
 |.ret .none h=>K (.obj o) ρ h
 |.exc k h=>X k ρ h
 |_=>True
mutual
noncomputable def wE(C:Δ):E->Loc->Hp->(V->Loc->Hp->Prop)->(Nat->Loc->Hp->Prop)->Prop
 |.none,ρ,h,K,_=>K .none ρ h
 |.bool b,ρ,h,K,_=>K (.bool b) ρ h
 |.int i,ρ,h,K,_=>K (.int i) ρ h
 |.str s,ρ,h,K,_=>K (.str s) ρ h
 |.loc i,ρ,h,K,_=>Og i ρ h K
 |.tup es,ρ,h,K,X=>wEs C es ρ h (λvs ρ h=>K (.tup vs) ρ h) X
 |.lst es,ρ,h,K,X=>wEs C es ρ h (λvs ρ h=>K (.list vs) ρ h) X
 |.hJ kvs,ρ,h,K,X=>wKs C kvs ρ h (λvs ρ h=>K (.dict vs) ρ h) X
 |.bin op a b,ρ,h,K,X=>wE C a ρ h (λx ρ h=>wE C b ρ h (λy ρ h=>ve op x y λv=>K v ρ h) X) X
 |.neg a,ρ,h,K,X=>wE C a ρ h (λx ρ h=>match x with
  |.int i=>K (.int (-i)) ρ h
  |_=>True) X
 |.not a,ρ,h,K,X=>wE C a ρ h (λx ρ h=>match x with
  |.bool b=>K (.bool (!b)) ρ h
  |_=>True) X
 |.and es,ρ,h,K,X=>yO C es ρ h K X
 |.or es,ρ,h,K,X=>yP C es ρ h K X
 |.cmp op a b,ρ,h,K,X=>wE C a ρ h (λx ρ h=>wE C b ρ h (λy ρ h=>vf op x y λb=>K (.bool b) ρ h) X) X
 |.fR o1 o2 a b c,ρ,h,K,X=>wE C a ρ h (λx ρ h=>wE C b ρ h (λy ρ h=>vf o1 x y λb=>∀t,b=t->kz t
  (wE C c ρ h (λz ρ h=>vf o2 y z λb=>K (.bool b) ρ h) X) (K (.bool false) ρ h)) X) X
 |.ite c a b,ρ,h,K,X=>wE C c ρ h (λx ρ h=>wT x λt=>kz t (wE C a ρ h K X) (wE C b ρ h K X)) X
 |.sub a i,ρ,h,K,X=>wE C a ρ h (λx ρ h=>wE C i ρ h (λy ρ h=>∀r,υ x y=some r->K r ρ h) X) X
 |.ae a lo hi,ρ,h,K,X=>wE C a ρ h (λx ρ h=>wO C lo ρ h (λl ρ h=>wO C hi ρ h (λu ρ h=>∀r,bG x l u=some r->K r ρ h) X) X) X
 |.call f args,ρ,h,K,X=>wEs C args ρ h (λvs ρ h=>∀r,C f vs h=some r->yN r ρ K X) X
 |.bi b a,ρ,h,K,X=>wE C a ρ h (λx ρ h=>EO b x λv=>K v ρ h) X
 |.met m r args,ρ,h,K,X=>wE C r ρ h (λx ρ h=>ua m x=true->wEs C args ρ h (λvs ρ h=>∀v,eN m x vs=some v->K v ρ h) X) X
 |.app i e,ρ,h,K,X=>jH ρ i λ_=>wE C e ρ h (λx ρ h=>jH ρ i λvs=>vs.length<=af->f6 ρ i (.own (vs++[x])) λρ=>K .none ρ h) X
 |.pop i,ρ,h,K,_=>jH ρ i λvs=>∀x,vs.getLast?=some x->f6 ρ i (.own vs.dropLast) λρ=>K x ρ h
 |.ext i es,ρ,h,K,X=>jH ρ i λ_=>wEs C es ρ h (λws ρ h=>jH ρ i λvs=>vs.length+ws.length<=af->f6 ρ i (.own (vs++ws)) λρ=>K .none ρ h) X
 |.fS i,ρ,h,K,_=>jH ρ i λvs=>K (.int vs.length) ρ h
 |.k4 i e,ρ,h,K,X=>jH ρ i λ_=>wE C e ρ h (λy ρ h=>jH ρ i λvs=>∀r,υ (.list vs) y=some r->K r ρ h) X
 |.mM i,ρ,h,K,_=>jH ρ i λvs=>K (.bool (!vs.isEmpty)) ρ h
 |.attr o f,ρ,h,K,X=>wE C o ρ h (λx ρ h=>∀r,iQ h x f=some r->K r ρ h) X
 |.ax f o args,ρ,h,K,X=>wE C o ρ h (λx ρ h=>isObj h .reader x=true->wEs C args ρ h (λvs ρ h=>∀r,C f (x::vs) h=some r->yN r ρ K X) X) X
 |.new c f args,ρ,h,K,X=>wEs C args ρ h (λvs ρ h=>∀r,C f (.obj h.length::vs) (h++[⟨c,[]⟩])=some r->EP h.length r ρ K X) X
 |.mN o v,ρ,h,K,X=>wE C o ρ h (λx ρ h=>wE C v ρ h (λ_ ρ h=>isObj h .raised x=true->K .none ρ h) X) X
 |.fm n cs cond elt,ρ,h,K,X=>∀r,ν C (.fm n cs cond elt) ρ h=some r->nN r K X
 |.comp it cs cond elt,ρ,h,K,X=>∀r,ν C (.comp it cs cond elt) ρ h=some r->nN r K X
noncomputable def wO(C:Δ):Option E->Loc->Hp->(Option V->Loc->Hp->Prop)->(Nat->Loc->Hp->Prop)->Prop
 |.none,ρ,h,K,_=>K Option.none ρ h
 |some e,ρ,h,K,X=>wE C e ρ h (λv ρ h=>K (some v) ρ h) X
noncomputable def wEs(C:Δ):List E->Loc->Hp->(List V->Loc->Hp->Prop)->(Nat->Loc->Hp->Prop)->Prop
 |[],ρ,h,K,_=>K [] ρ h
 |e::r,ρ,h,K,X=>wE C e ρ h (λv ρ h=>wEs C r ρ h (λvs ρ h=>K (v::vs) ρ h) X) X
noncomputable def wKs(C:Δ):List (List Nat×E)->Loc->Hp->(List (List Nat×V)->Loc->Hp->Prop)->(Nat->Loc->Hp->Prop)->Prop
 |[],ρ,h,K,_=>K [] ρ h
 |(k,e)::r,ρ,h,K,X=>wE C e ρ h (λv ρ h=>wKs C r ρ h (λvs ρ h=>K ((k,v)::vs) ρ h) X) X
noncomputable def yO(C:Δ):List E->Loc->Hp->(V->Loc->Hp->Prop)->(Nat->Loc->Hp->Prop)->Prop
 |[],_,_,_,_=>True
 |[e],ρ,h,K,X=>wE C e ρ h K X
 |e::r,ρ,h,K,X=>wE C e ρ h (λx ρ h=>wT x λt=>kz t (yO C r ρ h K X) (K x ρ h)) X
noncomputable def yP(C:Δ):List E->Loc->Hp->(V->Loc->Hp->Prop)->(Nat->Loc->Hp->Prop)->Prop
 |[],_,_,_,_=>True
 |[e],ρ,h,K,X=>wE C e ρ h K X
 |e::r,ρ,h,K,X=>wE C e ρ h (λx ρ h=>wT x λt=>kz t (K x ρ h) (yP C r ρ h K X)) X
end
section
variable{K:V->Loc->Hp->Prop}{X:Nat->Loc->Hp->Prop}{ρ:Loc}{h:Hp}
theorem Oh{x y:V}{k:Int->Int->Prop}{e:Prop}(H:e)(h:∀a b,x=.int a->y=.int b->k a b):yM x y k e:=by
 cases x<;>first|exact H|(cases y<;>first|exact H|exact h _ _ rfl rfl)
theorem yQ{op:fM}{x y:V}{K:V->Prop}(H:∀r,dR op x y=some r->K r):ve op x y K:=by
 cases op<;>first|exact H|exact Oh H λa b ea eb=>H _ (by rw[ea,eb];rfl)
theorem yR{op:gy}{x y:V}{K:Bool->Prop}(H:∀r,aY op x y=some r->K r):vf op x y K:=H
theorem Oi{b:Bi}{x:V}(H:Le (up (k8 b x) ρ h) K X):EO b x λv=>K v ρ h:=λ_ e=>H.up e
theorem sL{v:V}{K:Bool->Prop}(H:∀t,a_ v=some t->K t):wT v K:=by
 cases v<;>first|trivial|exact λt e=>H t (congrArg some e)
theorem nO{t:Bool}{p q:Prop}(a:t=true->p)(b:t=false->q):kz t p q:=by
 cases t
 ·exact b rfl
 ·exact a rfl
theorem ER{r:CR}(H:Le (fp (some r) ρ) K X):yN r ρ K X:=by
 cases r
 ·exact H.one
 ·exact H.exc
theorem Oj{r:CR}{s:Option CR}{n:Nat}(H:Le (qZ s n ρ) K X)(e:s=some r):EP n r ρ K X:=by
 subst e
 rcases r with⟨v,_⟩|_
 ·cases v<;>first|trivial|exact H.one
 ·exact H.exc
end
section
variable(C:Δ)
noncomputable def WE(e:E):Prop:=∀{ρ:Loc} {h:Hp} {K:V->Loc->Hp->Prop} {X:Nat->Loc->Hp->Prop},Le (ν C e ρ h) K X->wE C e ρ h K X
structure Ol (l:List E):Prop where
 es:∀{ρ:Loc} {h:Hp} {K:List V->Loc->Hp->Prop} {X:Nat->Loc->Hp->Prop},Le (ft C l ρ h) K X->wEs C l ρ h K X
 an:∀{ρ:Loc} {h:Hp} {K:V->Loc->Hp->Prop} {X:Nat->Loc->Hp->Prop},Le (evalAnd C l ρ h) K X->yO C l ρ h K X
 or:∀{ρ:Loc} {h:Hp} {K:V->Loc->Hp->Prop} {X:Nat->Loc->Hp->Prop},Le (evalOr C l ρ h) K X->yP C l ρ h K X
noncomputable def Om(es:List (List Nat×E)):Prop:=∀{ρ:Loc} {h:Hp} {K:List (List Nat×V)->Loc->Hp->Prop} {X:Nat->Loc->Hp->Prop},Le (jn C es ρ h) K X->wKs C es ρ h K X
noncomputable def WO(e:Option E):Prop:=∀{ρ:Loc} {h:Hp} {K:Option V->Loc->Hp->Prop} {X:Nat->Loc->Hp->Prop},Le (mR C e ρ h) K X->wO C e ρ h K X
theorem Oo(i:Nat):WE C (.loc i):=λ{ρ h K X} H=>vg λs e=>by
 have H:Le (k9 ρ[i]? i ρ h) K X:=H
 rw[e]at H
 cases s
 ·trivial
 ·exact H.one
 ·exact gJ H.one
theorem Oq(e:E):WE C e:=E.rec (motive_1:=WE C) (motive_2:=Ol C) (motive_3:=Om C) (motive_4:=WO C) (motive_5:=λp=>WE C p.2)
 (λH=>H.one) (λ_ _ _ _ _ H=>H.one) (λ_ _ _ _ _ H=>H.one) (λ_ _ _ _ _ H=>H.one) (Oo C)
 (λ_ hs _ _ _ _ H=>hs.es (Le.ζ H λ_ _ _ H=>H.one)) (λ_ hs _ _ _ _ H=>hs.es (Le.ζ H λ_ _ _ H=>H.one)) (λ_ hs _ _ _ _ H=>hs (Le.ζ H λ_ _ _ H=>H.one))
 (λ_ _ _ ha hb _ _ _ _ H=>ha (Le.ζ H λ_ _ _ H=>hb (Le.ζ H λ_ _ _ H=>yQ λ_ e=>H.up e)))
 (λ_ ha _ _ _ _ H=>ha (Le.ζ H λx _ _ H=>by cases x<;>first|exact H.one|trivial))
 (λ_ ha _ _ _ _ H=>ha (Le.ζ H λx _ _ H=>by cases x<;>first|exact Le.up H rfl|trivial))
 (λ_ hs _ _ _ _ H=>hs.an H) (λ_ hs _ _ _ _ H=>hs.or H)
 (λ_ _ _ ha hb _ _ _ _ H=>ha (Le.ζ H λ_ _ _ H=>hb (Le.ζ H λ_ _ _ H=>yR λ_ e=>H.om e)))
 (λ_ _ _ _ _ ha hb hc _ _ _ _ H=>ha (Le.ζ H λ_ _ _ H=>hb (Le.ζ H λ_ _ _ H=>yR λt e t' e'=>nO (λq=>hc (Le.ζ (H.br (e.trans (congrArg some (e'.trans q)))) λ_ _ _ H=>yR λ_ e=>H.om e)) λq=>(H.br (e.trans (congrArg some (e'.trans q)))).one)))
 (λ_ _ _ hc ha hb _ _ _ _ H=>hc (Le.ζ H λ_ _ _ H=>sL λt e=>nO (λq=>ha (H.br (e.trans (congrArg some q)))) λq=>hb (H.br (e.trans (congrArg some q)))))
 (λ_ _ ha hi _ _ _ _ H=>ha (Le.ζ H λ_ _ _ H=>hi (Le.ζ H λ_ _ _ H _ e=>H.up e)))
 (λ_ _ _ ha hl hh _ _ _ _ H=>ha (Le.ζ H λx _ _ H=>hl (Le.ζ H λl _ _ H=>hh (Le.ζ H λu _ _ H _ e=>H.up e))))
 (λ_ _ hs _ _ _ _ H=>hs.es (Le.ζ H λ_ _ _ H _ e=>ER (H.cr e)))
 (λ_ _ ha _ _ _ _ H=>ha (Le.ζ H λ_ _ _ H=>Oi H))
 (λ_ _ _ hr hs _ _ _ _ H=>hr (Le.ζ H λ_ _ _ H e=>hs.es (Le.ζ (H.pos e) λ_ _ _ H _ e=>H.up e)))
 (λ_ _ he _ _ _ _ H=>kA λ_ q=>he (Le.ζ (H.own q) λ_ _ _ H=>kA λ_ q l=>gJ ((H.own q).pos l).one))
 (λ_ _ _ _ _ H=>kA λ_ q _ e=>gJ ((H.own q).up e))
 (λ_ _ hs _ _ _ _ H=>kA λ_ q=>hs.es (Le.ζ (H.own q) λ_ _ _ H=>kA λ_ q l=>gJ ((H.own q).pos l).one))
 (λ_ _ _ _ _ H=>kA λ_ q=>(H.own q).one)
 (λ_ _ he _ _ _ _ H=>kA λ_ q=>he (Le.ζ (H.own q) λ_ _ _ H=>kA λ_ q _ e=>(H.own q).up e))
 (λ_ _ _ _ _ H=>kA λ_ q=>(H.own q).one)
 (λ_ _ ho _ _ _ _ H=>ho (Le.ζ H λ_ _ _ H _ e=>H.up e))
 (λ_ _ _ ho hs _ _ _ _ H=>ho (Le.ζ H λ_ _ _ H e=>hs.es (Le.ζ (H.pos e) λ_ _ _ H _ e=>ER (H.cr e))))
 (λ_ _ _ hs _ _ _ _ H=>hs.es (Le.ζ H λ_ _ _ H _ e=>Oj H e))
 (λ_ _ ho hv _ _ _ _ H=>ho (Le.ζ H λ_ _ _ H=>hv (Le.ζ H λ_ _ _ H e=>(H.pos e).one)))
 (λ_ _ _ _ _ _ _ _ _ _ H=>H) (λ_ _ _ _ _ _ _ _ _ _ _ H=>H)
 ⟨λH=>H.one,λ_=>trivial,λ_=>trivial⟩
 (λ_ es he hs=>⟨λH=>he (Le.ζ H λ_ _ _ H=>hs.es (Le.ζ H λ_ _ _ H=>H.one)),
  match es,hs with
  |[],_=>λH=>he H
  |_::_,hs=>λH=>he (Le.ζ H λ_ _ _ H=>sL λt e=>nO (λq=>hs.an (H.br (e.trans (congrArg some q)))) λq=>(H.br (e.trans (congrArg some q))).one),
  match es,hs with
  |[],_=>λH=>he H
  |_::_,hs=>λH=>he (Le.ζ H λ_ _ _ H=>sL λt e=>nO (λq=>(H.br (e.trans (congrArg some q))).one) λq=>hs.or (H.br (e.trans (congrArg some q))))⟩)
 (λH=>H.one) (λ_ _ he hs _ _ _ _ H=>he (Le.ζ H λ_ _ _ H=>hs (Le.ζ H λ_ _ _ H=>H.one)))
 (λH=>H.one) (λ_ he _ _ _ _ H=>he (Le.ζ H λ_ _ _ H=>H.one)) (λ_ _ he=>he) e
theorem dY(e:E){ρ:Loc}{h:Hp}{K:V->Loc->Hp->Prop}{X:Nat->Loc->Hp->Prop}(H:Le (ν C e ρ h) K X):wE C e ρ h K X:=Oq C e H
theorem Ot:∀(e:Option E) {ρ:Loc} {h:Hp} {K:Option V->Loc->Hp->Prop} {X:Nat->Loc->Hp->Prop},Le (mR C e ρ h) K X->wO C e ρ h K X
 |.none,_,_,_,_,H=>H.one
 |some e,_,_,_,_,H=>dY C e (Le.ζ H λ_ _ _ H=>H.one)
end
noncomputable def Ou(ρ:Loc)(i:Nat)(K:V->Prop):Prop:=sJ ρ i λs=>match s with
 |.v x=>kz x.isList True (K x)
 |_=>True
noncomputable def Ov(u:V)(k:Int->Prop):Prop:=match u with
 |.int b=>k b
 |_=>True
noncomputable def yS(l:Option V)(u:V)(K:Int->Int->Prop):Prop:=match j7 l with
 |some l=>Ov u λu=>(0<=l.getD 0∧l.getD 0<=dy∧u<=dy∧ -dy<=u)->K (l.getD 0) u
 |.none=>True
theorem Ow{β:Type}{l:Option V}{u:V}{ρ:Loc}{h:Hp}{f:List V->Loc->Hp->M β}{K:β->Loc->Hp->Prop}{X:Nat->Loc->Hp->Prop}(H:Le ((up (wX l u) ρ h).ζ f) K X):yS l u λa b=>Le (f (gR a b) ρ h) K X:=by
 unfold wX at H
 unfold yS
 generalize j7 l=o at H⊢
 cases o with
 |none=>trivial
 |some a=>
  cases u<;>first|trivial|exact λq=>Le.ob H (if_pos q)
noncomputable def yT:Loc->List Nat->List V->(Loc->Prop)->Prop
 |ρ,[],[],K=>K ρ
 |ρ,x::xs,v::vs,K=>f6 ρ x (.v v) λρ=>yT ρ xs vs K
 |_,_,_,_=>True
theorem ES:∀{xs:List Nat} {ρ:Loc} {vs:List V} {K:Loc->Prop},(∀aH,pa ρ xs vs=some aH->K aH)->yT ρ xs vs K
 |[],_,[],_,H=>H _ rfl
 |[],_,_::_,_,_=>trivial
 |_::_,_,[],_,_=>trivial
 |_::_,_,_::_,_,H=>gJ (ES H)
noncomputable def ET(v:V)(ρ:Loc)(xs:List Nat)(K:Loc->Prop):Prop:=match v with
 |.tup vs=>yT ρ xs vs K
 |_=>True
noncomputable def nP(f:Flow)(ρ:Loc)(h:Hp)(N:Loc->Hp->Prop)(K:Flow->Loc->Hp->Prop):Prop:=match f with
 |.ο=>N ρ h
 |.brk=>K .brk ρ h
 |.ret v=>K (.ret v) ρ h
mutual
noncomputable def wS(C:Δ)(W:Nat):S->Loc->Hp->(Flow->Loc->Hp->Prop)->(Nat->Loc->Hp->Prop)->Prop
 |.asg x e,ρ,h,K,X=>wE C e ρ h (λv ρ h=>f6 ρ x (.v v) λρ=>K .ο ρ h) X
 |.own x,ρ,h,K,_=>f6 ρ x (.own []) λρ=>K .ο ρ h
 |.cK xs e,ρ,h,K,X=>wE C e ρ h (λv ρ h=>ET v ρ xs λρ=>K .ο ρ h) X
 |.fT x y a b,ρ,h,K,X=>wE C a ρ h (λv ρ h=>wE C b ρ h (λw ρ h=>f6 ρ y (.v w) λρ=>f6 ρ x (.v v) λρ=>K .ο ρ h) X) X
 |.sat o f e,ρ,h,K,X=>wE C e ρ h (λv ρ h=>wE C o ρ h (λx ρ h=>∀h',j6 h x f v=some h'->K .ο ρ h') X) X
 |.j5 o f op e,ρ,h,K,X=>wE C o ρ h (λx ρ h=>∀old,iQ h x f=some old->kz old.isList True (wE C e ρ h (λv ρ h=>ve op old v λnew=>∀h',j6 h x f new=some h'->K .ο ρ h') X)) X
 |.aug x op e,ρ,h,K,X=>Ou ρ x λold=>wE C e ρ h (λv ρ h=>ve op old v λnew=>f6 ρ x (.v new) λρ=>K .ο ρ h) X
 |.ex e,ρ,h,K,X=>wE C e ρ h (λ_ ρ h=>K .ο ρ h) X
 |.ifs c t e,ρ,h,K,X=>wE C c ρ h (λx ρ h=>wT x λb=>kz b (wSs C W t ρ h K X) (wSs C W e ρ h K X)) X
 |.bu c b,ρ,h,K,X=>∀r,aO C W c b W ρ h=some r->nN r K X
 |.fU x lo hi b,ρ,h,K,X=>wO C lo ρ h (λl ρ h=>wE C hi ρ h (λu ρ h=>yS l u λl u=>∀r,cy C W x b (gR l u) ρ h=some r->nN r K X) X) X
 |.gO x it b,ρ,h,K,X=>wE C it ρ h (λv ρ h=>∀xs,itemsOf v=some xs->∀r,cy C W x b xs ρ h=some r->nN r K X) X
 |.ret e,ρ,h,K,X=>wE C e ρ h (λv ρ h=>K (.ret v) ρ h) X
 |.cq e,ρ,h,_,X=>wE C e ρ h (λv ρ h=>match v with
  |.obj k=>isObj h .raised (.obj k)=true->X k ρ h
  |_=>True) X
 |.gP x f args y fs,ρ,h,K,X=>wE C (.call f args) ρ h (λv ρ h=>f6 ρ x (.v v) λρ=>K .ο ρ h) (λk ρ h=>f6 ρ y (.v (.obj k)) λρ=>wE C (j9 y fs) ρ h (λv ρ h=>K (.ret v) (ρ.map λ_=>.un) h) X)
 |.brk,ρ,h,K,_=>K .brk ρ h
noncomputable def wSs(C:Δ)(W:Nat):List S->Loc->Hp->(Flow->Loc->Hp->Prop)->(Nat->Loc->Hp->Prop)->Prop
 |[],ρ,h,K,_=>K .ο ρ h
 |s::r,ρ,h,K,X=>wS C W s ρ h (λf ρ h=>nP f ρ h (λρ h=>wSs C W r ρ h K X) K) X
end
section
variable(C:Δ)(W:Nat)
noncomputable def WS(s:S):Prop:=∀{ρ:Loc} {h:Hp} {K:Flow->Loc->Hp->Prop} {X:Nat->Loc->Hp->Prop},Le (pd C W s ρ h) K X->wS C W s ρ h K X
noncomputable def EU(s:List S):Prop:=∀{ρ:Loc} {h:Hp} {K:Flow->Loc->Hp->Prop} {X:Nat->Loc->Hp->Prop},Le (θ C W s ρ h) K X->wSs C W s ρ h K X
theorem Ox{v:V}{ρ:Loc}{h:Hp}{xs:List Nat}{K:Flow->Loc->Hp->Prop}{X:Nat->Loc->Hp->Prop}(H:Le ((up (tZ v λvs=>pa ρ xs vs) ρ h).ζ λρ _ h=>some (.ok .ο ρ h)) K X):ET v ρ xs λρ=>K .ο ρ h:=by
 cases v<;>first|trivial|exact ES λaH q=>(H.ob q).one
theorem Oy{v:V}{ρ:Loc}{h:Hp}{K:Flow->Loc->Hp->Prop}{X:Nat->Loc->Hp->Prop}(H:Le ((up (k7 v λk=>(h[k]?).bind λo=>if o.cls=.raised then some k else Option.none) ρ h).ζ λk ρ h=>some (.ex k ρ h)) K X):match(generalizing:=false) v with
  |.obj k=>isObj h .raised (.obj k)=true->X k ρ h
  |_=>True:=by
 cases v<;>first|trivial|skip
 rename_i k
 intro q
 have q:((h[k]?).any λo=>decide (o.cls=.raised))=true:=q
 have H:Le ((up ((h[k]?).bind λo=>if o.cls=.raised then some k else Option.none) ρ h).ζ λk ρ h=>some (.ex k ρ h)) K X:=H
 cases e:h[k]?with
 |none=>rw[e]at q;exact nomatch q
 |some o=>rw[e]at q H;exact(H.ob (if_pos (of_decide_eq_true q))).exc
theorem Oz(s:S):WS C W s:=S.rec (motive_1:=WS C W) (motive_2:=EU C W)
 (λ_ e _ _ _ _ H=>dY C e (Le.ζ H λ_ _ _ H=>gJ H.one)) (λ_ _ _ _ _ H=>gJ H.one)
 (λ_ e _ _ _ _ H=>dY C e (Le.ζ H λ_ _ _ H=>Ox H)) (λ_ _ a b _ _ _ _ H=>dY C a (Le.ζ H λ_ _ _ H=>dY C b (Le.ζ H λ_ _ _ H=>gJ (gJ H.one))))
 (λo _ e _ _ _ _ H=>dY C e (Le.ζ H λ_ _ _ H=>dY C o (Le.ζ H λ_ _ _ H _ q=>(H.ob q).one)))
 (λo _ _ e _ _ _ _ H=>dY C o (Le.ζ H λ_ _ _ H old q=>nO (λ_=>trivial) λl=>dY C e (Le.ζ ((H.ob q).neg (by rw[l];exact ς)) λ_ _ _ H=>yQ λ_ q _ q'=>((H.ob q).ob q').one)))
 (λ_ _ e _ _ _ _ H=>vg λs q=>match s,q with
  |.un,_=>trivial
  |.own _,_=>trivial
  |.v old,q=>nO (λ_=>trivial) λl=>dY C e (Le.ζ ((H.ob (show valAt _ _=some old by unfold valAt;rw[q];rfl)).neg (by rw[l];exact ς)) λ_ _ _ H=>yQ λ_ q=>gJ (H.ob q).one))
 (λe _ _ _ _ H=>dY C e (Le.ζ H λ_ _ _ H=>H.one))
 (λc _ _ ht he _ _ _ _ H=>dY C c (Le.ζ H λ_ _ _ H=>sL λt e=>nO (λq=>ht (H.br (e.trans (congrArg some q)))) λq=>he (H.br (e.trans (congrArg some q)))))
 (λ_ _ _ _ _ _ _ H=>H)
 (λ_ lo hi _ _ _ _ _ _ H=>Ot C lo (Le.ζ H λ_ _ _ H=>dY C hi (Le.ζ H λ_ _ _ H=>Ow H)))
 (λ_ it _ _ _ _ _ _ H=>dY C it (Le.ζ H λ_ _ _ H _ q=>H.ob q))
 (λe _ _ _ _ H=>dY C e (Le.ζ H λ_ _ _ H=>H.one))
 (λe _ _ _ _ H=>dY C e (Le.ζ H λ_ _ _ H=>Oy H))
 (λ_ f args y fs _ _ _ _ H=>dY C (.call f args) (Le.tr H (λ_ _ _ H=>gJ H.one) λ_ _ _ H=>gJ (dY C (j9 y fs) (Le.ζ H λ_ _ _ H=>H.one))))
 (λH=>H.one) (λH=>H.one)
 (λ_ _ hs hr _ _ _ _ H=>hs (Le.ζ H λf _ _ H=>match f,H with
  |.ο,H=>hr H
  |.brk,H=>H.one
  |.ret _,H=>H.one)) s
theorem nQ:∀(s:List S),EU C W s
 |[],_,_,_,_,H=>H.one
 |s::r,_,_,_,_,H=>Oz C W s (Le.ζ H λf _ _ H=>match f,H with
  |.ο,H=>nQ r H
  |.brk,H=>H.one
  |.ret _,H=>H.one)
end
section
variable(C:Δ)(W:Nat)
noncomputable def GS(b:List S)(ρ:Loc)(h:Hp):Prop:=wSs C W b ρ h (λf aH h'=>θ C W b ρ h=some (.ok f aH h')) λk aH h'=>θ C W b ρ h=some (.ex k aH h')
theorem OA(b:List S)(ρ:Loc)(h:Hp):GS C W b ρ h:=nQ C W b λr e=>by cases r<;>exact e
noncomputable def GE(e:E)(ρ:Loc)(h:Hp):Prop:=wE C e ρ h (λv aH h'=>ν C e ρ h=some (.ok v aH h')) λk aH h'=>ν C e ρ h=some (.ex k aH h')
theorem OB(e:E)(ρ:Loc)(h:Hp):GE C e ρ h:=dY C e λr e=>by cases r<;>exact e
noncomputable def yU(m:Option CR)(f:Flow)(h:Hp):Prop:=match f with
 |.ο=>m=some (.ret .none h)
 |.brk=>True
 |.ret v=>m=some (.ret v h)
noncomputable def GA(b:List S)(ρ:Loc)(h:Hp):Prop:=wSs C W b ρ h (λf _ h'=>yU (π (θ C W b ρ h)) f h') λk _ h'=>π (θ C W b ρ h)=some (.exc k h')
theorem OC(b:List S)(ρ:Loc)(h:Hp):GA C W b ρ h:=nQ C W b λr e=>by
 rcases r with⟨_|_|_,_,_⟩|_<;>first|trivial|(simp only[nN,yU,e];rfl)
theorem EV(pre tl:List S)(ρ:Loc)(h:Hp):θ C W (pre++tl) ρ h=(θ C W pre ρ h).ζ λf ρ h=>yK f (θ C W tl ρ h) ρ h:=by
 induction pre generalizing ρ h with
 |nil=>rw[Ob];rfl
 |cons s r ih=>
  rw[List.cons_append,EM,EM]
  rcases pd C W s ρ h with _|(⟨_|_|_,_,_⟩|_)<;>first|rfl|exact ih _ _
noncomputable def GP(pre tl:List S)(ρ:Loc)(h:Hp):Prop:=wSs C W pre ρ h (λf aH h'=>nP f aH h' (λaH h'=>θ C W (pre++tl) ρ h=θ C W tl aH h') λf aH h'=>θ C W (pre++tl) ρ h=some (.ok f aH h')) λk aH h'=>θ C W (pre++tl) ρ h=some (.ex k aH h')
theorem OD(pre tl:List S)(ρ:Loc)(h:Hp):GP C W pre tl ρ h:=nQ C W pre λr e=>by
 rw[EV,e]
 rcases r with⟨_|_|_,_,_⟩|_<;>rfl
noncomputable def GW(c:E)(b:List S)(n:Nat)(ρ:Loc)(h:Hp):Prop:=wE C c ρ h (λv sM h1=>wT v λt=>kz t
  (wSs C W b sM h1 (λf dj h2=>nP f dj h2 (λdj h2=>aO C W c b (n+1) ρ h=aO C W c b n dj h2) λf dj h2=>nP (match f with|.brk=>.ο|f=>f) dj h2 (λdj h2=>aO C W c b (n+1) ρ h=some (.ok .ο dj h2)) λf dj h2=>aO C W c b (n+1) ρ h=some (.ok f dj h2)) λk dj h2=>aO C W c b (n+1) ρ h=some (.ex k dj h2))
  (aO C W c b (n+1) ρ h=some (.ok .ο sM h1))) λk sM h1=>aO C W c b (n+1) ρ h=some (.ex k sM h1)
theorem OE(c:E)(b:List S)(n:Nat)(ρ:Loc)(h:Hp):GW C W c b n ρ h:=dY C c λr e=>by
 rw[bU,e]
 rcases r with⟨v,sM,h1⟩|_
 ·refine sL λt q=>?_
  cases t
  ·simp only[EL,q];rfl
  ·refine nQ C W b λr e=>?_
   rcases r with⟨_|_|_,_,_⟩|_<;>(simp only[EL,q,N',e];rfl)
 ·rfl
noncomputable def GF(x:Nat)(b:List S)(v:V)(vs:List V)(ρ:Loc)(h:Hp):Prop:=f6 ρ x (.v v) λOF=>wSs C W b OF h
  (λf dj h2=>nP f dj h2 (λdj h2=>cy C W x b (v::vs) ρ h=cy C W x b vs dj h2) λf dj h2=>nP (match f with|.brk=>.ο|f=>f) dj h2 (λdj h2=>cy C W x b (v::vs) ρ h=some (.ok .ο dj h2)) λf dj h2=>cy C W x b (v::vs) ρ h=some (.ok f dj h2)) λk dj h2=>cy C W x b (v::vs) ρ h=some (.ex k dj h2)
theorem OG(x:Nat)(b:List S)(v:V)(vs:List V)(ρ:Loc)(h:Hp):GF C W x b v vs ρ h:=gJ (nQ C W b λr e=>by
 rw[nL,e]
 rcases r with⟨_|_|_,_,_⟩|_<;>rfl)
end
section
variable{C:Δ}{W:Nat}{b:List S}{ρ:Loc}{h:Hp}
theorem ga{r:Option CR}(f:GA C W b ρ h->π (θ C W b ρ h)=r):π (θ C W b ρ h)=r:=f (OC C W b ρ h)
theorem gs{r:M Flow}(f:GS C W b ρ h->θ C W b ρ h=r):θ C W b ρ h=r:=f (OA C W b ρ h)
theorem ge{e:E}{r:M V}(f:GE C e ρ h->ν C e ρ h=r):ν C e ρ h=r:=f (OB C e ρ h)
theorem gp{tl:List S}{r:M Flow}(f:GP C W b tl ρ h->θ C W (b++tl) ρ h=r):θ C W (b++tl) ρ h=r:=f (OD C W b tl ρ h)
theorem gw{c:E}{n:Nat}{r:M Flow}(f:GW C W c b n ρ h->aO C W c b (n+1) ρ h=r):aO C W c b (n+1) ρ h=r:=f (OE C W c b n ρ h)
theorem gf{x:Nat}{v:V}{vs:List V}{r:M Flow}(f:GF C W x b v vs ρ h->cy C W x b (v::vs) ρ h=r):cy C W x b (v::vs) ρ h=r:=f (OG C W x b v vs ρ h)
end
theorem sT{a b:List Nat}(h:a=b):(a==b)=true:=by simp[h]
theorem sF{a b:List Nat}(h:¬a=b):(a==b)=false:=by simp[h]
theorem iT{a b:Int}(h:a=b):(a==b)=true:=by simp[h]
theorem iF{a b:Int}(h:¬a=b):(a==b)=false:=by simp[h]
theorem dT{p:Prop}[Decidable p](h:p):decide p=true:=decide_eq_true h
theorem dF{p:Prop}[Decidable p](h:¬p):decide p=false:=decide_eq_false h
theorem b8{b:Bool}(h:b=false):(!b)=true:=by rw[h];rfl
theorem dZ{b:Bool}(h:b=true):(!b)=false:=by rw[h];rfl
theorem ψ{s:List Nat}{vs:List V}(h:dS et vs=true):aY .aj (.str s) (.tup vs)=some (vs.any λy=>y.eqv (.str s)):=by rw[Oe,EN,h];rfl
theorem i4{s:List Nat}{vs:List V}(h:dS et vs=true):aY .fN (.str s) (.tup vs)=some (!vs.any λy=>y.eqv (.str s)):=by rw[Of,EN,h];rfl
theorem oF{a b:Bool}(h:a=false)(k:b=false):(a||b)=false:=by rw[h,k];rfl
theorem oT{a b:Bool}(h:a=true):(a||b)=true:=by rw[h];rfl
theorem lJ{a b:Bool}(h:b=true):(a||b)=true:=by rw[h];cases a<;>rfl
theorem aF{a b:Bool}(h:a=false):(a&&b)=false:=by rw[h];rfl
theorem eP{a b:Bool}(h:b=false):(a&&b)=false:=by rw[h];cases a<;>rfl
theorem aT{a b:Bool}(h:a=true)(k:b=true):(a&&b)=true:=by rw[h,k];rfl
theorem eT{a b:List Nat}(h:a=b):V.eqv (.str a) (.str b)=true:=by simp[h]
theorem eF{a b:List Nat}(h:¬a=b):V.eqv (.str a) (.str b)=false:=by simp[h]
theorem hX{a b:List Nat}(h:¬b=a):V.eqv (.str a) (.str b)=false:=eF λq=>h q.symm
section
variable{C:Δ}{W:Nat}{b:List S}{ρ:Loc}{h:Hp}
noncomputable def GQ(C:Δ)(W:Nat)(b tl:List S)(ρ:Loc)(h:Hp):Prop:=wSs C W b ρ h (λf aH h'=>nP f aH h' (λaH h'=>π (θ C W (b++tl) ρ h)=π (θ C W tl aH h')) λf _ h'=>yU (π (θ C W (b++tl) ρ h)) f h') λk _ h'=>π (θ C W (b++tl) ρ h)=some (.exc k h')
theorem OH(b tl:List S)(ρ:Loc)(h:Hp):GQ C W b tl ρ h:=nQ C W b λr e=>by
 rw[show θ C W (b++tl) ρ h=(θ C W b ρ h).ζ λf ρ h=>yK f (θ C W tl ρ h) ρ h from EV C W b tl ρ h,e]
 rcases r with⟨_|_|_,_,_⟩|_<;>first|rfl|trivial
theorem gq{tl:List S}{r:Option CR}(f:GQ C W b tl ρ h->π (θ C W (b++tl) ρ h)=r):π (θ C W (b++tl) ρ h)=r:=f (OH b tl ρ h)
end
theorem cF{c d:Nat}(h:¬c=d):([c]==[d])=false:=sF λe=>h (List.cons.inj e).1
theorem pQ{c d:Nat}(h:¬d=c):([c]==[d])=false:=cF λe=>h e.symm
theorem cT{c d:Nat}(h:c=d):([c]==[d])=true:=sT (congrArg (λx=>[x]) h)
theorem EW{c d e:Nat}{r:List Nat}(h:¬c=d):((c::r).take 2==[d,e])=false:=sF λq=>h (List.cons.inj q).1
theorem pR{c:Nat}{L:List Nat}(h:c∉L):((L.map λd=>V.str [d]).any λy=>y.eqv (.str [c]))=false:=by
 rw[List.any_map,List.any_eq_false]
 exact λd m=>by rw[Function.comp,eF (by rintro ⟨⟩;exact h m)];exact ς
section
variable{C:Δ}{W:Nat}{ρ:Loc}{h h':Hp}{a c:E}{r:List E}{x y:Bool}{E:E}{rest:List S}{v:V}
theorem bA{e:Mine.E}(ha:ν C a ρ h=some (.ok (.bool x) ρ h))(hr:x=true->evalAnd C (e::r) ρ h=some (.ok (.bool y) ρ h)):evalAnd C (a::e::r) ρ h=some (.ok (.bool (x&&y)) ρ h):=by
 show M.ζ (ν C a ρ h) _=_
 rw[ha];cases x
 ·rfl
 ·exact hr rfl
theorem vh{e:Mine.E}(ha:ν C a ρ h=some (.ok (.bool false) ρ h)):evalAnd C (a::e::r) ρ h=some (.ok (.bool false) ρ h):=by
 show M.ζ (ν C a ρ h) _=_
 rw[ha];rfl
theorem gK{e:Mine.E}(ha:ν C a ρ h=some (.ok (.bool x) ρ h))(hr:x=false->evalOr C (e::r) ρ h=some (.ok (.bool y) ρ h)):evalOr C (a::e::r) ρ h=some (.ok (.bool (x||y)) ρ h):=by
 show M.ζ (ν C a ρ h) _=_
 rw[ha];cases x
 ·exact hr rfl
 ·rfl
theorem bO{es:List Mine.E}(ha:evalAnd C es ρ h=some (.ok (.bool x) ρ h)):ν C (.and es) ρ h=some (.ok (.bool x) ρ h):=ha
theorem gU{es:List Mine.E}(ha:evalOr C es ρ h=some (.ok (.bool x) ρ h)):ν C (.or es) ρ h=some (.ok (.bool x) ρ h):=ha
theorem cP(hc:ν C c ρ h=some (.ok (.bool x) ρ h))(hE:x=true->ν C E ρ h=some (.ok v ρ h')):π (θ C W (.ifs c [.ret E] []::rest) ρ h)=bif x then some (.ret v h')else π (θ C W rest ρ h):=by
 show π (M.ζ (M.ζ (ν C c ρ h) _) _)=_
 rw[hc];cases x
 ·rfl
 ·show π (M.ζ (M.ζ (M.ζ (ν C E ρ h) _) _) _)=_
  rw[hE rfl];rfl
theorem nR(hE:ν C E ρ h=some (.ok v ρ h')):π (θ C W [.ret E] ρ h)=some (.ret v h'):=by
 show π (M.ζ (M.ζ (ν C E ρ h) _) _)=_
 rw[hE];rfl
end
theorem kB{C:Δ}{ρ:Loc}{h h':Hp}{x:Nat}{e:E}{v:V}{r:List S}(he:ν C e ρ h=some (.ok v ρ h')):π (θ C W (.asg x e::r) ρ h)=π (θ C W r (ρ.set x (.v v)) h'):=by
 show π (M.ζ (M.ζ (ν C e ρ h) _) _)=_
 rw[he];rfl
noncomputable def lM(s:List S)(i:Nat):List S:=match s.getD i .brk with
 |.fU _ _ _ b=>b
 |.gO _ _ b=>b
 |.bu _ b=>b
 |_=>[]
end
set_option maxHeartbeats 4000000
noncomputable def ey(c:Nat):Bool:=32==c||(9==c||(10==c||(11==c||(12==c||13==c))))
theorem yV{W:Nat}{h:Hp}(c:Nat):Gives 1 W .isBlank [.str [c]] h (.ret (.bool (ey c)) h):=by
 refine ak λD _=>?_
 rw[ω (ρ:=[.v (.str [c])]) rfl]
 exact ga λκ=>(κ _ (ψ rfl)).trans (by simp[ey])
noncomputable def aL(c:Nat):Int:=if 48<=c∧c<=57 then(c:Int) - 48 else if 97<=c∧c<=122 then(c:Int) - 87 else if 65<=c∧c<=90 then(c:Int) - 55 else -1
theorem vi{W:Nat}{h:Hp}(c:Nat):Gives 1 W .digit [.str [c]] h (.ret (.int (aL c)) h):=by
 refine ak λD _=>?_
 rw[ω (ρ:=[.v (.str [c]),.un]) rfl]
 unfold aL
 by_cases h1:48<=c
 ·by_cases h2:c<=57
  ·rw[if_pos ⟨h1,h2⟩]
   exact ga λκ=>κ _ rfl _ rfl _ rfl _ rfl _ rfl _ (dT (by exact fK (aK.mpr h1) (by simp+arith))) _ rfl _ (dT (by exact fK (aK.mpr h2) (by simp+arith)))
  ·rw[if_neg (λq=>h2 q.2)]
   by_cases h3:97<=c
   ·by_cases h4:c<=122
    ·rw[if_pos ⟨h3,h4⟩]
     exact ga λκ=>κ _ rfl _ rfl _ rfl _ rfl _ rfl _ (dT (by exact fK (aK.mpr h3) (by simp+arith))) _ rfl _ (dF (by exact λκ=>eo κ (aK.mpr h3) (by simp+arith))) _ rfl _ (dT (by exact fK (aK.mpr h3) (by simp+arith))) _ rfl _ (dT (by exact fK (aK.mpr h4) (by simp+arith)))
    ·have h5:¬c<=90:=λq=>h4 (η q (by decide))
     rw[if_neg (λq=>h4 q.2),if_neg (λq=>h5 q.2)]
     exact ga λκ=>κ _ rfl _ rfl _ rfl _ rfl _ rfl _ (dT (by exact fK (aK.mpr (fh h4)) (by simp+arith))) _ rfl _ (dF (by exact λκ=>eo κ (aK.mpr (fh h4)) (by simp+arith))) _ rfl _ (dT (by exact fK (aK.mpr (fh h4)) (by simp+arith))) _ rfl _ (dF (by exact λκ=>eo κ (aK.mpr (fh h4)) (by simp+arith))) _ rfl _ (dT (by exact fK (aK.mpr (fh h4)) (by simp+arith))) _ rfl _ (dF (by exact λκ=>eo κ (aK.mpr (fh h4)) (by simp+arith)))
   ·rw[if_neg (λq=>h3 q.1)]
    by_cases h5:65<=c
    ·by_cases h6:c<=90
     ·rw[if_pos ⟨h5,h6⟩]
      exact ga λκ=>κ _ rfl _ rfl _ rfl _ rfl _ rfl _ (dT (by exact fK (aK.mpr h5) (by simp+arith))) _ rfl _ (dF (by exact λκ=>eo κ (aK.mpr h5) (by simp+arith))) _ rfl _ (dF (by exact λκ=>eo κ (aK.mpr h6) (by simp+arith))) _ rfl _ rfl _ (dT (by exact fK (aK.mpr h5) (by simp+arith))) _ rfl _ (dT (by exact fK (aK.mpr h6) (by simp+arith)))
     ·rw[if_neg (λq=>h6 q.2)]
      exact ga λκ=>κ _ rfl _ rfl _ rfl _ rfl _ rfl _ (dT (by exact fK (aK.mpr h5) (by simp+arith))) _ rfl _ (dF (by exact λκ=>eo κ (aK.mpr h5) (by simp+arith))) _ rfl _ (dF (by exact λκ=>eo κ (aK.mpr (fh h3)) (by simp+arith))) _ rfl _ rfl _ (dT (by exact fK (aK.mpr h5) (by simp+arith))) _ rfl _ (dF (by exact λκ=>eo κ (aK.mpr (fh h6)) (by simp+arith)))
    ·rw[if_neg (λq=>h5 q.1)]
     exact ga λκ=>κ _ rfl _ rfl _ rfl _ rfl _ rfl _ (dT (by exact fK (aK.mpr (fh h2)) (by simp+arith))) _ rfl _ (dF (by exact λκ=>eo κ (aK.mpr (fh h2)) (by simp+arith))) _ rfl _ (dF (by exact λκ=>eo κ (aK.mpr (fh h3)) (by simp+arith))) _ rfl _ rfl _ (dF (by exact λκ=>eo κ (aK.mpr (fh h5)) (by simp+arith))) _ rfl
 ·have h3:¬97<=c:=λq=>h1 (η (by decide) q)
  have h5:¬65<=c:=λq=>h1 (η (by decide) q)
  rw[if_neg (λq=>h1 q.1),if_neg (λq=>h3 q.1),if_neg (λq=>h5 q.1)]
  exact ga λκ=>κ _ rfl _ rfl _ rfl _ rfl _ rfl _ (dF (by exact λκ=>eo κ (aK.mpr (fh h1)) (by simp+arith))) _ rfl _ rfl _ (dF (by exact λκ=>eo κ (aK.mpr (fh h1)) (by simp+arith))) _ rfl _ rfl _ (dF (by exact λκ=>eo κ (aK.mpr (fh h1)) (by simp+arith))) _ rfl
noncomputable def aU(s:List Nat):Int:=if s=[120]∨s=[88]then 16 else if s=[111]∨s=[79]then 8 else if s=[98]∨s=[66]then 2 else if s=[100]∨s=[68]then 10 else 0
theorem EX{W:Nat}{h:Hp}(s:List Nat):Gives 1 W .baseOf [.str s] h (.ret (.int (aU s)) h):=by
 refine ak λD _=>?_
 rw[ω (ρ:=[.v (.str s)]) rfl]
 by_cases a1:s=[120]
 ·subst a1;exact ga λκ=>κ _ (ψ rfl) _ rfl
 by_cases a2:s=[88]
 ·subst a2;exact ga λκ=>κ _ (ψ rfl) _ rfl
 by_cases a3:s=[111]
 ·subst a3;exact ga λκ=>κ _ (ψ rfl) _ rfl _ (ψ rfl) _ rfl
 by_cases a4:s=[79]
 ·subst a4;exact ga λκ=>κ _ (ψ rfl) _ rfl _ (ψ rfl) _ rfl
 by_cases a5:s=[98]
 ·subst a5;exact ga λκ=>κ _ (ψ rfl) _ rfl _ (ψ rfl) _ rfl _ (ψ rfl) _ rfl
 by_cases a6:s=[66]
 ·subst a6;exact ga λκ=>κ _ (ψ rfl) _ rfl _ (ψ rfl) _ rfl _ (ψ rfl) _ rfl
 by_cases a7:s=[100]
 ·subst a7;exact ga λκ=>κ _ (ψ rfl) _ rfl _ (ψ rfl) _ rfl _ (ψ rfl) _ rfl _ (ψ rfl) _ rfl
 by_cases a8:s=[68]
 ·subst a8;exact ga λκ=>κ _ (ψ rfl) _ rfl _ (ψ rfl) _ rfl _ (ψ rfl) _ rfl _ (ψ rfl) _ rfl
 rw[aU,if_neg (λq=>q.elim a1 a2),if_neg (λq=>q.elim a3 a4),if_neg (λq=>q.elim a5 a6),if_neg (λq=>q.elim a7 a8)]
 exact ga λκ=>κ _ (ψ rfl) _ (oF (hX a1) (oF (hX a2) rfl)) _ (ψ rfl) _ (oF (hX a3) (oF (hX a4) rfl)) _ (ψ rfl) _ (oF (hX a5) (oF (hX a6) rfl)) _ (ψ rfl) _ (oF (hX a7) (oF (hX a8) rfl))
noncomputable def i5(base:Int):List Nat->Int->Option Int
 |[],v=>some v
 |c::r,v=>if aL c<0∨base<=aL c then none else i5 base r (v*base+aL c)
theorem EY{W:Nat}{h:Hp}{D:Nat}{text:V}{base:Int}(hD:1<=D)(hb:eL base=true):∀(s:List Nat) (v:Int) (a b:Slot),
  (∀w,i5 base s v=some w->∃a' b',cy (ι prog W D) W 3 [.asg 4 (.call .digit [(.loc 3)]),.ifs (.or [(.cmp .lt (.loc 4) (.int 0)),(.cmp .ge (.loc 4) (.loc 1))]) [.ret .none] [],.asg 2 (.bin .add (.bin .mul (.loc 2) (.loc 1)) (.loc 4))] (s.map λc=>V.str [c]) [.v text,.v (.int base),.v (.int v),a,b] h=
   some (.ok .ο [.v text,.v (.int base),.v (.int w),a',b'] h))∧
  (i5 base s v=none->∃aH,cy (ι prog W D) W 3 [.asg 4 (.call .digit [(.loc 3)]),.ifs (.or [(.cmp .lt (.loc 4) (.int 0)),(.cmp .ge (.loc 4) (.loc 1))]) [.ret .none] [],.asg 2 (.bin .add (.bin .mul (.loc 2) (.loc 1)) (.loc 4))] (s.map λc=>V.str [c]) [.v text,.v (.int base),.v (.int v),a,b] h=
   some (.ok (.ret .none) aH h))
 |[],v,a,b=>⟨λw e=>⟨a,b,by simp[i5]at e;subst e;exact Oc⟩,λe=>by trivial⟩
 |c::s,v,a,b=>by
  have hd:=vi (W:=W) (h:=h) c D hD
  by_cases hn:aL c<0∨base<=aL c
  ·refine⟨λw e=>by simp[i5,hn]at e,λ_=>?_⟩
   refine⟨[.v text,.v (.int base),.v (.int v),.v (.str [c]),.v (.int (aL c))],?_⟩
   by_cases h1:aL c<0
   ·exact gf λκ=>κ _ hd _ rfl _ (dT h1) _ (dT h1)
   ·have h2:=hn.resolve_left h1
    exact gf λκ=>κ _ hd _ rfl _ (dF h1) _ rfl _ (dT h2)
  ·have jB:=not_or.mp hn
   obtain⟨i1,i2⟩:=EY (W:=W) (h:=h) (text:=text) hD hb s (v*base+aL c) (.v (.str [c])) (.v (.int (aL c)))
   refine⟨λw e=>?_,λe=>?_⟩
   ·obtain⟨a',b',q⟩:=i1 w (by simpa[i5,hn] using e)
    refine⟨a',b',?_⟩
    exact gf λκ=>(κ _ hd _ rfl _ (dF jB.1) _ rfl _ (dF jB.2) (V.int (v*base)) (by simp[hb])).trans q
   ·obtain⟨aH,q⟩:=i2 (by simpa[i5,hn] using e)
    refine⟨aH,?_⟩
    exact gf λκ=>(κ _ hd _ rfl _ (dF jB.1) _ rfl _ (dF jB.2) (V.int (v*base)) (by simp[hb])).trans q
noncomputable def digitsVal(s:List Nat)(base:Int):Option Int:=if s=[]then none else i5 base s 0
noncomputable def lN:Option Int->V
 |some i=>.int i
 |none=>.none
theorem yW{W:Nat}{h:Hp}(s:List Nat)(base:Int)(hb:eL base=true):Gives 2 W .digitsValue [.str s,.int base] h (.ret (lN (digitsVal s base)) h):=by
 refine ak λD hD=>?_
 rw[ω (ρ:=[.v (.str s),.v (.int base),.un,.un,.un]) rfl]
 by_cases he:s=[]
 ·subst he
  exact ga λκ=>κ _ rfl _ rfl
 ·obtain⟨i1,i2⟩:=EY (W:=W) (h:=h) (D:=D) (text:=.str s) hD hb s 0 .un .un
  have e1:itemsOf (.str s)=some (s.map λc=>V.str [c]):=rfl
  cases hq:i5 base s 0 with
  |none=>
   obtain⟨aH,q⟩:=i2 hq
   exact ga λκ=>(κ _ rfl _ (sF he) _ e1 _ q).trans (by simp[Prog.digitsValue,digitsVal,lN,he,hq,e1,q])
  |some w=>
   obtain⟨a',b',q⟩:=i1 w hq
   exact ga λκ=>(κ _ rfl _ (sF he) _ e1 _ q).trans (by simp[Prog.digitsValue,digitsVal,lN,he,hq,e1,q])
theorem pS{x n:Nat}(h:x<n):PySem.seqIndex? (x:Int) n=some x:=by
 unfold PySem.seqIndex?
 rw[if_neg (Int.not_ofNat_neg x)]
 exact if_pos (bD.mpr ⟨decide_eq_true (eC _),decide_eq_true (cJ.mpr h)⟩)
theorem nU{α:Type}{t:List α}{a:Nat}{c:α}{r:List α}(e:t.drop a=c::r):t[a]?=some c:=(List.getElem?_drop (xs:=t) (i:=a) (j:=0)).symm.trans (congrArg (·[0]?) e)
theorem yX{α:Type}{t:List α}{a:Nat}{c:α}{r:List α}(e:t.drop a=c::r):a<t.length:=(ej.mp (nU e)).1
theorem ag{t:List Nat}{a c:Nat}{r:List Nat}(e:t.drop a=c::r):υ (.str t) (.int (a:Int))=some (.str [c]):=by
 show(PySem.seqIndex? (a:Int) t.length).bind _=_
 rw[pS (yX e)]
 exact congrArg (Option.map _) (nU e)
theorem pT(x n:Nat):PySem.clipAt n (x:Int)=min x n:=by
 unfold PySem.clipAt
 rw[if_neg (Int.not_ofNat_neg x)]
 rcases Nat.le_total x n with h|h
 ·rw[Int.min_eq_left (aK.mpr h),fH h,Int.max_eq_right (eC _)];rfl
 ·rw[Int.min_eq_right (aK.mpr h),Nat.min_eq_right h,Int.max_eq_right (eC _)];rfl
theorem OI(t:List Nat)(a b:Nat):(t.drop (min a t.length)).take (min b t.length - min a t.length)=(t.drop a).take (b - a):=by
 rcases Nat.le_total t.length a with h|h
 ·rw[Nat.min_eq_right h,kU (ξ _),kU h,List.take_nil,List.take_nil]
 ·rw[fH h]
  rcases Nat.le_total b t.length with h2|h2
  ·rw[fH h2]
  ·rw[Nat.min_eq_right h2,jU (Ψ cY),jU (cY▸Nat.sub_le_sub_right h2 a)]
theorem dk(t:List Nat)(a b:Nat):bG (.str t) (some (.int (a:Int))) (some (.int (b:Int)))=some (.str ((t.drop a).take (b - a))):=by
 rw[<-OI,<-pT,<-pT];rfl
theorem aJ{α:Type}{t:List α}{a:Nat}{c:α}{r:List α}(e:t.drop a=c::r):(a:Int)<(t.length:Int):=cJ.mpr (yX e)
theorem hY{α:Type}{t:List α}{a:Nat}(e:t.drop a=[]):¬(a:Int)<(t.length:Int):=Int.not_lt.mpr (aK.mpr (List.drop_eq_nil_iff.mp e))
theorem aV{α:Type}{t:List α}{a:Nat}{c:α}{r:List α}(e:t.drop a=c::r):t.drop (a+1)=r:=by
 rw[<-cA,e];rfl
noncomputable def Ξ(base:Int):List Nat->Bool
 |[]=>false
 |c::_=>decide (0<=aL c∧aL c<base)
theorem kC{W:Nat}{h:Hp}(t:List Nat)(a:Nat)(base:Int):Gives 2 W .isDigit [.str t,.int a,.int base] h (.ret (.bool (Ξ base (t.drop a))) h):=ak λD hD=>by
 rw[ω (ρ:=[.v (.str t),.v (.int a),.v (.int base)]) rfl]
 cases e:t.drop a with
 |nil=>exact ga λκ=>(κ _ rfl _ rfl _ (dF (hY e))).trans (congrArg (λb=>some (CR.ret (.bool b) h)) (dF (hY e)))
 |cons c r=>
  have hd:=vi (W:=W) (h:=h) c D hD
  by_cases h1:0<=aL c
  ·exact ga λκ=>(κ _ rfl _ rfl _ (dT (aJ e)) _ (ag e) _ hd _ rfl _ (dT h1) _ rfl).trans (congrArg (λb=>some (CR.ret (.bool b) h)) (by rw[Ξ,Bool.decide_and,dT h1];rfl))
  ·exact ga λκ=>(κ _ rfl _ rfl _ (dT (aJ e)) _ (ag e) _ hd _ rfl _ (dF h1)).trans (congrArg (λb=>some (CR.ret (.bool b) h)) (by rw[Ξ,Bool.decide_and,dF h1];rfl))
noncomputable def au(c:Nat):Bool:=c==95||decide (0<=aL c)
noncomputable def runN:List Nat->Nat
 |[]=>0
 |[c]=>if au c then 1 else 0
 |c::d::r=>if au c then 1+runN (d::r)else if c=58∧d=58 then 2+runN r else 0
theorem OJ(c:Nat):aL c<36:=by unfold aL;split;omega;split;omega;split<;>(first|exact eC _|omega)
theorem EZ(c:Nat)(r:List Nat):Ξ 36 (c::r)=decide (0<=aL c):=by
 have:=OJ c
 simp[Ξ];omega
theorem OK{c:Nat}(h:c=95):au c=true:=by rw[h];rfl
theorem E0{c:Nat}(h:¬c=95):au c=decide (0<=aL c):=by unfold au;rw[beq_eq_false_iff_ne.mpr h];rfl
theorem cQ{c:Nat}(r:List Nat)(h:au c=true):runN (c::r)=runN r+1:=by
 cases r with
 |nil=>exact if_pos h
 |cons=>exact(if_pos h).trans (aQ ..)
theorem jI{c d:Nat}(r:List Nat)(h:au c=false):runN (c::d::r)=if c=58∧d=58 then 2+runN r else 0:=if_neg (by rw[h];exact ς)
theorem yY{W D:Nat}{h:Hp}{t:List Nat}(hD:2<=D):∀(n a:Nat) (l:List Nat),t.drop a=l->l.length<n->
  aO (ι prog W D) W (.cmp .lt (.loc 1) (.bi .len (.loc 0))) [.ifs (.or [(.cmp .eq (.sub (.loc 0) (.loc 1)) (.str [95])),(.call .isDigit [(.loc 0),(.loc 1),(.int 36)])]) [.aug 1 .add (.int 1)] [.ifs (.cmp .eq (.ae (.loc 0) (some (.loc 1)) (some (.bin .add (.loc 1) (.int 2)))) (.str [58,58])) [.aug 1 .add (.int 2)] [.brk]]] n [.v (.str t),.v (.int a)] h=
   some (.ok .ο [.v (.str t),.v (.int ((a+runN l:Nat):Int))] h)
 |n+1,a,[],e,_=>gw λκ=>κ _ rfl _ rfl _ (dF (hY e))
 |n+1,a,c::r,e,hn=>by
  have hd:=kC (W:=W) (h:=h) t a 36 D hD
  have hs:=dk t a (a+2)
  rw[dN,e]at hs
  rw[e,EZ]at hd
  have ih:=yY (W:=W) (h:=h) hD n (a+1) r (aV e) (fi hn)
  have up:∀{k:Nat},k=runN r+1->(((a+1+runN r:Nat):Int))=((a+k:Nat):Int):=λq=>congrArg Nat.cast (by rw[q];exact Nat.succ_add_eq_add_succ ..)
  by_cases lO:c=95
  ·rw[<-up (cQ r (OK lO))]
   exact gw λκ=>(κ _ rfl _ rfl _ (dT (aJ e)) _ (ag e) _ rfl _ (cT lO) _ (cT lO)).trans ih
  ·by_cases h0:0<=aL c
   ·rw[<-up (cQ r ((E0 lO).trans (dT h0)))]
    exact gw λκ=>(κ _ rfl _ rfl _ (dT (aJ e)) _ (ag e) _ rfl _ (cF lO) _ hd _ (dT h0)).trans ih
   ·have hw:au c=false:=(E0 lO).trans (dF h0)
    have no:∀{b},(([c]++r).take 2==[58,58])=b->b=false->runN (c::r)=0->aO (ι prog W D) W (.cmp .lt (.loc 1) (.bi .len (.loc 0))) [.ifs (.or [(.cmp .eq (.sub (.loc 0) (.loc 1)) (.str [95])),(.call .isDigit [(.loc 0),(.loc 1),(.int 36)])]) [.aug 1 .add (.int 1)] [.ifs (.cmp .eq (.ae (.loc 0) (some (.loc 1)) (some (.bin .add (.loc 1) (.int 2)))) (.str [58,58])) [.aug 1 .add (.int 2)] [.brk]]] (n+1) [.v (.str t),.v (.int a)] h=
   some (.ok .ο [.v (.str t),.v (.int ((a+runN (c::r):Nat):Int))] h):=λq qb q0=>by
     rw[q0]
     exact gw λκ=>κ _ rfl _ rfl _ (dT (aJ e)) _ (ag e) _ rfl _ (cF lO) _ hd _ (dF h0) _ hs _ rfl _ (q.trans qb)
    cases r with
    |nil=>exact no (sF λq=>nomatch (List.cons.inj q).2) rfl (if_neg (by rw[hw];exact ς))
    |cons d r=>
     by_cases h8:c=58∧d=58
     ·have i2:=yY (W:=W) (h:=h) hD n (a+2) r (aV (aV e)) (Nat.lt_of_succ_lt (fi hn))
      rw[(jI r hw).trans (if_pos h8),<-aA]
      exact gw λκ=>(κ _ rfl _ rfl _ (dT (aJ e)) _ (ag e) _ rfl _ (cF lO) _ hd _ (dF h0) _ hs _ rfl _ (sT (by rw[h8.1,h8.2];rfl))).trans i2
     ·exact no rfl (sF λq=>h8 ⟨(List.cons.inj q).1,(List.cons.inj (List.cons.inj q).2).1⟩) ((jI r hw).trans (if_neg h8))
theorem E6{W:Nat}{h:Hp}(t:List Nat)(a:Nat)(hW:t.length<W):Gives 3 W .runEnd [.str t,.int a] h (.ret (.int ((a+runN (t.drop a):Nat):Int)) h):=ak λD hD=>by
 rw[ω (ρ:=[.v (.str t),.v (.int a)]) rfl]
 exact ga λκ=>κ _ (yY hD W a _ rfl (aX (by rw[cY];exact Nat.sub_le ..) hW))
noncomputable def vj(code value mE:V):O:=⟨.raised,[(.code,code),(.value,value),(.mE,mE),(.level,.int 0),(.ret,.int 0),(.info,.str []),(.tR,.bool false),(.line,.int 0),(.extra,.list [])]⟩
theorem yZ(h:Hp)(o:O):(h++[o])[h.length]?=some o:=List.getElem?_concat_length ..
theorem OL(h:Hp)(o o':O):(h++[o]).set h.length o'=h++[o']:=(List.set_append_right _ _ (ξ _)).trans (by rw[Nat.sub_self];rfl)
theorem eQ(h:Hp)(c:c_)(fs:List (ay×V))(f:ay)(x:V):j6 (h++[⟨c,fs⟩]) (.obj h.length) f x=if gD c f then some (h++[⟨c,iP f x fs⟩])else Option.none:=by
 show((h++[(⟨c,fs⟩:O)])[h.length]?).bind _=_
 rw[yZ]
 show(if _ then some ((h++[(⟨c,fs⟩:O)]).set h.length _)else _)=_
 rw[OL]
theorem sN(h:Hp)(c:c_)(fs:List (ay×V))(f:ay):iQ (h++[⟨c,fs⟩]) (.obj h.length) f=if gD c f then jm f fs else Option.none:=congrArg (λo:Option O=>o.bind _) (yZ ..)
theorem lP(h:Hp)(o:O)(c:c_):isObj (h++[o]) c (.obj h.length)=decide (o.cls=c):=congrArg (λo:Option O=>o.any _) (yZ ..)
theorem OM{W:Nat}{h:Hp}(c v e:V):Gives 1 W .iH [.obj h.length,c,v,e] (h++[⟨.raised,[]⟩]) (.ret .none (h++[vj c v e])):=ak λD hD=>by
 rw[ω (ρ:=[.v (.obj h.length),.v c,.v v,.v e,.v (.int 0),.v (.int 0)]) rfl]
 exact ga λκ=>κ (lP ..) _ (eQ _ _ _ _ _) _ (eQ _ _ _ _ _) _ (eQ _ _ _ _ _) _ (eQ _ _ _ _ _) _ (eQ _ _ _ _ _) _ (eQ _ _ _ _ _) _ (eQ _ _ _ _ _) _ (eQ _ _ _ _ _) _ (eQ _ _ _ _ _)
theorem ON{W:Nat}{h:Hp}(v e:V):Gives 2 W .error [v,e] h (.ret (.obj h.length) (h++[vj (.int 1) v e])):=by
 refine ak λD hD=>?_
 rw[ω (ρ:=[.v v,.v e]) rfl]
 have:=OM (W:=W) (h:=h) (.int 1) v e D hD
 exact ga λκ=>κ _ this
noncomputable def cE(aR text:List Nat):List Nat:=aR++[10,105,110,32,101,120,112,114,101,115,115,105,111,110,32,34]++text++[34]
noncomputable def vk:V:=.tup [.str [84,67,76],.str [80,65,82,83,69],.str [69,88,80,82]]
noncomputable def lQ(aR text:List Nat):O:=vj (.int 1) (.str (cE aR text)) vk
theorem cR{s:List Nat}(h:s.length<=af):bS s=some (.str s):=by unfold bS;rw[if_pos h]
theorem av{α:Type}{a b:List α}{n:Nat}(h:(a++b).length<=n):a.length<=n:=η (by rw[Θ];exact aP ..) h
theorem vm{W:Nat}{h:Hp}(text aR:List Nat)(a:V)(hl:aR.length+text.length<=900000):Gives 3 W .hG [.str text,a,.str aR] h (.ret (.obj h.length) (h++[lQ aR text])):=ak λD hD=>by
 rw[ω (ρ:=[.v (.str text),.v a,.v (.str aR)]) rfl]
 have l:(cE aR text).length<=af:=by
  unfold cE af
  rw[Θ,Θ,Θ]
  exact bK hl (by simp+arith)
 exact ga λκ=>κ _ (cR (av (av l))) _ (cR (av l)) _ (cR l) _ (ON (W:=W) (h:=h) (.str (cE aR text)) vk D hD)
theorem lS(t:List Nat)(a:Nat):bG (.str t) Option.none (some (.int (a:Int)))=some (.str (t.take a)):=(by
 show some (V.str ((t.drop 0).take (PySem.clipAt t.length a - 0)))=_
 rw[pT,Nat.sub_zero,List.drop_zero,<-List.take_eq_take_min])
theorem y2(t:List Nat)(a:Nat):bG (.str t) (some (.int (a:Int))) Option.none=some (.str (t.drop a)):=by
 show some (V.str ((t.drop (PySem.clipAt t.length a)).take (t.length - PySem.clipAt t.length a)))=_
 rw[jU (Ψ cY),pT]
 rcases Nat.le_total a t.length with h|h
 ·rw[fH h]
 ·rw[Nat.min_eq_right h,kU (ξ _),kU h]
noncomputable def marked(t:List Nat)(a:Nat):List Nat:=t.take a++[95,64,95]++t.drop a
theorem OO{W:Nat}{h:Hp}(t aR:List Nat)(a:Nat)(hl:aR.length+t.length<=800000):Gives 4 W .tS [.str t,.int a,.str aR] h (.ret (.obj h.length) (h++[lQ aR (marked t a)])):=ak λD hD=>by
 rw[ω (ρ:=[.v (.str t),.v (.int a),.v (.str aR)]) rfl]
 have lm:(marked t a).length=t.length+3:=by
  unfold marked
  rw[Θ,Θ,iG,<-Θ,fJ];rfl
 have l:(marked t a).length<=af:=by rw[lm];unfold af;exact bK hl (by simp+arith)
 exact ga λκ=>κ _ (lS _ _) _ (cR (av l)) _ (y2 _ _) _ (cR l) _ (vm (W:=W) (h:=h) (marked t a) aR (.int a) (by rw[lm];exact bK hl (by simp+arith)) D hD)
noncomputable def ba:List Nat->Nat
 |[]=>0
 |c::r=>if c=10 then 0 else 1+ba r
theorem y3:∀l:List Nat,ba l<=l.length
 |[]=>ξ _
 |c::r=>by unfold ba;split;exact bC _;have:=y3 r;simp;exact bK this (by simp+arith)
noncomputable def bZ(l:List Nat):Nat:=match l with
 |[]=>0
 |c::r=>if ey c then 1+bZ r else if c=92∧r.take 1=[10]then 2+bZ (r.drop 1)else if c=35 then 1+ba r+bZ (r.drop (ba r))else 0
termination_by l.length
decreasing_by all_goals simp;try (first|exact Nat.sub_lt_succ r.length 1|exact Nat.sub_lt_succ r.length (ba r)|omega)
theorem nV{a b k m:Nat}(q:m=b+k):((a+b+k:Nat):Int)=((a+m:Nat):Int):=congrArg Nat.cast (by rw[q,aA])
theorem nW{α:Type}{t l:List α}{a:Nat}(e:t.drop a=l):l.length<=t.length:=by rw[<-e,cY];exact Nat.sub_le ..
theorem E7{W D:Nat}{h:Hp}{t:List Nat}{s3:Slot}:∀(n a:Nat) (l:List Nat),t.drop a=l->l.length<n->
  aO (ι prog W D) W (.and [(.cmp .lt (.loc 1) (.loc 2)),(.cmp .ne (.sub (.loc 0) (.loc 1)) (.str [10]))]) [.aug 1 .add (.int 1)] n [.v (.str t),.v (.int a),.v (.int t.length),s3] h=
   some (.ok .ο [.v (.str t),.v (.int ((a+ba l:Nat):Int)),.v (.int t.length),s3] h)
 |n+1,a,[],e,_=>gw λκ=>κ _ rfl _ (dF (hY e)) _ (dF (hY e))
 |n+1,a,c::r,e,hn=>if jJ:c=10 then(by
   rw[show ba (c::r)=0 from if_pos jJ]
   exact gw λκ=>κ _ rfl _ (dT (aJ e)) _ (ag e) _ rfl _ (dZ (cT jJ)))else(by
   rw[<-nV (show ba (c::r)=1+ba r from if_neg jJ)]
   exact gw λκ=>(κ _ rfl _ (dT (aJ e)) _ (ag e) _ rfl _ (b8 (cF jJ))).trans (E7 n (a+1) r (aV e) (fi hn)))
theorem y4(t:List Nat)(a:Nat):bG (.str t) (some (.int (a:Int))) (some (.int ((a:Int)+1)))=some (.str ((t.drop a).take 1)):=(dk t a (a+1)).trans (by rw[dN])
theorem nX(t:List Nat)(a:Nat):bG (.str t) (some (.int (a:Int))) (some (.int ((a:Int)+2)))=some (.str ((t.drop a).take 2)):=(dk t a (a+2)).trans (by rw[dN])
theorem vn(t:List Nat)(a:Nat):bG (.str t) (some (.int ((a:Int)+1))) (some (.int ((a:Int)+2)))=some (.str ((t.drop (a+1)).take 1)):=y4 t (a+1)
theorem E8:bZ []=0:=by rw[bZ]
theorem E9(c:Nat)(r:List Nat):bZ (c::r)=if ey c then 1+bZ r else if c=92∧r.take 1=[10]then 2+bZ (r.drop 1)else if c=35 then 1+ba r+bZ (r.drop (ba r))else 0:=by rw[bZ]
noncomputable def OP:List S:=[.asg 3 (.sub (.loc 0) (.loc 1)),
    .ifs (.call .isBlank [(.loc 3)])
    [.aug 1 .add (.int 1)]
    [.ifs (.and [(.cmp .eq (.loc 3) (.str [92])),(.cmp .eq (.ae (.loc 0) (some (.bin .add (.loc 1) (.int 1))) (some (.bin .add (.loc 1) (.int 2)))) (.str [10]))])
     [.aug 1 .add (.int 2)]
     [.ifs (.cmp .eq (.loc 3) (.str [35]))
      [.bu (.and [(.cmp .lt (.loc 1) (.loc 2)),(.cmp .ne (.sub (.loc 0) (.loc 1)) (.str [10]))])
       [.aug 1 .add (.int 1)]]
      [.brk]]]]
theorem y5{c:Nat}(r:List Nat)(b:ey c=true):bZ (c::r)=1+bZ r:=(E9 c r).trans (if_pos b)
theorem pU{c:Nat}(r:List Nat)(b:ey c=false):bZ (c::r)=if c=92∧r.take 1=[10]then 2+bZ (r.drop 1)else if c=35 then 1+ba r+bZ (r.drop (ba r))else 0:=(E9 c r).trans (if_neg (by rw[b];exact ς))
theorem vq{W D:Nat}{h:Hp}{t:List Nat}(hD:1<=D)(hW:t.length<W):∀(n a:Nat) (l:List Nat),t.drop a=l->l.length<n->∀s3,∃lT,
  aO (ι prog W D) W (.cmp .lt (.loc 1) (.loc 2)) OP n [.v (.str t),.v (.int a),.v (.int t.length),s3] h=
   some (.ok .ο [.v (.str t),.v (.int ((a+bZ l:Nat):Int)),.v (.int t.length),lT] h)
 |n+1,a,[],e,_,s3=>⟨s3,E8▸gw λκ=>κ _ rfl _ (dF (hY e))⟩
 |n+1,a,c::r,e,hn,s3=>by
  have e1:=aV e
  have hb:=yV (W:=W) (h:=h) c D hD
  have hs:=vn t a
  rw[e1]at hs
  have hn:r.length<n:=fi hn
  have hd:∀k,(r.drop k).length<n:=λk=>aX (by rw[cY];exact Nat.sub_le ..) hn
  cases b1:ey c with
  |true=>
   exact(vq (W:=W) (D:=D) (h:=h) hD hW n (a+1) r e1 hn (.v (.str [c]))).imp λlT ih=>by
    rw[<-nV (y5 r b1)]
    exact gw λκ=>(κ _ rfl _ (dT (aJ e)) _ (ag e) _ hb _ b1).trans ih
  |false=>
   by_cases b2:c=92∧r.take 1=[10]
   ·have e2:t.drop (a+2)=r.drop 1:=by rw[<-e1,cA]
    exact(vq (W:=W) (D:=D) (h:=h) hD hW n (a+2) _ e2 (hd 1) (.v (.str [c]))).imp λlT ih=>by
     rw[<-nV ((pU r b1).trans (if_pos b2))]
     exact gw λκ=>(κ _ rfl _ (dT (aJ e)) _ (ag e) _ hb _ b1 _ rfl _ (cT b2.1) _ hs _ rfl _ (sT b2.2)).trans ih
   ·by_cases b3:c=35
    ·subst b3
     have rR:=E7 (W:=W) (D:=D) (h:=h) (t:=t) (s3:=.v (.str [35])) W a (35::r) e (aX (nW e) hW)
     have e2:t.drop (a+(1+ba r))=r.drop (ba r):=by rw[<-e1,cA,aA]
     exact(vq (W:=W) (D:=D) (h:=h) hD hW n (a+(1+ba r)) _ e2 (hd _) (.v (.str [35]))).imp λlT ih=>by
      rw[<-nV ((pU r b1).trans (if_neg b2))]
      exact gw λκ=>(κ _ rfl _ (dT (aJ e)) _ (ag e) _ hb _ rfl _ rfl _ rfl _ rfl _ rfl _ rfl _ rR).trans ih
    ·refine⟨.v (.str [c]),?_⟩
     rw[show bZ (c::r)=0 from(pU r b1).trans ((if_neg b2).trans (if_neg b3))]
     by_cases vt:c=92
     ·exact gw λκ=>κ _ rfl _ (dT (aJ e)) _ (ag e) _ hb _ b1 _ rfl _ (cT vt) _ hs _ rfl _ (sF λq=>b2 ⟨vt,q⟩) _ rfl _ (cF b3)
     ·exact gw λκ=>κ _ rfl _ (dT (aJ e)) _ (ag e) _ hb _ b1 _ rfl _ (cF vt) _ (cF vt) _ rfl _ (cF b3)
theorem E_{W:Nat}{h:Hp}(t:List Nat)(a:Nat)(hW:t.length<W):Gives 2 W .oY [.str t,.int a] h (.ret (.int ((a+bZ (t.drop a):Nat):Int)) h):=ak λD hD=>by
 rw[ω (ρ:=[.v (.str t),.v (.int a),.un,.un]) rfl]
 exact(vq (W:=W) (D:=D) (h:=h) (t:=t) hD hW W a _ rfl (aX (nW rfl) hW) .un).elim λlT q=>ga λκ=>κ _ rfl _ q
noncomputable def y6:List (List Nat):=[[101,113],[110,101],[105,110],[110,105],[108,116],[108,101],[103,116],[103,101]]
noncomputable def dH(s:List Nat):Bool:=y6.any (· ==s)
theorem Fb{W:Nat}{h:Hp}(s:List Nat):Gives 1 W .mH [.str s] h (.ret (.bool (dH s)) h):=ak λ_ _=>(ω (ρ:=[.v (.str s)]) rfl).trans (ga λκ=>κ _ (ψ rfl))
noncomputable def i6(y:List Nat):Bool:=[43]==y||([45]==y||false)
noncomputable def eR(l:List Nat):Bool:=bif l.take 1==[46]then true else bif !(l.take 1==[101])&& !(l.take 1==[69])then false else Ξ 10 (l.drop (bif i6 ((l.drop 1).take 1)then 2 else 1))
theorem nY{α β:Type}{f:α->β}{b:Bool}{x y:α}{z:β}(h:z=f y):(bif b then f x else z)=f (bif b then x else y):=h▸(gx f).symm
theorem OQ{W:Nat}{h:Hp}(t:List Nat)(a:Nat):Gives 3 W .oZ [.str t,.int a] h (.ret (.bool (eR (t.drop a))) h):=ak λD hD=>by
 rw[ω (ρ:=[.v (.str t),.v (.int a),.un]) rfl]
 refine Eq.trans (kB (ge λκ=>κ _ (y4 t a))) ?_
 refine Eq.trans (cP rfl λ_=>rfl) (nY (f:=λb=>some (CR.ret (.bool b) h)) ?_)
 refine Eq.trans (cP (bO (bA rfl λ_=>rfl)) λ_=>rfl) (nY (f:=λb=>some (CR.ret (.bool b) h)) ?_)
 have hs:=vn t a
 rw[<-cA]at hs
 rw[cA]
 cases q:i6 (((t.drop a).drop 1).take 1)with
 |true=>exact ga λκ=>κ _ hs _ (ψ rfl) _ q _ (kC t (a+2) 10 D hD)
 |false=>exact ga λκ=>κ _ hs _ (ψ rfl) _ q _ (kC t (a+1) 10 D hD)
noncomputable def aa(base:Int):List Nat->Nat
 |[]=>0
 |c::r=>if Ξ base (c::r)then 1+aa base r else 0
theorem Fc{W D:Nat}{h:Hp}{t:List Nat}{a s3 s4 s6:Slot}{base:Int}(hD:2<=D):∀(n b:Nat) (l:List Nat),t.drop b=l->l.length<n->
  aO (ι prog W D) W (.call .isDigit [(.loc 0),(.loc 5),(.loc 2)]) [.aug 5 .add (.int 1)] n [.v (.str t),a,.v (.int base),s3,s4,.v (.int b),s6] h=
   some (.ok .ο [.v (.str t),a,.v (.int base),s3,s4,.v (.int ((b+aa base l:Nat):Int)),s6] h)
 |n+1,b,[],e,_=>by
  have hd:=kC (W:=W) (h:=h) t b base D hD
  rw[e]at hd
  exact gw λκ=>κ _ hd _ rfl
 |n+1,b,c::r,e,hn=>by
  have hd:=kC (W:=W) (h:=h) t b base D hD
  rw[e]at hd
  cases hq:Ξ base (c::r)with
  |true=>
   rw[<-nV (show aa base (c::r)=1+aa base r from if_pos hq)]
   exact gw λκ=>(κ _ hd _ hq).trans (Fc hD n (b+1) r (aV e) (fi hn))
  |false=>
   rw[show aa base (c::r)=0 from if_neg (by rw[hq];exact ς)]
   exact gw λκ=>κ _ hd _ hq
noncomputable def f7:List Nat:=[102,108,111,97,116,105,110,103,45,112,111,105,110,116,32,110,117,109,98,101,114,32,108,101,102,116,32,111,117,116]
noncomputable def vw:List S:=[.asg 5 (.loc 3),
   .bu (.call .isDigit [(.loc 0),(.loc 5),(.loc 2)])
   [.aug 5 .add (.int 1)],
   .ifs (.and [(.cmp .eq (.loc 3) (.loc 1)),(.call .oZ [(.loc 0),(.loc 5)])])
   [.cq (.call .hG [(.loc 0),(.loc 1),(.str [102,108,111,97,116,105,110,103,45,112,111,105,110,116,32,110,117,109,98,101,114,32,108,101,102,116,32,111,117,116])])]
   [],
   .asg 6 (.call .runEnd [(.loc 0),(.loc 5)]),
   .ifs (.and [(.cmp .gt (.loc 6) (.loc 5)),(.cmp .ne (.sub (.loc 0) (.loc 5)) (.str [58])),(.not (.call .mH [(.ae (.loc 0) (some (.loc 5)) (some (.loc 6)))]))])
   [.ret (.tup [(.str [119,111,114,100]),(.ae (.loc 0) (some (.loc 1)) (some (.loc 6))),(.loc 1),(.loc 6)])]
   [],
   .ret (.tup [(.str [110,117,109,98,101,114]),(.call .digitsValue [(.ae (.loc 0) (some (.loc 3)) (some (.loc 5))),(.loc 2)]),(.loc 1),(.loc 5)])]
noncomputable def Fd:List S:=[.asg 6 (.call .runEnd [(.loc 0),(.loc 5)]),
   .ifs (.and [(.cmp .gt (.loc 6) (.loc 5)),(.cmp .ne (.sub (.loc 0) (.loc 5)) (.str [58])),(.not (.call .mH [(.ae (.loc 0) (some (.loc 5)) (some (.loc 6)))]))])
   [.ret (.tup [(.str [119,111,114,100]),(.ae (.loc 0) (some (.loc 1)) (some (.loc 6))),(.loc 1),(.loc 6)])]
   [],
   .ret (.tup [(.str [110,117,109,98,101,114]),(.call .digitsValue [(.ae (.loc 0) (some (.loc 3)) (some (.loc 5))),(.loc 2)]),(.loc 1),(.loc 5)])]
noncomputable def ec(tl:List Nat):Bool:=decide (0<runN tl)&&(!(tl.take 1==[58])&& !dH (tl.take (runN tl)))
noncomputable def Fe(l:List Nat)(a off:Nat)(base:Int):V:=
 let n:=off+aa base (l.drop off)
 let tl:=l.drop n
 if ec tl=true then .tup [.str [119,111,114,100],.str (l.take (n+runN tl)),.int a,.int ((a+n+runN tl:Nat):Int)]
 else .tup [.str [110,117,109,98,101,114],lN (digitsVal ((l.drop off).take (aa base (l.drop off))) base),.int a,.int ((a+n:Nat):Int)]
noncomputable def OS:List S:=[.asg 5 (.loc 3),
   .bu (.call .isDigit [(.loc 0),(.loc 5),(.loc 2)])
   [.aug 5 .add (.int 1)],
   .ifs (.and [(.cmp .eq (.loc 3) (.loc 1)),(.call .oZ [(.loc 0),(.loc 5)])])
   [.cq (.call .hG [(.loc 0),(.loc 1),(.str [102,108,111,97,116,105,110,103,45,112,111,105,110,116,32,110,117,109,98,101,114,32,108,101,102,116,32,111,117,116])])]
   []]
theorem OT{W D:Nat}{h:Hp}{t tl:List Nat}{a off k:Nat}{base:Int}{s4:Slot}(hb:eL base=true)(hD:3<=D)(hW:t.length<W)(de:t.drop (a+(off+k))=tl):
  π (θ (ι prog W D) W Fd [.v (.str t),.v (.int a),.v (.int base),.v (.int ((a+off:Nat):Int)),s4,.v (.int ((a+(off+k):Nat):Int)),.un] h)=some (.ret (if ec tl=true then .tup [.str [119,111,114,100],.str ((t.drop a).take (off+k+runN tl)),.int a,.int ((a+(off+k)+runN tl:Nat):Int)]
    else .tup [.str [110,117,109,98,101,114],lN (digitsVal (((t.drop a).drop off).take k) base),.int a,.int ((a+(off+k):Nat):Int)]) h):=by
 have re:=E6 (W:=W) (h:=h) t (a+(off+k)) hW D hD
 rw[de]at re
 have sf:=dk t (a+off) (a+(off+k))
 rw[Nat.add_sub_add_left,dN,<-cA]at sf
 have dv:=yW (W:=W) (h:=h) (((t.drop a).drop off).take k) base hb D (bE hD)
 have no:ec tl=false->(if ec tl=true then V.tup [.str [119,111,114,100],.str ((t.drop a).take (off+k+runN tl)),.int a,.int ((a+(off+k)+runN tl:Nat):Int)]
    else .tup [.str [110,117,109,98,101,114],lN (digitsVal (((t.drop a).drop off).take k) base),.int a,.int ((a+(off+k):Nat):Int)])=_:=λq=>if_neg (by rw[q];exact ς)
 rcases Nat.eq_zero_or_pos (runN tl)with hr|hr
 ·rw[no (by unfold ec;rw[hr];rfl)]
  have ng:¬((a+(off+k):Nat):Int)<((a+(off+k)+runN tl:Nat):Int):=by rw[hr];exact Int.lt_irrefl _
  exact ga λκ=>κ _ re _ rfl _ (dF ng) _ (dF ng) _ sf _ dv
 ·have gt:((a+(off+k):Nat):Int)<((a+(off+k)+runN tl:Nat):Int):=cJ.mpr (Nat.lt_add_of_pos_right hr)
  have sw:=dk t (a+(off+k)) (a+(off+k)+runN tl)
  rw[dN,de]at sw
  have wo:=Fb (W:=W) (h:=h) (tl.take (runN tl)) D (dO hD)
  cases tl with
  |nil=>exact nomatch hr
  |cons c r=>
   have wt:ec (c::r)=(!([c]==[58])&& !dH ((c::r).take (runN (c::r)))):=by unfold ec;rw[dT hr];rfl
   by_cases hc:c=58
   ·rw[no (wt.trans (aF (dZ (cT hc))))]
    exact ga λκ=>κ _ re _ rfl _ (dT gt) _ (ag de) _ rfl _ (dZ (cT hc)) _ (dZ (cT hc)) _ sf _ dv
   ·cases hw:dH ((c::r).take (runN (c::r)))with
    |true=>
     rw[no (wt.trans (eP (dZ hw)))]
     exact ga λκ=>κ _ re _ rfl _ (dT gt) _ (ag de) _ rfl _ (b8 (cF hc)) _ sw _ wo _ (dZ hw) _ sf _ dv
    |false=>
     rw[if_pos (wt.trans (aT (b8 (cF hc)) (b8 hw)))]
     have sr:bG (.str t) (some (.int a)) (some (.int ((a+(off+k)+runN (c::r):Nat):Int)))=some (.str ((t.drop a).take (off+k+runN (c::r)))):=(dk t a _).trans (by rw[aA a,dN])
     exact ga λκ=>κ _ re _ rfl _ (dT gt) _ (ag de) _ rfl _ (b8 (cF hc)) _ sw _ wo _ (b8 hw) _ sr
theorem OU{W D:Nat}{h:Hp}(t:List Nat)(a off:Nat)(base:Int)(s4:Slot)(hb:eL base=true)(hD:3<=D)(hW:t.length<W)(hl:t.length<=800000):
  (off=0∧eR ((t.drop a).drop (off+aa base ((t.drop a).drop off)))=true->π (θ (ι prog W D) W vw [.v (.str t),.v (.int a),.v (.int base),.v (.int ((a+off:Nat):Int)),s4,.un,.un] h)=some (.exc h.length (h++[lQ f7 t])))∧
  (¬(off=0∧eR ((t.drop a).drop (off+aa base ((t.drop a).drop off)))=true)->π (θ (ι prog W D) W vw [.v (.str t),.v (.int a),.v (.int base),.v (.int ((a+off:Nat):Int)),s4,.un,.un] h)=some (.ret (Fe (t.drop a) a off base) h)):=by
 have hf:=Fc (W:=W) (D:=D) (h:=h) (t:=t) (a:=.v (.int a)) (s3:=.v (.int ((a+off:Nat):Int))) (s4:=s4) (s6:=.un) (base:=base) (bE hD) W (a+off) _ cA.symm (aX (nW cA.symm) hW)
 rw[aA]at hf
 have fl:=OQ (W:=W) (h:=h) t (a+(off+aa base ((t.drop a).drop off))) D hD
 rw[<-cA]at fl
 have eq:off=0->(((a+off:Nat):Int)==(a:Int))=true:=λq=>iT (by rw[q];rfl)
 refine⟨λq=>ga λκ=>κ _ hf _ rfl _ (eq q.1) _ fl _ q.2 _ (vm (W:=W) (h:=h) t f7 (.int a) (η (az hl 30) (by decide)) D hD) (lP ..),λq=>?_⟩
 refine Eq.trans ?_ (OT (s4:=s4) hb hD hW cA.symm)
 show π (θ _ _ (OS++Fd) _ _)=_
 by_cases h0:off=0
 ·exact gq λκ=>κ _ hf _ rfl _ (eq h0) _ fl _ (Bool.eq_false_iff.mpr λf=>q ⟨h0,f⟩)
 ·have ne:(((a+off:Nat):Int)==(a:Int))=false:=iF λe=>h0 (Nat.add_left_cancel (n:=a) (Int.ofNat.inj e))
  exact gq λκ=>κ _ hf _ rfl _ ne _ ne
inductive TR
 |tok (s:List Nat) (v:V) (n:Nat)
 |bad (w:List Nat)
noncomputable def TR.out(t:List Nat)(a:Nat)(h:Hp):TR->CR
 |.tok s v n=>.ret (.tup [.str s,v,.int a,.int ((a+n:Nat):Int)]) h
 |.bad w=>.exc h.length (h++[lQ w t])
noncomputable def vx:List Nat:=[110,117,109,98,101,114]
noncomputable def bP:List Nat:=[119,111,114,100]
noncomputable def h9:List Nat:=[111,112]
noncomputable def nZ(l:List Nat)(off:Nat)(base:Int):TR:=
 if off=0∧eR (l.drop (off+aa base (l.drop off)))=true then .bad f7
 else if ec (l.drop (off+aa base (l.drop off)))=true then .tok bP (.str (l.take (off+aa base (l.drop off)+runN (l.drop (off+aa base (l.drop off)))))) (off+aa base (l.drop off)+runN (l.drop (off+aa base (l.drop off))))
 else .tok vx (lN (digitsVal ((l.drop off).take (aa base (l.drop off))) base)) (off+aa base (l.drop off))
noncomputable def bV(l:List Nat):Bool:=decide (l.take 1=[48])&&(decide (0<aU ((l.drop 1).take 1))&&Ξ (aU ((l.drop 1).take 1)) (l.drop 2))
noncomputable def pV(l:List Nat):TR:=if bV l=true then nZ l 2 (aU ((l.drop 1).take 1))else nZ l 0 10
theorem Ff{W D:Nat}{h:Hp}(t:List Nat)(a off:Nat)(base:Int)(s4:Slot)(hb:eL base=true)(hD:3<=D)(hW:t.length<W)(hl:t.length<=800000):
  π (θ (ι prog W D) W vw [.v (.str t),.v (.int a),.v (.int base),.v (.int ((a+off:Nat):Int)),s4,.un,.un] h)=some ((nZ (t.drop a) off base).out t a h):=by
 have z:=OU (W:=W) (D:=D) (h:=h) t a off base s4 hb hD hW hl
 unfold nZ
 by_cases q:off=0∧eR ((t.drop a).drop (off+aa base ((t.drop a).drop off)))=true
 ·rw[if_pos q];exact z.1 q
 ·rw[if_neg q,z.2 q]
  unfold Fe
  dsimp only
  split
  ·exact congrArg (λk:Nat=>some (CR.ret (.tup [.str bP,.str _,.int a,.int (k:Int)]) h)) (aA ..)
  ·rfl
theorem Fg(s:List Nat):eL (aU s)=true:=by
 unfold aU;repeat' split
 all_goals rfl
theorem OV{W:Nat}{h:Hp}(t:List Nat)(a c:Nat)(r:List Nat)(e:t.drop a=c::r)(hW:t.length<W)(hl:t.length<=800000):Gives 4 W .qQ [.str t,.int a] h ((pV (t.drop a)).out t a h):=ak λD hD=>by
 rw[ω (ρ:=[.v (.str t),.v (.int a),.un,.un,.un,.un,.un]) rfl]
 have sa:=ag e
 have vy:=vn t a
 rw[<-cA]at vy
 have bo:=EX (W:=W) (h:=h) (((t.drop a).drop 1).take 1) D (dO hD)
 have dg:=kC (W:=W) (h:=h) t (a+2) (aU (((t.drop a).drop 1).take 1)) D (bE hD)
 rw[<-cA]at dg
 have n0:=λs4=>Ff (W:=W) (D:=D) (h:=h) t a 0 10 s4 rfl hD hW hl
 have n2:=λs4=>Ff (W:=W) (D:=D) (h:=h) t a 2 (aU (((t.drop a).drop 1).take 1)) s4 (Fg _) hD hW hl
 have no:bV (t.drop a)=false->pV (t.drop a)=nZ (t.drop a) 0 10:=λq=>if_neg (by rw[q];exact ς)
 have tk:(t.drop a).take 1=[c]:=by rw[e];rfl
 show π (θ _ _ (Prog.qQ.body.take 2++vw) _ _)=_
 by_cases h0:c=48
 ·by_cases hb:0<aU (((t.drop a).drop 1).take 1)
  ·cases hd:Ξ (aU (((t.drop a).drop 1).take 1)) ((t.drop a).drop 2)with
   |false=>
    rw[no (eP (eP hd))]
    exact gq λκ=>(κ _ sa _ rfl _ (cT h0) _ vy _ bo _ rfl _ (dT hb) _ dg _ hd).trans (n0 _)
   |true=>
    rw[show pV (t.drop a)=nZ (t.drop a) 2 _ from if_pos (aT (dT (tk.trans (congrArg (λc=>[c]) h0))) (aT (dT hb) hd))]
    exact gq λκ=>(κ _ sa _ rfl _ (cT h0) _ vy _ bo _ rfl _ (dT hb) _ dg _ hd).trans (n2 _)
  ·rw[no (eP (aF (dF hb)))]
   exact gq λκ=>(κ _ sa _ rfl _ (cT h0) _ vy _ bo _ rfl _ (dF hb) _ (dF hb)).trans (n0 _)
 ·rw[no (aF (dF λq=>h0 (List.cons.inj (tk.symm.trans q)).1))]
  exact gq λκ=>(κ _ sa _ rfl _ (cF h0)).trans (n0 _)
noncomputable def vA:List (List Nat):=[[42,42],[60,60],[62,62],[60,61],[62,61],[61,61],[33,61],[38,38],[124,124]]
noncomputable def pW:List Nat:=[43,45,42,47,37,126,33,60,62,38,94,124,63,58]
noncomputable def dB(s:List Nat):Bool:=vA.any (· ==s)
noncomputable def gV(c:Nat):Bool:=pW.any (· ==c)
noncomputable def ed:List Nat->List Nat
 |[]=>[]
 |c::r=>if dB ((c::r).take 2)=true then(c::r).take 2 else if gV c=true then[c]else[]
theorem y7(c:Nat):∀L:List Nat,((L.map λd=>V.str [d]).any λy=>y.eqv (.str [c]))=L.any (· ==c)
 |[]=>rfl
 |d::L=>by rw[List.map_cons,List.any_cons,List.any_cons,y7 c L];exact congrArg (· ||_) (gM (d==c))
theorem OW{W:Nat}{h:Hp}(t:List Nat)(a c:Nat)(r:List Nat)(e:t.drop a=c::r):Gives 1 W .tT [.str t,.int a] h (.ret (.str (ed (t.drop a))) h):=ak λD hD=>by
 rw[ω (ρ:=[.v (.str t),.v (.int a),.un]) rfl]
 have sa:=ag e
 have s2:=nX t a
 rw[e]at s2⊢
 cases h2:dB ((c::r).take 2)with
 |true=>
  rw[show ed (c::r)=(c::r).take 2 from if_pos h2]
  exact ga λκ=>κ _ s2 _ (ψ rfl) _ h2
 |false=>
  have o:ed (c::r)=if gV c=true then[c]else[]:=if_neg (by rw[h2];exact ς)
  cases h1:gV c with
  |true=>
   rw[o,if_pos h1]
   exact ga λκ=>κ _ s2 _ (ψ rfl) _ h2 _ sa _ (ψ rfl) _ ((y7 c pW).trans h1) _ sa
  |false=>
   rw[o,if_neg (by rw[h1];exact ς)]
   exact ga λκ=>κ _ s2 _ (ψ rfl) _ h2 _ sa _ (ψ rfl) _ ((y7 c pW).trans h1)
noncomputable def lU:List Nat:=[105,110,99,111,109,112,108,101,116,101,32,111,112,101,114,97,116,111,114,32,34,61,34]
noncomputable def lV:List Nat:=[105,110,118,97,108,105,100,32,99,104,97,114,97,99,116,101,114,32,34]
noncomputable def vB:List Nat->TR
 |[]=>.bad []
 |c::r=>
  if¬ed (c::r)=[]then .tok h9 (.str (ed (c::r))) (ed (c::r)).length
  else if Ξ 10 (c::r)=true then pV (c::r)
  else if c=95∨Ξ 36 (c::r)=true then .tok (if dH ((c::r).take (runN (c::r)))=true then h9 else bP) (.str ((c::r).take (runN (c::r)))) (runN (c::r))
  else if c=46∧Ξ 10 r=true then .bad f7
  else if c=61 then .bad lU
  else .bad (lV++[c]++[34])
theorem OX{p:Prop}(h:false=true):p:=nomatch h
theorem OY{W:Nat}{h:Hp}(t:List Nat)(a c:Nat)(r:List Nat)(e:t.drop a=c::r)(hW:t.length<W)(hl:t.length<=800000):Gives 5 W .qR [.str t,.int a] h ((vB (t.drop a)).out t a h):=ak λD hD=>by
 rw[ω (ρ:=[.v (.str t),.v (.int a),.un,.un,.un,.un]) rfl]
 have sa:=ag e
 have op:=OW (W:=W) (h:=h) t a c r e D (dO hD)
 have gW:=kC (W:=W) (h:=h) t a 10 D (η (by decide) hD)
 have pX:=kC (W:=W) (h:=h) t a 36 D (η (by decide) hD)
 have d1:=kC (W:=W) (h:=h) t (a+1) 10 D (η (by decide) hD)
 have re:=E6 (W:=W) (h:=h) t a hW D (bE hD)
 have wo:=Fb (W:=W) (h:=h) ((t.drop a).take (runN (t.drop a))) D (dO hD)
 have sw:=dk t a (a+runN (t.drop a))
 have nt:=OV (W:=W) (h:=h) t a c r e hW hl D hD
 have ef:=λw (q:w.length<=100000)=>vm (W:=W) (h:=h) t w (.int a) (η (dG q hl) (by decide)) D (bE hD)
 rw[dN]at sw
 rw[aV e]at d1
 rw[e]at re sw op gW pX wo nt⊢
 by_cases h1:ed (c::r)=[]
 ·have o1:=dZ (sT h1)
  have s1:vB (c::r)=_:=if_neg (not_not_intro h1)
  cases h2:Ξ 10 (c::r)with
  |true=>
   rw[s1.trans (if_pos h2)]
   cases hn:pV (c::r)<;>(rw[hn]at nt;exact ga λκ=>κ _ op _ rfl _ o1 _ gW _ h2 _ nt)
  |false=>
   have s2:=s1.trans (if_neg (by rw[h2];exact ς))
   by_cases h3:c=95∨Ξ 36 (c::r)=true
   ·rw[s2.trans (if_pos h3)]
    by_cases h5:c=95
    ·cases h4:dH ((c::r).take (runN (c::r)))<;>exact ga λκ=>κ _ op _ rfl _ o1 _ gW _ h2 _ sa _ rfl _ (cT h5) _ (cT h5) _ re _ sw _ wo _ h4
    ·cases h4:dH ((c::r).take (runN (c::r)))<;>exact ga λκ=>κ _ op _ rfl _ o1 _ gW _ h2 _ sa _ rfl _ (cF h5) _ pX _ (h3.resolve_left h5) _ re _ sw _ wo _ h4
   ·have vC:=Bool.eq_false_iff.mpr (not_or.mp h3).2
    have s3:=s2.trans (if_neg h3)
    by_cases h5:c=46
    ·cases h6:Ξ 10 r with
     |true=>
      rw[s3.trans (if_pos ⟨h5,h6⟩)]
      exact ga λκ=>κ _ op _ rfl _ o1 _ gW _ h2 _ sa _ rfl _ (cF (not_or.mp h3).1) _ pX _ vC _ rfl _ (cT h5) _ d1 _ h6 _ (ef f7 (by decide)) (lP ..)
     |false=>
      have Fh:¬c=61:=λq=>nomatch h5.symm.trans q
      rw[s3.trans ((if_neg λq=>OX (h6.symm.trans q.2)).trans (if_neg Fh))]
      exact ga λκ=>κ _ op _ rfl _ o1 _ gW _ h2 _ sa _ rfl _ (cF (not_or.mp h3).1) _ pX _ vC _ rfl _ (cT h5) _ d1 _ h6 _ rfl _ (cF Fh) _ rfl _ rfl _ (ef (lV++[c]++[34]) (show 21<=100000 by decide)) (lP ..)
    ·have s4:=s3.trans (if_neg λq=>h5 q.1)
     by_cases h7:c=61
     ·rw[s4.trans (if_pos h7)]
      exact ga λκ=>κ _ op _ rfl _ o1 _ gW _ h2 _ sa _ rfl _ (cF (not_or.mp h3).1) _ pX _ vC _ rfl _ (cF h5) _ (cF h5) _ rfl _ (cT h7) _ (ef lU (by decide)) (lP ..)
     ·rw[s4.trans (if_neg h7)]
      exact ga λκ=>κ _ op _ rfl _ o1 _ gW _ h2 _ sa _ rfl _ (cF (not_or.mp h3).1) _ pX _ vC _ rfl _ (cF h5) _ (cF h5) _ rfl _ (cF h7) _ rfl _ rfl _ (ef (lV++[c]++[34]) (show 21<=100000 by decide)) (lP ..)
 ·rw[show vB (c::r)=_ from if_pos h1]
  exact ga λκ=>κ _ op _ rfl _ (b8 (sF h1)) _ rfl
section
noncomputable def lX(w:List Nat):Prop:=∀c∈w,c≠123∧c≠125∧c≠92
theorem Fi{W D:Nat}{h:Hp}{t r:List Nat}{s1 s3 s5 s6 s7 s8:Slot}:∀(w:List Nat) (p:Nat),t.drop p=w++125::r->lX w->∀n,w.length<n->
  aO (ι prog W D) W (.and [(.cmp .lt (.loc 4) (.loc 2)),(.cmp .fN (.sub (.loc 0) (.loc 4)) (.str [123,125,92]))]) [.aug 4 .add (.int 1)] n [.v (.str t),s1,.v (.int t.length),s3,.v (.int p),s5,s6,s7,s8] h=
   some (.ok .ο [.v (.str t),s1,.v (.int t.length),s3,.v (.int ((p+w.length:Nat):Int)),s5,s6,s7,s8] h)
 |_,_,_,_,0,hn=>by omega
 |[],p,e,_,n+1,_=>by
  have sa:=ag e
  have lt:=aJ e
  exact gw λκ=>κ _ rfl _ (dT lt) _ sa _ rfl _ rfl
 |c::w,p,e,f,n+1,hn=>by
  have sa:=ag e
  have lt:=aJ e
  have ih:=Fi (W:=W) (D:=D) (h:=h) (s1:=s1) (s3:=s3) (s5:=s5) (s6:=s6) (s7:=s7) (s8:=s8) w (p+1) (aV e) (λx hx=>f x (List.mem_cons_of_mem _ hx)) n (by simp at hn;omega)
  simp only[Int.natCast_add,Int.cast_ofNat_Int,Int.natCast_one]at ih
  obtain⟨f1,f2,f3⟩:=f c (c9 ..)
  exact gw λκ=>(κ _ rfl _ (dT lt) _ sa _ rfl true (by simp[bU,sa,lt,f1,f2,f3,ih])).trans (ih.trans (by(simp;simp+arith)))
noncomputable def pY:E×List S:=match Prog.mG.body.getD 5 .brk with
 |.bu c b=>(c,b)
 |_=>(.none,[])
section
variable{C:Δ}{W n p:Nat}{h:Hp}{t w r:List Nat}{b:Int}{s1 s7 s8:Slot}
theorem OZ(e:t.drop p=125::r)(sl:bG (.str t) (some (.int b)) (some (.int p))=some (.str w))(mk:bS w=some (.str w)):
  aO C W pY.1 pY.2 (n+1) [.v (.str t),s1,.v (.int t.length),.v (.int b),.v (.int p),.v (.str []),.v (.int 1),s7,s8] h=some (.ok (.ret (.tup [.str w,.int (p+1)])) [.v (.str t),s1,.v (.int t.length),.v (.int b),.v (.int (p+1)),.v (.str []),.v (.int (1 - 1)),s7,s8] h):=
 have sl:bG (.str t) (some (.int b)) (some (.int ((p:Int)+1 - 1)))=some (.str w):=(Int.add_sub_cancel (p:Int) 1).symm▸sl
 gw λκ=>κ _ rfl _ (dT (aJ e)) _ (ag e) _ rfl _ rfl _ (ag e) _ rfl _ rfl _ rfl _ rfl _ sl _ mk
theorem O0{c:Nat}(e:t.drop p=c::r)(f:c≠123∧c≠125∧c≠92){x:M Flow}{ρ:Loc}(bl:aO C W (.and [(.cmp .lt (.loc 4) (.loc 2)),(.cmp .fN (.sub (.loc 0) (.loc 4)) (.str [123,125,92]))]) [.aug 4 .add (.int 1)] W [.v (.str t),s1,.v (.int t.length),.v (.int b),.v (.int p),.v (.str []),.v (.int 1),s7,s8] h=some (.ok .ο ρ h))(k:aO C W pY.1 pY.2 n ρ h=x):
  aO C W pY.1 pY.2 (n+1) [.v (.str t),s1,.v (.int t.length),.v (.int b),.v (.int p),.v (.str []),.v (.int 1),s7,s8] h=x:=
 gw λκ=>(κ _ rfl _ (dT (aJ e)) _ (ag e) _ rfl _ (cF f.1) _ (ag e) _ rfl _ (cF f.2.1) _ (nX t p) _ rfl _ (e▸EW f.2.2) _ (ag e) _ rfl _ (cF f.2.2) _ bl).trans k
end
theorem O1{W:Nat}{h:Hp}(t:List Nat)(a:Nat)(w r:List Nat)(e:t.drop a=123::(w++125::r))(f:lX w)(hW:t.length+4<W)(hl:t.length<=800000):Gives 1 W .mG [.str t,.int a] h (.ret (.tup [.str w,.int ((a+(w.length+2):Nat):Int)]) h):=by
 refine ak λD hD=>?_
 rw[ω (ρ:=[.v (.str t),.v (.int a),.un,.un,.un,.un,.un,.un,.un]) rfl]
 have e1:=aV e
 have e2:t.drop (a+1+w.length)=125::r:=by rw[<-cA,e1];simp
 have sz:=dk t (a+1) (a+1+w.length)
 rw[e1,show a+1+w.length - (a+1)=w.length by exact dN ..]at sz
 simp only[List.take_left]at sz
 have vd:w.length<=t.length:=by
  have:=congrArg List.length e1;simp at this;exact wK (Ψ (Eq.symm this)) (Nat.sub_le t.length (a+1)) (by simp+arith)
 have s2:=ag e2
 have l2:=aJ e2
 have bl:=λs5 s6 s7 s8=>Fi (W:=W) (D:=D) (h:=h) (s1:=.v (.int a)) (s3:=.v (.int ((a+1:Nat):Int))) (s5:=s5) (s6:=s6) (s7:=s7) (s8:=s8) w (a+1) e1 f W (by exact wK hW vd (by simp+arith))
 have mk:bS w=some (.str w):=cR (by unfold af;exact wK hl vd (by simp+arith))
 have fin:((a+1+w.length+1:Nat):Int)=((a+(w.length+2):Nat):Int):=congrArg Nat.cast (by simp+arith)
 obtain⟨n,rfl⟩:∃n,W=n+2:=⟨W - 2,by exact(Eq.symm (dP (n:=W) (m:=2) (bK hW (by simp+arith))))⟩
 have last:=λm s7 s8=>OZ (C:=ι prog (n+2) D) (W:=n+2) (n:=m) (h:=h) (s1:=.v (.int a)) (s7:=s7) (s8:=s8) e2 sz mk
 rw[<-fin]
 cases w with
 |nil=>exact ga λκ=>κ _ rfl _ (last (n+1) .un .un)
 |cons c w=>exact ga λκ=>κ _ rfl _ (O0 e1 (f c (c9 ..)) (bl ..) (last n .un .un))
end
theorem O3(t:List Nat)(a i j:Nat):bG (.str t) (some (.int ((a:Int)+i))) (some (.int ((a:Int)+j)))=some (.str (((t.drop a).drop i).take (j - i))):=by
 have:=dk t (a+i) (a+j)
 rw[show a+j - (a+i)=j - i by exact Nat.add_sub_add_left a j i]at this
 simp only[Int.natCast_add,Int.cast_ofNat_Int,Int.natCast_one]at this
 rw[this,cA]
theorem sO{t:List Nat}{a:Nat}{r:List Nat}(e:t.drop a=r)(i j:Nat):bG (.str t) (some (.int ((a:Int)+i))) (some (.int ((a:Int)+j)))=some (.str ((r.drop i).take (j - i))):=e▸O3 t a i j
theorem Wq{t:List Nat}{a c i:Nat}{r:List Nat}(e:(t.drop a).drop i=c::r):υ (.str t) (.int ((a:Int)+i))=some (.str [c]):=by
 have:=ag (t:=t) (a:=a+i) (c:=c) (r:=r) (by rw[<-e,cA])
 simp only[Int.natCast_add,Int.cast_ofNat_Int,Int.natCast_one]at this
 exact this
theorem Ws{t:List Nat}{a c i:Nat}{r:List Nat}(e:(t.drop a).drop i=c::r):(a:Int)+i<(t.length:Int):=by
 have:=aJ (t:=t) (a:=a+i) (c:=c) (r:=r) (by rw[<-e,cA])
 simp only[Int.natCast_add,Int.cast_ofNat_Int,Int.natCast_one]at this
 exact this
theorem Fj{t:List Nat}{c:Nat}(i:Int)(g:0<=i∧i<1000000000):eN .find (.str t) [.str [c],.int i]=some (.int (eM c t i.toNat)):=if_pos g
theorem O4(t:List Nat)(a:Nat)(r:List Nat)(q:t.drop (a+1)=123::118::125::r)(Wt:a<=800000):eN .find (.str t) [.str [125],.int ((a:Int)+1)]=some (.int ((a:Int)+3)):=by
 have tn:((a:Int)+1).toNat=a+1:=by rfl
 have f:eM 125 t (a+1)=(a:Int)+3:=by
  unfold eM
  rw[q]
  simp[List.findIdx?_cons]
  rfl
 have g:(0:Int)<=(a:Int)+1∧(a:Int)+1<1000000000:=by omega
 exact(Fj _ g).trans (congrArg (λi=>some (V.int i)) f)
theorem O5{W:Nat}{h:Hp}(t:List Nat)(a:Nat)(r:List Nat)(e:t.drop a=36::123::118::125::r)(hl:t.length<=800000):Gives 1 W .kX [.str t,.int a] h (.ret (.tup [.tup [.str [118,97,114],.str [118],.none],.int ((a:Int)+4)]) h):=by
 refine ak λD hD=>?_
 rw[ω (ρ:=[.v (.str t),.v (.int a),.un,.un,.un,.un]) rfl]
 have fd:=O4 t a r (by rw[<-cA,e];rfl) (by have:=aJ e;omega)
 have nn:¬(a:Int)+3<0:=by exact λκ=>eo κ (eC a) (by simp+arith)
 exact ga λκ=>κ _ (sO e 1 2) _ rfl _ rfl rfl _ fd _ rfl _ (dF nn) _ (sO e 2 3)
theorem O6{W:Nat}{h:Hp}(t:List Nat)(a:Nat)(r:List Nat)(e:t.drop a=118::34::r)(hW:3<W):Gives 2 W .readName [.str t,.int a] h (.ret (.int ((a:Int)+1)) h):=by
 refine ak λD hD=>?_
 rw[ω (ρ:=[.v (.str t),.v (.int a)]) rfl]
 have e1:=aV e
 obtain⟨n,rfl⟩:∃n,W=n+2:=⟨W - 2,by exact(Eq.symm (dP (n:=W) (m:=2) (bK hW (by simp+arith))))⟩
 exact ga λκ=>κ _ (gw λκ=>(κ _ rfl _ rfl _ (dT (aJ e)) _ (ag e) _ rfl _ rfl _ (ag e) _ (vi 118 D (η (by decide) hD)) _ rfl _ rfl).trans (gw λκ=>κ _ rfl _ rfl _ (dT (aJ e1)) _ (ag e1) _ rfl _ rfl _ (ag e1) _ (vi 34 D (η (by decide) hD)) _ rfl _ rfl _ (nX t (a+1)) _ rfl false (e1▸EW (by decide))))
theorem O7{W:Nat}{h:Hp}(t:List Nat)(a:Nat)(r:List Nat)(e:t.drop a=36::118::34::r)(hW:3<W):Gives 3 W .kX [.str t,.int a] h (.ret (.tup [.tup [.str [118,97,114],.str [118],.none],.int ((a:Int)+2)]) h):=by
 refine ak λD hD=>?_
 rw[ω (ρ:=[.v (.str t),.v (.int a),.un,.un,.un,.un]) rfl]
 have rn:=O6 (W:=W) (h:=h) t (a+1) r (aV e) hW D hD
 exact ga λκ=>κ _ (sO e 1 2) _ rfl _ rfl _ rn _ (sO e 2 3) _ rfl _ rfl _ rfl _ (iF λq=>by have:=Int.add_left_cancel (a:=(a:Int)) (b:=2) (c:=1) q;cases this) _ (sO e 1 2)
set_option maxHeartbeats 4000000
theorem aM{x:V}{u:List V}:υ (.tup (x::u)) (.int 0)=some x:=by
 show(PySem.seqIndex? ((0:Nat):Int) (u.length+1)).bind _=_
 rw[pS (gu _)];rfl
theorem bB{x y:V}{u:List V}:υ (.tup (x::y::u)) (.int 1)=some y:=by
 show(PySem.seqIndex? ((1:Nat):Int) (u.length+2)).bind _=_
 rw[pS (Nat.succ_lt_succ (gu _))];rfl
theorem O8{C:Δ}{h:Hp}{m:Nat}(t:List Nat)(a b c d n:Int)(e1:a+1=b)(e2:b+1=c)(e3:c+1=d)
  (l0:a<n)(l1:b<n)(l2:c<n)(l3:d<n)(hn:n=t.length)
  (s0:υ (.str t) (.int a)=some (.str [97]))(s1:υ (.str t) (.int b)=some (.str [32]))(s2:υ (.str t) (.int c)=some (.str [98]))(s3:υ (.str t) (.int d)=some (.str [34]))
  (sl:bG (.str t) (some (.int a)) (some (.int d))=some (.str [97,32,98])):
  π (θ C (m+6) Prog.bF.body [.v (.str t),.v (.int a),.v (.tup [.str [34]]),.un,.un,.un,.un,.un,.un,.un] h)=some (.ret (.tup [.tup [.tup [.str [116,101,120,116],.str [97,32,98]]],.int d]) h):=by
 subst hn
 exact ga λκ=>(κ _ rfl _ (gw λκ=>(κ _ rfl _ (dT l0) _ s0 _ (i4 rfl) _ rfl _ s0 _ rfl _ rfl _ s0 _ rfl _ rfl _ s0 _ rfl _ rfl _ (gw λκ=>(κ _ rfl _ (dT l0) _ s0 _ rfl _ rfl _ s0 _ (i4 rfl) _ rfl).trans (gw λκ=>(κ _ rfl _ (dT (by exact lt_of_eq_of_lt e1 l1)) (V.str [32]) (by simp[Prog.bF,bU,s0,s1,s2,s3,l0,l1,l2,l3,e1,e2,e3,sl,bS,af,aM,bB]) _ rfl _ rfl (V.str [32]) (by simp[Prog.bF,bU,s0,s1,s2,s3,l0,l1,l2,l3,e1,e2,e3,sl,bS,af,aM,bB]) _ (i4 rfl) _ rfl).trans (gw λκ=>(κ _ rfl _ (dT (by exact wM (fj e1) (fj e2) (fj e3) l3 (by simp+arith))) (V.str [98]) (by simp[Prog.bF,bU,s0,s1,s2,s3,l0,l1,l2,l3,e1,e2,e3,sl,bS,af,aM,bB]) _ rfl _ rfl (V.str [98]) (by simp[Prog.bF,bU,s0,s1,s2,s3,l0,l1,l2,l3,e1,e2,e3,sl,bS,af,aM,bB]) _ (i4 rfl) _ rfl).trans (gw λκ=>κ _ rfl _ (dT (by exact wM (fj e1) (fj e2) (fj e3) l3 (by simp+arith))) (V.str [34]) (by simp[Prog.bF,bU,s0,s1,s2,s3,l0,l1,l2,l3,e1,e2,e3,sl,bS,af,aM,bB]) _ rfl _ rfl (V.str [34]) (by simp[Prog.bF,bU,s0,s1,s2,s3,l0,l1,l2,l3,e1,e2,e3,sl,bS,af,aM,bB]) _ (i4 rfl) _ rfl)))) (V.str [97,32,98]) (by simp[Prog.bF,bU,s0,s1,s2,s3,l0,l1,l2,l3,e1,e2,e3,sl,bS,af,aM,bB]) _ aM _ rfl _ rfl _ bB _ rfl).trans (gw λκ=>κ _ rfl _ (dT (by exact wM (fj e1) (fj e2) (fj e3) l3 (by simp+arith))) (V.str [34]) (by simp[Prog.bF,bU,s0,s1,s2,s3,l0,l1,l2,l3,e1,e2,e3,sl,bS,af,aM,bB]) _ (i4 rfl) _ rfl)) _ rfl _ rfl (by decide) _ rfl).trans (by simp[Prog.bF,bU,s0,s1,s2,s3,l0,l1,l2,l3,e1,e2,e3,sl,bS,af,aM,bB])
theorem O9{C:Δ}{h:Hp}{m:Nat}(t:List Nat)(a b d n:Int)(e1:a+1=b)
  (l0:a<n)(l1:b<n)(l3:d<n)(hn:n=t.length)
  (s0:υ (.str t) (.int a)=some (.str [97]))(s1:υ (.str t) (.int b)=some (.str [36]))(s3:υ (.str t) (.int d)=some (.str [34]))
  (sl:bG (.str t) (some (.int a)) (some (.int b))=some (.str [97]))
  (va:C .kX [.str t,.int b] h=some (.ret (.tup [.tup [.str [118,97,114],.str [118],.none],.int d]) h)):
  π (θ C (m+6) Prog.bF.body [.v (.str t),.v (.int a),.v (.tup [.str [34]]),.un,.un,.un,.un,.un,.un,.un] h)=some (.ret (.tup [.tup [.tup [.str [116,101,120,116],.str [97]],.tup [.str [118,97,114],.str [118],.none]],.int d]) h):=by
 subst hn
 exact ga λκ=>κ _ rfl _ (gw λκ=>(κ _ rfl _ (dT l0) _ s0 _ (i4 rfl) _ rfl _ s0 _ rfl _ rfl _ s0 _ rfl _ rfl _ s0 _ rfl _ rfl _ (gw λκ=>(κ _ rfl _ (dT l0) _ s0 _ rfl _ rfl _ s0 _ (i4 rfl) _ rfl).trans (gw λκ=>κ _ rfl _ (dT (by exact lt_of_eq_of_lt e1 l1)) (V.str [36]) (by simp[Prog.bF,bU,s0,s1,s3,l0,l1,l3,e1,sl,va,bS,af,aM,bB]) _ rfl _ rfl _ rfl)) (V.str [97]) (by simp[Prog.bF,bU,s0,s1,s3,l0,l1,l3,e1,sl,va,bS,af,aM,bB]) _ aM _ rfl _ rfl _ bB _ rfl).trans (gw λκ=>(κ _ rfl _ (dT (by exact qO (fj e1) l1 (by simp+arith))) (V.str [36]) (by simp[Prog.bF,bU,s0,s1,s3,l0,l1,l3,e1,sl,va,bS,af,aM,bB]) _ (i4 rfl) _ rfl (V.str [36]) (by simp[Prog.bF,bU,s0,s1,s3,l0,l1,l3,e1,sl,va,bS,af,aM,bB]) _ rfl _ rfl (CR.ret (V.tup [V.tup [V.str [118,97,114],V.str [118],V.none],V.int d]) h) (by simp[Prog.bF,bU,s0,s1,s3,l0,l1,l3,e1,sl,va,bS,af,aM,bB]) _ aM _ rfl _ rfl _ rfl _ rfl (by decide) (by decide)).trans (gw λκ=>κ _ rfl _ (dT l3) _ s3 _ (i4 rfl) _ rfl))) _ rfl _ rfl _ rfl
theorem O_{W:Nat}{h:Hp}(t:List Nat)(a:Nat)(r:List Nat)(e:t.drop a=97::32::98::34::r)(hW:6<=W):Gives 1 W .bF [.str t,.int a,.tup [.str [34]]] h (.ret (.tup [.tup [.tup [.str [116,101,120,116],.str [97,32,98]]],.int ((a:Int)+3)]) h):=by
 refine ak λD hD=>?_
 rw[ω (ρ:=[.v (.str t),.v (.int a),.v (.tup [.str [34]]),.un,.un,.un,.un,.un,.un,.un]) rfl]
 obtain⟨m,rfl⟩:∃m,W=m+6:=⟨W - 6,by exact(Eq.symm (dP (n:=W) (m:=6) (bK hW (by simp+arith))))⟩
 have e1:=aV e
 have e2:=aV e1
 have e3:=aV e2
 have s0:=ag e
 have s1:=ag e1
 have s2:=ag e2
 have s3:=ag e3
 have l0:=aJ e
 have l1:=aJ e1
 have l2:=aJ e2
 have l3:=aJ e3
 have sl:=dk t a (a+1+1+1)
 rw[e,show a+1+1+1 - a=3 by exact Eq.symm (Nat.eq_sub_of_add_eq' rfl)]at sl
 have q:(a:Int)+3=((a+1+1+1:Nat):Int):=by rfl
 rw[q]
 exact O8 t a _ _ _ _ (by rfl) (by rfl) (by assumption) l0 l1 l2 l3 rfl s0 s1 s2 s3 sl
theorem O'{W:Nat}{h:Hp}(t:List Nat)(a:Nat)(r:List Nat)(e:t.drop a=97::36::118::34::r)(hW:6<=W):Gives 4 W .bF [.str t,.int a,.tup [.str [34]]] h (.ret (.tup [.tup [.tup [.str [116,101,120,116],.str [97]],.tup [.str [118,97,114],.str [118],.none]],.int ((a:Int)+3)]) h):=by
 refine ak λD hD=>?_
 rw[ω (ρ:=[.v (.str t),.v (.int a),.v (.tup [.str [34]]),.un,.un,.un,.un,.un,.un,.un]) rfl]
 have e1:=aV e
 have va:=O7 (W:=W) (h:=h) t (a+1) r e1 (by exact Nat.lt_of_add_left_lt hW) D hD
 have q2:((a+1:Nat):Int)+2=(a:Int)+3:=by rfl
 rw[q2]at va
 obtain⟨m,rfl⟩:∃m,W=m+6:=⟨W - 6,by exact(Eq.symm (dP (n:=W) (m:=6) (bK hW (by simp+arith))))⟩
 have e2:=aV e1
 have e3:=aV e2
 have s0:=ag e
 have s1:=ag e1
 have s3:=ag e3
 have l0:=aJ e
 have l1:=aJ e1
 have l3:=aJ e3
 have sl:=dk t a (a+1)
 rw[e,show a+1 - a=1 by exact dN ..]at sl
 have q:(a:Int)+3=((a+1+1+1:Nat):Int):=by assumption
 rw[q]at va⊢
 exact O9 t a _ _ _ (by rfl) l0 l1 l3 rfl s0 s1 s3 sl va
noncomputable def kD(c:Nat):Bool:=32==c||(9==c||(11==c||(12==c||13==c)))
theorem y8{W:Nat}{h:Hp}(c:Nat):Gives 1 W .mF [.str [c]] h (.ret (.bool (kD c)) h):=by
 refine ak λD _=>?_
 rw[ω (ρ:=[.v (.str [c])]) rfl]
 exact ga λκ=>(κ _ (ψ rfl)).trans (by simp[kD])
theorem Pa{C:Δ}{h:Hp}{m:Nat}(t:List Nat)(a b:Int)(c:Nat)(x:List Nat)(e1:a+2=b)(l0:a<t.length)(s0:υ (.str t) (.int a)=some (.str [c]))(hc:kD c=false)(h_:¬c=92)(sl:bG (.str t) (some (.int a)) (some (.int b))=some (.str (c::x)))(g:C .mF [.str [c]] h=some (.ret (.bool (kD c)) h)):
  π (θ C (m+2) Prog.eG.body [.v (.str t),.v (.int a)] h)=some (.ret (.int a) h):=by
 exact ga λκ=>κ _ (gw λκ=>κ _ rfl _ rfl _ (dT l0) _ s0 _ g _ hc (V.str (c::x)) (by simp[Prog.eG,bU,s0,l0,e1,sl,g,hc,h_]) _ rfl false (by simp[h_]))
theorem Fl{W:Nat}{h:Hp}(t:List Nat)(a c:Nat)(r:List Nat)(e:t.drop a=c::r)(hc:kD c=false)(h_:¬c=92)(hW:2<=W):Gives 2 W .eG [.str t,.int a] h (.ret (.int (a:Int)) h):=by
 refine ak λD hD=>?_
 rw[ω (ρ:=[.v (.str t),.v (.int a)]) rfl]
 have g:=y8 (W:=W) (h:=h) c D hD
 obtain⟨m,rfl⟩:∃m,W=m+2:=⟨W - 2,by exact(Eq.symm (dP (n:=W) (m:=2) (bK hW (by simp+arith))))⟩
 have sl:=nX t a
 rw[e]at sl
 exact Pa t a _ c _ rfl (aJ e) (ag e) hc h_ sl g
theorem Pb{C:Δ}{h:Hp}{m:Nat}(t:List Nat)(a a1 b:Int)(c:Nat)(x:List Nat)(e0:a+1=a1)(e1:a1+2=b)(lq:a<t.length)(l0:a1<t.length)(sz:υ (.str t) (.int a)=some (.str [32]))(s0:υ (.str t) (.int a1)=some (.str [c]))(hc:kD c=false)(h_:¬c=92)(sl:bG (.str t) (some (.int a1)) (some (.int b))=some (.str (c::x)))(gz:C .mF [.str [32]] h=some (.ret (.bool true) h))(g:C .mF [.str [c]] h=some (.ret (.bool (kD c)) h)):
  π (θ C (m+3) Prog.eG.body [.v (.str t),.v (.int a)] h)=some (.ret (.int a1) h):=by
 exact ga λκ=>(κ _ (gw λκ=>(κ _ rfl _ rfl _ (dT lq) _ sz _ gz _ rfl).trans (gw λκ=>κ _ rfl _ rfl _ (dT (by exact lt_of_eq_of_lt e0 l0)) (V.str [c]) (by simp[Prog.eG,bU,sz,s0,lq,l0,e0,e1,sl,gz,g,hc,h_]) _ g _ hc (V.str (c::x)) (by simp[Prog.eG,bU,sz,s0,lq,l0,e0,e1,sl,gz,g,hc,h_]) _ rfl false (by simp[Prog.eG,bU,sz,s0,lq,l0,e0,e1,sl,gz,g,hc,h_])))).trans (by exact e0▸rfl)
theorem Pd{W:Nat}{h:Hp}(t:List Nat)(a c:Nat)(r:List Nat)(e:t.drop a=32::c::r)(hc:kD c=false)(h_:¬c=92)(hW:3<=W):Gives 2 W .eG [.str t,.int a] h (.ret (.int ((a+1:Nat):Int)) h):=by
 refine ak λD hD=>?_
 rw[ω (ρ:=[.v (.str t),.v (.int a)]) rfl]
 have g:=y8 (W:=W) (h:=h) c D hD
 have gz:=y8 (W:=W) (h:=h) 32 D hD
 obtain⟨m,rfl⟩:∃m,W=m+3:=⟨W - 3,by exact(Eq.symm (dP (n:=W) (m:=3) (bK hW (by simp+arith))))⟩
 have e1:=aV e
 have sl:=nX t (a+1)
 rw[e1]at sl
 exact Pb t a _ _ c _ (by rfl) rfl (aJ e) (aJ e1) (ag e) (ag e1) hc h_ sl gz g
theorem Pe{C:Δ}{h:Hp}{m:Nat}(t:List Nat)(a b:Int)(c:Nat)(e1:a+1=b)(sg:C .eG [.str t,.int a] h=some (.ret (.int a) h))(sl:bG (.str t) (some (.int a)) (some (.int b))=some (.str [c]))(h1:¬c=10)(h2:¬c=59)(h3:¬c=35):
  π (θ C (m+2) Prog.iI.body [.v (.str t),.v (.int a)] h)=some (.ret (.int a) h):=by
 have uf:¬10=c:=λq=>h1 q.symm
 have Pf:¬59=c:=λq=>h2 q.symm
 have pz:¬35=c:=λq=>h3 q.symm
 exact ga λκ=>κ _ sg _ (gw λκ=>κ (V.str [c]) (by simp[Prog.iI,bU,sg,e1,sl,h1,h2,h3,uf,Pf,pz]) _ (ψ rfl) _ (oF (by exact pQ h1) (oF (by exact pQ h2) (oF (by exact pQ h3) rfl))))
theorem y9{W:Nat}{h:Hp}(t:List Nat)(a c:Nat)(r:List Nat)(e:t.drop a=c::r)(hc:kD c=false)(h_:¬c=92)(h1:¬c=10)(h2:¬c=59)(h3:¬c=35)(hW:2<=W):Gives 3 W .iI [.str t,.int a] h (.ret (.int (a:Int)) h):=by
 refine ak λD hD=>?_
 rw[ω (ρ:=[.v (.str t),.v (.int a)]) rfl]
 have sg:=Fl (W:=W) (h:=h) t a c r e hc h_ hW D hD
 obtain⟨m,rfl⟩:∃m,W=m+2:=⟨W - 2,by exact(Eq.symm (dP (n:=W) (m:=2) (bK hW (by simp+arith))))⟩
 have sl:=y4 t a
 rw[e]at sl
 exact Pe t a _ c rfl sg sl h1 h2 h3
theorem Pg{C:Δ}{h:Hp}{m:Nat}(t:List Nat)(a b n:Int)(c d:Nat)(bs:V)(e1:a+1=b)(l0:a<n)(l1:b<n)(hn:n=t.length)
  (s0:υ (.str t) (.int a)=some (.str [c]))(s1:υ (.str t) (.int b)=some (.str [d]))(sl:bG (.str t) (some (.int a)) (some (.int b))=some (.str [c]))
  (c1:¬c=36)(c2:¬c=91)(c3:¬c=92)(d1:¬d=36)(d2:¬d=91)(d3:¬d=92)(ic:iO (.str [c]) bs=some false)(id:iO (.str [d]) bs=some true):
  π (θ C (m+6) Prog.bF.body [.v (.str t),.v (.int a),.v bs,.un,.un,.un,.un,.un,.un,.un] h)=some (.ret (.tup [.tup [.tup [.str [116,101,120,116],.str [c]]],.int b]) h):=by
 subst hn
 exact ga λκ=>(κ _ rfl _ (gw λκ=>(κ _ rfl _ (dT l0) _ s0 true (by simp[Prog.bF,bU,s0,s1,l0,l1,e1,sl,bS,af,aM,bB,c1,c2,c3,d1,d2,d3,ic,id]) _ rfl _ s0 _ rfl false (by exact cF c1) _ s0 _ rfl false (by exact cF c2) _ s0 _ rfl false (by exact cF c3) _ (gw λκ=>(κ _ rfl _ (dT l0) _ s0 _ rfl true (by simp[Prog.bF,bU,s0,s1,l0,l1,e1,sl,bS,af,aM,bB,c1,c2,c3,d1,d2,d3,ic,id]) _ s0 true (by simp[Prog.bF,bU,s0,s1,l0,l1,e1,sl,bS,af,aM,bB,c1,c2,c3,d1,d2,d3,ic,id]) _ rfl).trans (gw λκ=>κ _ rfl _ (dT (by exact qO (fj e1) l1 (by simp+arith))) (V.str [d]) (by simp[Prog.bF,bU,s0,s1,l0,l1,e1,sl,bS,af,aM,bB,c1,c2,c3,d1,d2,d3,ic,id]) _ rfl true (by simp[Prog.bF,bU,s0,s1,l0,l1,e1,sl,bS,af,aM,bB,c1,c2,c3,d1,d2,d3,ic,id]) (V.str [d]) (by simp[Prog.bF,bU,s0,s1,l0,l1,e1,sl,bS,af,aM,bB,c1,c2,c3,d1,d2,d3,ic,id]) false (by simp[Prog.bF,bU,s0,s1,l0,l1,e1,sl,bS,af,aM,bB,c1,c2,c3,d1,d2,d3,ic,id]) _ rfl)) (V.str [c]) (by simp[Prog.bF,bU,s0,s1,l0,l1,e1,sl,bS,af,aM,bB,c1,c2,c3,d1,d2,d3,ic,id]) _ aM _ rfl _ rfl _ bB _ rfl).trans (gw λκ=>κ _ rfl _ (dT (by exact qO (fj e1) l1 (by simp+arith))) (V.str [d]) (by simp[Prog.bF,bU,s0,s1,l0,l1,e1,sl,bS,af,aM,bB,c1,c2,c3,d1,d2,d3,ic,id]) false (by simp[Prog.bF,bU,s0,s1,l0,l1,e1,sl,bS,af,aM,bB,c1,c2,c3,d1,d2,d3,ic,id]) _ rfl)) _ rfl _ rfl (by decide) _ rfl).trans (by exact e1▸rfl)
noncomputable def sP:V:=.tup [.str [32],.str [9],.str [11],.str [12],.str [13],.str [10],.str [59],.str [93]]
theorem Ph{W:Nat}{h:Hp}:Gives 1 W .qP [.bool true] h (.ret sP h):=by
 refine ak λD hD=>?_
 rw[ω (ρ:=[.v (.bool true)]) rfl]
 exact ga λκ=>κ _ rfl
theorem Pj{W:Nat}{C:Δ}{h:Hp}(t:List Nat)(a b e:Int)(c:Nat)(p:V)(e1:a+1=b)(c1:¬c=123)(c2:¬c=34)
  (sl:bG (.str t) (some (.int a)) (some (.int b))=some (.str [c]))(x:C .oW [.str t,.int a] h=some (.ret (.bool false) h))(y:C .qP [.bool true] h=some (.ret sP h))
  (z:C .bF [.str t,.int a,sP] h=some (.ret (.tup [p,.int e]) h)):
  π (θ C W Prog.word.body [.v (.str t),.v (.int a),.v (.bool true),.un,.un,.un,.un,.un,.un] h)=some (.ret (.tup [.tup [.bool false,p],.int e]) h):=by
 exact ga λκ=>κ _ x _ rfl (V.str [c]) (by simp[Prog.word,sl,x,y,z,e1,c1,c2]) _ rfl false (by exact cF c1) _ rfl false (by exact cF c2) _ y _ z
theorem Pk{W:Nat}{C:Δ}{h:Hp}(t:List Nat)(a b:Int)(s:List Nat)(e1:a+3=b)(sl:bG (.str t) (some (.int a)) (some (.int b))=some (.str s))(ne:¬s=[123,42,125]):
  π (θ C W Prog.oW.body [.v (.str t),.v (.int a),.un] h)=some (.ret (.bool false) h):=by
 exact ga λκ=>κ (V.str s) (by simp[Prog.oW,sl,e1,ne]) _ rfl true (by simp[ne])
theorem Fm{W:Nat}{h:Hp}(t:List Nat)(a c d:Nat)(r:List Nat)(e:t.drop a=c::d::r)(cd:c=102∧d=32∨c=49∧d=93)(hW:6<=W):Gives 2 W .word [.str t,.int a,.bool true] h (.ret (.tup [.tup [.bool false,.tup [.tup [.str [116,101,120,116],.str [c]]]],.int ((a+1:Nat):Int)]) h):=by
 refine ak λD hD=>?_
 rw[ω (ρ:=[.v (.str t),.v (.int a),.v (.bool true),.un,.un,.un,.un,.un,.un]) rfl]
 obtain⟨m,rfl⟩:∃m,W=m+6:=⟨W - 6,by exact(Eq.symm (dP (n:=W) (m:=6) (bK hW (by simp+arith))))⟩
 have sl:=dk t a (a+1)
 rw[e,show a+1 - a=1 by exact dN ..]at sl
 have Fo:=dk t a (a+3)
 rw[e,show a+3 - a=3 by exact dN ..]at Fo
 have cc:¬c=123∧¬c=34:=by omega
 have e1:=aV e
 obtain⟨D',rfl⟩:∃D',D=D'+1:=⟨D - 1,by exact(Eq.symm (dP (n:=D) (m:=1) (bK hD (by simp+arith))))⟩
 refine Pj t a _ _ c (.tup [.tup [.str [116,101,120,116],.str [c]]]) rfl cc.1 cc.2 sl ?_ (Ph _ hD) ?_
 ·show jo _ _ _ _ _=_
  rw[ω (ρ:=[.v (.str t),.v (.int a),.un]) rfl]
  refine Pk t a _ _ (by rfl) Fo ?_
  intro q
  simp at q
  omega
 ·show jo _ _ _ _ _=_
  rw[ω (ρ:=[.v (.str t),.v (.int a),.v sP,.un,.un,.un,.un,.un,.un,.un]) rfl]
  refine Pg t a _ _ c d sP rfl (aJ e) (aJ e1) rfl (ag e) (ag e1) sl (by omega) (by omega) (by omega) (by omega) (by omega) (by omega) ?_ ?_
  ·rcases cd with⟨rfl,rfl⟩|⟨rfl,rfl⟩<;>rfl
  ·rcases cd with⟨rfl,rfl⟩|⟨rfl,rfl⟩<;>rfl
set_option maxHeartbeats 4000000
noncomputable def pZ(c:Nat):V:=.tup [.bool false,.tup [.tup [.str [116,101,120,116],.str [c]]]]
theorem Pl{C:Δ}{h:Hp}{m:Nat}(t:List Nat)(a b c d:Int)(l0:¬(t.length:Int)<=a)(l2:¬(t.length:Int)<=c)(l3:¬(t.length:Int)<=d)(cb:¬c=b)
  (s0:υ (.str t) (.int a)=some (.str [102]))(s2:υ (.str t) (.int c)=some (.str [49]))(s3:υ (.str t) (.int d)=some (.str [93]))
  (k:C .iI [.str t,.int a] h=some (.ret (.int a) h))(w1:C .word [.str t,.int a,.bool true] h=some (.ret (.tup [pZ 102,.int b]) h))(w2:C .word [.str t,.int c,.bool true] h=some (.ret (.tup [pZ 49,.int d]) h))
  (g1:C .eG [.str t,.int b] h=some (.ret (.int c) h))(g2:C .eG [.str t,.int d] h=some (.ret (.int d) h)):
  π (θ C (m+2) Prog.oX.body [.v (.str t),.v (.int a),.v (.bool true),.un,.un,.un,.un,.un,.un] h)=some (.ret (.tup [.tup [pZ 102,pZ 49],.int a,.int d,.int d]) h):=by
 exact ga λκ=>κ _ k _ rfl _ rfl _ (dF l0) _ rfl _ s0 _ rfl _ rfl _ (gw λκ=>(κ _ rfl _ w1 (by decide) _ g1 _ rfl _ (dF l2) _ s2 _ (ψ rfl) _ rfl _ rfl _ s2 _ rfl _ rfl _ rfl _ (iF cb)).trans (gw λκ=>κ _ rfl _ w2 (by decide) _ g2 _ rfl _ (dF l3) _ s3 _ (ψ rfl) _ rfl _ rfl _ s3 _ rfl _ rfl _ rfl))
theorem vD{x y z w:V}{u:List V}:υ (.tup (x::y::z::w::u)) (.int 3)=some w:=by
 show(PySem.seqIndex? ((3:Nat):Int) (u.length+4)).bind _=_
 rw[pS (Nat.lt_add_left _ (by decide))];rfl
theorem Pm{C:Δ}{h:Hp}{m:Nat}(t:List Nat)(a b d f:Int)(cm:V)(e1:a+1=b)(e2:d+1=f)(l0:b<t.length)(l3:d<t.length)(l4:¬(t.length:Int)<=d)
  (s0:υ (.str t) (.int b)=some (.str [102]))(s3:υ (.str t) (.int d)=some (.str [93]))(x:List Nat)(sl:bG (.str t) (some (.int b)) (some (.int d))=some (.str x))
  (k:C .iI [.str t,.int b] h=some (.ret (.int b) h))(k2:C .iI [.str t,.int d] h=some (.ret (.int d) h))(cd:C .oX [.str t,.int b,.bool true] h=some (.ret cm h))(c3:υ cm (.int 3)=some (.int d)):
  π (θ C (m+2) Prog.brackets.body [.v (.str t),.v (.int a),.un,.un,.un] h)=some (.ret (.tup [.str x,.int f]) h):=by
 subst e1 e2
 exact ga λκ=>κ _ k _ (gw λκ=>(κ _ rfl _ rfl _ (dT l0) _ s0 _ rfl _ rfl _ cd _ c3 _ k2).trans (gw λκ=>κ _ rfl _ rfl _ (dT l3) _ s3 _ rfl _ rfl)) _ rfl _ rfl _ (dF l4) _ sl
theorem Pn{W:Nat}{h:Hp}(t:List Nat)(a:Nat)(r:List Nat)(e:t.drop a=102::32::49::93::r)(hW:6<=W):Gives 4 W .oX [.str t,.int a,.bool true] h (.ret (.tup [.tup [pZ 102,pZ 49],.int a,.int ((a+3:Nat):Int),.int ((a+3:Nat):Int)]) h):=by
 refine ak λD hD=>?_
 rw[ω (ρ:=[.v (.str t),.v (.int a),.v (.bool true),.un,.un,.un,.un,.un,.un]) rfl]
 have e1:=aV e
 have e2:=aV e1
 have e3:=aV e2
 have l0:=aJ e
 have l2:=aJ e2
 have l3:=aJ e3
 have k:=y9 (W:=W) (h:=h) t a _ _ e (by decide) (by decide) (by decide) (by decide) (by decide) (by exact kW hW) D (by omega)
 have w1:=Fm (W:=W) (h:=h) t a _ _ _ e (.inl ⟨rfl,rfl⟩) hW D (by exact bE hD)
 have w2:=Fm (W:=W) (h:=h) t (a+1+1) _ _ _ e2 (.inr ⟨rfl,rfl⟩) hW D (by exact bK hD (by simp+arith))
 have g1:=Pd (W:=W) (h:=h) t (a+1) _ _ e1 (by decide) (by decide) (by exact kW hW) D (by exact bK hD (by simp+arith))
 have g2:=Fl (W:=W) (h:=h) t (a+1+1+1) _ _ e3 (by decide) (by decide) (by exact bK hW (by simp+arith)) D (by omega)
 obtain⟨m,rfl⟩:∃m,W=m+2:=⟨W - 2,by exact(Eq.symm (dP (n:=W) (m:=2) (bK hW (by simp+arith))))⟩
 exact Pl t a _ _ _ (by exact(λ{a b}=>Int.not_le.mpr) l0) (by exact(λ{a b}=>Int.not_le.mpr) l2) (by exact Int.not_le.mpr l3) (by simp+arith) (ag e) (ag e2) (ag e3) k w1 w2 g1 g2
theorem Po{W:Nat}{h:Hp}(t:List Nat)(a:Nat)(r:List Nat)(e:t.drop a=91::102::32::49::93::r)(hW:6<=W):Gives 5 W .brackets [.str t,.int a] h (.ret (.tup [.str [102,32,49],.int ((a:Int)+5)]) h):=by
 refine ak λD hD=>?_
 rw[ω (ρ:=[.v (.str t),.v (.int a),.un,.un,.un]) rfl]
 have e0:=aV e
 have e1:=aV e0
 have e2:=aV e1
 have e3:=aV e2
 have l0:=aJ e0
 have l3:=aJ e3
 have k:=y9 (W:=W) (h:=h) t (a+1) _ _ e0 (by decide) (by decide) (by decide) (by decide) (by decide) (by exact kW hW) D (by exact bE hD)
 have k2:=y9 (W:=W) (h:=h) t (a+1+1+1+1) _ _ e3 (by decide) (by decide) (by decide) (by decide) (by decide) (by exact bK hW (by simp+arith)) D (by exact bK hD (by simp+arith))
 have cd:=Pn (W:=W) (h:=h) t (a+1) _ e0 hW D hD
 have sl:=dk t (a+1) (a+1+1+1+1)
 rw[e0,show a+1+1+1+1 - (a+1)=3 by exact Eq.symm (Nat.eq_sub_of_add_eq' rfl)]at sl
 obtain⟨m,rfl⟩:∃m,W=m+2:=⟨W - 2,by exact(Eq.symm (dP (n:=W) (m:=2) (bK hW (by simp+arith))))⟩
 exact Pm t a _ _ _ _ rfl (by rfl) l0 l3 (by exact Int.not_le.mpr l3) (ag e0) (ag e3) _ sl k k2 cd (by rw[vD])
noncomputable def vE:V:=.tup [.tup [.str [116,101,120,116],.str [97,32,98]]]
noncomputable def vF:V:=.tup [.tup [.str [116,101,120,116],.str [97]],.tup [.str [118,97,114],.str [118],.none]]
noncomputable def vG:V:=.tup [.tup [.str [99,109,100],.str [102,32,49]]]
noncomputable def y_:V:=.tup [.tup [.str [118,97,114],.str [118],.none]]
noncomputable def za(l:List Nat):Option (V×Nat):=
 if l.take 5=[34,97,32,98,34]then some (vE,5)else if l.take 5=[34,97,36,118,34]then some (vF,5)else if l.take 5=[91,102,32,49,93]then some (vG,5)else if l.take 4=[36,123,118,125]then some (y_,4)else none
theorem Pp{l:List Nat}{x:V×Nat}(h:za l=some x){p:Prop}(hA:∀r,l=34::97::32::98::34::r->x=(vE,5)->p)(hB:∀r,l=34::97::36::118::34::r->x=(vF,5)->p)(hC:∀r,l=91::102::32::49::93::r->x=(vG,5)->p)(hD:∀r,l=36::123::118::125::r->x=(y_,4)->p):p:=by
 have k:∀{n:Nat} {q:List Nat},l.take n=q->l=q++l.drop n:=λe=>by rw[<-e,fJ]
 unfold za at h
 by_cases a:l.take 5=[34,97,32,98,34]
 ·exact hA _ (k a) (Option.some.inj ((if_pos a).symm.trans h)).symm
 rw[if_neg a]at h
 by_cases a:l.take 5=[34,97,36,118,34]
 ·exact hB _ (k a) (Option.some.inj ((if_pos a).symm.trans h)).symm
 rw[if_neg a]at h
 by_cases a:l.take 5=[91,102,32,49,93]
 ·exact hC _ (k a) (Option.some.inj ((if_pos a).symm.trans h)).symm
 rw[if_neg a]at h
 by_cases a:l.take 4=[36,123,118,125]
 ·exact hD _ (k a) (Option.some.inj ((if_pos a).symm.trans h)).symm
 rw[if_neg a]at h
 cases h
section
set_option genInjectivity true in
inductive TK
 |op (s:List Nat)|num (n:Int)|wd (s:List Nat)|b4 (v:V)|txt (s:List Nat)|lp|rp|cm|fin
noncomputable def TK.ctorIdx(x:TK):Nat:=@TK.casesOn (λ_=>Nat) x (λ_=>(0:Nat)) (λ_=>(1:Nat)) (λ_=>(2:Nat)) (λ_=>(3:Nat)) (λ_=>(4:Nat)) (5:Nat) (6:Nat) (7:Nat) (8:Nat)
noncomputable def gX:List Nat:=[112,97,114,116,115]
noncomputable def n8:List Nat:=[116,101,120,116]
noncomputable def cG:List Nat:=[101,110,100]
noncomputable def TK.aq:TK->List Nat
 |.op _=>h9|.num _=>vx|.wd _=>bP|.b4 _=>gX|.txt _=>n8|.lp=>[40]|.rp=>[41]|.cm=>[44]|.fin=>cG
noncomputable def TK.d4:TK->V
 |.op s=>.str s|.num n=>.int n|.wd s=>.str s|.b4 v=>v|.txt s=>.str s|.lp=>.str [40]|.rp=>.str [41]|.cm=>.str [44]|.fin=>.str []
structure Tok where
 k:TK
 a:Nat
 n:Nat
noncomputable def Tok.pv(t:Tok):V:=.tup [.str t.k.aq,t.k.d4,.int t.a,.int ((t.a+t.n:Nat):Int)]
inductive LR
 |none|tok (k:TK) (n:Nat)|bad (w:List Nat)
noncomputable def LR.ctorIdx(x:LR):Nat:=@LR.casesOn (λ_=>Nat) x (0:Nat) (λ_ _=>(1:Nat)) (λ_=>(2:Nat))
noncomputable def LR.tr:LR->Option TR
 |.none=>Option.none
 |.tok k n=>some (.tok k.aq k.d4 n)
 |.bad w=>some (.bad w)
noncomputable def bJ(base:Int):List Nat->Int->Int
 |[],v=>v
 |c::r,v=>if Ξ base (c::r)=true then bJ base r (v*base+aL c)else v
theorem Pq(base:Int)(l:List Nat):∀v:Int,i5 base (l.take (aa base l)) v=some (bJ base l v):=by
 induction l with
 |nil=>exact λ_=>rfl
 |cons c r ih=>
  intro v
  cases q:Ξ base (c::r)with
  |true=>
   have d:=of_decide_eq_true q
   rw[show aa base (c::r)=aa base r+1 from(if_pos q).trans (aQ ..),show bJ base (c::r) v=bJ base r (v*base+aL c)from if_pos q]
   exact(if_neg λh=>h.elim (Int.not_lt.mpr d.1) (Int.not_le.mpr d.2)).trans (ih _)
  |false=>
   have n:¬Ξ base (c::r)=true:=by rw[q];exact ς
   rw[show aa base (c::r)=0 from if_neg n,show bJ base (c::r) v=v from if_neg n];rfl
theorem Pt(base:Int)(l:List Nat)(q:Ξ base l=true):digitsVal (l.take (aa base l)) base=some (bJ base l 0):=by
 cases l with
 |nil=>exact absurd q ς
 |cons c r=>exact(if_neg (by rw[show aa base (c::r)=aa base r+1 from(if_pos q).trans (aQ ..)];exact List.cons_ne_nil _ _)).trans (Pq base (c::r) 0)
theorem lY{p:Prop}[Decidable p]{x y:LR}{u v:TR}(a:p->x.tr=some u)(b:¬p->y.tr=some v):(if p then x else y).tr=some (if p then u else v):=by
 by_cases h:p
 ·rw[if_pos h,if_pos h];exact a h
 ·rw[if_neg h,if_neg h];exact b h
noncomputable def n9(l:List Nat)(off:Nat)(base:Int):LR:=
 let n:=off+aa base (l.drop off)
 if off=0∧eR (l.drop n)=true then .bad f7
 else if ec (l.drop n)=true then .tok (.wd (l.take (n+runN (l.drop n)))) (n+runN (l.drop n))
 else .tok (.num (bJ base (l.drop off) 0)) n
noncomputable def n_(l:List Nat):LR:=if bV l=true then n9 l 2 (aU ((l.drop 1).take 1))else n9 l 0 10
theorem Fp(l:List Nat)(off:Nat)(base:Int)(q:Ξ base (l.drop off)=true):(n9 l off base).tr=some (nZ l off base):=lY (λ_=>rfl) λ_=>lY (λ_=>rfl) λ_=>congrArg (λo=>some (TR.tok vx (lN o) _)) (Pt base _ q).symm
theorem Pu(l:List Nat)(q:Ξ 10 l=true):(n_ l).tr=some (pV l):=lY (λh=>Fp _ _ _ (bD.mp (bD.mp h).2).2) λ_=>Fp _ _ _ q
noncomputable def fA:List Nat->LR
 |[]=>.none
 |c::r=>
  if¬ed (c::r)=[]then .tok (.op (ed (c::r))) (ed (c::r)).length
  else if Ξ 10 (c::r)=true then n_ (c::r)
  else if c=95∨Ξ 36 (c::r)=true then .tok (if dH ((c::r).take (runN (c::r)))=true then .op ((c::r).take (runN (c::r)))else .wd ((c::r).take (runN (c::r)))) (runN (c::r))
  else if c=46∧Ξ 10 r=true then .bad f7
  else if c=61 then .bad lU
  else .bad (lV++[c]++[34])
theorem Pw(c:Nat)(r:List Nat):(fA (c::r)).tr=some (vB (c::r)):=lY (λ_=>rfl) λ_=>lY (Pu _) λ_=>lY (λ_=>by
 cases dH ((c::r).take (runN (c::r)))<;>rfl) λ_=>lY (λ_=>rfl) λ_=>lY (λ_=>rfl) λ_=>rfl
noncomputable def oh:List Nat->Option (List Nat)
 |[]=>none
 |c::r=>if c=125 then some []else if c=123∨c=92 then none else(oh r).map (c::·)
theorem Px{l:List Nat}:∀{w:List Nat},oh l=some w->lX w∧∃r,l=w++125::r:=by
 induction l with
 |nil=>exact λe=>nomatch e
 |cons c r ih=>
  intro w e
  have e:(if c=125 then some []else if c=123∨c=92 then none else(oh r).map (c::·))=some w:=e
  by_cases h1:c=125
  ·rw[if_pos h1]at e
   exact Option.some.inj e▸⟨λ_ h=>absurd h iD,r,congrArg (· ::r) h1⟩
  ·rw[if_neg h1]at e
   by_cases h2:c=123∨c=92
   ·rw[if_pos h2]at e;exact nomatch e
   ·rw[if_neg h2]at e
    obtain⟨u,q,e⟩:=fG.mp e
    obtain⟨f,x,ex⟩:=ih q
    exact e▸⟨λy m=>(dx.mp m).elim (λe=>e▸⟨λq=>h2 (.inl q),h1,λq=>h2 (.inr q)⟩) (f y),x,congrArg (c::·) ex⟩
noncomputable def eS(l:List Nat):LR:=match l with
 |[]=>.none
 |c::r=>
  if c=36∨c=91∨c=34 then(za (c::r)).elim .none λp=>.tok (.b4 p.1) p.2
  else if c=123 then(oh r).elim .none λw=>.tok (.txt w) (w.length+2)
  else if c=40 then .tok .lp 1 else if c=41 then .tok .rp 1 else if c=44 then .tok .cm 1
  else fA (c::r)
noncomputable def LR.out(t:List Nat)(a:Nat)(h:Hp):LR->Option CR
 |.none=>Option.none
 |.tok k n=>some (.ret (Tok.pv ⟨k,a,n⟩) h)
 |.bad w=>some (.exc h.length (h++[lQ w t]))
theorem Py{t:List Nat}{a:Nat}{h:Hp}{l:LR}{x:TR}(e:l.tr=some x):l.out t a h=some (x.out t a h):=by
 cases l with
 |none=>exact nomatch e
 |tok=>exact Option.some.inj e▸rfl
 |bad=>exact Option.some.inj e▸rfl
section
variable{C:Δ}{W:Nat}{h:Hp}{t:List Nat}{a b n:Int}{x y:List Nat}
theorem Pz(v:V)(sa:υ (.str t) (.int a)=some (.str [36]))(k:C .kX [.str t,.int a] h=some (.ret (.tup [v,.int b]) h))(v0:υ v (.int 0)=some (.str x))(nx:¬x=[116,101,120,116]):
  π (θ C W Prog.gN.body [.v (.str t),.v (.int a),.un,.un,.un,.un,.un,.un] h)=some (.ret (.tup [.str gX,.tup [v],.int a,.int b]) h):=by
 exact ga λκ=>κ _ sa _ rfl _ rfl _ k _ v0 _ rfl _ (sF nx)
theorem PA(sa:υ (.str t) (.int a)=some (.str [91]))(k:C .brackets [.str t,.int a] h=some (.ret (.tup [.str x,.int b]) h)):
  π (θ C W Prog.gN.body [.v (.str t),.v (.int a),.un,.un,.un,.un,.un,.un] h)=some (.ret (.tup [.str gX,.tup [.tup [.str [99,109,100],.str x]],.int a,.int b]) h):=by
 exact ga λκ=>κ _ sa _ rfl _ rfl _ rfl _ rfl _ k
theorem Fq(v:V)(sa:υ (.str t) (.int a)=some (.str [34]))(e1:a+1=b)(k:C .bF [.str t,.int b,.tup [.str [34]]] h=some (.ret (.tup [v,.int n]) h))(l:¬(t.length:Int)<=n):
  π (θ C W Prog.gN.body [.v (.str t),.v (.int a),.un,.un,.un,.un,.un,.un] h)=some (.ret (.tup [.str gX,v,.int a,.int (n+1)]) h):=by
 subst e1
 exact ga λκ=>κ _ sa _ rfl _ rfl _ rfl _ rfl _ rfl _ rfl _ k _ rfl _ rfl _ (dF l)
theorem PB(sa:υ (.str t) (.int a)=some (.str [123]))(k:C .mG [.str t,.int a] h=some (.ret (.tup [.str x,.int b]) h)):
  π (θ C W Prog.gN.body [.v (.str t),.v (.int a),.un,.un,.un,.un,.un,.un] h)=some (.ret (.tup [.str n8,.str x,.int a,.int b]) h):=by
 exact ga λκ=>κ _ sa _ rfl _ rfl _ rfl _ rfl _ rfl _ rfl _ rfl _ rfl _ k
theorem zb(c:Nat)(sa:υ (.str t) (.int a)=some (.str [c]))(e1:a+1=b)(hc:c=40∨c=41∨c=44):
  π (θ C W Prog.gN.body [.v (.str t),.v (.int a),.un,.un,.un,.un,.un,.un] h)=some (.ret (.tup [.str [c],.str [c],.int a,.int b]) h):=by
 rcases hc with rfl|rfl|rfl<;>exact ga λκ=>(κ _ sa _ rfl _ rfl _ rfl _ rfl _ rfl _ rfl _ rfl _ rfl _ (ψ rfl) _ rfl).trans (by exact e1▸rfl)
theorem PD(c:Nat)(r:CR)(sa:υ (.str t) (.int a)=some (.str [c]))(h1:¬c=36)(h2:¬c=91)(h3:¬c=34)(h4:¬c=123)(h5:¬c=40)(h6:¬c=41)(h7:¬c=44)(k:C .qR [.str t,.int a] h=some r):
  π (θ C W Prog.gN.body [.v (.str t),.v (.int a),.un,.un,.un,.un,.un,.un] h)=some r:=by
 have Wu:¬40=c:=λq=>h5 q.symm
 have Wv:¬41=c:=λq=>h6 q.symm
 have Ww:¬44=c:=λq=>h7 q.symm
 cases r<;>exact ga λκ=>κ _ sa _ rfl false (by exact cF h1) _ rfl false (by exact cF h2) _ rfl false (by exact cF h3) _ rfl false (by exact cF h4) _ (ψ rfl) _ (oF (by exact pQ h5) (oF (by exact pQ h6) (oF (by exact pQ h7) rfl))) _ k
end
theorem sQ{α:Type}{P:α->Prop}{p:Prop}[Decidable p]{x y:α}(a:p->P x)(b:¬p->P y):P (if p then x else y):=by
 by_cases h:p
 ·rw[if_pos h];exact a h
 ·rw[if_neg h];exact b h
theorem Fs{α β:Type}{P:β->Prop}{o:Option α}{z:β}{f:α->β}(n:P z)(s:∀x,o=some x->P (f x)):P (o.elim z f):=by
 cases o with
 |none=>exact n
 |some x=>exact s x rfl
noncomputable def zc(C:Δ)(W:Nat)(h:Hp)(t:List Nat)(a:Nat)(x:LR):Prop:=∀r,x.out t a h=some r->π (θ C W Prog.gN.body [.v (.str t),.v (.int a),.un,.un,.un,.un,.un,.un] h)=some r
theorem zc.tok{C:Δ}{W:Nat}{h:Hp}{t:List Nat}{a:Nat}{k:TK}{n:Nat}(e:π (θ C W Prog.gN.body [.v (.str t),.v (.int a),.un,.un,.un,.un,.un,.un] h)=some (.ret (Tok.pv ⟨k,a,n⟩) h)):zc C W h t a (.tok k n):=λ_ q=>e.trans q
theorem Ft{W:Nat}{h:Hp}(t:List Nat)(a:Nat)(hW:t.length+10<W)(hl:t.length<=800000){r:CR}(e:(eS (t.drop a)).out t a h=some r):Gives 6 W .gN [.str t,.int a] h r:=ak λD hD=>(ω (ρ:=[.v (.str t),.v (.int a),.un,.un,.un,.un,.un,.un]) rfl).trans (by
 revert e
 revert r
 show zc (ι prog W D) W h t a (eS (t.drop a))
 have D4:=bE hD
 have w6:6<=W:=η (by decide) (bE (aX (ai 10 t.length) hW))
 cases q:t.drop a with
 |nil=>exact λ_ e=>nomatch e
 |cons c s=>
  refine sQ (λ_=>Fs (λ_ e=>nomatch e) λx hv=>Pp hv (λr q2 qv=>?_) (λr q2 qv=>?_) (λr q2 qv=>?_) (λr q2 qv=>?_)) λn1=>sQ (λn2=>Fs (λ_ e=>nomatch e) λw hw=>?_) λn2=>sQ (λe=>?_) λn3=>sQ (λe=>?_) λn4=>sQ (λe=>?_) λn5=>?_
  ·rw[qv];rw[q2]at q
   have e0:=aV q
   exact .tok (Fq _ (ag q) rfl (O_ t (a+1) _ e0 (η (by decide) w6) D (dO hD)) (Int.not_le.mpr (aJ (aV (aV (aV e0))))))
  ·rw[qv];rw[q2]at q
   have e0:=aV q
   exact .tok (Fq _ (ag q) rfl (O' t (a+1) _ e0 (η (by decide) w6) D (η (by decide) hD)) (Int.not_le.mpr (aJ (aV (aV (aV e0))))))
  ·rw[qv];rw[q2]at q
   exact .tok (PA (ag q) (Po t a _ q w6 D (η (by decide) hD)))
  ·rw[qv];rw[q2]at q
   exact .tok (Pz _ (ag q) (O5 t a _ q hl D (η (by decide) hD)) aM (by decide))
  ·obtain⟨f,x,rfl⟩:=Px hw
   subst n2
   exact .tok (PB (ag q) (O1 t a w x q f (aX (az (by decide) _) hW) hl D (η (by decide) hD)))
  ·subst e;exact .tok (zb 40 (ag q) rfl (.inl rfl))
  ·subst e;exact .tok (zb 41 (ag q) rfl (.inr (.inl rfl)))
  ·subst e;exact .tok (zb 44 (ag q) rfl (.inr (.inr rfl)))
  ·intro r e
   have st:=OY (W:=W) (h:=h) t a c s q (aX (aP ..) hW) hl D hD
   rw[q]at st
   rw[Py (Pw c s)]at e
   exact PD c r (ag q) (λe=>n1 (.inl e)) (λe=>n1 (.inr (.inl e))) (λe=>n1 (.inr (.inr e))) n2 n3 n4 n5 (st.trans e))
end
inductive LX
 |ok (ts:List Tok)|bad (w:List Nat)
noncomputable def LX.cons(t:Tok):LX->LX
 |.ok ts=>.ok (t::ts)
 |.bad w=>.bad w
inductive Lx:Nat->List Nat->LX->Prop
 |fin {p:Nat}:Lx p [] (.ok [⟨.fin,p,0⟩])
 |skip {p:Nat} {l:List Nat} {x:LX} (m:Nat) (s:bZ l=m+bZ (l.drop m)) (g:Lx (p+m) (l.drop m) x):Lx p l x
 |tok {p:Nat} {l:List Nat} {x:LX} (k:TK) (m:Nat) (b:bZ l=0) (h:eS l=.tok k m) (h1:1<=m) (h2:m<=l.length) (g:Lx (p+m) (l.drop m) x):Lx p l (x.cons ⟨k,p,m⟩)
 |bad {p:Nat} {l:List Nat} (w:List Nat) (b:bZ l=0) (h:eS l=.bad w):Lx p l (.bad w)
noncomputable def PF:List S:=[.asg 3 (.call .gN [(.loc 0),(.loc 2)]),
    .ex (.app 1 (.loc 3)),
    .asg 2 (.call .oY [(.loc 0),(.sub (.loc 3) (.int 3))])]
theorem PG(x:Tok):υ x.pv (.int 3)=some (.int ((x.a+x.n:Nat):Int)):=vD
noncomputable def zd(C:Δ)(W n:Nat)(t:List Nat)(ac:List V)(i:Nat)(s3:Slot)(h:Hp):M Flow:=aO C W (.cmp .lt (.loc 2) (.bi .len (.loc 0))) PF n [.v (.str t),.own ac,.v (.int i),s3] h
noncomputable def vH(t:List Nat)(h:Hp)(ac:List V)(r:M Flow):LX->Prop
 |.ok ts=>∃(q:Nat) (s3:Slot) (tl:List V),tl++[Tok.pv ⟨.fin,q,0⟩]=ac++ts.map Tok.pv∧tl.length<=af∧r=some (.ok .ο [.v (.str t),.own tl,.v (.int q),s3] h)
 |.bad w=>∃ρ,r=some (.ex h.length ρ (h++[lQ w t]))
theorem vH.cons{t:List Nat}{h:Hp}{ac:List V}{r:M Flow}{k:Tok}:∀{x:LX},vH t h (ac++[k.pv]) r x->vH t h ac r (x.cons k)
 |.ok _,y=>y.imp λ_ y=>y.imp λ_ y=>y.imp λ_ y=>⟨y.1.trans (aN ..),y.2⟩
 |.bad _,y=>y
theorem PH{p l m k:Nat}(s:l=m+k):p+l=p+m+k:=s▸(aA ..).symm
theorem PI{W D:Nat}{h:Hp}{t:List Nat}(hD:6<=D)(hW:t.length+10<W)(hl:t.length<=800000){p:Nat}{l:List Nat}{x:LX}(lx:Lx p l x):∀{ac:List V} {n:Nat} {s3:Slot},t.drop p=l->l.length<n->ac.length+l.length<=af->vH t h ac (zd (ι prog W D) W n t ac (p+bZ l) s3 h) x:=by
 induction lx with
 |fin=>
  intro ac n s3 e hn ha
  obtain _|n:=n
  ·exact absurd hn (Nat.not_lt_zero _)
  ·rw[E8]
   exact⟨_,s3,ac,rfl,ha,gw λκ=>κ _ rfl _ rfl _ (dF (hY e))⟩
 |skip m s g ih=>
  intro ac n s3 e hn ha
  rename_i p l x
  rw[PH s]
  have le:=η (Ψ (cY (i:=m) (l:=l))) (Nat.sub_le ..)
  exact ih (by rw[<-cA,e]) (aX le hn) (η (az le _) ha)
 |tok k m b q h1 h2 g ih=>
  intro ac n s3 e hn ha
  rename_i p l x
  obtain _|n:=n
  ·exact absurd hn (Nat.not_lt_zero _)
  ·rw[b]
   obtain _|⟨c,r⟩:=l
   ·exact absurd (η h1 h2) (Nat.not_succ_le_zero _)
   ·have e2:t.drop (p+m)=(c::r).drop m:=by rw[<-cA,e]
    have tk:=Ft (W:=W) (h:=h) t p hW hl (r:=.ret (Tok.pv ⟨k,p,m⟩) h) (by rw[e,q];rfl) D hD
    have sk:=E_ (W:=W) (h:=h) t (p+m) (aX (aP ..) hW) D (η (by decide) hD)
    rw[e2]at sk
    have le:((c::r).drop m).length<=r.length:=by rw[cY];exact Nat.sub_le_sub_left h1 _
    have st:zd (ι prog W D) W (n+1) t ac (p+0) s3 h=zd (ι prog W D) W n t (ac++[Tok.pv ⟨k,p,m⟩]) (p+m+bZ ((c::r).drop m)) (.v (Tok.pv ⟨k,p,m⟩)) h:=gw λκ=>κ _ rfl _ rfl _ (dT (aJ e)) _ tk (d7 ha) _ (PG _) _ sk
    rw[st]
    exact(ih e2 (aX le (fi hn)) (by rw[Θ,aA];exact η (az (η (az le 1) (Ψ (aQ ..))) _) ha)).cons
 |bad w b q=>
  intro ac n s3 e hn ha
  rename_i p l
  obtain _|n:=n
  ·exact absurd hn (Nat.not_lt_zero _)
  ·rw[b]
   obtain _|⟨c,r⟩:=l
   ·exact nomatch q
   ·exact⟨_,gw λκ=>κ _ rfl _ rfl _ (dT (aJ e)) _ (Ft (W:=W) (h:=h) t p hW hl (r:=.exc h.length (h++[lQ w t])) (by rw[e,q];rfl) D hD)⟩
noncomputable def LX.out(t:List Nat)(h:Hp):LX->CR
 |.ok ts=>.ret (.list (ts.map Tok.pv)) h
 |.bad w=>.exc h.length (h++[lQ w t])
theorem Fu{W:Nat}{h:Hp}(t:List Nat)(hW:t.length+10<W)(hl:t.length<=800000){x:LX}(lx:Lx 0 t x):Gives 7 W .lex [.str t] h (x.out t h):=ak λD hD=>by
 rw[ω (ρ:=[.v (.str t),.un,.un,.un]) rfl]
 have g:=E_ (W:=W) (h:=h) t 0 (aX (aP ..) hW) D (η (by decide) hD)
 have y:=PI (W:=W) (D:=D) (h:=h) hD hW hl lx (ac:=[]) (n:=W) (s3:=.un) rfl (aX (aP ..) hW) (η (Ψ (bR _)) (η hl (by decide)))
 cases x with
 |bad w=>exact y.elim λρ y=>ga λκ=>κ _ g _ y
 |ok ts=>
  obtain⟨q,s3,tl,e,l,y⟩:=y
  exact ga λκ=>(κ _ g _ y l).trans (congrArg (λv=>some (CR.ret (.list v) h)) e)
section
noncomputable def gY:List (List Nat×Nat):=[([63],1),([124,124],2),([38,38],3),([124],4),([94],5),([38],6),([61,61],7),([33,61],7),([101,113],7),([110,101],7),([105,110],7),([110,105],7),([60],8),([62],8),([60,61],8),([62,61],8),([108,116],8),([108,101],8),([103,116],8),([103,101],8),([60,60],9),([62,62],9),([43],10),([45],10),([42],11),([47],11),([37],11),([42,42],12)]
noncomputable def look(s:List Nat):List (List Nat×Nat)->Option Nat
 |[]=>none
 |(k,v)::r=>if s=k then some v else look s r
noncomputable def lvl(s:List Nat):Nat:=(look s gY).getD 0
noncomputable def p5:V:=.dict (gY.map λp=>(p.1,.int (p.2:Nat)))
theorem vI(g:Nat->V)(s:List Nat):∀l:List (List Nat×Nat),findKey s (l.map λp=>(p.1,g p.2))=(look s l).map g
 |[]=>rfl
 |(k,v)::r=>by simp only[List.map_cons,findKey,look];split;rfl;exact vI g s r
theorem PJ(s:List Nat):eN .get p5 [.str s,.int 0]=some (.int (lvl s:Nat)):=by
 show some ((findKey s (gY.map λp=>(p.1,V.int (p.2:Nat)))).getD (.int 0))=_
 rw[vI (λn=>.int (n:Nat))]
 unfold lvl
 cases look s gY<;>rfl
noncomputable def TK.bQ:TK->Nat
 |.op s=>lvl s
 |_=>0
noncomputable def p6(t:List Nat)(ts:List Tok)(i:Nat):O:=⟨.reader,[(.text,.str t),(.tokens,.list (ts.map Tok.pv)),(.levels,p5),(.at,.int (i:Nat))]⟩
structure RD (k:Nat) (hp:Nat->Hp) (t:List Nat) (ts:List Tok):Prop where
 tok:∀i,iQ (hp i) (.obj k) .tokens=some (.list (ts.map Tok.pv))
 txt:∀i,iQ (hp i) (.obj k) .text=some (.str t)
 bQ:∀i,iQ (hp i) (.obj k) .levels=some p5
 at_:∀i,iQ (hp i) (.obj k) .at=some (.int (i:Nat))
 set:∀i (j:Nat),j6 (hp i) (.obj k) .at (.int (j:Nat))=some (hp j)
 PK:∀i,j6 (hp i) (.obj k) .at (.int ((i:Int)+1))=some (hp (i+1))
 obj:∀i,isObj (hp i) .reader (.obj k)=true
 len:∀i,(hp i).length=k+1
 tl:t.length<=700000
theorem PL(h0:Hp)(t:List Nat)(ts:List Tok)(tl:t.length<=700000):RD h0.length (λi=>h0++[p6 t ts i]) t ts:=by
 refine⟨λi=>?_,λi=>?_,λi=>?_,λi=>?_,λi j=>?_,λi=>?_,λi=>?_,λi=>by exact Θ,tl⟩
 ·exact sN _ _ _ _
 ·exact sN _ _ _ _
 ·exact sN _ _ _ _
 ·exact sN _ _ _ _
 ·exact eQ _ _ _ _ _
 ·exact eQ _ _ _ _ _
 ·exact lP _ _ _
theorem oj{vs:List V}{i:Nat}{x:V}(e:vs[i]?=some x):υ (.list vs) (.int (i:Nat))=some x:=by
 show(PySem.seqIndex? (i:Int) vs.length).bind _=_
 rw[pS (ej.mp e).1];exact e
theorem oq{x y z:V}{u:List V}:υ (.tup (x::y::z::u)) (.int 2)=some z:=by
 show(PySem.seqIndex? ((2:Nat):Int) (u.length+3)).bind _=_
 rw[pS (Nat.lt_add_left _ (by decide))];rfl
theorem sS(x:Tok):υ x.pv (.int 0)=some (.str x.k.aq):=aM
theorem Fv(x:Tok):υ x.pv (.int 1)=some x.k.d4:=bB
theorem Fw(x:Tok):υ x.pv (.int 2)=some (.int (x.a:Nat)):=oq
section
variable{k:Nat}{hp:Nat->Hp}{t:List Nat}{ts:List Tok}{W i:Nat}{x:Tok}
theorem RD.get(_R:RD k hp t ts)(e:ts[i]?=some x):υ (.list (ts.map Tok.pv)) (.int (i:Nat))=some x.pv:=oj (by simp[e])
theorem p7(R:RD k hp t ts)(e:ts[i]?=some x):Gives 1 W .cn [.obj k] (hp i) (.ret (.str x.k.aq) (hp i)):=by
 refine ak λD hD=>?_
 rw[ω (ρ:=[.v (.obj k)]) rfl]
 exact ga λκ=>κ _ (R.tok _) _ (R.at_ _) _ (R.get e) _ (sS _)
theorem sU(R:RD k hp t ts)(e:ts[i]?=some x):Gives 1 W .eH [.obj k] (hp i) (.ret x.k.d4 (hp i)):=by
 refine ak λD hD=>?_
 rw[ω (ρ:=[.v (.obj k)]) rfl]
 exact ga λκ=>κ _ (R.tok _) _ (R.at_ _) _ (R.get e) _ (Fv _)
theorem PM(R:RD k hp t ts)(e:ts[i]?=some x):Gives 1 W .dc [.obj k] (hp i) (.ret x.k.d4 (hp (i+1))):=by
 refine ak λD hD=>?_
 rw[ω (ρ:=[.v (.obj k)]) rfl]
 have a1:((i:Int)+1 - 1)=i:=by exact Int.add_sub_cancel (↑i) 1
 exact ga λκ=>κ _ (R.at_ _) _ (R.PK _) _ (R.tok _) _ (R.at_ _) (Tok.pv x) (by simp[R.get e]) _ (Fv _)
theorem PN(R:RD k hp t ts)(e:ts[i]?=some x):Gives 2 W .fO [.obj k] (hp i) (.ret (.int (x.k.bQ:Nat)) (hp i)):=by
 refine ak λD hD=>?_
 rw[ω (ρ:=[.v (.obj k)]) rfl]
 have s:=p7 (W:=W) R e D hD
 have v:=sU (W:=W) R e D hD
 have g:=PJ
 have q:ua .get p5=true:=rfl
 have lv:=R.bQ i
 have ob:=R.obj i
 generalize p5=L at*
 clear R
 cases hx:x.k<;>rw[hx]at s v<;>(first|exact ga λκ=>κ ob _ s _ rfl _ rfl _ lv q ob _ v _ (g _)|exact ga λκ=>κ ob _ s _ rfl _ rfl)
end
end
noncomputable def ze(s:List Nat):Option Int:=if 2<s.length∧s.take 1=[48]∧0<aU ((s.drop 1).take 1)then digitsVal (s.drop 2) (aU ((s.drop 1).take 1))else digitsVal s 10
structure ot (s:List Nat):Prop where
 ne:s≠[]
 ch:∀c∈s,au c=true∨c=58
 nw:ze s=none
theorem zf{c:Nat}(h:au c=true∨c=58):c<128∧ey c=false∧c≠43∧c≠45∧c≠123∧c≠125∧c≠92:=by
 have:48<=c∧c<=122∧c≠92:=by
  rcases h with h|rfl
  ·unfold au aL at h
   simp only[Bool.or_eq_true,beq_iff_eq,decide_eq_true_eq]at h
   rcases h with h|h
   ·omega
   ·split at h
    ·omega
    ·split at h
     ·omega
     ·split at h<;>(first|exact(Ib h (by(simp+arith;first|done|fail))).elim|omega)
  ·decide
 refine⟨by exact bK this.2.1 (by(simp+arith;first|done|fail)),?_,by exact nD (p:=λc=>(48<=c∧c<=122∧c≠92)) this (by decide),by exact nD (p:=λc=>(48<=c∧c<=122∧c≠92)) this (by decide),by exact nD (p:=λc=>(48<=c∧c<=122∧c≠92)) this (by decide),by exact nD (p:=λc=>(48<=c∧c<=122∧c≠92)) this (by decide),by exact nD (p:=λc=>(48<=c∧c<=122∧c≠92)) this (by decide)⟩
 unfold ey;simp;exact⟨oV (p:=λc=>(48<=c∧c<=122∧c≠92)) this (by decide),⟨oV (p:=λc=>(48<=c∧c<=122∧c≠92)) this (by decide),⟨oV (p:=λc=>(48<=c∧c<=122∧c≠92)) this (by decide),⟨oV (p:=λc=>(48<=c∧c<=122∧c≠92)) this (by decide),⟨oV (p:=λc=>(48<=c∧c<=122∧c≠92)) this (by decide),oV (p:=λc=>(48<=c∧c<=122∧c≠92)) this (by decide)⟩⟩⟩⟩⟩
theorem PO{C:Δ}{W:Nat}{h:Hp}{s:List Nat}{n m:Int}{c z:Nat}{rest:List S}(hW:0<W)(hn:(s.length:Int)=n)(n0:0<n)(e1:n - 1=m)(s0:υ (.str s) (.int 0)=some (.str [c]))(sz:υ (.str s) (.int m)=some (.str [z]))(hc:c≠43∧c≠45)
  (b0:C .isBlank [.str [c]] h=some (.ret (.bool false) h))(b1:C .isBlank [.str [z]] h=some (.ret (.bool false) h))(ex:Prog.wholeOf.body.drop 5=rest):
  θ C W Prog.wholeOf.body [.v (.str s),.un,.un,.un,.un,.un] h=θ C W rest [.v (.str s),.v (.int 0),.v (.int n),.v (.bool false),.un,.un] h:=by
 obtain⟨W,rfl⟩:∃V,W=V+1:=⟨W - 1,by exact(Eq.symm (dP (n:=W) (m:=1) (bK hW (by(simp+arith;first|done|fail)))))⟩
 have ex:Prog.wholeOf.body=Prog.wholeOf.body.take 5++rest:=by rw[<-ex,fJ]
 rw[ex]
 have h1:¬43=c:=λq=>hc.1 q.symm
 have h2:¬45=c:=λq=>hc.2 q.symm
 exact gp λκ=>(κ _ rfl _ (gw λκ=>κ _ rfl _ (dT (by exact lt_of_lt_of_eq n0 (id (Eq.symm hn)))) _ s0 _ b0 _ rfl) _ (gw λκ=>κ _ rfl _ (dT (by exact qO (fj (Eq.symm hn)) n0 (by(simp+arith;first|done|fail)))) (V.str [z]) (by simp[Prog.wholeOf,bU,hn,n0,e1,s0,sz,b0,b1,hc,h1,h2]) _ b1 _ rfl) _ rfl _ (dT (by exact qO (fj (Eq.symm hn)) n0 (by(simp+arith;first|done|fail)))) _ s0 _ (ψ rfl) _ (oF (by exact cF h1) (oF (by exact cF h2) rfl))).trans (by exact hn▸rfl)
theorem PQ{C:Δ}{W:Nat}{h:Hp}{s:List Nat}{n:Int}{c:Nat}(s0:υ (.str s) (.int 0)=some (.str [c]))(no:¬(2<n∧c=48))(sl:bG (.str s) (some (.int 0)) (some (.int n))=some (.str s))(d:C .digitsValue [.str s,.int 10] h=some (.ret .none h)):
  π (θ C W (Prog.wholeOf.body.drop 5) [.v (.str s),.v (.int 0),.v (.int n),.v (.bool false),.un,.un] h)=some (.ret .none h):=by
 by_cases h1:2<n
 ·have h2:¬c=48:=λq=>no ⟨h1,q⟩
  exact ga λκ=>κ _ rfl _ (dT (by exact Int.lt_sub_left_of_add_lt h1)) _ s0 _ rfl false (by exact cF h2) _ rfl _ rfl _ sl _ d _ rfl _ rfl
 ·exact ga λκ=>κ _ rfl _ (dF (by exact λκ=>eo (Int.not_lt.mp h1) κ (by(simp+arith;first|done|fail)))) _ (dF (by exact λκ=>eo (Int.not_lt.mp h1) κ (by(simp+arith;first|done|fail)))) _ rfl _ rfl _ sl _ d _ rfl _ rfl
theorem PR{C:Δ}{W:Nat}{h:Hp}{s x:List Nat}{n b:Int}(s0:υ (.str s) (.int 0)=some (.str [48]))(s1:υ (.str s) (.int 1)=some (.str x))(h1:2<n)(hb:¬0<b)(sl:bG (.str s) (some (.int 0)) (some (.int n))=some (.str s))(bo:C .baseOf [.str x] h=some (.ret (.int b) h))(d:C .digitsValue [.str s,.int 10] h=some (.ret .none h)):
  π (θ C W (Prog.wholeOf.body.drop 5) [.v (.str s),.v (.int 0),.v (.int n),.v (.bool false),.un,.un] h)=some (.ret .none h):=by
 exact ga λκ=>κ _ rfl _ (dT (by exact Int.lt_sub_left_of_add_lt h1)) _ s0 _ rfl _ rfl _ s1 _ bo _ rfl _ (dF hb) _ sl _ d _ rfl _ rfl
theorem PS{C:Δ}{W:Nat}{h:Hp}{s x y:List Nat}{n b:Int}(s0:υ (.str s) (.int 0)=some (.str [48]))(s1:υ (.str s) (.int 1)=some (.str x))(h1:2<n)(hb:0<b)(sl:bG (.str s) (some (.int 2)) (some (.int n))=some (.str y))(bo:C .baseOf [.str x] h=some (.ret (.int b) h))(d:C .digitsValue [.str y,.int b] h=some (.ret .none h)):
  π (θ C W (Prog.wholeOf.body.drop 5) [.v (.str s),.v (.int 0),.v (.int n),.v (.bool false),.un,.un] h)=some (.ret .none h):=by
 exact ga λκ=>κ _ rfl _ (dT (by exact Int.lt_sub_left_of_add_lt h1)) _ s0 _ rfl _ rfl _ s1 _ bo _ rfl _ (dT hb) _ sl _ d _ rfl _ rfl
theorem PT{W:Nat}{h:Hp}(hW:0<W)(s:List Nat)(ok:ot s):Gives 3 W .wholeOf [.str s] h (.ret .none h):=by
 refine ak λD hD=>?_
 rw[ω (ρ:=[.v (.str s),.un,.un,.un,.un,.un]) rfl]
 show π (θ _ _ Prog.wholeOf.body _ _)=_
 obtain⟨c,r,rfl⟩:∃c r,s=c::r:=by cases s with
  |nil=>exact absurd rfl ok.ne
  |cons c r=>exact⟨c,r,rfl⟩
 have e0:(c::r).drop 0=c::r:=rfl
 have s0:=ag e0
 have hc:=zf (ok.ch c (c9 ..))
 obtain⟨z,hz,ez⟩:∃z,z∈c::r∧(c::r).drop r.length=[z]:=by
  refine⟨(c::r).getLast (by exact List.cons_ne_nil _ _),List.getLast_mem _,?_⟩
  have q:=List.dropLast_concat_getLast (l:=c::r) (by exact List.cons_ne_nil _ _)
  generalize (c::r).getLast _=z at*
  rw[<-q]
  exact List.drop_left' (by simp)
 have sz:=ag ez
 have PU:=zf (ok.ch z hz)
 have b0:=yV (W:=W) (h:=h) c D (by exact bE hD)
 have b1:=yV (W:=W) (h:=h) z D (by exact bK hD (by(simp+arith;first|done|fail)))
 rw[hc.2.1]at b0
 rw[PU.2.1]at b1
 have len:((c::r).length:Int)=(r.length:Int)+1:=by simp
 rw[PO (n:=((c::r).length:Nat)) (m:=r.length) hW rfl (by exact Int.ofNat_succ_pos r.length) (by(simp+arith;first|done|fail)) s0 sz ⟨hc.2.2.1,hc.2.2.2.1⟩ b0 b1 rfl]
 have sl:=dk (c::r) 0 (c::r).length
 have sl':=dk (c::r) 2 (c::r).length
 rw[List.drop_zero,Nat.sub_zero,jU (ξ _)]at sl
 rw[jU (by simp)]at sl'
 have nw:=ok.nw
 unfold ze at nw
 have gW:=yW (W:=W) (h:=h) (c::r) 10 rfl D (by omega)
 by_cases h1:2<(c::r).length∧c=48
 ·obtain⟨h1,rfl⟩:=h1
  obtain⟨d,r,rfl⟩:∃d r',r=d::r':=by cases r with
   |nil=>simp at h1
   |cons d r=>exact⟨d,r,rfl⟩
  have s1:=ag (t:=48::d::r) (a:=1) (c:=d) (r:=r) rfl
  have bo:=EX (W:=W) (h:=h) [d] D (by exact bE hD)
  simp only[List.take_succ_cons,List.take_zero,List.drop_succ_cons,List.drop_zero]at nw sl'
  by_cases hb:0<aU [d]
  ·rw[if_pos ⟨h1,trivial,hb⟩]at nw
   have dv:=yW (W:=W) (h:=h) r (aU [d]) (Fg _) D (by omega)
   rw[nw]at dv
   exact PS (x:=[d]) (y:=r) s0 s1 (by exact cJ.mpr h1) hb sl' bo dv
  ·rw[if_neg (λq=>hb q.2.2)]at nw
   rw[nw]at gW
   exact PR (x:=[d]) s0 s1 (by exact fK (aK.mpr h1) (by(simp+arith;first|done|fail))) hb sl bo gW
 ·rw[if_neg (by intro q;simp at q;apply h1;simp;exact⟨bK q.1 (by(simp+arith;first|done|fail)),Ia q.2.1 (by(simp+arith;first|done|fail))⟩)]at nw
  rw[nw]at gW
  exact PQ s0 (by omega) sl gW
theorem zg{s:List Nat}(q:ascii s=true):eN .lower (.str s) []=some (.str (s.map aB)):=if_pos q
noncomputable def cz(low w:List Nat):Bool:=low.isPrefixOf w
noncomputable def f9:List (List Nat):=[[116,114,117,101],[121,101,115],[111,110]]
noncomputable def f_:List (List Nat):=[[102,97,108,115,101],[110,111],[111,102,102]]
noncomputable def sV(s:List Nat):V:=if s.map aB=[]∨s.map aB=[111]then .none else if f9.any (cz (s.map aB))=true then .bool true else if f_.any (cz (s.map aB))=true then .bool false else .none
theorem zh{C:Δ}{W:Nat}{h:Hp}{x y:Slot}{low:List Nat}{b:Bool}:∀(L:List (List Nat)) (s3:Slot),∃lT,cy C W 3 [.ifs (.met .startswith (.loc 3) [(.loc 2)]) [.ret (.bool b)] []] (L.map V.str) [x,y,.v (.str low),s3] h=some (.ok (if L.any (cz low)=true then .ret (.bool b)else .ο) [x,y,.v (.str low),lT] h)
 |[],s3=>⟨s3,rfl⟩
 |w::L,s3=>by
  cases p:cz low w with
  |true=>exact⟨.v (.str w),by rw[List.any_cons,p];exact gf λκ=>κ rfl _ rfl _ p⟩
  |false=>exact(zh L (.v (.str w))).imp λlT ih=>by rw[List.any_cons,p];exact gf λκ=>(κ rfl _ rfl _ p).trans ih
theorem PV{C:Δ}{W:Nat}{h:Hp}{s:List Nat}(w:C .wholeOf [.str s] h=some (.ret .none h))(ml:eN .lower (.str s) []=some (.str (s.map aB))):π (θ C W Prog.boolOf.body [.v (.str s),.un,.un,.un] h)=some (.ret (sV s) h):=by
 unfold sV
 generalize s.map aB=low at ml
 by_cases h0:low=[]∨low=[111]
 ·rw[if_pos h0]
  exact h0.elim (λh0=>ga λκ=>κ _ w _ rfl _ rfl rfl _ ml _ (ψ rfl) _ (oT (eT h0.symm))) λh0=>ga λκ=>κ _ w _ rfl _ rfl rfl _ ml _ (ψ rfl) _ (lJ (oT (eT h0.symm)))
 ·rw[if_neg h0]
  have n0:=oF (hX (not_or.mp h0).1) (oF (hX (not_or.mp h0).2) rfl)
  obtain⟨s1,q1⟩:=zh (C:=C) (W:=W) (h:=h) (x:=.v (.str s)) (y:=.v .none) (low:=low) (b:=true) f9 .un
  cases p1:f9.any (cz low)with
  |true=>
   rw[p1]at q1
   exact ga λκ=>κ _ w _ rfl _ rfl rfl _ ml _ (ψ rfl) _ n0 _ rfl _ q1
  |false=>
   obtain⟨s2,q2⟩:=zh (C:=C) (W:=W) (h:=h) (x:=.v (.str s)) (y:=.v .none) (low:=low) (b:=false) f_ s1
   cases p2:f_.any (cz low)<;>(rw[p1]at q1;rw[p2]at q2;exact ga λκ=>κ _ w _ rfl _ rfl rfl _ ml _ (ψ rfl) _ n0 _ rfl _ q1 _ rfl _ q2)
theorem Fy{s:List Nat}(ok:ot s):ascii s=true:=dM.mpr λc hc=>decide_eq_true (zf (ok.ch c hc)).1
theorem PW{W:Nat}{h:Hp}(hW:0<W)(s:List Nat)(ok:ot s):Gives 4 W .boolOf [.str s] h (.ret (sV s) h):=by
 exact ak λD hD=>(ω (ρ:=[.v (.str s),.un,.un,.un]) rfl).trans (PV (PT hW s ok D hD) (zg (Fy ok)))
noncomputable def Fz:V->Bool
 |.none=>true
 |_=>false
theorem PX(b:V):aY .is b .none=some (Fz b):=by cases b<;>rfl
noncomputable def ie(s:List Nat):Bool:=Fz (sV s)
noncomputable def i7:List Tok->Bool
 |⟨.lp,_,_⟩::_=>true
 |_=>false
noncomputable def eU(x:Tok)(r:List Tok):Bool:=match x.k with
 |.wd s=> !i7 r&&ie s
 |_=>false
noncomputable def i8:List (List Nat):=[[42,42],[60,60],[62,62],[60,61],[62,61],[61,61],[33,61],[38,38],[124,124],[43],[45],[42],[47],[37],[126],[33],[60],[62],[38],[94],[124],[63],[58],[101,113],[110,101],[105,110],[110,105],[108,116],[108,101],[103,116],[103,101]]
noncomputable def zi:List V:=[.tup [.tup [.str [116,101,120,116],.str [97,32,98]]],.tup [.tup [.str [116,101,120,116],.str [97]],.tup [.str [118,97,114],.str [118],.none]],.tup [.tup [.str [99,109,100],.str [102,32,49]]],.tup [.tup [.str [118,97,114],.str [118],.none]]]
noncomputable def eV:TK->Prop
 |.op s=>s∈i8
 |.wd s=>ot s∧s.length<=470
 |.b4 v=>v∈zi
 |.num n=>0<=n∧n.natAbs.log2<1920
 |.txt s=>lX s∧s.length<=470
 |_=>True
noncomputable def dI(x:Tok):Prop:=eV x.k
noncomputable def lZ:TK->Bool
 |.wd _=>true
 |_=>false
theorem zj:∀{k:TK},lZ k=false->(k.aq==bP)=false
 |.op _,_|.num _,_|.b4 _,_|.txt _,_|.lp,_|.rp,_|.cm,_|.fin,_=>rfl
theorem p8{x:Tok}{r:List Tok}:(x.k.aq==[40])=i7 (x::r):=by
 obtain⟨k,a,n⟩:=x;cases k<;>rfl
theorem vJ{x:Tok}{r:List Tok}(q:lZ x.k=false):eU x r=false:=by
 unfold eU
 cases e:x.k<;>first|rfl|(rw[e]at q;exact nomatch q)
theorem PY{k:Nat}{hp:Nat->Hp}{t:List Nat}{ts:List Tok}{W i:Nat}(R:RD k hp t ts)(hW:0<W){x:Tok}{r:List Tok}(e:ts.drop i=x::r)(ok:dI x)(ne:x.k=.fin∨r≠[]):Gives 5 W .mI [.obj k] (hp i) (.ret (.bool (eU x r)) (hp i)):=ak λD hD=>by
 rw[ω (ρ:=[.v (.obj k)]) rfl]
 have s:=p7 (W:=W) R (nU e) D (dO hD)
 cases hx:lZ x.k with
 |false=>
  rw[vJ hx]
  exact ga λκ=>κ (R.obj i) _ s _ rfl _ (b8 (zj hx)) _ (b8 (zj hx))
 |true=>
  have v:=sU (W:=W) R (nU e) D (dO hD)
  obtain⟨k',a,n⟩:=x
  cases k'<;>first|exact absurd hx ς|skip
  rename_i w
  cases r with
  |nil=>exact absurd rfl (ne.resolve_left λq=>TK.noConfusion q)
  |cons y r=>
   have b:=PW (W:=W) (h:=hp i) hW w (And.left ok) D hD
   have d1:=nU (aV e)
   cases hl:(y.k.aq==[40])with
   |true=>
    rw[show eU ⟨.wd w,a,n⟩ (y::r)=false from aF (dZ (p8.symm.trans hl))]
    exact ga λκ=>κ (R.obj i) _ s _ rfl _ rfl _ (R.tok i) _ (R.at_ i) _ (R.get d1) _ (sS y) _ rfl _ hl
   |false=>
    rw[show eU ⟨.wd w,a,n⟩ (y::r)=ie w from congrArg (!· &&ie w) (p8.symm.trans hl)]
    exact ga λκ=>κ (R.obj i) _ s _ rfl _ rfl _ (R.tok i) _ (R.at_ i) _ (R.get d1) _ (sS y) _ rfl _ hl (R.obj i) _ v _ b _ (PX _)
section
noncomputable def PZ:List Nat:=[101,109,112,116,121,32,101,120,112,114,101,115,115,105,111,110]
noncomputable def FC:List Nat:=[117,110,98,97,108,97,110,99,101,100,32,99,108,111,115,101,32,112,97,114,101,110]
noncomputable def FD:List Nat:=[117,110,98,97,108,97,110,99,101,100,32,111,112,101,110,32,112,97,114,101,110]
noncomputable def P0:List Nat:=[101,109,112,116,121,32,115,117,98,101,120,112,114,101,115,115,105,111,110]
noncomputable def P1:List Nat:=[109,105,115,115,105,110,103,32,102,117,110,99,116,105,111,110,32,97,114,103,117,109,101,110,116]
noncomputable def P2:List Nat:=[109,105,115,115,105,110,103,32,111,112,101,114,97,110,100]
noncomputable def FE:List Nat:=[109,105,115,115,105,110,103,32,111,112,101,114,97,116,111,114]
noncomputable def zk:List Nat:=[117,110,101,120,112,101,99,116,101,100,32,111,112,101,114,97,116,111,114,32,34,58,34,32,119,105,116,104,111,117,116,32,112,114,101,99,101,100,105,110,103,32,34,63,34]
noncomputable def P4:List Nat:=[117,110,101,120,112,101,99,116,101,100,32,34,44,34,32,111,117,116,115,105,100,101,32,102,117,110,99,116,105,111,110,32,97,114,103,117,109,101,110,116,32,108,105,115,116]
noncomputable def vK:List Nat:=[109,105,115,115,105,110,103,32,111,112,101,114,97,116,111,114,32,34,58,34]
noncomputable def sW:List Nat:=[32,97,116,32,95,64,95]
noncomputable def p9:List Nat:=[105,110,118,97,108,105,100,32,98,97,114,101,119,111,114,100,32,34]
noncomputable def zm:List Nat:=[59,10,115,104,111,117,108,100,32,98,101,32,34,36]
noncomputable def zo:List Nat:=[34,32,111,114,32,34,123]
noncomputable def zp:List Nat:=[125,34,32,111,114,32,34]
noncomputable def zq:List Nat:=[40,46,46,46,41,34,32,111,114,32,46,46,46]
noncomputable def c7(w:List Nat):O:=vj (.int 1) (.str w) vk
noncomputable def ig(aR t:List Nat)(a:Nat):List Nat:=cE (aR++sW) (marked t a)
noncomputable def kE(s t:List Nat):List Nat:=cE (p9++s++[34]) t++(zm++s++zo++s++zp++s++zq)
section
variable{C:Δ}{h h':Hp}{v:V}
theorem ou{k:Nat}{f:Fn}{w:List Nat}{ρ:Loc}(ob:isObj h .reader (.obj k)=true)(hw:C f [.obj k,.str w] h=some (.ret v h')):ν C (.ax f (.loc 0) [.str w]) (.v (.obj k)::ρ) h=some (.ok v (.v (.obj k)::ρ) h'):=(if_pos ob).trans (congrArg (fp · _) hw)
end
theorem i9(a k:Nat):((a+k:Nat):Int) - (k:Nat)=a:=Int.add_sub_cancel (a:Int) (k:Int)
section
variable{k:Nat}{hp:Nat->Hp}{t:List Nat}{ts:List Tok}{W i:Nat}{C:Δ}{h:Hp}{x:Tok}
theorem zt(R:RD k hp t ts)(e:ts[i]?=some x)(aR:List Nat)(hw:aR.length<=100000):Gives 4 W .dQ [.obj k,.str aR] (hp i) (.ret (.obj (k+1)) (hp i++[c7 (cE aR t)])):=ak λD hD=>by
 rw[ω (ρ:=[.v (.obj k),.v (.str aR)]) rfl,<-R.len i]
 exact ga λκ=>κ _ (R.txt i) _ (R.tok i) _ (R.at_ i) _ (R.get e) _ (Fw x) _ (vm (W:=W) (h:=hp i) t aR (.int x.a) (η (dG hw R.tl) (by decide)) D hD)
theorem FG(R:RD k hp t ts)(e:ts[i]?=some x)(aR:List Nat)(hw:aR.length<=1000):Gives 5 W .eI [.obj k,.str aR] (hp i) (.ret (.obj (k+1)) (hp i++[c7 (ig aR t x.a)])):=ak λD hD=>by
 rw[ω (ρ:=[.v (.obj k),.v (.str aR)]) rfl,<-R.len i]
 have l:(aR++sW).length<=1007:=η (Ψ Θ) (bM hw 7)
 exact ga λκ=>κ _ (R.txt i) _ (R.tok i) _ (R.at_ i) _ (R.get e) _ (Fw x) _ (cR (η l (by decide))) _ (OO (W:=W) (h:=hp i) t (aR++sW) x.a (η (dG l R.tl) (by decide)) D hD)
noncomputable def p_:TK->Bool
 |.op s=>s==[58]
 |_=>false
noncomputable def ij(x:Tok):Bool:=p_ x.k
theorem P5(R:RD k hp t ts)(e:ts[i]?=some x):Gives 2 W .kY [.obj k] (hp i) (.ret (.bool (ij x)) (hp i)):=ak λD hD=>by
 rw[ω (ρ:=[.v (.obj k)]) rfl]
 have s:=p7 (W:=W) R e D hD
 have v:=sU (W:=W) R e D hD
 unfold ij
 generalize x.k=y at s v
 have no:(y.aq==h9)=false->p_ y=false->π (θ (ι prog W D) W Prog.kY.body [.v (.obj k)] (hp i))=some (.ret (.bool (p_ y)) (hp i)):=λq e=>ga λκ=>(κ (R.obj i) _ s _ rfl _ q).trans (congrArg (λb=>some (CR.ret (.bool b) (hp i))) (q.trans e.symm))
 cases y with
 |op=>exact ga λκ=>κ (R.obj i) _ s _ rfl _ rfl (R.obj i) _ v _ rfl
 |_=>exact no rfl rfl
theorem vL{fs:List (ay×V)}{c:c_}{f:ay}(len:h.length=k):iQ (h++[⟨c,fs⟩]) (.obj k) f=if gD c f then jm f fs else Option.none:=len▸sN _ _ _ _
theorem P6{fs:List (ay×V)}{c:c_}{f:ay}{x:V}(len:h.length=k):j6 (h++[⟨c,fs⟩]) (.obj k) f x=if gD c f then some (h++[⟨c,iP f x fs⟩])else Option.none:=len▸eQ _ _ _ _ _
theorem jK{α:Type}{a b:List α}{n:Nat}(h:(a++b).length<=n):b.length<=n:=η (by rw[Θ];exact ai ..) h
theorem bf{α:Type}{a b:List α}{n m:Nat}(h:a.length<=n)(k:b.length<=m):(a++b).length<=n+m:=η (Ψ Θ) (dG h k)
theorem zv{s:List Nat}(hs:s.length<=10000):(p9++s++[34]).length<=18+10000+1:=bf (bf (ξ _) hs) (ξ _)
theorem FH{s t:List Nat}(hs:s.length<=10000)(ht:t.length<=700000):(kE s t).length<=af:=η (bf (bf (bf (bf (zv hs) (ξ 16)) ht) (ξ 1)) (bf (bf (bf (bf (bf (bf (ξ 14) hs) (ξ 7)) hs) (ξ 7)) hs) (ξ 13))) (by decide)
theorem FJ(R:RD k hp t ts)(e:ts[i]?=some x)(s:List Nat)(hx:x.k=.wd s)(hs:s.length<=10000):Gives 5 W .qS [.obj k] (hp i) (.ret (.obj (k+1)) (hp i++[c7 (kE s t)])):=ak λD hD=>by
 rw[ω (ρ:=[.v (.obj k),.un,.un]) rfl]
 have hv:=sU (W:=W) R e D (dO hD)
 rw[hx]at hv
 have l0:=zv hs
 have lg:=FH hs R.tl
 have l8:=jK lg
 have f:=zt (W:=W) R e (p9++s++[34]) (η l0 (by decide)) D hD
 have l0:=η l0 (show _<=af by decide)
 have l7:=av l8
 have l6:=av l7
 have l5:=av l6
 have l4:=av l5
 exact ga λκ=>κ (R.obj i) _ hv (R.obj i) _ (cR (av l0)) _ (cR l0) _ f _ (vL (R.len i)) _ (cR (av l4)) _ (cR l4) _ (cR l5) _ (cR l6) _ (cR l7) _ (cR l8) _ (cR lg) _ (P6 (R.len i))
end
end
section
noncomputable def jL:List Tok->List Nat
 |[]=>[]
 |p::_=>p.k.aq
noncomputable def ik:List Tok->Bool
 |p::q::_=>p.k.aq==[40]&&q.k.aq==bP
 |_=>false
noncomputable def ow{α:Type}(F S:List Nat->α)(b u:List Nat)(f:Bool):α:=
 bif b==[]&&u==cG then F PZ
 else bif b==[]&&u==[41]then F FC
 else bif b==[40]&&u==cG then F FD
 else bif b==[40]&&u==[41]then S P0
 else bif (f&&u==[44])||(b==[44]&&(cG==u||([41]==u||false)))then S P1
 else S P2
noncomputable def zw(t:List Nat)(b u:List Nat)(f:Bool)(a:Nat):List Nat:=ow (cE · t) (ig · t a) b u f
theorem FK{α β:Type}(g:α->β)(F S:List Nat->α)(b u:List Nat)(f:Bool):ow (λw=>g (F w)) (λw=>g (S w)) b u f=g (ow F S b u f):=by
 unfold ow
 rw[gx g,gx g,gx g,gx g,gx g]
noncomputable def l9(t:List Nat)(pre:List Tok)(x:Tok):List Nat:=zw t (jL pre) x.k.aq (ik pre) x.a
section
variable{k:Nat}{C:Δ}{W:Nat}{h:Hp}{t u b:List Nat}{a:Nat}
theorem vM{X Y w:List Nat}{f:Fn}{s3:Slot}{v:V}{h':Hp}{rest:List S}(ob:isObj h .reader (.obj k)=true)(hw:C f [.obj k,.str w] h=some (.ret v h')):π (θ C W (.ifs (.and [(.cmp .eq (.loc 2) (.str X)),(.cmp .eq (.loc 1) (.str Y))]) [.ret (.ax f (.loc 0) [.str w])] []::rest) [.v (.obj k),.v (.str u),.v (.str b),s3] h)=bif b==X&&u==Y then some (.ret v h')else π (θ C W rest [.v (.obj k),.v (.str u),.v (.str b),s3] h):=cP (bO (bA rfl λ_=>rfl)) λ_=>ou ob hw
noncomputable def FL(C:Δ)(h:Hp)(k:Nat)(u b:List Nat)(f:Bool):Prop:=∀s3,ν C (.and [(.cmp .eq (.loc 2) (.str [40])),(.cmp .gt (.attr (.loc 0) .at) (.int 1)),(.cmp .eq (.sub (.sub (.attr (.loc 0) .tokens) (.bin .sub (.attr (.loc 0) .at) (.int 2))) (.int 0)) (.str [119,111,114,100]))]) [.v (.obj k),.v (.str u),.v (.str b),s3] h=some (.ok (.bool f) [.v (.obj k),.v (.str u),.v (.str b),s3] h)
theorem P7{f:Bool}(ob:isObj h .reader (.obj k)=true)(hF:∀w,w.length<=1000->C .dQ [.obj k,.str w] h=some (.ret (.obj (k+1)) (h++[c7 (cE w t)])))(hS:∀w,w.length<=1000->C .eI [.obj k,.str w] h=some (.ret (.obj (k+1)) (h++[c7 (ig w t a)])))
  (hf:FL C h k u b f):
  π (θ C W (Prog.missing.body.drop 2) [.v (.obj k),.v (.str u),.v (.str b),.un] h)=some (.ret (.obj (k+1)) (h++[c7 (zw t b u f a)])):=by
 refine Eq.trans ?_ (FK (λw=>some (CR.ret (.obj (k+1)) (h++[c7 w]))) _ _ b u f)
 refine(vM ob (hF _ (by decide))).trans (congrArg (cond _ _) ((vM ob (hF _ (by decide))).trans (congrArg (cond _ _) ((vM ob (hF _ (by decide))).trans (congrArg (cond _ _) ((vM ob (hS _ (by decide))).trans (congrArg (cond _ _) ?_)))))))
 refine Eq.trans (congrArg π (show M.ζ (M.ζ (ν C _ _ _) _) _=_ from by rw[hf])) ?_
 exact Eq.trans (cP (x:=(f&&u==[44])||(b==[44]&&(cG==u||([41]==u||false)))) (gU (gK (bO (bA rfl λ_=>rfl)) λ_=>bO (bA rfl λ_=>ge λκ=>κ _ (ψ rfl)))) λ_=>ou ob (hS _ (by decide))) (congrArg (cond _ _) (nR (ou ob (hS _ (by decide)))))
end
theorem P8(pre r:List Tok)(x:Tok):(pre.reverse++x::r)[pre.length]?=some x:=(List.getElem?_append_right (Ψ List.length_reverse)).trans (by rw[List.length_reverse,Nat.sub_self];rfl)
theorem eA{ts pre r:List Tok}{x:Tok}(e:ts=pre.reverse++x::r):ts[pre.length]?=some x:=e▸P8 pre r x
theorem FN{ts pre r:List Tok}{x:Tok}(e:ts=(x::pre).reverse++r):ts=pre.reverse++x::r:=e.trans (by rw[List.reverse_cons,aN];rfl)
theorem zy{ts pre r:List Tok}{p:Tok}(e:ts=(p::pre).reverse++r):ts[pre.length]?=some p:=eA (FN e)
theorem FO{ts pre r:List Tok}{p q:Tok}(e:ts=(p::q::pre).reverse++r):ts[pre.length]?=some q:=zy (FN e)
theorem RD.jz{k:Nat}{hp:Nat->Hp}{t:List Nat}{ts:List Tok}{i:Nat}{x:Tok}(R:RD k hp t ts)(j:Nat)(e:ts[i]?=some x):υ (.list (ts.map Tok.pv)) (.int (((i+j:Nat):Int) - (j:Nat)))=some x.pv:=by rw[i9];exact R.get e
theorem zz(i:Nat):(0:Int)<((i+1:Nat):Int):=Int.ofNat_succ_pos i
theorem zB(i:Nat):(1:Int)<((i+2:Nat):Int):=cJ.mpr (Nat.lt_add_left i (by decide))
section
variable{k:Nat}{hp:Nat->Hp}{t:List Nat}{ts:List Tok}{W:Nat}
theorem FP{i D:Nat}{x:Tok}(R:RD k hp t ts)(e0:ts[i]?=some x)(hD:5<=D)(b:List Nat){f:Bool}:FL (ι prog W D) (hp i) k x.k.aq b f->π (θ (ι prog W D) W (Prog.missing.body.drop 2) [.v (.obj k),.v (.str x.k.aq),.v (.str b),.un] (hp i))=some (.ret (.obj (k+1)) (hp i++[c7 (zw t b x.k.aq f x.a)])):=P7 (R.obj i) (λw hw=>zt R e0 w (η hw (by decide)) D (bE hD)) (λw hw=>FG R e0 w hw D hD)
theorem P9(R:RD k hp t ts){x:Tok}{r:List Tok}:∀{pre:List Tok},ts=pre.reverse++x::r->Gives 6 W .missing [.obj k] (hp pre.length) (.ret (.obj (k+1)) (hp pre.length++[c7 (l9 t pre x)]))
 |[],e=>ak λD hD=>by
  rw[ω (ρ:=[.v (.obj k),.un,.un,.un]) rfl]
  show π (θ _ _ (Prog.missing.body.take 2++Prog.missing.body.drop 2) _ _)=_
  exact gq λκ=>(κ (R.obj _) _ (p7 R (eA e) D (dO hD)) _ (R.at_ _) _ rfl _ rfl).trans (FP R (eA e) hD [] λ_=>rfl)
 |p::pre,e=>ak λD hD=>by
  rw[ω (ρ:=[.v (.obj k),.un,.un,.un]) rfl]
  show π (θ _ _ (Prog.missing.body.take 2++Prog.missing.body.drop 2) _ _)=_
  refine gq λκ=>(κ (R.obj _) _ (p7 R (eA e) D (dO hD)) _ (R.at_ _) _ rfl _ (dT (zz _)) _ (R.tok _) _ (R.at_ _) _ (R.jz 1 (zy e)) _ (sS p)).trans (FP R (eA e) hD p.k.aq λ_=>?_)
  cases pre with
  |nil=>exact Eq.trans (bO (bA (y:=false) rfl λ_=>vh (ge λκ=>κ _ (R.at_ _) _ rfl))) (by rw[Bool.and_false];rfl)
  |cons q pre=>exact bO (bA rfl λ_=>bA (x:=true) (ge λκ=>(κ _ (R.at_ _) _ rfl).trans (congrArg (λb=>some (Rs.ok (V.bool b) _ _)) (dT (zB _)))) λ_=>(ge λκ=>κ _ (R.tok _) _ (R.at_ _) _ (R.jz 2 (FO e)) _ (sS q) _ rfl))
end
end
section
noncomputable def qc:TK->List Nat
 |.op s=>s
 |.wd s=>s
 |_=>[]
noncomputable def nm(x:Tok):List Nat:=qc x.k
noncomputable def tailD{α:Type}(F:List Nat->α)(B S:α)(u:List Nat)(b:Bool):α:=
 bif u==cG then F FD else bif u==[41]then F FC else bif u==[44]then F P4 else bif b then B else S
noncomputable def jM(t:List Nat)(x:Tok)(r:List Tok):List Nat:=tailD (cE · t) (kE (nm x) t) (ig FE t x.a) x.k.aq (eU x r)
theorem tailD_map{α β:Type}(g:α->β)(F:List Nat->α)(B S:α)(u:List Nat)(b:Bool):tailD (λw=>g (F w)) (g B) (g S) u b=g (tailD F B S u b):=by
 unfold tailD
 rw[gx g,gx g,gx g,gx g]
noncomputable def qd(s:List Nat)(as:List V):V:=.tup [.str [99,97,108,108],.str s,.tup as]
noncomputable def l_(s:List Nat):V:=.tup [.str n8,.str s]
noncomputable def FQ(n:Int):V:=.tup [.str [110,117,109],.int n]
noncomputable def qe(v:V):V:=match v with
 |.tup [.tup [.str s,x]]=>if s=n8 then .tup [.str n8,x]else .tup [.str gX,v]
 |_=>.tup [.str gX,v]
noncomputable def oy(s:List Nat):Bool:=[45]==s||([43]==s||([126]==s||([33]==s||false)))
noncomputable def qg:TK->Bool
 |.op s=>oy s
 |_=>false
noncomputable def vN(x:Tok):Bool:=qg x.k
noncomputable def il(o v:V):V:=.tup [.str [117,110],o,v]
noncomputable def sX(a b c:V):V:=.tup [.str [105,102],a,b,c]
noncomputable def vO(u:List Nat):Bool:=cG==u||([41]==u||([44]==u||false))
noncomputable def ma(x:Tok):Bool:=vO x.k.aq
noncomputable def jN(op:List Nat)(l r:V):V:=if op=[38,38]then .tup [.str [97,110,100],l,r]else if op=[124,124]then .tup [.str [111,114],l,r]else .tup [.str [98,105,110],.str op,l,r]
set_option genCtorIdx true in
inductive Ro
 |un|call|bg|aZ|leaf|bin|col|dm
set_option genCtorIdx true in
inductive Hd
 |q|par|call|colon
set_option genInjectivity true in
inductive SC
 |none|ok (rs:List Ro)|bad (w:List Nat)
noncomputable def SC.ctorIdx(x:SC):Nat:=@SC.casesOn (λ_=>Nat) x (0:Nat) (λ_=>(1:Nat)) (λ_=>(2:Nat))
noncomputable def SC.app(rs:List Ro):SC->SC
 |.ok r=>.ok (rs++r)
 |.none=>.none
 |.bad w=>.bad w
noncomputable def FT:List Hd->List (List Nat)
 |[]=>[cG]
 |.par::_=>[[41]]
 |.call::_=>[[41],[44]]
 |_=>[]
set_option genInjectivity true in
inductive TO
 |none|go (w:Bool) (H:List Hd) (ro:List Ro)|stop (wd:List Nat)
noncomputable def TO.ctorIdx(x:TO):Nat:=@TO.casesOn (λ_=>Nat) x (0:Nat) (λ_ _ _=>(1:Nat)) (λ_=>(2:Nat))
noncomputable def TO.run(k:Bool->List Hd->SC):TO->SC
 |.none=>.none
 |.go w H ro=>(k w H).app ro
 |.stop wd=>.bad wd
noncomputable def FU(s:TO):List Hd->TO
 |.q::_=>.none
 |.colon::_=>.none
 |_=>s
noncomputable def ee(t:List Nat)(x:Tok)(r:List Tok):List Hd->TO
 |.colon::H=>FU (.stop (if((FT H).contains x.k.aq||ij x)=true then cE zk t else jM t x r)) H
 |.q::_=>.stop (if ma x=true then ig vK t x.a else jM t x r)
 |_=>.stop (jM t x r)
noncomputable def vP:List Hd->Bool
 |.colon::_=>true
 |_=>false
noncomputable def FV:List Hd->List Hd
 |.q::H=>H
 |H=>.colon::H
noncomputable def P_(k:List Hd->TO):List Hd->TO
 |_::H=>k H
 |[]=>.none
noncomputable def zC(k:List Hd->TO)(n:TO):List Hd->TO
 |.par::H=>k H
 |.call::H=>k H
 |_=>n
noncomputable def zD(k:List Hd->TO)(n:TO):List Hd->TO
 |.call::H=>k (.call::H)
 |_=>n
noncomputable def zE(k:List Hd->TO)(n:TO):List Hd->TO
 |[]=>k []
 |_=>n
noncomputable def dC(t:List Nat)(pre:List Tok)(x:Tok)(r:List Tok)(H:List Hd):TK->TO
 |.op s=>if oy s=true then .go true H [.un]else .stop (l9 t pre x)
 |.wd s=>if i7 r=true then .go true H [.call]else if ie s=true then .stop (kE s t)else .go false H [.leaf]
 |.lp=>.go true ((if jL pre=bP then .call else .par)::H) [.bg]
 |.rp=>if ik pre=true then P_ (λH=>.go false H [.aZ]) H else .stop (l9 t pre x)
 |.num _=>.go false H [.leaf]
 |.b4 _=>.go false H [.leaf]
 |.txt _=>.go false H [.leaf]
 |.cm=>.stop (l9 t pre x)
 |.fin=>.stop (l9 t pre x)
noncomputable def dw(t:List Nat)(x:Tok)(r:List Tok)(H:List Hd):TK->TO
 |.op s=>if 0<lvl s then .go true (if s=[63]then .q::H else H) [.bin]
   else if(s==[58]&& !vP H)=true then .go true (FV H) [.col]
   else ee t x r H
 |.rp=>zC (λH=>.go false H [.aZ]) (ee t x r H) H
 |.cm=>zD (λH=>.go true H [.dm]) (ee t x r H) H
 |.fin=>zE (λH=>.go false H []) (ee t x r H) H
 |_=>ee t x r H
noncomputable def jO(t:List Nat)(pre:List Tok)(x:Tok)(r:List Tok)(w:Bool)(H:List Hd):TO:=bif w then dC t pre x r H x.k else dw t x r H x.k
noncomputable def gZ(t:List Nat):List Tok->List Tok->Bool->List Hd->SC
 |_,[],_,_=>.ok []
 |pre,x::r,w,H=>(jO t pre x r w H).run λw H=>gZ t (x::pre) r w H
inductive CT
 |leaf (x:Tok)|un (x:Tok) (a:CT)|par (l:Tok) (a:CT) (r:Tok)|dJ (w l r:Tok)|call (w l:Tok) (as:CT) (r:Tok)
 |bin (x:Tok) (a b:CT)|b5 (q:Tok) (a m:CT) (c:Tok) (b:CT)|last (a:CT)|more (a:CT) (c:Tok) (as:CT)
noncomputable def CT.flat:CT->List Tok
 |.leaf x=>[x]
 |.un x a=>x::a.flat
 |.par l a r=>l::(a.flat++[r])
 |.dJ w l r=>[w,l,r]
 |.call w l as r=>w::l::(as.flat++[r])
 |.bin x a b=>a.flat++x::b.flat
 |.b5 q a m c b=>a.flat++q::(m.flat++c::b.flat)
 |.last a=>a.flat
 |.more a c as=>a.flat++c::as.flat
noncomputable def CT.cI:CT->List Ro
 |.leaf _=>[.leaf]
 |.un _ a=>.un::a.cI
 |.par _ a _=>.bg::(a.cI++[.aZ])
 |.dJ _ _ _=>[.call,.bg,.aZ]
 |.call _ _ as _=>.call::.bg::(as.cI++[.aZ])
 |.bin _ a b=>a.cI++.bin::b.cI
 |.b5 _ a m _ b=>a.cI++.bin::(m.cI++.col::b.cI)
 |.last a=>a.cI
 |.more a _ as=>a.cI++.dm::as.cI
noncomputable def oz:TK->V
 |.wd s=>l_ s
 |.num n=>FQ n
 |.b4 v=>qe v
 |.txt s=>l_ s
 |_=>.none
noncomputable def zF(x:Tok):V:=oz x.k
noncomputable def CT.vv:CT->V×List V
 |.leaf x=>(zF x,[])
 |.un x a=>(il x.k.d4 a.vv.1,[])
 |.par _ a _=>(a.vv.1,[])
 |.dJ w _ _=>(qd (nm w) [],[])
 |.call w _ as _=>(qd (nm w) as.vv.2,[])
 |.bin x a b=>(jN (nm x) a.vv.1 b.vv.1,[])
 |.b5 _ a m _ b=>(sX a.vv.1 m.vv.1 b.vv.1,[])
 |.last a=>(.none,[a.vv.1])
 |.more a _ as=>(.none,a.vv.1::as.vv.2)
noncomputable def CT.val(T:CT):V:=T.vv.1
noncomputable def CT.vals(T:CT):List V:=T.vv.2
noncomputable def CT.mn:CT->Nat
 |.un _ a=>a.mn
 |.bin x a b=>min (lvl (nm x)) (min a.mn b.mn)
 |.b5 _ _ _ _ _=>1
 |_=>13
noncomputable def i_:TK->Bool
 |.wd _=>true
 |.num _=>true
 |.b4 _=>true
 |.txt _=>true
 |_=>false
noncomputable def CT.g5:CT->Bool->Prop
 |.leaf x,true=>i_ x.k=true
 |.un x a,true=>vN x=true∧a.g5 true∧a.mn=13
 |.par l a r,true=>l.k=.lp∧a.g5 true∧r.k=.rp
 |.dJ w l r,true=>w.k=.wd (nm w)∧l.k=.lp∧r.k=.rp
 |.call w l as r,true=>w.k=.wd (nm w)∧l.k=.lp∧as.g5 false∧r.k=.rp
 |.bin x a b,true=>x.k=.op (nm x)∧2<=lvl (nm x)∧a.g5 true∧b.g5 true∧(if nm x=[42,42]then a.mn=13∧12<=b.mn else lvl (nm x)<=a.mn∧lvl (nm x)<b.mn)
 |.b5 q a m c b,true=>q.k=.op [63]∧a.g5 true∧2<=a.mn∧m.g5 true∧c.k=.op [58]∧b.g5 true
 |.last a,false=>a.g5 true
 |.more a c as,false=>a.g5 true∧c.k=.cm∧as.g5 false
 |_,_=>False
noncomputable def CT.ok(T:CT):Prop:=T.g5 true
noncomputable def CT.ja(T:CT):Prop:=T.g5 false
noncomputable def gc:List Tok->Prop
 |[]=>False
 |[f]=>f.k=.fin
 |x::y::r=>x.k≠.fin∧gc (y::r)
theorem gc.tail{x:Tok}:∀{r:List Tok},gc (x::r)->x.k≠.fin->gc r
 |[],e,n=>absurd e n
 |_::_,e,_=>e.2
theorem gc.app:∀{a:List Tok} {y:Tok} {q:List Tok},gc (a++y::q)->gc (y::q)
 |[],_,_,e=>e
 |[_],_,_,e=>e.2
 |_::z::a,_,_,e=>gc.app (a:=z::a) e.2
structure Mv (s pre rest p q:List Tok):Prop where
 r:rest=s++q
 p:p=s.reverse++pre
theorem Mv.nil{p q:List Tok}:Mv [] p q p q:=⟨rfl,rfl⟩
theorem Mv.cons{x:Tok}{s pre rest p q:List Tok}(m:Mv s (x::pre) rest p q):Mv (x::s) pre (x::rest) p q:=⟨congrArg (x::·) m.r,m.p.trans (by rw[List.reverse_cons,aN];rfl)⟩
theorem Mv.app{a b pre rest p q p' q':List Tok}(m:Mv a pre rest p q)(n:Mv b p q p' q'):Mv (a++b) pre rest p' q':=⟨by rw[m.r,n.r,aN],by rw[n.p,m.p,List.reverse_append,aN]⟩
theorem Mv.one{x:Tok}{p q:List Tok}:Mv [x] p (x::q) (x::p) q:=Mv.nil.cons
noncomputable def g6:TK->Nat
 |.op _=>2
 |.lp=>4
 |_=>0
noncomputable def FW(x:Tok):Nat:=g6 x.k
noncomputable def wt:List Tok->Nat
 |[]=>0
 |x::r=>FW x+wt r
theorem vQ:∀a b:List Tok,wt (a++b)=wt a+wt b
 |[],_=>(bR _).symm
 |x::a,b=>(congrArg (FW x+·) (vQ a b)).trans (aA ..).symm
theorem Mv.wt{s pre rest p q:List Tok}(m:Mv s pre rest p q){D:Nat}(h:12+wt rest<=D):12+Mine.wt q<=D:=η (by rw[m.r,vQ];exact az (ai ..) _) h
theorem qh{x:Tok}{r:List Tok}{c D:Nat}(hx:g6 x.k=c)(h:12+wt (x::r)<=D+c):12+wt r<=D:=by
 have h:12+(g6 x.k+wt r)<=D+c:=h
 rw[hx,Nat.add_left_comm,aQ D]at h
 exact Nat.le_of_add_le_add_left h
theorem qi{x:Tok}{r:List Tok}{D:Nat}(h:12+wt (x::r)<=D):12+wt r<=D:=η (az (ai ..) _) h
theorem Mv.len{s pre rest p q:List Tok}(m:Mv s pre rest p q):q.length<=rest.length:=by rw[m.r,Θ];exact ai ..
noncomputable def SG(t:List Nat)(pre rest:List Tok)(w:Bool)(H:List Hd)(rs:List Ro)(p q:List Tok)(w':Bool)(H':List Hd):Prop:=gZ t pre rest w H=(gZ t p q w' H').app rs
noncomputable def SB(t:List Nat)(pre rest:List Tok)(w:Bool)(H:List Hd)(u:List Nat):Prop:=gZ t pre rest w H=.bad u
theorem P'(a b:List Ro):∀s:SC,(s.app b).app a=s.app (a++b)
 |.ok _=>congrArg SC.ok (aN ..).symm
 |.none=>rfl
 |.bad _=>rfl
section
variable{t:List Nat}{pre r:List Tok}{x:Tok}{w w':Bool}{H H':List Hd}{ro:List Ro}{wd:List Nat}
theorem SG.of(e:jO t pre x r w H=.go w' H' ro):SG t pre (x::r) w H ro (x::pre) r w' H':=congrArg (TO.run _) e
theorem SB.of(e:jO t pre x r w H=.stop wd):SB t pre (x::r) w H wd:=congrArg (TO.run _) e
end
section
variable{t:List Nat}{pre rest p q p' q':List Tok}{w w' FX:Bool}{H H' uK:List Hd}{rs FY:List Ro}{u:List Nat}
theorem SG.tr(a:SG t pre rest w H rs p q w' H')(b:SG t p q w' H' FY p' q' FX uK):SG t pre rest w H (rs++FY) p' q' FX uK:=a.trans ((congrArg (SC.app rs) b).trans (P' ..))
theorem SG.bad(a:SG t pre rest w H rs p q w' H')(b:SB t p q w' H' u):SB t pre rest w H u:=a.trans (congrArg (SC.app rs) b)
end
structure PC (k:Nat) (hp:Nat->Hp) (t:List Nat) (ts:List Tok) (W:Nat):Prop where
 R:RD k hp t ts
 ok:∀x∈ts,dI x
 hW:ts.length+10<W
 len:ts.length<=900000
structure Zp (ts pre rest:List Tok):Prop where
 e:ts=pre.reverse++rest
 en:gc rest
section
variable{ts pre rest r p q s:List Tok}{x y:Tok}
theorem Zp.step(z:Zp ts pre (x::r))(n:x.k≠.fin):Zp ts (x::pre) r:=⟨z.e.trans (by rw[List.reverse_cons,aN];rfl),z.en.tail n⟩
theorem Zp.mv(z:Zp ts pre rest)(m:Mv s pre rest p (y::q)):Zp ts p (y::q):=⟨by rw[z.e,m.r,m.p,List.reverse_append,List.reverse_reverse,aN],(m.r▸z.en:gc (s++y::q)).app⟩
theorem Zp.len(z:Zp ts pre rest):rest.length<=ts.length:=by rw[z.e,Θ];exact ai ..
theorem Zp.drop(z:Zp ts pre rest):ts.drop pre.length=rest:=by rw[z.e];exact List.drop_left' List.length_reverse
variable{k:Nat}{hp:Nat->Hp}{t:List Nat}{W D:Nat}(P:PC k hp t ts W)(z:Zp ts pre (x::r))
include P z
theorem PC.tk:dI x:=P.ok x (by rw[z.e];exact cS _ (c9 ..))
theorem PC.sort(h:1<=D):ι prog W D .cn [.obj k] (hp pre.length)=some (.ret (.str x.k.aq) (hp pre.length)):=p7 P.R (eA z.e) D h
theorem PC.value(h:1<=D):ι prog W D .eH [.obj k] (hp pre.length)=some (.ret x.k.d4 (hp pre.length)):=sU P.R (eA z.e) D h
theorem PC.take(h:1<=D):ι prog W D .dc [.obj k] (hp pre.length)=some (.ret x.k.d4 (hp (x::pre).length)):=PM P.R (eA z.e) D h
theorem PC.level(h:2<=D):ι prog W D .fO [.obj k] (hp pre.length)=some (.ret (.int (x.k.bQ:Nat)) (hp pre.length)):=PN P.R (eA z.e) D h
theorem PC.colon(h:2<=D):ι prog W D .kY [.obj k] (hp pre.length)=some (.ret (.bool (ij x)) (hp pre.length)):=P5 P.R (eA z.e) D h
theorem PC.bare(h:5<=D):ι prog W D .mI [.obj k] (hp pre.length)=some (.ret (.bool (eU x r)) (hp pre.length)):=PY P.R (aX (bC _) P.hW) z.drop (P.tk z) (match r,z.en with
 |[],e=>.inl e
 |_::_,_=>.inr (List.cons_ne_nil _ _)) D h
theorem PC.fault{w:List Nat}(h:5<=D)(l:w.length<=1000):ι prog W D .dQ [.obj k,.str w] (hp pre.length)=some (.ret (.obj (k+1)) (hp pre.length++[c7 (cE w t)])):=zt P.R (eA z.e) w (η l (by decide)) D (bE h)
theorem PC.FZ{w:List Nat}(h:5<=D)(l:w.length<=1000):ι prog W D .eI [.obj k,.str w] (hp pre.length)=some (.ret (.obj (k+1)) (hp pre.length++[c7 (ig w t x.a)])):=FG P.R (eA z.e) w l D h
end
theorem PC.qj{k:Nat}{hp:Nat->Hp}{t:List Nat}{ts:List Tok}{W:Nat}(P:PC k hp t ts W)(j:Nat)(w:List Nat):isObj (hp j++[c7 w]) .raised (.obj (k+1))=true:=P.R.len j▸lP ..
structure Start (pre rest:List Tok):Prop where
 nw:(jL pre==bP)=false
 nf:ik pre=true->∀y r,rest=y::r->y.k≠.rp
inductive oA (t:List Nat) (L:Nat) (pre rest:List Tok) (A:V->List Tok->Prop) (B:List Nat->Nat->Prop):Prop
 |ok (T:CT) (p:List Tok) (y:Tok) (q:List Tok) (ok:T.ok) (mn:L<=T.mn) (low:y.k.bQ<L) (mv:Mv T.flat pre rest p (y::q)) (sc:∀H,SG t pre rest true H T.cI p (y::q) false H) (run:A T.val p)
 |bad (w:List Nat) (j:Nat) (sc:∀H,SB t pre rest true H w) (run:B w j)
noncomputable def CA(hp:Nat->Hp)(x:Option CR)(v:V)(p:List Tok):Prop:=x=some (.ret v (hp p.length))
noncomputable def CB(k:Nat)(hp:Nat->Hp)(x:Option CR)(w:List Nat)(j:Nat):Prop:=x=some (.exc (k+1) (hp j++[c7 w]))
noncomputable def qk(k:Nat)(hp:Nat->Hp)(t:List Nat)(L:Nat)(pre rest:List Tok)(x:Option CR):Prop:=oA t L pre rest (CA hp x) (CB k hp x)
noncomputable def g7(k:Nat)(hp:Nat->Hp)(t:List Nat)(ts:List Tok)(W D:Nat):Prop:=∀(L:Nat) (pre rest:List Tok),1<=L->L<=13->Zp ts pre rest->Start pre rest->12+wt rest<=D->qk k hp t L pre rest (ι prog W D .fP [.obj k,.int (L:Nat)] (hp pre.length))
end
section
theorem vR(u:List Nat)(ends:List (List Nat)):aY .aj (.str u) (.tup (ends.map V.str))=some (ends.contains u):=by
 have p:∀ends:List (List Nat),dS et (ends.map V.str)=true:=λends=>by
  induction ends with
  |nil=>rfl
  |cons a r ih=>exact ih
 rw[ψ (p ends)]
 induction ends with
 |nil=>rfl
 |cons a r ih=>exact congrArg some (congr (congrArg or BEq.comm) (Option.some.inj ih))
theorem zG{x:Tok}{r:List Tok}(h:eU x r=true):x.k=.wd (nm x):=by
 obtain⟨κ,_,_⟩:=x
 cases κ<;>first|rfl|exact absurd h ς
theorem zH{κ:TK}(h:p_ κ=true):κ=.op [58]:=by
 cases κ<;>first|exact congrArg TK.op (eq_of_beq h)|exact absurd h ς
theorem oB{κ:TK}(h:qg κ=true):κ=.op (qc κ):=by
 cases κ<;>first|rfl|exact absurd h ς
theorem zI{κ:TK}(h:(κ.aq==[41])=true):κ=.rp:=by
 cases κ<;>first|rfl|exact absurd h ς
theorem Qa{κ:TK}(h:(κ.aq==[44])=true):κ=.cm:=by
 cases κ<;>first|rfl|exact absurd h ς
theorem F6{κ:TK}(h:(κ.aq==cG)=true):κ=.fin:=by
 cases κ<;>first|rfl|exact absurd h ς
inductive HK:List (List Nat)->List Hd->Prop
 |nil:HK [cG] []
 |par (G:List Hd):HK [[41]] (.par::G)
 |call (G:List Hd):HK [[41],[44]] (.call::G)
section
variable{t:List Nat}{y:Tok}{q:List Tok}{H:List Hd}{ends:List (List Nat)}
theorem HK.no(h:HK ends H):ee t y q H=.stop (jM t y q):=by cases h<;>rfl
theorem HK.Qb(h:HK ends H):ee t y q (.colon::H)=.stop (if(ends.contains y.k.aq||ij y)=true then cE zk t else jM t y q):=by cases h<;>rfl
theorem zJ{s:List Nat}(l:lvl s<1)(c:(s==[58]&& !vP H)=false):dw t y q H (.op s)=ee t y q H:=(if_neg (Nat.not_lt.mpr (Nat.le_of_lt_succ l))).trans (if_neg (by rw[c];exact ς))
theorem Qc{κ:TK}(l:κ.bQ<1):dw t y q (.colon::H) κ=ee t y q (.colon::H):=by
 cases κ<;>first|rfl|exact zJ l (Bool.and_false _)
theorem Qd{κ:TK}(l:κ.bQ<1)(c:p_ κ=false):dw t y q (.q::H) κ=ee t y q (.q::H):=by
 cases κ<;>first|rfl|exact zJ l ((gM _).trans c)
theorem HK.rp{f:List Hd->TO}{m:TO}(h:HK ends H)(n:ends.contains [41]=false):zC f m H=m:=by
 cases h<;>first|rfl|exact absurd n.symm ς
theorem HK.cm{f:List Hd->TO}{m:TO}(h:HK ends H)(n:ends.contains [44]=false):zD f m H=m:=by
 cases h<;>first|rfl|exact absurd n.symm ς
theorem HK.fin{f:List Hd->TO}{m:TO}(h:HK ends H)(n:ends.contains cG=false):zE f m H=m:=by
 cases h<;>first|rfl|exact absurd n.symm ς
theorem HK.nc(h:HK ends H):vP H=false:=by cases h<;>rfl
theorem Qe(h:HK ends H):∀{κ:TK},κ.bQ<1->p_ κ=false->ends.contains κ.aq=false->dw t y q H κ=ee t y q H
 |.op _,l,c,_=>zJ l (by rw[h.nc];exact(gM _).trans c)
 |.rp,_,_,n=>h.rp n
 |.cm,_,_,n=>h.cm (f:=λH=>.go true H [.dm]) (m:=ee t y q H) n
 |.fin,_,_,n=>h.fin (f:=λH=>.go false H []) (m:=ee t y q H) n
 |.wd _,_,_,_|.num _,_,_,_|.b4 _,_,_,_|.txt _,_,_,_|.lp,_,_,_=>rfl
theorem HK.cH(h:HK ends H):FV H=.colon::H:=by cases h<;>rfl
theorem Qf{κ:TK}(h:HK ends H)(e:κ=.op [58]):dw t y q H κ=.go true (.colon::H) [.col]:=(congrArg (dw t y q _) e).trans ((if_pos (show(!vP H)=true from b8 h.nc)).trans (by rw[h.cH]))
end
section
variable{k:Nat}{hp:Nat->Hp}{t:List Nat}{ts:List Tok}{W D:Nat}{pre q:List Tok}{y:Tok}{ends:List (List Nat)}
noncomputable def Qg(k:Nat)(hp:Nat->Hp)(x:Option CR)(w:List Nat):Prop:=∃j,CB k hp x w j∨x=some (.ret (.obj (k+1)) (hp j++[c7 w]))
noncomputable def zK:List S:=Prog.iK.body.drop 1
theorem Qh{C:Δ}{h h':Hp}{f:Fn}{ρ:Loc}{v:V}(ob:isObj h .reader (.obj k)=true)(hw:C f [.obj k] h=some (.ret v h')):ν C (.ax f (.loc 0) []) (.v (.obj k)::ρ) h=some (.ok v (.v (.obj k)::ρ) h'):=(if_pos ob).trans (congrArg (fp · _) hw)
theorem F7{C:Δ}{h h':Hp}{f:Fn}{ρ:Loc}{v:V}(hw:C f [.obj k] h=some (.ret v h')):ν C (.call f [.loc 0]) (.v (.obj k)::ρ) h=some (.ok v (.v (.obj k)::ρ) h'):=congrArg (fp · _) hw
theorem zL(P:PC k hp t ts W)(z:Zp ts pre (y::q))(T:V)(hD:6<=D):π (θ (ι prog W D) W zK [.v (.obj k),.v T,.un] (hp pre.length))=some (.ret (.obj (k+1)) (hp pre.length++[c7 (jM t y q)])):=by
 have ob:=P.R.obj pre.length
 have D5:=bE hD
 refine(kB (Qh ob (P.sort z (dO hD)))).trans (Eq.trans ?_ (tailD_map (λw=>some (CR.ret (.obj (k+1)) (hp pre.length++[c7 w]))) _ _ _ _ _))
 refine Eq.trans (cP rfl λ_=>ou ob (P.fault z D5 (by decide))) (congrArg (cond _ _) ?_)
 refine Eq.trans (cP rfl λ_=>ou ob (P.fault z D5 (by decide))) (congrArg (cond _ _) ?_)
 refine Eq.trans (cP rfl λ_=>ou ob (P.fault z D5 (by decide))) (congrArg (cond _ _) ?_)
 refine Eq.trans (cP (F7 (P.bare z D5)) λb=>F7 (FJ (W:=W) P.R (eA z.e) (nm y) (zG b) (η (m:=470) ?_ (by decide)) D D5)) (congrArg (cond _ _) (nR (ou ob (P.FZ z D5 (by decide)))))
 have:=P.tk z
 unfold dI at this
 rw[zG b]at this
 exact And.right this
theorem ql{x:Tok}{s:List Nat}{pre rest:List Tok}(h:x.k=.op s):Start (x::pre) rest:=by
 have n:(x.k.aq==[40])=false:=by rw[h];rfl
 refine⟨by show(x.k.aq==bP)=false;rw[h];rfl,λq=>?_⟩
 cases pre with
 |nil=>exact absurd q ς
 |cons=>exact absurd ((congrArg (· &&_) n).symm.trans q) ς
theorem F8(P:PC k hp t ts W)(S:g7 k hp t ts W D)(z:Zp ts pre (y::q))(l:y.k.bQ<1)(n:ends.contains y.k.aq=false)(hD:12+wt (y::q)<=D+2):∃w,(∀H,HK ends H->SB t pre (y::q) false H w)∧Qg k hp (ι prog W (D+1) .iK [.obj k,.tup (ends.map V.str)] (hp pre.length)) w:=by
 have Qi:10<=D:=Nat.le_of_add_le_add_right (η (aP 12 _) hD)
 have D6:6<=D:=η (by decide) Qi
 have run:∀{r},π (θ (ι prog W D) W (Prog.iK.body.take 1++zK) [.v (.obj k),.v (.tup (ends.map V.str)),.un] (hp pre.length))=r->ι prog W (D+1) .iK [.obj k,.tup (ends.map V.str)] (hp pre.length)=r:=λh=>(ω (ρ:=[.v (.obj k),.v (.tup (ends.map V.str)),.un]) rfl).trans h
 have ic:=P.colon z (η (by decide) D6)
 have ob:=P.R.obj
 cases c:ij y with
 |false=>exact⟨_,λH h=>.of ((Qe h l c n).trans h.no),pre.length,.inr (run (gq λκ=>(κ _ ic _ c).trans (zL P z _ D6)))⟩
 |true=>
  have yk:=zH c
  have z1:=z.step (by rw[yk];nofun)
  have sg:∀{H},HK ends H->SG t pre (y::q) false H [.col] (y::pre) q true (.colon::H):=λh=>.of (Qf h yk)
  have tk:=P.take z (dO D6)
  obtain⟨T,p,x,r,_,_,low,mv,sc,cl⟩|⟨w,j,sc,cl⟩:=S 1 (y::pre) q (ξ 1) (by decide) z1 (ql yk) (qh (by rw[yk];rfl) hD)
  ·have z2:=z1.mv mv
   refine⟨_,λH h=>(sg h).bad ((sc _).bad (.of ((Qc low).trans h.Qb))),p.length,.inr ?_⟩
   have hs:=P.sort z2 (dO D6)
   have i2:=P.colon z2 (η (by decide) D6)
   have fa:=P.fault z2 (w:=zk) (bE D6) (by decide)
   cases b1:ends.contains x.k.aq with
   |true=>exact run (gq λκ=>κ _ ic _ c (ob _) _ tk _ cl (ob _) _ hs _ (vR _ _) _ b1 _ b1 (ob _) _ fa)
   |false=>
    cases b2:ij x with
    |true=>exact run (gq λκ=>κ _ ic _ c (ob _) _ tk _ cl (ob _) _ hs _ (vR _ _) _ b1 _ i2 _ b2 (ob _) _ fa)
    |false=>exact run (gq λκ=>(κ _ ic _ c (ob _) _ tk _ cl (ob _) _ hs _ (vR _ _) _ b1 _ i2 _ b2).trans (zL P z2 _ D6))
  ·exact⟨w,λH h=>(sg h).bad (sc _),j,.inl (run (gq λκ=>κ _ ic _ c (ob _) _ tk _ cl))⟩
theorem zM(P:PC k hp t ts W){T:V}(z:Zp ts pre (y::q))(c:(y.k.aq==[41])=true):ι prog W (D+2) .close [.obj k,T] (hp pre.length)=some (.ret .none (hp (y::pre).length)):=(ω (ρ:=[.v (.obj k),.v T]) rfl).trans (ga λκ=>κ (P.R.obj _) _ (P.sort z (ai ..)) _ rfl _ (dZ c) (P.R.obj _) _ (P.take z (ai ..)))
theorem close_w(P:PC k hp t ts W)(S:g7 k hp t ts W D)(z:Zp ts pre (y::q))(l:y.k.bQ<1)(c:(y.k.aq==[41])=false)(n:ends.contains y.k.aq=false)(hD:12+wt (y::q)<=D+2):
  ∃w j,(∀H,HK ends H->SB t pre (y::q) false H w)∧ι prog W (D+2) .close [.obj k,.tup (ends.map V.str)] (hp pre.length)=some (.exc (k+1) (hp j++[c7 w])):=by
 rw[show ι prog W (D+2) .close [.obj k,.tup (ends.map V.str)] (hp pre.length)=_ from ω (ρ:=[.v (.obj k),.v (.tup (ends.map V.str))]) rfl]
 have hs:=P.sort z (D:=D+1) (ai ..)
 obtain⟨w,sc,j,su|su⟩:=F8 P S z l n hD
 ·exact⟨w,j,sc,ga λκ=>κ (P.R.obj _) _ hs _ rfl _ (b8 c) _ su⟩
 ·exact⟨w,j,sc,ga λκ=>κ (P.R.obj _) _ hs _ rfl _ (b8 c) _ su (P.qj j w)⟩
end
end
section
theorem F9{s:List Nat}:∀{l:List (List Nat×Nat)},(l.all λp=>p.2<13)=true->(look s l).getD 0<13
 |[],_=>(by decide:0<13)
 |(k,v)::r,h=>by
  have h:=bD.mp h
  show(if s=k then some v else look s r).getD 0<13
  by_cases q:s=k
  ·rw[if_pos q];exact of_decide_eq_true h.1
  ·rw[if_neg q];exact F9 h.2
theorem qm:∀{κ:TK},κ.bQ<13
 |.op _=>F9 rfl
 |.wd _|.num _|.b4 _|.txt _|.lp|.rp|.cm|.fin=>(by decide:0<13)
theorem F_{κ:TK}(h:(κ.aq==[40])=true):κ=.lp:=by
 cases κ<;>first|rfl|exact absurd h ς
theorem Qj:∀s:SC,s.app []=s
 |.ok _|.none|.bad _=>rfl
theorem SG.nil{t pre rest:List _}{w:Bool}{H:List Hd}:SG t pre rest w H [] pre rest w H:=(Qj _).symm
section
variable{k:Nat}{hp:Nat->Hp}{t:List Nat}{ts:List Tok}{W D:Nat}{pre r q:List Tok}{x y:Tok}{κ:TK}
theorem PC.qo(P:PC k hp t ts W)(z:Zp ts pre (x::r))(hx:x.k=κ)(h:1<=D):ι prog W D .cn [.obj k] (hp pre.length)=some (.ret (.str κ.aq) (hp pre.length)):=hx▸P.sort z h
theorem PC.sY(P:PC k hp t ts W)(z:Zp ts pre (x::r))(hx:x.k=κ)(h:1<=D):ι prog W D .dc [.obj k] (hp pre.length)=some (.ret κ.d4 (hp (x::pre).length)):=hx▸P.take z h
theorem PC.vS(P:PC k hp t ts W)(z:Zp ts pre (x::r))(hx:lZ x.k=false)(h:5<=D):ι prog W D .mI [.obj k] (hp pre.length)=some (.ret (.bool false) (hp pre.length)):=vJ (r:=r) hx▸P.bare z h
noncomputable def Qk:List S:=[.ex (.ax .dc (.loc 0) []),.ex (.app 2 (.call .fP [(.loc 0),(.int 1)]))]
noncomputable def Ga(C:Δ)(W n k:Nat)(nm:V)(as:List V)(h:Hp):M Flow:=aO C W (.cmp .eq (.ax .cn (.loc 0) []) (.str [44])) Qk n [.v (.obj k),.v nm,.own as] h
inductive Ql (t:List Nat) (T:CT) (pre rest:List Tok) (A:List V->List Tok->Prop) (B:List Nat->Nat->Prop):Prop
 |ok (As:CT) (s:List Tok) (rs:List Ro) (vs:List V) (p:List Tok) (u:Tok) (r:List Tok) (ok:As.ja) (fl:As.flat=T.flat++s) (ro:As.cI=T.cI++rs) (va:As.vals=T.val::vs) (mv:Mv s pre rest p (u::r)) (low:u.k.bQ<1) (nc:(u.k.aq==[44])=false)
   (sc:∀G,SG t pre rest false (.call::G) rs p (u::r) false (.call::G)) (run:A vs p)
 |bad (w:List Nat) (j:Nat) (sc:∀G,SB t pre rest false (.call::G) w) (run:B w j)
theorem Qo(P:PC k hp t ts W)(S:g7 k hp t ts W D)(D1:1<=D)(nm:V)(n:Nat):∀{as:List V} {T:CT} {pre q:List Tok} {y:Tok},T.ok->Zp ts pre (y::q)->y.k.bQ<1->12+wt (y::q)<=D->q.length<n->as.length+q.length<=af->
  Ql t T pre (y::q) (λvs p=>Ga (ι prog W D) W n k nm as (hp pre.length)=some (.ok .ο [.v (.obj k),.v nm,.own (as++vs)] (hp p.length))) λw j=>∃ρ,Ga (ι prog W D) W n k nm as (hp pre.length)=some (.ex (k+1) ρ (hp j++[c7 w])):=by
 induction n with
 |zero=>exact λ_ _ _ _ hn _=>absurd hn (Nat.not_lt_zero _)
 |succ n ih=>
  intro as T pre q y ok z low hD hn ha
  have hs:=P.sort z D1
  have ob:=P.R.obj
  cases c:y.k.aq==[44]with
  |false=>exact .ok (.last T) [] [] [] pre y q ok (ck _).symm (ck _).symm rfl .nil low c (λ_=>.nil) (by rw[ck];exact gw λκ=>κ (ob _) _ hs _ rfl _ c)
  |true=>
   have yk:=Qa c
   have z1:=z.step (by rw[yk];nofun)
   have tk:=P.take z D1
   have sg:∀G,SG t pre (y::q) false (.call::G) [.dm] (y::pre) q true (.call::G):=λG=>.of (congrArg (dw t y q _) yk)
   have st:Start (y::pre) q:=⟨by show(y.k.aq==bP)=false;rw[yk];rfl,λf=>absurd f (by
    have n:(y.k.aq==[40])=false:=by rw[yk];rfl
    cases pre with
    |nil=>exact ς
    |cons=>show¬(y.k.aq==[40]&&_)=true;rw[n];exact ς)⟩
   obtain⟨T',p,x,r,zN,_,Qp,mv,sc,cl⟩|⟨w,j,sc,cl⟩:=S 1 (y::pre) q (ξ 1) (by decide) z1 st (qi hD)
   ·have ll:(x::r).length<=q.length:=mv.len
    obtain⟨As,s,rs,vs,p',u,r',zO,fl,ro,va,kF,lu,nc,iq,run⟩|⟨w,j,iq,run⟩:=ih (as:=as++[T'.val]) zN (z1.mv mv) Qp (mv.wt (qi hD)) (d6 ll (Nat.le_of_lt_succ hn)) (η (by rw[Θ,aA];exact az (η (Ψ (aQ ..)) ll) _) ha)
    ·exact .ok (.more T y As) (y::As.flat) (.dm::As.cI) As.vals p' u r' ⟨ok,yk,zO⟩ rfl rfl rfl (fl▸mv.app kF).cons lu nc (λG=>(sg G).tr (ro▸(sc _).tr (iq G))) (by
      rw[va]
      exact(gw λκ=>(κ (ob _) _ hs _ rfl _ c (ob _) _ tk _ cl (d7 ha)).trans run).trans (by rw[aN];rfl))
    ·exact .bad w j (λG=>(sg G).bad ((sc _).bad (iq G))) (run.imp λρ run=>gw λκ=>(κ (ob _) _ hs _ rfl _ c (ob _) _ tk _ cl (d7 ha)).trans run)
   ·exact .bad w j (λG=>(sg G).bad (sc _)) ⟨_,gw λκ=>κ (ob _) _ hs _ rfl _ c (ob _) _ tk _ cl⟩
theorem Qq(P:PC k hp t ts W)(S:∀D',D'<=D+2->g7 k hp t ts W D'){w l:Tok}(z:Zp ts pre (w::l::r))(hw:w.k=.wd (nm w))(hl:l.k=.lp)(hD:12+wt r<=D+2):
  qk k hp t 13 pre (w::l::r) (ι prog W (D+3) .o4 [.obj k,.str (nm w)] (hp (w::pre).length)):=by
 have D1:1<=D+2:=ai ..
 have run:∀{r},π (θ (ι prog W (D+2)) W Prog.o4.body [.v (.obj k),.v (.str (nm w)),.un] (hp (w::pre).length))=r->ι prog W (D+3) .o4 [.obj k,.str (nm w)] (hp (w::pre).length)=r:=λh=>(ω (ρ:=[.v (.obj k),.v (.str (nm w)),.un]) rfl).trans h
 have z1:=z.step (by rw[hw];nofun)
 have z2:=z1.step (by rw[hl];nofun)
 have tk:=P.take z1 D1
 have ob:=P.R.obj
 have sg:∀H,SG t pre (w::l::r) true H [.call,.bg] (l::w::pre) r true (.call::H):=λH=>SG.tr (rs:=[.call]) (.of ((congrArg (dC t pre w (l::r) H) hw).trans (if_pos (p8.symm.trans (by rw[hl];rfl))))) (.of ((congrArg (dC t (w::pre) l r H) hl).trans (by
  show TO.go true ((if w.k.aq=bP then Hd.call else Hd.par)::H) [.bg]=_
  rw[if_pos (by rw[hw];rfl)])))
 cases r with
 |nil=>exact z2.en.elim
 |cons y q=>
  have hs:=P.sort z2 D1
  cases c:y.k.aq==[41]with
  |true=>
   have yk:=zI c
   have z3:=z2.step (by rw[yk];nofun)
   cases q with
   |nil=>exact z3.en.elim
   |cons u q=>exact .ok (.dJ w l y) _ u q ⟨hw,hl,yk⟩ (ξ _) qm Mv.one.cons.cons (λH=>(sg H).tr (.of ((congrArg (dC t _ y _ _) yk).trans (if_pos (by
     show(l.k.aq==[40]&&w.k.aq==bP)=true
     rw[hl,hw];rfl))))) (run (ga λκ=>κ (ob _) _ tk (ob _) _ hs _ rfl _ (dZ c) _ (zM P z2 c) _ rfl))
  |false=>
   have st:Start (l::w::pre) (y::q):=⟨by show(l.k.aq==bP)=false;rw[hl];rfl,λ_ y' r' e h=>by
    rw[(List.cons.inj e).1,h]at c
    exact Bool.noConfusion c⟩
   obtain⟨T,p,x,r,ok,_,low,mv,sc,cl⟩|⟨e,j,sc,cl⟩:=S (D+2) (ξ _) 1 _ _ (ξ 1) (by decide) z2 st hD
   ·have zx:=z2.mv mv
    have lq:(x::r).length<=ts.length:=zx.len
    obtain⟨As,s,rs,vs,p',u,r',zO,fl,ro,va,kF,lu,nc,iq,lp⟩|⟨e,j,iq,ρ,lp⟩:=Qo P (S (D+2) (ξ _)) D1 (.str (nm w)) W (as:=[T.val]) ok zx low (mv.wt hD) (d6 lq (bE (aX (aP ..) P.hW))) (η (η (Ψ (aQ ..)) lq) (η P.len (by decide)))
    ·have zu:=zx.mv kF
     cases c2:u.k.aq==[41]with
     |true=>
      have uk:=zI c2
      have z3:=zu.step (by rw[uk];nofun)
      cases r' with
      |nil=>exact z3.en.elim
      |cons v r'=>exact .ok (.call w l As u) _ v r' ⟨hw,hl,zO,uk⟩ (ξ _) qm ((fl▸mv.app kF).app .one).cons.cons (λH=>(sg H).tr ((ro▸(sc _).tr (iq H):SG t _ _ true (.call::H) As.cI _ _ false (.call::H)).tr (show SG t _ (u::v::r') false (.call::H) [.aZ] (u::p') (v::r') false H from .of (congrArg (dw t u (v::r') _) uk)))) (run (by
        show _=some (CR.ret (qd (nm w) As.vals) _)
        rw[va]
        exact ga λκ=>κ (ob _) _ tk (ob _) _ hs _ rfl _ (b8 c) _ cl (by decide) _ lp _ (zM P zu c2) _ rfl))
     |false=>
      obtain⟨e,j,sb,cs⟩:=close_w (ends:=[[41],[44]]) P (S D (aP ..)) zu lu c2 (by rw[List.contains_cons,c2,List.contains_cons,nc];rfl) (kF.wt (mv.wt hD))
      exact .bad e j (λH=>(sg H).bad ((sc _).bad ((iq H).bad (sb _ (.call H))))) (run (ga λκ=>κ (ob _) _ tk (ob _) _ hs _ rfl _ (b8 c) _ cl (by decide) _ lp _ cs))
    ·exact .bad e j (λH=>(sg H).bad ((sc _).bad (iq H))) (run (ga λκ=>κ (ob _) _ tk (ob _) _ hs _ rfl _ (b8 c) _ cl (by decide) _ lp))
   ·exact .bad e j (λH=>(sg H).bad (sc _)) (run (ga λκ=>κ (ob _) _ tk (ob _) _ hs _ rfl _ (b8 c) _ cl))
theorem Qr{W:Nat}{h:Hp}(v:V)(hv:v∈zi):Gives 1 W .qT [v] h (.ret (qe v) h):=ak λD hD=>by
 rw[ω (ρ:=[.v v]) rfl]
 exact fL (P:=λv=>π (θ (ι prog W D) W Prog.qT.body [.v v] h)=some (.ret (qe v) h)) hv ⟨ga λκ=>κ _ rfl _ rfl _ rfl _ rfl _ rfl _ rfl _ aM _ aM _ rfl _ rfl _ aM _ bB,ga λκ=>κ _ rfl _ rfl _ rfl _ rfl _ rfl _ rfl _ rfl,ga λκ=>κ _ rfl _ rfl _ rfl _ rfl _ rfl _ rfl _ aM _ aM _ rfl _ rfl,ga λκ=>κ _ rfl _ rfl _ rfl _ rfl _ rfl _ rfl _ aM _ aM _ rfl _ rfl,trivial⟩
theorem vT{X:Option CR}(z:Zp ts (x::pre) r)(hx:x.k=κ)(o:i_ κ=true)(sc:∀H,dC t pre x r H κ=.go false H [.leaf])(run:X=some (.ret (oz κ) (hp (x::pre).length))):qk k hp t 13 pre (x::r) X:=by
 subst hx
 cases r with
 |nil=>exact z.en.elim
 |cons y q=>exact .ok (.leaf x) _ y q o (ξ _) qm .one (λH=>.of (sc H)) run
theorem Qt(P:PC k hp t ts W)(S:∀D',D'<=D+3->g7 k hp t ts W D')(z:Zp ts pre (x::r))(st:Start pre (x::r))(nu:vN x=false)(hD:12+wt (x::r)<=D+6):
  qk k hp t 13 pre (x::r) (ι prog W (D+4) .operand [.obj k] (hp pre.length)):=by
 have D6:6<=D+3:=Nat.le_add_right_of_le (Nat.le_of_add_le_add_right (b:=6) (η (aP 12 _) hD))
 have D1:1<=D+3:=ai ..
 have D5:=bE D6
 have run:∀{r},π (θ (ι prog W (D+3)) W Prog.operand.body [.v (.obj k),.un,.un,.un] (hp pre.length))=r->ι prog W (D+4) .operand [.obj k] (hp pre.length)=r:=λh=>(ω (ρ:=[.v (.obj k),.un,.un,.un]) rfl).trans h
 have ob:=P.R.obj
 have ms:=P9 (W:=W) P.R z.e (D+3) D6
 have pB:∀{κ},x.k=κ->(∀H,dC t pre x r H κ=.stop (l9 t pre x))->([[111,112],[41],[44],cG].map V.str).any (λv=>v.eqv (.str κ.aq))=true->qk k hp t 13 pre (x::r) (ι prog W (D+4) .operand [.obj k] (hp pre.length)):=λhx sc i=>.bad _ pre.length (λH=>.of ((congrArg (dC t pre x r H) hx).trans (sc H))) (run (ga λκ=>κ (ob _) _ (P.qo z hx D1) _ (ψ rfl) _ i _ ms (P.qj _ _)))
 cases hx:x.k with
 |op s=>exact pB hx (λH=>if_neg (by rw[<-Bool.not_eq_true]at nu;exact λh=>nu (by show qg x.k=true;rw[hx];exact h))) rfl
 |rp=>exact pB hx (λH=>if_neg λq=>st.nf q _ _ rfl hx) rfl
 |cm=>exact pB hx (λH=>rfl) rfl
 |fin=>exact pB hx (λH=>rfl) rfl
 |num n=>exact vT (z.step (by rw[hx];nofun)) hx rfl (λ_=>rfl) (run (ga λκ=>κ (ob _) _ (P.qo z hx D1) _ (ψ rfl) _ rfl _ (P.vS z (hx▸rfl) D5) _ rfl (ob _) _ (P.sY z hx D1) _ rfl _ rfl))
 |txt s=>exact vT (z.step (by rw[hx];nofun)) hx rfl (λ_=>rfl) (run (ga λκ=>κ (ob _) _ (P.qo z hx D1) _ (ψ rfl) _ rfl _ (P.vS z (hx▸rfl) D5) _ rfl (ob _) _ (P.sY z hx D1) _ rfl _ rfl _ rfl _ rfl _ rfl _ rfl _ rfl _ rfl _ rfl))
 |b4 v=>
  have pt:=P.tk z
  unfold dI at pt
  rw[hx]at pt
  exact vT (z.step (by rw[hx];nofun)) hx rfl (λ_=>rfl) (run (ga λκ=>κ (ob _) _ (P.qo z hx D1) _ (ψ rfl) _ rfl _ (P.vS z (hx▸rfl) D5) _ rfl (ob _) _ (P.sY z hx D1) _ rfl _ rfl _ rfl _ rfl _ (Qr (W:=W) v pt _ D1)))
 |lp=>
  have z1:=z.step (by rw[hx];nofun)
  have hs:=P.qo z hx D1
  have ib:=P.vS z (hx▸rfl) D5
  have tk:=P.take z D1
  have sg:∀H,SG t pre (x::r) true H [.bg] (x::pre) r true (.par::H):=λH=>.of ((congrArg (dC t pre x r H) hx).trans (by
   show TO.go true ((if jL pre=bP then Hd.call else Hd.par)::H) [.bg]=_
   rw[if_neg λe=>Bool.noConfusion (st.nw.symm.trans (beq_iff_eq.mpr e))]))
  have Qw:Start (x::pre) r:=⟨by show(x.k.aq==bP)=false;rw[hx];rfl,λf=>absurd f (by
   cases pre with
   |nil=>exact ς
   |cons w pre=>show¬(_&&w.k.aq==bP)=true;rw[show(w.k.aq==bP)=false from st.nw,Bool.and_false];exact ς)⟩
  obtain⟨T,p,y,q,ok,_,low,mv,sc,cl⟩|⟨w,j,sc,cl⟩:=S (D+3) (ξ _) 1 _ _ (ξ 1) (by decide) z1 Qw (bW (qh (c:=4) (by rw[hx];rfl) hD))
  ·have z2:=z1.mv mv
   cases c:y.k.aq==[41]with
   |true=>
    have yk:=zI c
    have z3:=z2.step (by rw[yk];nofun)
    cases q with
    |nil=>exact z3.en.elim
    |cons u q=>exact .ok (.par x T y) _ u q ⟨hx,ok,yk⟩ (ξ _) qm (mv.app .one).cons (λH=>(sg H).tr ((sc _).tr (show SG t _ (y::u::q) false (.par::H) [.aZ] (y::p) (u::q) false H from .of (congrArg (dw t y (u::q) _) yk)))) (run (ga λκ=>κ (ob _) _ hs _ (ψ rfl) _ rfl _ ib _ rfl (ob _) _ tk _ rfl _ rfl _ rfl _ rfl _ rfl _ rfl _ cl _ (zM (D:=D+1) P z2 c)))
   |false=>
    obtain⟨w,j,sb,cs⟩:=close_w (ends:=[[41]]) P (S (D+1) (aP _ 2)) z2 low c (by rw[List.contains_cons,c];rfl) (mv.wt (bW (qh (c:=4) (by rw[hx];rfl) hD)))
    exact .bad w j (λH=>(sg H).bad ((sc _).bad (sb _ (.par H)))) (run (ga λκ=>κ (ob _) _ hs _ (ψ rfl) _ rfl _ ib _ rfl (ob _) _ tk _ rfl _ rfl _ rfl _ rfl _ rfl _ rfl _ cl _ cs))
  ·exact .bad w j (λH=>(sg H).bad (sc _)) (run (ga λκ=>κ (ob _) _ hs _ (ψ rfl) _ rfl _ ib _ rfl (ob _) _ tk _ rfl _ rfl _ rfl _ rfl _ rfl _ rfl _ cl))
 |wd s=>
  obtain rfl:s=nm x:=by show s=qc x.k;rw[hx];rfl
  have z1:=z.step (by rw[hx];nofun)
  have hs:=P.qo z hx D1
  have tk:=P.sY z hx D1
  have ib:=P.bare z D5
  rw[show eU x r=(!i7 r&&ie (nm x))by unfold eU;rw[hx]]at ib
  have pt:=P.tk z
  unfold dI at pt
  rw[hx]at pt
  have sc:∀H,jO t pre x r true H=_:=λH=>congrArg (dC t pre x r H) hx
  cases r with
  |nil=>exact z1.en.elim
  |cons y r=>
   have zP:=P.sort z1 D1
   cases hl:i7 (y::r)with
   |true=>
    rw[hl]at ib
    have yl:=p8.trans hl
    obtain⟨T,p,y',q,ok,mn,low,mv,sc,cl⟩|⟨w,j,sc,cl⟩:=Qq P (λD' h=>S D' (bW h)) z hx (F_ yl) (qh (c:=4) (by rw[F_ yl];rfl) (qi hD))
    ·exact .ok T p y' q ok mn low mv sc (run (ga λκ=>κ (ob _) _ hs _ (ψ rfl) _ rfl _ ib _ rfl (ob _) _ tk _ rfl _ rfl _ rfl _ rfl _ rfl _ rfl _ rfl _ rfl (ob _) _ zP _ rfl _ yl _ cl))
    ·exact .bad w j sc (run (ga λκ=>κ (ob _) _ hs _ (ψ rfl) _ rfl _ ib _ rfl (ob _) _ tk _ rfl _ rfl _ rfl _ rfl _ rfl _ rfl _ rfl _ rfl (ob _) _ zP _ rfl _ yl _ cl))
   |false=>
    rw[hl]at ib
    cases hb:ie (nm x)with
    |true=>exact .bad _ pre.length (λH=>.of ((sc H).trans ((if_neg (by rw[hl];exact ς)).trans (if_pos hb)))) (run (ga λκ=>κ (ob _) _ hs _ (ψ rfl) _ rfl _ ib _ hb _ (FJ (W:=W) P.R (eA z.e) _ hx (η (And.right pt) (by decide)) _ D5) (P.qj _ _)))
    |false=>exact vT z1 hx rfl (λH=>(if_neg (by rw[hl];exact ς)).trans (if_neg (by rw[hb];exact ς))) (run (ga λκ=>κ (ob _) _ hs _ (ψ rfl) _ rfl _ ib _ hb (ob _) _ tk _ rfl _ rfl _ rfl _ rfl _ rfl _ rfl _ rfl _ rfl (ob _) _ zP _ rfl _ (p8.trans hl)))
end
end
section
noncomputable def Gb:E:=.and [(.cmp .eq (.ax .cn (.loc 0) []) (.str [111,112])),(.cmp .aj (.ax .eH (.loc 0) []) (.tup [(.str [45]),(.str [43]),(.str [126]),(.str [33])]))]
noncomputable def Ge:List S:=[.ex (.app 1 (.ax .dc (.loc 0) []))]
noncomputable def Qx:List S:=[.asg 2 (.tup [(.str [117,110]),(.pop 1),(.loc 2)])]
noncomputable def Qy:List S:=[.asg 4 (.ax .dc (.loc 0) []),
    .ifs (.cmp .eq (.loc 4) (.str [63]))
    [.asg 2 (.call .choice [(.loc 0),(.loc 2)])]
    [.asg 2 (.call .joined [(.loc 0),(.loc 4),(.loc 3),(.loc 2)])],
    .asg 3 (.ax .fO (.loc 0) [])]
theorem CT.qp:∀T:CT,T.mn<=13
 |.un _ a=>a.qp
 |.bin _ a _=>η (Nat.min_le_right ..) (η (Nat.min_le_left ..) a.qp)
 |.b5 _ _ _ _ _=>(by decide:1<=13)
 |.leaf _|.par _ _ _|.dJ _ _ _|.call _ _ _ _|.last _|.more _ _ _=>ξ 13
theorem zQ{s:List Nat}{v:Nat}:∀{l:List (List Nat×Nat)},look s l=some v->(s,v)∈l
 |(k,u)::r,e=>by
  by_cases q:s=k
  ·rw[look,if_pos q]at e
   rw[q,Option.some.inj e];exact c9 ..
  ·rw[look,if_neg q]at e
   exact List.mem_cons_of_mem _ (zQ e)
theorem qq{s:List Nat}(h:0<lvl s):(s,lvl s)∈gY:=by
 cases q:look s gY with
 |none=>rw[lvl,q]at h;exact absurd h (Nat.lt_irrefl 0)
 |some v=>rw[lvl,q];exact zQ q
theorem Gf{s:List Nat}(h:0<lvl s):(lvl s=1->s=[63])∧(lvl s=12->s=[42,42]):=
 (by decide:∀p∈gY,(p.2=1->p.1=[63])∧(p.2=12->p.1=[42,42])) _ (qq h)
section
variable{C:Δ}{W k:Nat}{h:Hp}
theorem Gg:∀(n:Nat) (as:List V) (v:V),as.length<n->aO C W (.mM 1) Qx n [.v (.obj k),.own as,.v v] h=some (.ok .ο [.v (.obj k),.own [],.v (as.foldr il v)] h)
 |n+1,as,v,hn=>(List.eq_nil_or_concat as).elim (λe=>by rw[e];exact gw λκ=>κ _ rfl) λ⟨i,o,e⟩=>by
  obtain rfl:=e.trans List.concat_eq_append
  have ih:=Gg n i (il o v) (fi (by rw[Θ]at hn;exact hn))
  rw[List.foldr_append]
  refine gw λκ=>(κ true (by cases i<;>rfl) _ jX).trans ?_
  rw[jY];exact ih
end
section
variable{k:Nat}{hp:Nat->Hp}{t:List Nat}{ts:List Tok}{W D:Nat}{pre r q rest:List Tok}{x y:Tok}{κ:TK}
theorem oA.imp{L:Nat}{A A':V->List Tok->Prop}{B B':List Nat->Nat->Prop}(r:oA t L pre rest A B)(a:∀{v p},A v p->A' v p)(b:∀{w j},B w j->B' w j):oA t L pre rest A' B':=by
 obtain⟨T,p,y,q,ok,mn,low,mv,sc,u⟩|⟨w,j,sc,u⟩:=r
 ·exact .ok T p y q ok mn low mv sc (a u)
 ·exact .bad w j sc (b u)
noncomputable def vU(C:Δ)(W n k:Nat)(as:List V)(h:Hp)(iw:List V)(r:CR):Prop:=∃h1,aO C W Gb Ge n [.v (.obj k),.own as,.un] h=some (.ok .ο [.v (.obj k),.own (as++iw),.un] h1)∧C .operand [.obj k] h1=some r
theorem Qz(P:PC k hp t ts W)(S:∀D',D'<=D+3->g7 k hp t ts W D')(n:Nat):∀{as:List V} {pre r:List Tok} {x:Tok},Zp ts pre (x::r)->Start pre (x::r)->12+wt (x::r)<=D+6->r.length<n->as.length+(x::r).length<=af->
  oA t 13 pre (x::r) (λv p=>∃iw v0,vU (ι prog W (D+4)) W n k as (hp pre.length) iw (.ret v0 (hp p.length))∧v=iw.foldr il v0∧iw.length<=r.length) λw j=>∃iw,vU (ι prog W (D+4)) W n k as (hp pre.length) iw (.exc (k+1) (hp j++[c7 w])):=by
 induction n with
 |zero=>exact λ_ _ _ hn _=>absurd hn (Nat.not_lt_zero _)
 |succ n ih=>
  intro as pre r x z st hD hn ha
  have D1:1<=D+4:=ai ..
  have ob:=P.R.obj
  have hs:=P.sort z D1
  cases c:vN x with
  |false=>
   have lp:aO (ι prog W (D+4)) W Gb Ge (n+1) [.v (.obj k),.own as,.un] (hp pre.length)=some (.ok .ο [.v (.obj k),.own (as++[]),.un] (hp pre.length)):=by
    rw[ck]
    have hv:=P.value z D1
    have c:qg x.k=false:=c
    generalize x.k=κ at hs hv c
    cases κ with
    |op=>exact gw λκ=>κ (ob _) _ hs _ rfl _ rfl (ob _) _ hv _ (ψ rfl) _ c
    |_=>exact gw λκ=>κ (ob _) _ hs _ rfl _ rfl _ rfl
   exact(Qt P S z st c hD).imp (λrun=>⟨[],_,⟨_,lp,run⟩,rfl,bC _⟩) λrun=>⟨[],_,lp,run⟩
  |true=>
   have xk:=oB c
   have z1:=z.step (by rw[xk];nofun)
   have tk:=P.take z D1
   have hv:=P.value z D1
   have c':oy (qc x.k)=true:=by have c:qg x.k=true:=c;rw[xk]at c;exact c
   rw[xk]at hs hv
   have sg:∀H,SG t pre (x::r) true H [.un] (x::pre) r true H:=λH=>.of ((congrArg (dC t pre x r H) xk).trans (if_pos c'))
   have step:∀{iw r},vU (ι prog W (D+4)) W n k (as++[x.k.d4]) (hp (x::pre).length) iw r->vU (ι prog W (D+4)) W (n+1) k as (hp pre.length) (x.k.d4::iw) r:=λu=>u.imp λh1 u=>⟨gw λκ=>(κ (ob _) _ hs _ rfl _ rfl (ob _) _ hv _ (ψ rfl) _ c' (ob _) _ tk (d7 ha)).trans (u.1.trans (by rw[aN];rfl)),u.2⟩
   cases r with
   |nil=>exact z1.en.elim
   |cons y r=>
    obtain⟨T,p,y,q,ok,mn,low,mv,sc,iw,v0,u,e,l⟩|⟨w,j,sc,iw,u⟩:=ih (as:=as++[x.k.d4]) z1 (ql xk) (qi hD) (fi hn) (by rw[Θ,aA];exact η (az (Ψ (aQ ..)) _) ha)
    ·exact .ok (.un x T) p _ q ⟨c,ok,Nat.le_antisymm T.qp mn⟩ mn low mv.cons (λH=>(sg H).tr (sc H)) ⟨_,v0,step u,congrArg (il x.k.d4) e,Nat.succ_le_succ l⟩
    ·exact .bad w j (λH=>(sg H).bad (sc H)) ⟨_,step u⟩
theorem QA(P:PC k hp t ts W)(S:∀D',D'<=D+3->g7 k hp t ts W D')(z:Zp ts pre rest)(st:Start pre rest)(hD:12+wt rest<=D+6):qk k hp t 13 pre rest (ι prog W (D+5) .prefixed [.obj k] (hp pre.length)):=by
 cases rest with
 |nil=>exact z.en.elim
 |cons x r=>
  have zl:r.length<ts.length:=z.len
  have lW:r.length<W:=gn zl (aX (aP ..) P.hW)
  have run:∀{r},π (θ (ι prog W (D+4)) W Prog.prefixed.body [.v (.obj k),.un,.un] (hp pre.length))=r->ι prog W (D+5) .prefixed [.obj k] (hp pre.length)=r:=λh=>(ω (ρ:=[.v (.obj k),.un,.un]) rfl).trans h
  exact(Qz P S W (as:=[]) z st hD lW (η (η (Ψ (bR _)) z.len) (η P.len (by decide)))).imp
   (λu=>u.elim λas u=>u.elim λv0 u=>u.1.elim λh1 o=>run (u.2.1▸ga λκ=>κ _ o.1 _ o.2 _ (Gg _ as v0 (aX u.2.2 lW))))
   λu=>u.elim λas u=>u.elim λh1 o=>run (ga λκ=>κ _ o.1 _ o.2)
noncomputable def zR(mn l:Nat):Prop:=(l=12->mn=13)∧(l=1->2<=mn)∧l<=mn
inductive vV (t:List Nat) (L:Nat) (T:CT) (pre rest:List Tok) (A:V->List Tok->Prop) (B:List Nat->Nat->Prop):Prop
 |ok (T':CT) (s:List Tok) (rs:List Ro) (p:List Tok) (u:Tok) (r:List Tok) (ok:T'.ok) (mn:L<=T'.mn) (fit:zR T'.mn u.k.bQ) (fl:T'.flat=T.flat++s) (ro:T'.cI=T.cI++rs) (mv:Mv s pre rest p (u::r)) (len:(u::r).length<rest.length) (sc:∀H,SG t pre rest false H rs p (u::r) false H) (run:A T'.val p)
 |bad (w:List Nat) (j:Nat) (sc:∀H,SB t pre rest false H w) (run:B w j)
theorem QB(P:PC k hp t ts W)(S:∀D',D'<=D+4->g7 k hp t ts W D'){T:CT}{L:Nat}(hL:L<=1)(ok:T.ok)(mn:2<=T.mn)(z:Zp ts pre (x::q))(hx:x.k=.op [63])(hD:12+wt (x::q)<=D+6):
  vV t L T pre (x::q) (CA hp (ι prog W (D+5) .choice [.obj k,T.val] (hp (x::pre).length))) (CB k hp (ι prog W (D+5) .choice [.obj k,T.val] (hp (x::pre).length))):=by
 have run:∀{r},π (θ (ι prog W (D+4)) W Prog.choice.body [.v (.obj k),.v T.val,.un] (hp (x::pre).length))=r->ι prog W (D+5) .choice [.obj k,T.val] (hp (x::pre).length)=r:=λh=>(ω (ρ:=[.v (.obj k),.v T.val,.un]) rfl).trans h
 have ob:=P.R.obj
 have kG:12+wt q<=D+4:=qh (c:=2) (by rw[hx];rfl) hD
 have oC:12<=D+4:=η (aP 12 _) kG
 have z1:=z.step (by rw[hx];nofun)
 have sg:∀H,SG t pre (x::q) false H [.bin] (x::pre) q true (.q::H):=λH=>.of (congrArg (dw t x q H) hx)
 obtain⟨M,p,y,r,sZ,_,low,mv,sc,cl⟩|⟨w,j,sc,cl⟩:=S (D+4) (ξ _) 1 _ _ (ξ 1) (by decide) z1 (ql hx) kG
 ·have z2:=z1.mv mv
  have hs:=P.sort z2 (D:=D+4) (ai ..)
  have ic:=P.colon z2 (η (by decide) oC)
  have no:∀H,ij y=false->SB t pre (x::q) false H (if ma y=true then ig vK t y.a else jM t y r):=λH c=>(sg H).bad ((sc _).bad (.of (Qd low c)))
  cases c:ma y with
  |true=>
   rw[c]at no
   exact .bad _ p.length (λH=>no H (by
    cases c2:ij y with
    |false=>rfl
    |true=>unfold ma at c;rw[zH c2]at c;exact c.symm)) (run (ga λκ=>κ _ cl (ob _) _ hs _ (ψ rfl) _ c (ob _) _ (P.FZ z2 (w:=vK) (η (by decide) oC) (by decide)) (P.qj _ _)))
  |false=>
   rw[c]at no
   cases c2:ij y with
   |false=>
    have su:=(ω (C:=ι prog W (D+3)) (W:=W) (d:=Prog.iK) (h:=hp p.length) (args:=[.obj k,.tup []]) (ρ:=[.v (.obj k),.v (.tup []),.un]) rfl).trans (show π (θ (ι prog W (D+3)) W (Prog.iK.body.take 1++zK) _ _)=_ from gq λκ=>(κ _ (P.colon z2 (η (by decide) (jZ oC))) _ c2).trans (zL P z2 _ (η (by decide) (jZ oC))))
    exact .bad _ p.length (λH=>no H c2) (run (ga λκ=>κ _ cl (ob _) _ hs _ (ψ rfl) _ c _ ic _ (b8 c2) _ su (P.qj _ _)))
   |true=>
    have yk:=zH c2
    have z3:=z2.step (by rw[yk];nofun)
    have tk:=P.take z2 (D:=D+4) (ai ..)
    have vW:∀H,SG t p (y::r) false (.q::H) [.col] (y::p) r true H:=λH=>.of (congrArg (dw t y r (.q::H)) yk)
    obtain⟨B,p3,u,r3,oE,_,low,Gi,zS,zT⟩|⟨w,j,zS,zT⟩:=S (D+4) (ξ _) 1 _ _ (ξ 1) (by decide) z3 (ql yk) (qi (mv.wt kG))
    ·exact .ok (.b5 x T M y B) _ _ p3 u r3 ⟨hx,ok,mn,sZ,yk,oE⟩ hL ⟨λe=>absurd (e▸low) (by decide),λe=>absurd (e▸low) (by decide),bE low⟩ rfl rfl (mv.app Gi.cons).cons (aX Gi.len (d6 (Nat.lt_succ_self _) (bW mv.len))) (λH=>(sg H).tr ((sc _).tr ((vW H).tr (zS H)))) (run (ga λκ=>κ _ cl (ob _) _ hs _ (ψ rfl) _ c _ ic _ (dZ c2) (ob _) _ tk _ zT))
    ·exact .bad w j (λH=>(sg H).bad ((sc _).bad ((vW H).bad (zS H)))) (run (ga λκ=>κ _ cl (ob _) _ hs _ (ψ rfl) _ c _ ic _ (dZ c2) (ob _) _ tk _ zT))
 ·exact .bad w j (λH=>(sg H).bad (sc _)) (run (ga λκ=>κ _ cl))
theorem QC(P:PC k hp t ts W)(S:∀D',D'<=D+4->g7 k hp t ts W D'){T:CT}{L:Nat}(hs:¬nm x=[63])(sI:1<=L)(hL:L<=lvl (nm x))(ok:T.ok)(fit:zR T.mn (lvl (nm x)))(z:Zp ts pre (x::q))(hx:x.k=.op (nm x))(hD:12+wt (x::q)<=D+6):
  vV t L T pre (x::q) (CA hp (ι prog W (D+5) .joined [.obj k,.str (nm x),.int (lvl (nm x):Nat),T.val] (hp (x::pre).length))) (CB k hp (ι prog W (D+5) .joined [.obj k,.str (nm x),.int (lvl (nm x):Nat),T.val] (hp (x::pre).length))):=by
 have run:∀{r},π (θ (ι prog W (D+4)) W Prog.joined.body [.v (.obj k),.v (.str (nm x)),.v (.int (lvl (nm x):Nat)),.v T.val,.un] (hp (x::pre).length))=r->ι prog W (D+5) .joined [.obj k,.str (nm x),.int (lvl (nm x):Nat),T.val] (hp (x::pre).length)=r:=λh=>(ω (ρ:=[.v (.obj k),.v (.str (nm x)),.v (.int (lvl (nm x):Nat)),.v T.val,.un]) rfl).trans h
 have l0:=d6 sI hL
 have tab:=Gf l0
 have kG:12+wt q<=D+4:=qh (c:=2) (by rw[hx];rfl) hD
 have z1:=z.step (by rw[hx];nofun)
 have sg:∀H,SG t pre (x::q) false H [.bin] (x::pre) q true H:=λH=>.of ((congrArg (dw t x q H) hx).trans ((if_pos l0).trans (by rw[if_neg hs])))
 have l2:2<=lvl (nm x):=Nat.lt_of_le_of_ne l0 λe=>hs (tab.1 e.symm)
 have fin:∀{B:CT} {p u r},B.ok->lvl (nm x)<=B.mn->(if nm x=[42,42]then T.mn=13∧12<=B.mn else lvl (nm x)<=T.mn∧lvl (nm x)<B.mn)->u.k.bQ<=lvl (nm x)->u.k.bQ<12->Mv B.flat (x::pre) q p (u::r)->(∀H,SG t (x::pre) q true H B.cI p (u::r) false H)->ι prog W (D+5) .joined [.obj k,.str (nm x),.int (lvl (nm x):Nat),T.val] (hp (x::pre).length)=some (.ret (jN (nm x) T.val B.val) (hp p.length))->
   vV t L T pre (x::q) (CA hp (ι prog W (D+5) .joined [.obj k,.str (nm x),.int (lvl (nm x):Nat),T.val] (hp (x::pre).length))) (CB k hp (ι prog W (D+5) .joined [.obj k,.str (nm x),.int (lvl (nm x):Nat),T.val] (hp (x::pre).length))):=λ{B p u r} oE bl c ul QD mv sc r=>by
  have mn:(CT.bin x T B).mn=lvl (nm x):=fH (Nat.le_min.mpr ⟨fit.2.2,bl⟩)
  exact .ok (.bin x T B) _ _ p u _ ⟨hx,l2,ok,oE,c⟩ (mn.symm▸hL) (mn.symm▸⟨λe=>absurd QD (Nat.not_lt.mpr (Ψ e.symm)),λ_=>l2,ul⟩) rfl rfl mv.cons (Nat.lt_succ_of_le mv.len) (λH=>(sg H).tr (sc H)) r
 by_cases p2:nm x=[42,42]
 ·have oG:lvl (nm x)=12:=by rw[p2];rfl
  obtain⟨B,p,u,r,oE,bl,low,mv,sc,cl⟩|⟨w,j,sc,cl⟩:=S (D+4) (ξ _) (lvl (nm x)) _ _ l0 (by rw[oG];decide) z1 (ql hx) kG
  ·exact fin oE bl (by rw[if_pos p2];exact⟨fit.1 oG,oG▸bl⟩) (bE low) (oG▸low) mv sc (run (ga λκ=>(κ _ rfl _ (sT p2) _ cl).trans (by rw[p2];rfl)))
  ·exact .bad w j (λH=>(sg H).bad (sc _)) (run (ga λκ=>κ _ rfl _ (sT p2) _ cl))
 ·obtain⟨B,p,u,r,oE,bl,low,mv,sc,cl⟩|⟨w,j,sc,cl⟩:=S (D+4) (ξ _) (lvl (nm x)+1) _ _ (ai ..) (qm (κ:=.op (nm x))) z1 (ql hx) kG
  ·refine fin oE (bE bl) (by rw[if_neg p2];exact⟨fit.2.2,bl⟩) (Nat.le_of_lt_succ low) ?_ mv sc (run ?_)
   ·have:lvl (nm x)<12:=Nat.lt_of_le_of_ne (Nat.le_of_lt_succ (qm (κ:=.op (nm x)))) λe=>p2 (tab.2 e)
    exact aX (Nat.le_of_lt_succ low) this
   ·unfold jN
    by_cases q1:nm x=[38,38]
    ·rw[if_pos q1];exact ga λκ=>κ _ rfl _ (sF p2) _ cl _ rfl _ (sT q1)
    ·rw[if_neg q1]
     by_cases q2:nm x=[124,124]
     ·rw[if_pos q2];exact ga λκ=>κ _ rfl _ (sF p2) _ cl _ rfl _ (sF q1) _ rfl _ (sT q2)
     ·rw[if_neg q2];exact ga λκ=>κ _ rfl _ (sF p2) _ cl _ rfl _ (sF q1) _ rfl _ (sF q2)
  ·exact .bad w j (λH=>(sg H).bad (sc _)) (run (ga λκ=>κ _ rfl _ (sF p2) _ cl))
noncomputable def oH(C:Δ)(W n k L:Nat)(v:V)(l:Nat)(s:Slot)(h:Hp):M Flow:=aO C W (.cmp .ge (.loc 3) (.loc 1)) Qy n [.v (.obj k),.v (.int L),.v v,.v (.int l),s] h
theorem QE{κ:TK}(h:1<=κ.bQ):κ=.op (qc κ):=by
 cases κ<;>first|rfl|exact absurd h (Nat.not_succ_le_zero 0)
theorem QF(P:PC k hp t ts W)(S:∀D',D'<=D+4->g7 k hp t ts W D'){L:Nat}(sI:1<=L)(n:Nat):∀{T:CT} {p q:List Tok} {y:Tok} {s:Slot},T.ok->L<=T.mn->zR T.mn y.k.bQ->Mv T.flat pre rest p (y::q)->(∀H,SG t pre rest true H T.cI p (y::q) false H)->Zp ts p (y::q)->12+wt (y::q)<=D+6->q.length<n->
  oA t L pre rest (λv p'=>∃l s',oH (ι prog W (D+5)) W n k L T.val y.k.bQ s (hp p.length)=some (.ok .ο [.v (.obj k),.v (.int L),.v v,l,s'] (hp p'.length))) λw j=>∃ρ,oH (ι prog W (D+5)) W n k L T.val y.k.bQ s (hp p.length)=some (.ex (k+1) ρ (hp j++[c7 w])):=by
 induction n with
 |zero=>exact λ_ _ _ _ _ _ _ hn=>absurd hn (Nat.not_lt_zero _)
 |succ n ih=>
  intro T p q y s ok mn fit mv sc z hD hn
  have ob:=P.R.obj
  by_cases hl:L<=y.k.bQ
  ·have vX:(L:Int)<=(y.k.bQ:Nat):=aK.mpr hl
   have yk:=QE (η sI hl)
   have tk:=P.sY z yk (D:=D+5) (ai ..)
   have bQ:y.k.bQ=lvl (nm y):=congrArg TK.bQ yk
   have fin:∀{A B},vV t L T p (y::q) A B->(∀{v p' l},A v p'->ι prog W (D+5) .fO [.obj k] (hp p'.length)=some (.ret (.int (l:Nat)) (hp p'.length))->oH (ι prog W (D+5)) W (n+1) k L T.val y.k.bQ s (hp p.length)=oH (ι prog W (D+5)) W n k L v l (.v (.str (nm y))) (hp p'.length))->
     (∀{w j},B w j->∃ρ,oH (ι prog W (D+5)) W (n+1) k L T.val y.k.bQ s (hp p.length)=some (.ex (k+1) ρ (hp j++[c7 w])))->oA t L pre rest (λv p'=>∃l s',oH (ι prog W (D+5)) W (n+1) k L T.val y.k.bQ s (hp p.length)=some (.ok .ο [.v (.obj k),.v (.int L),.v v,l,s'] (hp p'.length))) λw j=>∃ρ,oH (ι prog W (D+5)) W (n+1) k L T.val y.k.bQ s (hp p.length)=some (.ex (k+1) ρ (hp j++[c7 w])):=λo a b=>by
    obtain⟨T',s',rs,p',u,r,zN,QG,QH,fl,ro,kF,len,iq,run⟩|⟨w,j,iq,run⟩:=o
    ·have z':=z.mv kF
     rw[a run (P.level z' (D:=D+5) (ai ..))]
     exact ih zN QG QH (fl▸mv.app kF) (λH=>ro▸(sc H).tr (iq H)) z' (kF.wt hD) (d6 (fi len) (Nat.le_of_lt_succ hn))
    ·exact .bad w j (λH=>(sc H).bad (iq H)) (b run)
   by_cases hs:nm y=[63]
   ·have l1:lvl (nm y)=1:=by rw[hs];rfl
    exact fin (QB P S (T:=T) (L:=L) (l1▸bQ▸hl) ok (fit.2.1 (bQ.trans l1)) z (yk.trans (congrArg TK.op hs)) hD) (λr lv=>gw λκ=>κ _ rfl _ (dT vX) (ob _) _ tk _ rfl _ (sT hs) _ r (ob _) _ lv) λr=>⟨_,gw λκ=>κ _ rfl _ (dT vX) (ob _) _ tk _ rfl _ (sT hs) _ r⟩
   ·have jw:=QC P S hs sI (bQ▸hl) ok (bQ▸fit) z yk hD
    rw[<-bQ]at jw
    exact fin jw (λr lv=>gw λκ=>κ _ rfl _ (dT vX) (ob _) _ tk _ rfl _ (sF hs) _ r (ob _) _ lv) λr=>⟨_,gw λκ=>κ _ rfl _ (dT vX) (ob _) _ tk _ rfl _ (sF hs) _ r⟩
  ·exact .ok T p y q ok mn (fh hl) mv sc ⟨_,s,gw λκ=>κ _ rfl _ (dF λe=>hl (aK.mp e))⟩
theorem QI(P:PC k hp t ts W)(S:∀D',D'<=D+4->g7 k hp t ts W D'):g7 k hp t ts W (D+6):=λL pre rest h1 h2 z st hD=>by
 have run:∀{r},π (θ (ι prog W (D+5)) W Prog.fP.body [.v (.obj k),.v (.int (L:Nat)),.un,.un,.un] (hp pre.length))=r->ι prog W (D+6) .fP [.obj k,.int (L:Nat)] (hp pre.length)=r:=λh=>(ω (ρ:=[.v (.obj k),.v (.int (L:Nat)),.un,.un,.un]) rfl).trans h
 obtain⟨T,p,y,q,ok,mn,low,mv,sc,pf⟩|⟨w,j,sc,pf⟩:=QA P (λD' h=>S D' (bW h)) z st hD
 ·have z1:=z.mv mv
  have lq:q.length<ts.length:=z1.len
  have lv:=P.level z1 (D:=D+5) (ai ..)
  have QJ:=Nat.le_antisymm T.qp mn
  exact(QF P S h1 W (s:=.un) ok (η h2 mn) ⟨λ_=>QJ,λ_=>η (by decide) mn,η (bE low) mn⟩ mv sc z1 (mv.wt hD) (gn lq (aX (aP ..) P.hW))).imp
   (λu=>u.elim λl u=>u.elim λs' u=>run (ga λκ=>κ _ pf (P.R.obj _) _ lv _ u))
   λu=>u.elim λρ u=>run (ga λκ=>κ _ pf (P.R.obj _) _ lv _ u)
 ·exact .bad w j sc (run (ga λκ=>κ _ pf))
theorem Gj(P:PC k hp t ts W)(D:Nat):g7 k hp t ts W D:=Nat.strongRecOn D λD ih L pre rest h1 h2 z st hD=>by
 have e:=dP (η (show 6<=12 by decide) (η (aP 12 _) hD))
 rw[<-e]at hD⊢
 exact QI P (λD' h=>ih D' (aX h (d6 (Nat.lt_succ_self _) (e▸gv (D - 6+5))))) L pre rest h1 h2 z st hD
end
end
theorem QK{W:Nat}{h:Hp}:Gives 1 W .levels [] h (.ret p5 h):=ak λ_ _=>(ω (ρ:=[]) rfl).trans (ga λκ=>κ)
noncomputable def kH(w:List Nat):V:=.tup [.int 1,.str w,vk]
noncomputable def oI(v:V):V:=.tup [.int 0,v,.tup []]
structure Gk (ts:List Tok) (B:Nat):Prop where
 ok:∀x∈ts,dI x
 en:gc ts
 wt:wt ts<=B
 len:ts.length<=400000
inductive Told (t:List Nat) (ts:List Tok) (r:V):Prop
 |bad (w:List Nat) (sc:gZ t [] ts true []=.bad w) (q:r=kH w)
 |ok (T:CT) (x:Tok) (ok:T.ok) (fl:ts=T.flat++[x]) (sc:gZ t [] ts true []=.ok T.cI) (q:r=oI T.val)
theorem vY{W:Nat}{h h1:Hp}{t:List Nat}{D j:Nat}{w:List Nat}(pe:ι prog W D .o5 [.str t] h=some (.exc j (h1++[c7 w])))(hj:h1.length=j):ι prog W (D+1) .gB [.str t] h=some (.ret (kH w) (h1++[c7 w])):=
 (ω (ρ:=[.v (.str t),.un,.un]) rfl).trans (ga λκ=>κ _ pe _ (vL hj) _ (vL hj) _ (vL hj))
theorem QL{W D:Nat}{h:Hp}{t w:List Nat}(hW:t.length+10<W)(hl:t.length<=700000)(lx:Lx 0 t (.bad w))(hD:7<=D):∃h',ι prog W (D+3) .gB [.str t] h=some (.ret (kH (cE w t)) h'):=
 ⟨_,vY (D:=D+2) (w:=cE w t) (h1:=h++[(⟨.reader,[(.text,.str t)]⟩:O)]) ((ω (ρ:=[.v (.str t),.un,.un]) rfl).trans (ga λκ=>κ _ ((ω (C:=ι prog W D) (ρ:=[.v (.obj h.length),.v (.str t)]) rfl).trans (ga λκ=>κ _ (eQ _ _ _ _ _) _ (Fu t hW (η hl (by decide)) lx D hD))))) rfl⟩
theorem Gl{W D B:Nat}{h:Hp}{t:List Nat}{ts:List Tok}(hW:t.length+10<W)(QM:400010<W)(hl:t.length<=700000)(lx:Lx 0 t (.ok ts))(T:Gk ts B)(hD:14+B<=D):
  ∃r h',ι prog W (D+3) .gB [.str t] h=some (.ret r h')∧Told t ts r:=by
 have D7:7<=D:=η (by decide) (η (aP 14 B) hD)
 have pe:∀{r},π (θ (ι prog W (D+1)) W Prog.o5.body [.v (.str t),.un,.un] h)=r->ι prog W (D+2) .o5 [.str t] h=r:=λe=>(ω (ρ:=[.v (.str t),.un,.un]) rfl).trans e
 have lx:=Fu (W:=W) (h:=h++[⟨.reader,[(.text,.str t)]⟩]) t hW (η hl (by decide)) lx
 have P:PC h.length (λi=>h++[p6 t ts i]) t ts W:=⟨PL h t ts hl,T.ok,aX (bM T.len 10) QM,η T.len (by decide)⟩
 have ri:ι prog W (D+1) .iJ [.obj h.length,.str t] (h++[⟨.reader,[]⟩])=some (.ret .none (h++[p6 t ts 0])):=(ω (ρ:=[.v (.obj h.length),.v (.str t)]) rfl).trans (ga λκ=>κ _ (eQ _ _ _ _ _) _ (lx D D7) _ (eQ _ _ _ _ _) _ (QK D (dO D7)) _ (eQ _ _ _ _ _) _ (eQ _ _ _ _ _))
 have z:Zp ts [] ts:=⟨rfl,T.en⟩
 have ob:=P.R.obj
 have kG:12+wt ts<=D:=η (dG (by decide) T.wt) hD
 obtain⟨T,p,y,q,ok,_,low,mv,sc,cl⟩|⟨w,j,sc,cl⟩:=Gj P (D+1) 1 [] ts (ξ 1) (by decide) z ⟨rfl,λe=>absurd e ς⟩ (bW kG)
 ·have z1:=z.mv mv
  have hs:=P.sort z1 (D:=D+1) (ai ..)
  cases c:y.k.aq==cG with
  |true=>
   have yk:=F6 c
   cases q with
   |cons=>exact absurd yk z1.en.1
   |nil=>exact⟨_,_,(ω (ρ:=[.v (.str t),.un,.un]) rfl).trans (ga λκ=>κ _ (pe (ga λκ=>κ _ ri _ cl (ob _) _ hs _ rfl _ (dZ c)))),.ok T y ok mv.r ((sc []).trans ((congrArg (SC.app T.cI) (congrArg (TO.run _) (congrArg (dw t y [] []) yk))).trans (congrArg SC.ok (ck _)))) rfl⟩
  |false=>
   obtain⟨w,sb,j,su|su⟩:=F8 P (Gj P D) z1 low (show List.contains [cG] y.k.aq=false by rw[List.contains_cons,c];rfl) (Nat.le_add_right_of_le (mv.wt kG))
   ·exact⟨_,_,vY (D:=D+2) (h1:=h++[p6 t ts j]) (pe (ga λκ=>κ _ ri _ cl (ob _) _ hs _ rfl _ (b8 c) _ su)) Θ,.bad w ((sc []).bad (sb [] .nil)) rfl⟩
   ·exact⟨_,_,vY (D:=D+2) (h1:=h++[p6 t ts j]) (pe (ga λκ=>κ _ ri _ cl (ob _) _ hs _ rfl _ (b8 c) _ su (P.qj j w))) Θ,.bad w ((sc []).bad (sb [] .nil)) rfl⟩
 ·exact⟨_,_,vY (D:=D+2) (h1:=h++[p6 t ts j]) (pe (ga λκ=>κ _ ri _ cl)) Θ,.bad w (sc []) rfl⟩
theorem vZ{s:List Nat}{kvs:List (List Nat×V)}{d:V}:eN .get (.dict kvs) [.str s,d]=some ((findKey s kvs).getD d):=rfl
theorem QN(s:List Nat):eN .get (.dict (gY.map λp=>(p.1,.int ((p.2:Nat) - 1)))) [.str s,.int (-1)]=some (.int ((lvl s:Nat) - 1)):=vZ.trans (by
 rw[vI (λn=>.int ((n:Nat) - 1)),lvl]
 cases look s gY<;>rfl)
theorem qr{W:Nat}{h:Hp}(s:List Nat):Gives 1 W .iM [.str s] h (.ret (.int ((lvl s:Nat) - 1)) h):=ak λ_ _=>(ω (ρ:=[.v (.str s)]) rfl).trans (ga λκ=>κ rfl _ (QN s))
noncomputable def eW:List (List Nat×V):=[([123,120,32,121,125],l_ [120,32,121]),([34,97,32,98,34],l_ [97,32,98]),([123,125],l_ []),([91,102,32,49,93],.tup [.str gX,.tup [.tup [.str [99,109,100],.str [102,32,49]]]]),([36,123,118,125],.tup [.str gX,.tup [.tup [.str [118,97,114],.str [118],.none]]]),([34,97,36,118,34],.tup [.str gX,.tup [.tup [.str n8,.str [97]],.tup [.str [118,97,114],.str [118],.none]]])]
theorem Gm{W:Nat}{h:Hp}:Gives 1 W .mJ [] h (.ret (.dict eW) h):=ak λ_ _=>(ω (ρ:=[]) rfl).trans (ga λκ=>κ)
theorem QO{s:List Nat}(q:ascii s=true):eN .isdigit (.str s) []=some (.bool (!s.isEmpty&&s.all mQ)):=if_pos q
theorem QP{c:Nat}(h:c<128):ascii [c]=true:=(gM _).trans (dT h)
theorem zU{W:Nat}{h:Hp}(c:Nat)(hc:c<128):Gives 1 W .gA [.str [c]] h (.ret (.bool (au c)) h):=ak λD _=>(ω (ρ:=[.v (.str [c])]) rfl).trans (Eq.trans (nR (gU (gK (x:=true&&(t_ c&&true)) (y:=[c]==[95]) (ge λκ=>κ rfl _ (if_pos (QP hc))) λ_=>rfl))) (congrArg (λb=>some (CR.ret (.bool b) h)) ((by decide+kernel:∀c<128,(true&&(t_ c&&true)||[c]==[95])=au c) c hc)))
theorem QQ{W:Nat}{h:Hp}:Gives 1 W .gA [.str []] h (.ret (.bool false) h):=ak λ_ _=>(ω (ρ:=[.v (.str [])]) rfl).trans (ga λκ=>κ rfl _ rfl _ rfl _ rfl)
theorem zV{s u:List Nat}(q:ascii s=true)(h:∀c∈u,c∈s):ascii u=true:=dM.mpr λc hc=>dM.mp q c (h c hc)
theorem qs{t:List Nat}{a:Nat}{l:List Nat}(q:ascii t=true)(e:t.drop a=l):ascii l=true:=zV q λ_ h=>List.mem_of_mem_drop (e▸h)
theorem QR{t:List Nat}{a c:Nat}{r:List Nat}(q:ascii t=true)(e:t.drop a=c::r):c<128:=of_decide_eq_true (dM.mp (qs q e) c (c9 ..))
theorem QS{c:Nat}(h:au c=true):¬c=58:=nC h rfl
theorem zW{W D:Nat}{h:Hp}{t:List Nat}{s1:Slot}(hD:1<=D)(as:ascii t=true):∀(n a:Nat) (l:List Nat),t.drop a=l->l.length<n->
  aO (ι prog W D) W (.and [(.cmp .lt (.loc 2) (.bi .len (.loc 0))),(.or [(.call .gA [(.sub (.loc 0) (.loc 2))]),(.cmp .eq (.ae (.loc 0) (some (.loc 2)) (some (.bin .add (.loc 2) (.int 2)))) (.str [58,58]))])])
   [.asg 2 (.bin .add (.loc 2) (.ite (.cmp .eq (.sub (.loc 0) (.loc 2)) (.str [58])) (.int 2) (.int 1)))] n [.v (.str t),s1,.v (.int a)] h=
   some (.ok .ο [.v (.str t),s1,.v (.int ((a+runN l:Nat):Int))] h)
 |n+1,a,[],e,_=>gw λκ=>κ _ rfl _ rfl _ (dF (hY e)) _ (dF (hY e))
 |n+1,a,c::r,e,hn=>by
  have hd:=zU (W:=W) (h:=h) c (QR as e) D hD
  have hs:=nX t a
  rw[e]at hs
  cases hw:au c with
  |true=>
   rw[<-nV ((cQ r hw).trans (aQ ..))]
   exact gw λκ=>(κ _ rfl _ rfl _ (dT (aJ e)) _ (ag e) _ hd _ hw _ hw _ (ag e) _ rfl _ (cF (QS hw))).trans (zW hD as n (a+1) r (aV e) (fi hn))
  |false=>
   have no:∀{b},((c::r).take 2==[58,58])=b->b=false->runN (c::r)=0->aO (ι prog W D) W (.and [(.cmp .lt (.loc 2) (.bi .len (.loc 0))),(.or [(.call .gA [(.sub (.loc 0) (.loc 2))]),(.cmp .eq (.ae (.loc 0) (some (.loc 2)) (some (.bin .add (.loc 2) (.int 2)))) (.str [58,58]))])])
     [.asg 2 (.bin .add (.loc 2) (.ite (.cmp .eq (.sub (.loc 0) (.loc 2)) (.str [58])) (.int 2) (.int 1)))] (n+1) [.v (.str t),s1,.v (.int a)] h=some (.ok .ο [.v (.str t),s1,.v (.int ((a+runN (c::r):Nat):Int))] h):=λq qb q0=>by
    rw[q0]
    exact gw λκ=>κ _ rfl _ rfl _ (dT (aJ e)) _ (ag e) _ hd _ hw _ hs _ rfl _ (q.trans qb)
   cases r with
   |nil=>exact no (sF λq=>nomatch (List.cons.inj q).2) rfl (if_neg (by rw[hw];exact ς))
   |cons d r=>
    by_cases h8:c=58∧d=58
    ·rw[(jI r hw).trans (if_pos h8),<-aA]
     exact gw λκ=>(κ _ rfl _ rfl _ (dT (aJ e)) _ (ag e) _ hd _ hw _ hs _ rfl _ (sT (by rw[h8.1,h8.2];rfl)) _ (ag e) _ rfl _ (cT h8.1)).trans (zW hD as n (a+2) r (aV (aV e)) (Nat.lt_of_succ_lt (fi hn)))
    ·exact no (sF λq=>h8 ⟨(List.cons.inj q).1,(List.cons.inj (List.cons.inj q).2).1⟩) rfl ((jI r hw).trans (if_neg h8))
theorem QT{W:Nat}{h:Hp}(t:List Nat)(a:Nat)(as:ascii t=true)(hW:t.length<W):Gives 2 W .tW [.str t,.int a] h (.ret (.str ((t.drop a).take (runN (t.drop a)))) h):=ak λD hD=>by
 rw[ω (ρ:=[.v (.str t),.v (.int a),.un]) rfl]
 exact ga λκ=>κ _ (zW hD as W a _ rfl (aX (nW rfl) hW)) _ ((dk t a _).trans (by rw[dN]))
noncomputable def gh:List Nat:=[48,49,50,51,52,53,54,55,56,57,97,98,99,100,101,102]
theorem zX{c:Nat}(h:¬c<128):aB c=c:=if_neg λq=>h (aX q.2 (by decide))
theorem v3{c:Nat}(h:¬c<128):aL c= -1:=(if_neg λq=>h (aX q.2 (by decide))).trans ((if_neg λq=>h (aX q.2 (by decide))).trans (if_neg λq=>h (aX q.2 (by decide))))
noncomputable def bases:List Nat:=[2,8,10,16]
theorem v5{b:Nat}(hb:b∈bases)(c:Nat)(r:List Nat):decide (aB c∈gh.take b)=Ξ b (c::r):=by
 show _=decide (0<=aL c∧aL c<(b:Int))
 by_cases h:c<128
 ·exact(by decide+kernel:∀b∈bases,∀c<128,decide (aB c∈gh.take b)=decide (0<=aL c∧aL c<((b:Nat):Int))) b hb c h
 ·rw[zX h,v3 h,decide_eq_false λm=>h ((by decide:∀d∈gh,d<128) c (kS m))];rfl
theorem QU{c:Nat}(hc:0<=aL c∧aL c<16):eN .index (.str gh) [.str [aB c]]=some (.int (aL c)):=by
 have hl:c<128:=Decidable.byContradiction λh=>absurd (v3 h▸hc.1) (by decide)
 show(if eM (aB c) gh 0≠ -1 then some (V.int (eM (aB c) gh 0))else Option.none)=_
 rw[(by decide+kernel:∀c<128,(0<=aL c∧aL c<16)->eM (aB c) gh 0=aL c) c hl hc]
 exact if_pos λe=>absurd (e▸hc.1) (by decide)
noncomputable def kI:List (List Nat×Nat):=[([120],16),([111],8),([98],2),([100],10)]
noncomputable def zY:List (List Nat×V):=kI.map λp=>(p.1,.int (p.2:Nat))
theorem QV(s:List Nat):findKey s zY=(look s kI).map λn=>.int (n:Nat):=vI (λn=>.int (n:Nat)) s kI
theorem zZ{s:List Nat}:∀{l:List (List Nat×Nat)},(∀p∈l,¬s=p.1)->look s l=none
 |[],_=>rfl
 |p::_,h=>(if_neg (h p (.head _))).trans (zZ λq m=>h q (.tail _ m))
theorem z0{s:List Nat}(h:∀c∈[120,88,111,79,98,66,100,68],¬s=[c]):aU s=0:=by
 have k:∀{c d:Nat},c∈[120,88,111,79,98,66,100,68]->d∈[120,88,111,79,98,66,100,68]->¬(s=[c]∨s=[d]):=λm n q=>q.elim (h _ m) (h _ n)
 exact(if_neg (k (by decide) (by decide))).trans ((if_neg (k (by decide) (by decide))).trans ((if_neg (k (by decide) (by decide))).trans (if_neg (k (by decide) (by decide)))))
noncomputable def mc(s:List Nat):Option Nat:=look (s.map aB) kI
theorem z8:∀s:List Nat,aU s=((mc s).getD 0:Nat)
 |[]=>rfl
 |[c]=>by
  by_cases h:c<128
  ·exact(by decide+kernel:∀c<128,aU [c]=((mc [c]).getD 0:Nat)) c h
  ·rw[z0 λd m (e:[c]=[d])=>h ((List.cons.inj e).1▸(by decide:∀d∈[120,88,111,79,98,66,100,68],d<128) d m),show mc [c]=none from zZ λp m e=>h (zX h▸(by decide:∀p∈kI,∀d∈p.1,d<128) p m (aB c) (e▸c9 ..))];rfl
 |c::d::r=>(z0 λx m (e:c::d::r=[x])=>nomatch (List.cons.inj e).2).trans (congrArg (λo:Option Nat=>((o.getD 0:Nat):Int)) (zZ λp m e=>absurd ((by decide:∀p∈kI,p.1.length=1) p m) (e▸λe=>nomatch Nat.succ.inj e):mc (c::d::r)=none)).symm
theorem Gn{s:List Nat}{b:Nat}(e:mc s=some b):b∈bases:=(by decide:∀p∈kI,p.2∈bases) _ (zQ e)
theorem QW{s:List Nat}{kvs:List (List Nat×V)}:iO (.str s) (.dict kvs)=some (findKey s kvs).isSome:=by
 match s with
 |[]=>rfl
 |[_]=>rfl
 |_::_::_=>rfl
theorem v7{s:List Nat}{kvs:List (List Nat×V)}{b:Bool}(e:(findKey s kvs).isSome=b):aY .fN (.str s) (.dict kvs)=some (!b):=(congrArg (Option.map (!·)) QW).trans (by rw[e];rfl)
noncomputable def z9:List S:=Prog.o6.body.drop 6
noncomputable def QX(C:Δ)(W n:Nat)(r low:List Nat)(s2 s6:Slot)(b m:Nat)(v:Int)(h:Hp):M Flow:=aO C W (.and [(.cmp .lt (.loc 5) (.bi .len (.loc 3))),(.cmp .aj (.sub (.loc 3) (.loc 5)) (.ae (.loc 1) .none (some (.loc 4))))])
   [.asg 7 (.bin .add (.bin .mul (.loc 4) (.loc 7)) (.met .index (.loc 1) [(.sub (.loc 3) (.loc 5))])),
    .asg 5 (.bin .add (.loc 5) (.int 1))] n [.v (.str r),.v (.str gh),s2,.v (.str low),.v (.int b),.v (.int m),s6,.v (.int v)] h
theorem map_drop{t:List Nat}{a:Nat}{l:List Nat}(e:t.drop a=l):(t.map aB).drop a=l.map aB:=by rw[<-List.map_drop,e]
theorem QY{b c:Nat}{l:List Nat}(hb:b∈bases)(h:Ξ b (c::l)=true):0<=aL c∧aL c<16:=(of_decide_eq_true h).imp_right λq=>Int.lt_of_lt_of_le q ((by decide:∀b∈bases,((b:Nat):Int)<=16) b hb)
theorem QZ{b:Nat}{v:Int}(hb:b∈bases):dR .mul (.int b) (.int v)=some (.int (v*b)):=(if_pos (by rw[(by decide:∀b∈bases,eL ((b:Nat):Int)=true) b hb,Bool.or_true])).trans (by rw[Int.mul_comm])
theorem Gq{C:Δ}{W:Nat}{h:Hp}{r:List Nat}{s2 s6:Slot}{b:Nat}(hb:b∈bases):∀(n m:Nat) (l:List Nat) (v:Int),r.drop m=l->l.length<n->
  QX C W n r (r.map aB) s2 s6 b m v h=some (.ok .ο [.v (.str r),.v (.str gh),s2,.v (.str (r.map aB)),.v (.int b),.v (.int ((m+aa b l:Nat):Int)),s6,.v (.int (bJ b l v))] h)
 |n+1,m,[],v,e,_=>gw λκ=>κ _ rfl _ rfl _ (dF (hY (map_drop e))) _ (dF (hY (map_drop e)))
 |n+1,m,c::l,v,e,hn=>by
  have e1:=map_drop e
  cases q:Ξ b (c::l)with
  |true=>
   rw[<-nV (show aa b (c::l)=1+aa b l from if_pos q),show bJ b (c::l) v=_ from if_pos q]
   exact gw λκ=>(κ _ rfl _ rfl _ (dT (aJ e1)) _ (ag e1) _ (lS gh b) _ rfl _ ((v5 hb c l).trans q) _ (QZ hb) rfl _ (ag e1) _ (QU (QY hb q))).trans (Gq hb n (m+1) l _ (aV e) (fi hn))
  |false=>
   have nq:¬Ξ b (c::l)=true:=by rw[q];exact ς
   rw[show aa b (c::l)=0 from if_neg nq,show bJ b (c::l) v=v from if_neg nq]
   exact gw λκ=>κ _ rfl _ rfl _ (dT (aJ e1)) _ (ag e1) _ (lS gh b) _ rfl _ ((v5 hb c l).trans q)
theorem Gr{C:Δ}{W:Nat}{h:Hp}{r:List Nat}{s2:Slot}{b m:Nat}{mk:Bool}(hb:b∈bases)(hm:decide ((0:Int)<(m:Int))=mk)(hW:r.length<W):
  π (θ C W z9 [.v (.str r),.v (.str gh),s2,.v (.str (r.map aB)),.v (.int b),.v (.int m),.un,.un] h)=some (.ret (.tup [.int (bJ b (r.drop m) 0),.int ((m+aa b (r.drop m):Nat):Int),.bool mk]) h):=
 hm▸ga λκ=>κ _ rfl _ (Gq hb W m _ 0 rfl (aX (nW rfl) hW))
noncomputable def qt(r:List Nat):V:=if bV r=true then .tup [.int (bJ (aU ((r.drop 1).take 1)) (r.drop 2) 0),.int ((2+aa (aU ((r.drop 1).take 1)) (r.drop 2):Nat):Int),.bool true]else .tup [.int (bJ 10 r 0),.int ((0+aa 10 r:Nat):Int),.bool false]
theorem Q0{c:Nat}(h:aB c=48):c=48:=by
 by_cases q:c<128
 ·exact(by decide+kernel:∀c<128,aB c=48->c=48) c q h
 ·exact(zX q).symm.trans h
theorem Gs{b:Nat}(h:b∈bases):0<b:=(by decide:∀b∈bases,0<b) b h
theorem Q1{W:Nat}{h:Hp}:∀(r:List Nat),r≠[]->ascii r=true->r.length<W->Gives 1 W .o6 [.str r] h (.ret (qt r) h)
 |[],ne,_,_=>absurd rfl ne
 |c::r,_,as,hW=>ak λD _=>by
  rw[ω (ρ:=[.v (.str (c::r)),.un,.un,.un,.un,.un,.un,.un]) rfl]
  show π (θ _ _ (Prog.o6.body.take 6++z9) _ _)=_
  have ml:=zg as
  have s0:=ag (t:=(c::r).map aB) (a:=0) rfl
  have kJ:bG (.str ((c::r).map aB)) (some (.int 1)) (some (.int 2))=some (.str ((r.take 1).map aB)):=(dk ((c::r).map aB) 1 2).trans (by rw[List.map_take];rfl)
  have mX:bG (.str ((c::r).map aB)) (some (.int 2)) (some (.int 3))=some (.str (((r.drop 1).map aB).take 1)):=(dk ((c::r).map aB) 2 3).trans (by rw[List.map_drop];rfl)
  have k:=QV ((r.take 1).map aB)
  have hb:aU (r.take 1)=((mc (r.take 1)).getD 0:Nat):=z8 _
  have im:bV (c::r)=(decide ([c]=[48])&&(decide (0<aU (r.take 1))&&Ξ (aU (r.take 1)) (r.drop 1))):=rfl
  rw[hb]at im
  have no:∀{G},bV (c::r)=false->(π (θ (ι prog W D) W z9 [.v (.str (c::r)),.v (.str gh),.v (.dict zY),.v (.str ((c::r).map aB)),.v (.int (10:Nat)),.v (.int (0:Nat)),.un,.un] h)=some (.ret (qt (c::r)) h)->G)->G:=λq f=>f ((Gr (mk:=false) (by decide) rfl hW).trans (by rw[qt,q];rfl))
  by_cases h1:c=48
  ·have v8:=cT (show aB c=48 by rw[h1];rfl)
   cases ko:mc (r.take 1)with
   |none=>
    rw[show look ((r.take 1).map aB) kI=none from ko]at k
    have kk:=congrArg Option.isSome k
    exact no (im.trans (eP (by rw[ko];rfl))) λT=>gq λκ=>(κ rfl _ ml rfl _ kJ _ vZ _ s0 _ rfl _ (dZ v8) _ kJ _ (v7 kk) _ rfl _ rfl).trans T
   |some b=>
    have v9:=Gn ko
    rw[show look ((r.take 1).map aB) kI=some b from ko]at k
    have kk:=congrArg Option.isSome k
    have g:eN .get (.dict zY) [.str ((r.take 1).map aB),.int 10]=some (.int b):=vZ.trans (by rw[k];rfl)
    rw[ko]at im hb
    cases el:r.drop 1 with
    |nil=>
     rw[el]at im mX
     exact no (im.trans (eP (eP rfl))) λT=>gq λκ=>(κ rfl _ ml rfl _ kJ _ g _ s0 _ rfl _ (dZ v8) _ kJ _ (v7 kk) _ rfl _ mX _ rfl _ rfl _ rfl).trans T
    |cons d l=>
     rw[el]at im mX
     have e5:((c::r).map aB).drop 2=aB d::l.map aB:=map_drop el
     cases dg:Ξ b (d::l)with
     |false=>exact no (im.trans (eP (eP dg))) λT=>gq λκ=>(κ rfl _ ml rfl _ kJ _ g _ s0 _ rfl _ (dZ v8) _ kJ _ (v7 kk) _ rfl _ mX _ rfl _ rfl _ (ag e5) _ (lS gh b) _ rfl _ (b8 ((v5 v9 d l).trans dg))).trans T
     |true=>
      rw[qt,im,dT (show[c]=[48]from congrArg (λc=>[c]) h1),dT (show(0:Int)<((some b).getD 0:Nat)from cJ.mpr (Gs v9))]
      refine gq λκ=>(κ rfl _ ml rfl _ kJ _ g _ s0 _ rfl _ (dZ v8) _ kJ _ (v7 kk) _ rfl _ mX _ rfl _ rfl _ (ag e5) _ (lS gh b) _ rfl _ (dZ ((v5 v9 d l).trans dg))).trans ((Gr (mk:=true) (m:=2) v9 rfl hW).trans ?_)
      show _=some (CR.ret (if(true&&(true&&Ξ b (d::l)))=true then .tup [.int (bJ (aU (r.take 1)) (r.drop 1) 0),.int ((2+aa (aU (r.take 1)) (r.drop 1):Nat):Int),.bool true]else _) h)
      rw[dg,hb];rfl
  ·have n1:=cF λe=>h1 (Q0 e)
   exact no (im.trans (aF (dF λe=>h1 (List.cons.inj e).1))) λT=>gq λκ=>(κ rfl _ ml rfl _ kJ _ vZ _ s0 _ rfl _ (b8 n1) _ (b8 n1)).trans T
theorem Q2(c:Nat):mQ c=decide (0<=aL c∧aL c<10):=by
 by_cases h:c<128
 ·exact(by decide+kernel:∀c<128,mQ c=decide (0<=aL c∧aL c<10)) c h
 ·rw[v3 h];exact dF λq=>h (aX q.2 (by decide))
theorem Q4:∀l:List Nat,(!(l.take 1).isEmpty&&(l.take 1).all mQ)=Ξ 10 l
 |[]=>rfl
 |c::_=>(gM _).trans (Q2 c)
theorem z_{l:List Nat}(q:ascii l=true):eN .isdigit (.str (l.take 1)) []=some (.bool (Ξ 10 l)):=(QO (zV q λ_=>kS)).trans (by rw[Q4])
theorem Q5:∀{l:List Nat},i6 (l.take 1)=true->Ξ 10 l=false
 |[],h=>absurd h ς
 |c::_,h=>(e_.mp h).elim (λe=>by rw[<-(List.cons.inj (eq_of_beq e)).1];rfl) λh=>(e_.mp h).elim (λe=>by rw[<-(List.cons.inj (eq_of_beq e)).1];rfl) λh=>absurd h ς
theorem Q6(l:List Nat):(bif l.take 1==[46]then true else bif !([101]==l.take 1||([69]==l.take 1||false))then false else Ξ 10 (l.drop 1)||(i6 ((l.drop 1).take 1)&&Ξ 10 (l.drop 2)))=eR l:=by
 unfold eR
 rw[BEq.comm (a:=[101]),BEq.comm (a:=[69]),Bool.or_false,Bool.not_or]
 cases q:i6 ((l.drop 1).take 1)with
 |true=>rw[Q5 q];rfl
 |false=>rw[Bool.false_and,Bool.or_false];rfl
theorem Q7{W:Nat}{h:Hp}(l:List Nat)(as:ascii l=true):Gives 1 W .tX [.str (l.take 3)] h (.ret (.bool (eR l)) h):=ak λD hD=>by
 rw[ω (ρ:=[.v (.str (l.take 3))]) rfl]
 have a0:bG (.str (l.take 3)) Option.none (some (.int 1))=some (.str (l.take 1)):=(lS (l.take 3) 1).trans (by rw[List.take_take];rfl)
 have a1:bG (.str (l.take 3)) (some (.int 1)) (some (.int 2))=some (.str ((l.drop 1).take 1)):=(dk (l.take 3) 1 2).trans (by rw[List.drop_take,List.take_take];rfl)
 have a2:bG (.str (l.take 3)) (some (.int 2)) (some (.int 3))=some (.str ((l.drop 2).take 1)):=(dk (l.take 3) 2 3).trans (by rw[List.drop_take,List.take_take];rfl)
 have m:=λa=>z_ (qs (a:=a) as rfl)
 refine Eq.trans (cP (ge λκ=>κ _ a0 _ rfl) λ_=>rfl) (Eq.trans (congrArg (cond _ _) (Eq.trans (cP (ge λκ=>κ _ a0 _ (i4 rfl)) λ_=>rfl) (congrArg (cond _ _) (nR (gU (gK (ge λκ=>κ _ a1 rfl _ (m 1)) λ_=>bO (bA (ge λκ=>κ _ a1 _ (ψ rfl)) λ_=>ge λκ=>κ _ a2 rfl _ (m 2)))))))) ?_)
 rw[<-Q6]
 exact((gx (λb=>some (CR.ret (.bool b) h)) ..).trans (congrArg (cond _ _) (gx (λb=>some (CR.ret (.bool b) h)) ..))).symm
noncomputable def s_(s:List Nat):Prop:=∀c∈s,au c=true
theorem Q8{n c:Nat}{l:List Nat}(a:s_ ((c::l).take (n+1))):s_ (l.take n):=λx m=>a x (List.mem_cons_of_mem _ m)
theorem ta:∀(n:Nat) (l:List Nat),n<=l.length->s_ (l.take n)->runN l=n+runN (l.drop n)
 |0,_,_,_=>(bR _).symm
 |n+1,c::l,h,a=>(cQ l (a c (c9 ..))).trans ((congrArg (· +1) (ta n l (jZ h) (Q8 a))).trans (iG ..))
theorem kK{b:Int}{c:Nat}{r:List Nat}(h:Ξ b (c::r)=true):au c=true:=lJ (dT (of_decide_eq_true h).1)
theorem jb{b:Int}{c:Nat}{r:List Nat}(q:Ξ b (c::r)=true):aa b (c::r)=aa b r+1:=(if_pos q).trans (aQ ..)
theorem jP{b:Int}{c:Nat}{r:List Nat}(q:Ξ b (c::r)=false):aa b (c::r)=0:=if_neg (by rw[q];exact ς)
theorem kL{b v:Int}{c:Nat}{r:List Nat}(q:Ξ b (c::r)=true):bJ b (c::r) v=bJ b r (v*b+aL c):=if_pos q
theorem tc{b v:Int}{c:Nat}{r:List Nat}(q:Ξ b (c::r)=false):bJ b (c::r) v=v:=if_neg (by rw[q];exact ς)
theorem oJ(b:Int):∀l:List Nat,aa b l<=l.length∧s_ (l.take (aa b l))
 |[]=>⟨ξ _,λ_ h=>nomatch h⟩
 |c::r=>by
  cases q:Ξ b (c::r)with
  |false=>rw[jP q];exact⟨bC _,λ_ h=>nomatch h⟩
  |true=>
   rw[jb q]
   exact⟨Nat.succ_le_succ (oJ b r).1,λx hx=>(dx.mp hx).elim (λe=>e▸kK q) ((oJ b r).2 x)⟩
theorem qu:∀l:List Nat,runN l<=l.length
 |[]=>ξ _
 |[c]=>by
  show(if _ then 1 else 0)<=1
  by_cases h:au c=true
  ·rw[if_pos h];decide
  ·rw[if_neg h];decide
 |c::d::r=>by
  cases h:au c with
  |true=>rw[cQ _ h];exact Nat.succ_le_succ (qu (d::r))
  |false=>
   rw[jI r h]
   by_cases q:c=58∧d=58
   ·rw[if_pos q,aQ];exact Nat.succ_le_succ (Nat.succ_le_succ (qu r))
   ·rw[if_neg q];exact bC _
theorem Gu(b:Int):∀(n:Nat) (l:List Nat),aa b l<=n->aa b (l.take n)=aa b l∧∀v,bJ b (l.take n) v=bJ b l v
 |_,[],_=>by rw[List.take_nil];exact⟨rfl,λ_=>rfl⟩
 |0,c::r,h=>by
  cases q:Ξ b (c::r)with
  |true=>rw[jb q]at h;exact absurd h (Nat.not_succ_le_zero _)
  |false=>exact⟨(jP q).symm,λ_=>(tc q).symm⟩
 |n+1,c::r,h=>by
  cases q:Ξ b (c::r)with
  |false=>exact⟨(jP (r:=r.take n) q).trans (jP q).symm,λ_=>(tc (r:=r.take n) q).trans (tc q).symm⟩
  |true=>
   rw[jb q]at h
   have ih:=Gu b n r (jZ h)
   exact⟨(jb (r:=r.take n) q).trans ((congrArg (· +1) ih.1).trans (jb q).symm),λ_=>(kL (r:=r.take n) q).trans ((ih.2 _).trans (kL q).symm)⟩
noncomputable def Gv:List Nat:=[110,117,109]
noncomputable def jc:List Nat:=[108,101,97,102]
noncomputable def TK.cj:TK->List Nat
 |.op _=>h9|.num _=>Gv|.wd _=>bP|.b4 _=>jc|.txt _=>jc|.lp=>[40]|.rp=>[41]|.cm=>[44]|.fin=>cG
noncomputable def TK.mf:TK->V
 |.op s=>.str s|.num n=>.int n|.wd s=>.str s|.b4 v=>qe v|.txt s=>l_ s|.lp=>.str [40]|.rp=>.str [41]|.cm=>.str [44]|.fin=>.str []
noncomputable def Tok.lv(t:Tok):V:=.tup [.str t.k.cj,t.k.mf,.int t.a]
noncomputable def LR.lv(a:Nat):LR->V
 |.none=>.none
 |.tok k n=>.tup [Tok.lv ⟨k,a,n⟩,.int (n:Nat),.str []]
 |.bad w=>.tup [.none,.int 0,.str w]
theorem Q9{s:List Nat}(h:dH s=true):0<lvl s:=(jh.mp h).elim λw m=>eq_of_beq m.2▸(by decide:∀w∈y6,0<lvl w) w m.1
theorem Gw{s:List Nat}(ch:∀c∈s,au c=true∨c=58):decide (0<lvl s)=dH s:=by
 cases q:dH s with
 |true=>exact dT (Q9 q)
 |false=>exact dF λh=>((by decide:∀p∈gY,dH p.1=true∨∃c∈p.1,¬(au c=true∨c=58)) _ (qq h)).elim (λe=>Bool.noConfusion (q.symm.trans e)) λe=>e.elim λc m=>m.2 (ch c m.1)
theorem td(s:List Nat):decide ((0:Int)<=((lvl s:Nat):Int) - 1)=decide (0<lvl s):=decide_eq_decide.mpr ⟨λh=>cJ.mp (Int.lt_of_lt_of_le (by decide) (Int.add_le_of_le_sub_right h)),λh=>Int.le_sub_right_of_add_le (aK.mpr h)⟩
theorem qw{c n:Nat}{l:List Nat}{P:Nat->Prop}(h:P c)(k:∀x∈l.take n,P x):∀x∈(c::l).take (n+1),P x:=λx m=>(dx.mp m).elim (λe=>e▸h) (k x)
theorem mh:∀(l:List Nat),∀c∈l.take (runN l),au c=true∨c=58
 |[]=>λ_ h=>nomatch h
 |[d]=>by
  cases q:au d with
  |true=>rw[cQ _ q];exact qw (.inl q) λ_ h=>nomatch h
  |false=>rw[show runN [d]=0 from if_neg (by rw[q];exact ς)];exact λ_ h=>nomatch h
 |d::e::r=>by
  cases q:au d with
  |true=>rw[cQ _ q];exact qw (.inl q) (mh (e::r))
  |false=>
   rw[jI r q]
   by_cases h:d=58∧e=58
   ·rw[if_pos h,aQ];exact qw (.inr h.1) (qw (.inr h.2) (mh r))
   ·rw[if_neg h];exact λ_ h=>nomatch h
theorem Gx(b:Int):∀l:List Nat,aa b l<=runN l
 |[]=>ξ _
 |c::r=>by
  cases q:Ξ b (c::r)with
  |true=>rw[jb q,cQ _ (kK q)];exact Nat.succ_le_succ (Gx b r)
  |false=>rw[jP q];exact bC _
theorem Q_(b:Int):∀(l:List Nat) (n:Nat),1<=n->Ξ b (l.take n)=Ξ b l
 |[],_+1,_|_::_,_+1,_=>rfl
theorem Rb{b:Int}:∀{l:List Nat},Ξ b l=true->1<=runN l
 |[],h=>absurd h ς
 |_::_,h=>cQ _ (kK h)▸ai ..
theorem Rc{c:Nat}(h:¬c<128):aU [c]=0:=z0 λd m (e:[c]=[d])=>h ((List.cons.inj e).1▸(by decide:∀d∈[120,88,111,79,98,66,100,68],d<128) d m)
theorem Rf{c:Nat}(h:0<aU [c]):au c=true:=(by decide+kernel:∀c<128,0<aU [c]->au c=true) c (Decidable.byContradiction λk=>by rw[Rc k]at h;exact absurd h (by decide)) h
theorem oK:∀{l:List Nat},bV l=true->s_ (l.take 2)∧2<=l.length∧3<=runN l
 |[],h=>absurd h ς
 |[_],h=>absurd (bD.mp h).2 ς
 |c::d::r,h=>by
  have h:=bD.mp h
  have h2:=bD.mp h.2
  have c0:au c=true:=(List.cons.inj (of_decide_eq_true h.1)).1▸rfl
  have d0:=Rf (of_decide_eq_true h2.1)
  exact⟨qw c0 (qw d0 λ_ h=>nomatch h),ai ..,by rw[cQ _ c0,cQ _ d0];exact Nat.succ_le_succ (Nat.succ_le_succ (Rb h2.2))⟩
theorem v_(l:List Nat):bV (l.take (runN l))=bV l:=by
 have eq:∀n,3<=n->bV (l.take n)=bV l
  |n+3,_=>by
   unfold bV
   rw[List.take_take,List.drop_take,List.take_take,List.drop_take,Q_ _ _ (n+3 - 2) (ai 1 n)]
   rw[show min 1 (n+3)=1 from fH (ai 1 (n+2)),show min 1 (n+3 - 1)=1 from fH (ai 1 (n+1))]
 by_cases h:3<=runN l
 ·exact eq _ h
 ·have no:bV l=false:=Bool.eq_false_iff.mpr λq=>h (oK q).2.2
  rw[no]
  exact Bool.eq_false_iff.mpr λq=>h (η (oK q).2.2 (η (qu _) (List.length_take_le ..)))
theorem Gy(l:List Nat)(jJ:Ξ 10 l=true):∃off b,(bV l=true->off=2∧b=aU ((l.drop 1).take 1))∧(bV l=false->off=0∧b=10)∧qt (l.take (runN l))=.tup [.int (bJ b (l.drop off) 0),.int ((off+aa b (l.drop off):Nat):Int),.bool (bV l)]∧runN l=(off+aa b (l.drop off))+runN (l.drop (off+aa b (l.drop off)))∧0<off+aa b (l.drop off):=by
 unfold qt
 rw[v_]
 have tl:∀off b,runN l=off+runN (l.drop off)->runN l=(off+aa b (l.drop off))+runN (l.drop (off+aa b (l.drop off))):=λoff b e=>by
  rw[aA,<-cA,<-ta _ _ (oJ b (l.drop off)).1 (oJ b (l.drop off)).2];exact e
 have fg:∀off b,runN l=off+runN (l.drop off)->aa b ((l.take (runN l)).drop off)=aa b (l.drop off)∧∀v,bJ b ((l.take (runN l)).drop off) v=bJ b (l.drop off) v:=λoff b e=>by
  rw[List.drop_take]
  exact Gu b _ _ (Nat.le_sub_of_add_le (η (Ψ (aQ ..)) (η (az (Gx b _) off) (Ψ e.symm))))
 cases h:bV l with
 |true=>
  have m:=oK h
  have e:=ta 2 l m.2.1 m.1
  have f:=fg 2 (aU ((l.drop 1).take 1)) e
  have tk:((l.take (runN l)).drop 1).take 1=(l.drop 1).take 1:=by rw[List.drop_take,List.take_take,fH (Nat.le_sub_of_add_le (iE m.2.2))]
  refine⟨2,aU ((l.drop 1).take 1),λ_=>⟨rfl,rfl⟩,nofun,?_,tl _ _ e,Nat.lt_add_right _ (by decide)⟩
  rw[if_pos rfl,tk,f.1,f.2]
 |false=>
  have f:=fg 0 10 (bR _).symm
  refine⟨0,10,nofun,λ_=>⟨rfl,rfl⟩,?_,tl _ _ (bR _).symm,?_⟩
  ·rw[if_neg ς]
   exact(congrArg (λb=>V.tup [.int (bJ 10 (l.take (runN l)) 0),.int ((0+b:Nat):Int),.bool false]) f.1).trans (congrArg (λa=>V.tup [.int a,.int ((0+aa 10 l:Nat):Int),.bool false]) (f.2 0))
  ·cases l with
   |nil=>exact absurd jJ ς
   |cons c r=>rw[show(c::r).drop 0=c::r from rfl,jb jJ];exact gu _
theorem Rg{c:Nat}{r:List Nat}(h:au c=true):ed (c::r)=[]:=by
 have h1:gV c=false:=List.any_eq_false.mpr λd m e=>by
  have:=(by decide:∀d∈pW,au d=false) d m
  rw[eq_of_beq e,h]at this
  exact Bool.noConfusion this
 have h2:dB ((c::r).take 2)=false:=List.any_eq_false.mpr λw m e=>by
  have:=(by decide:∀w∈vA,w.head?.any au=false) w m
  rw[eq_of_beq e]at this
  exact Bool.noConfusion (h.symm.trans this)
 exact(if_neg (by rw[h2];exact ς)).trans (if_neg (by rw[h1];exact ς))
theorem qx{c:Nat}{r:List Nat}(h:au c=true):fA (c::r)=if Ξ 10 (c::r)=true then n_ (c::r)else .tok (if dH ((c::r).take (runN (c::r)))=true then .op ((c::r).take (runN (c::r)))else .wd ((c::r).take (runN (c::r)))) (runN (c::r)):=(if_neg (not_not_intro (Rg h))).trans (by
 rw[if_pos (show c=95∨Ξ 36 (c::r)=true from(e_.mp h).imp eq_of_beq λe=>(EZ c r).trans e)])
theorem te(l:List Nat):(l.take (runN l)).length=runN l:=List.length_take.trans (fH (qu l))
theorem sub_0{c:Nat}{r:List Nat}:υ (.str (c::r)) (.int 0)=some (.str [c]):=ag (t:=c::r) (a:=0) rfl
theorem or3{W D:Nat}{h:Hp}{a0 a1 a2 a3 a4 a5:Slot}(hD:1<=D)(tl:List Nat):evalOr (ι prog W D) [(.cmp .eq (.loc 6) (.str [])),(.cmp .eq (.sub (.loc 6) (.int 0)) (.str [58])),(.cmp .ge (.call .iM [(.loc 6)]) (.int 0))] [a0,a1,a2,a3,a4,a5,.v (.str (tl.take (runN tl)))] h=some (.ok (.bool (!ec tl)) [a0,a1,a2,a3,a4,a5,.v (.str (tl.take (runN tl)))] h):=by
 have w:ec tl=(decide (0<runN tl)&&(!(tl.take 1==[58])&& !dH (tl.take (runN tl)))):=rfl
 have lw:=(td _).trans (Gw (mh tl))
 have ll:=qr (W:=W) (h:=h) (tl.take (runN tl)) D hD
 cases tl with
 |nil=>rfl
 |cons y u=>
  generalize runN (y::u)=k at w lw ll
  cases k with
  |zero=>rw[w];rfl
  |succ k=>
   refine Eq.trans (gK rfl λ_=>gK (ge λκ=>κ _ sub_0 _ rfl) λ_=>ge λκ=>κ _ ll _ rfl) (congrArg (λb=>some (Rs.ok (V.bool b) _ h)) ?_)
   rw[w,lw]
   show(false||([y]==[58]||_))= !(true&&(!([y]==[58])&&_))
   cases[y]==[58]<;>cases dH _<;>rfl
theorem Gz{α:Type}{p:Prop}[Decidable p](b:Bool)(x y:α):(if p∧b=true then x else y)=bif decide p&&b then x else y:=by
 cases b with
 |true=>
  by_cases q:p
  ·rw[if_pos ⟨q,rfl⟩,dT q];rfl
  ·rw[if_neg λh=>q h.1,dF q];rfl
 |false=>rw[Bool.and_false];exact if_neg λh=>ς h.2
theorem ite_not{α:Type}(b:Bool)(x y:α):(if b=true then x else y)=bif !b then y else x:=by cases b<;>rfl
theorem GB{l:List Nat}{off:Nat}{b:Int}(m1:bV l=true->off=2∧b=aU ((l.drop 1).take 1))(m2:bV l=false->off=0∧b=10):n_ l=n9 l off b:=by
 unfold n_
 cases hm:bV l with
 |true=>rw[(m1 hm).1,(m1 hm).2];rfl
 |false=>rw[(m2 hm).1,(m2 hm).2];rfl
theorem Rh{W:Nat}{h:Hp}(t:List Nat)(a:Nat){c:Nat}{r:List Nat}(e:t.drop a=c::r)(hc:au c=true)(as:ascii t=true)(hW:t.length<W):Gives 3 W .mK [.str t,.int a] h (.ret ((fA (c::r)).lv a) h):=ak λD hD=>by
 rw[ω (ρ:=[.v (.str t),.v (.int a),.un,.un,.un,.un,.un]) rfl,qx hc]
 have lr:=QT (W:=W) (h:=h) t a as hW D hD
 rw[e]at lr
 have dg:eN .isdigit (.str [c]) []=some (.bool (Ξ 10 (c::r))):=z_ (l:=c::r) (qs as e)
 have s0:υ (.str ((c::r).take (runN (c::r)))) (.int 0)=some (.str [c]):=by rw[cQ r hc];exact sub_0
 have D1:1<=D:=dO hD
 have GC:=te (c::r)
 cases hd:Ξ 10 (c::r)with
 |false=>
  have ll:=qr (W:=W) (h:=h) ((c::r).take (runN (c::r))) D D1
  have lw:=(td _).trans (Gw (mh (c::r)))
  rw[if_neg ς]
  cases hw:dH ((c::r).take (runN (c::r)))<;>exact ga λκ=>(κ _ lr _ s0 rfl _ dg _ (b8 hd) _ ll _ rfl _ (lw.trans hw) _ rfl).trans (by rw[GC];rfl)
 |true=>
  obtain⟨off,b,m1,m2,Ri,kM,_⟩:=Gy (c::r) hd
  have nm:=Q1 (W:=W) (h:=h) ((c::r).take (runN (c::r))) (by rw[cQ r hc];exact List.cons_ne_nil _ _) (zV (qs as e) λ_=>kS) (aX (η (List.length_take_le' ..) (nW e)) hW) D D1
  rw[Ri]at nm
  have Rj:decide (off=0)= !bV (c::r):=by
   cases hm:bV (c::r)with
   |true=>rw[(m1 hm).1];rfl
   |false=>rw[(m2 hm).1];rfl
  rw[if_pos rfl,GB m1 m2]
  generalize hk:off+aa b ((c::r).drop off)=n at nm kM
  have dr:t.drop (a+n)=(c::r).drop n:=by rw[<-cA,e]
  have fl:=Q7 (W:=W) (h:=h) _ (qs as dr) D D1
  have sl:bG (.str t) (some (.int (a+n:Nat))) (some (.int (a+n+3:Nat)))=some (.str (((c::r).drop n).take 3)):=(dk ..).trans (by rw[dr,dN])
  have sr:bG (.str ((c::r).take (runN (c::r)))) (some (.int (n:Nat))) Option.none=some (.str (((c::r).drop n).take (runN ((c::r).drop n)))):=(y2 ..).trans (by rw[List.drop_take,kM,dN])
  have val:n9 (c::r) off b=bif !bV (c::r)&&eR ((c::r).drop n)then .bad f7 else bif !ec ((c::r).drop n)then .tok (.num (bJ b ((c::r).drop off) 0)) n else .tok (.wd ((c::r).take (runN (c::r)))) (runN (c::r)):=by
   rw[<-Rj,kM,<-hk]
   exact(Gz ..).trans (congrArg (cond _ _) (ite_not ..))
  rw[val]
  show π (θ _ _ (Prog.mK.body.take 3++Prog.mK.body.drop 3) _ _)=_
  refine gq λκ=>(κ _ lr _ s0 rfl _ dg _ (dZ hd) _ nm).trans (Eq.trans (cP (bO (bA rfl λ_=>ge λκ=>κ _ sl _ fl)) λ_=>rfl) (nY (f:=λx=>some (CR.ret (LR.lv a x) h)) (x:=.bad f7) ?_))
  refine Eq.trans (kB (ge λκ=>κ _ sr)) (Eq.trans (cP (gU (or3 D1 _)) λ_=>rfl) (nY (f:=λx=>some (CR.ret (LR.lv a x) h)) (x:=.tok (.num (bJ b ((c::r).drop off) 0)) n) ?_))
  exact ga λκ=>(κ _ rfl).trans (by rw[GC];rfl)
theorem GD{C:Δ}{ρ:Loc}{h:Hp}{c A B:E}{x:Bool}(hc:ν C c ρ h=some (.ok (.bool x) ρ h)):ν C (.ite c A B) ρ h=bif x then ν C A ρ h else ν C B ρ h:=by
 show M.ζ (ν C c ρ h) _=_
 rw[hc];cases x<;>rfl
theorem GG{c:Nat}{r:List Nat}(h:au c=false):((((c::r).take 2).length:Int)==2&&decide (0<lvl ((c::r).take 2)))=dB ((c::r).take 2):=Bool.eq_iff_iff.mpr ⟨λq=>by
 have q:=bD.mp q
 exact((by decide:∀p∈gY,p.1.length=2->dB p.1=true∨p.1.head?.any au=true) _ (qq (of_decide_eq_true q.2)) (Int.ofNat.inj (eq_of_beq q.1))).resolve_right λe=>Bool.noConfusion (h.symm.trans e),λq=>by
 obtain⟨w,m,e⟩:=jh.mp q
 rw[<-eq_of_beq e]
 exact(by decide:∀w∈vA,(((w.length:Nat):Int)==2&&decide (0<lvl w))=true) w m⟩
theorem Rk(c:Nat):(decide (0<lvl [c])||([33]==[c]||([126]==[c]||([58]==[c]||false))))=gV c:=Bool.eq_iff_iff.mpr ⟨λq=>(e_.mp q).elim (λq=>(gM _).symm.trans (((by decide:∀p∈gY,p.1.all gV=true∨¬p.1.length=1) _ (qq (of_decide_eq_true q))).resolve_right λe=>e rfl)) λq=>by
  obtain⟨d,m,e⟩:=jh.mp (show[33,126,58].any (λd=>[d]==[c])=true from q)
  rw[<-(List.cons.inj (eq_of_beq e)).1]
  exact(by decide:∀d∈[33,126,58],gV d=true) d m,λq=>by
 obtain⟨d,m,e⟩:=jh.mp q
 rw[<-eq_of_beq e]
 exact(by decide:∀d∈pW,(decide (0<lvl [d])||([33]==[d]||([126]==[d]||([58]==[d]||false))))=true) d m⟩
theorem Rm{c:Nat}{r:List Nat}(h:au c=false):fA (c::r)=if¬ed (c::r)=[]then .tok (.op (ed (c::r))) (ed (c::r)).length else if c=46∧Ξ 10 r=true then .bad f7 else if c=61 then .bad lU else .bad (lV++[c]++[34]):=by
 have n:∀b,¬Ξ b (c::r)=true:=λb q=>Bool.noConfusion (h.symm.trans (kK q))
 exact congrArg (λz=>if¬ed (c::r)=[]then LR.tok (.op (ed (c::r))) (ed (c::r)).length else z) ((if_neg (n 10)).trans (if_neg λq=>q.elim (λe=>by rw[e]at h;exact Bool.noConfusion h) (n 36)))
theorem GH(c:Nat)(r:List Nat):ed (c::r)=bif dB ((c::r).take 2)then(c::r).take 2 else bif gV c then[c]else[]:=by
 rw[Bool.cond_eq_ite,Bool.cond_eq_ite];rfl
theorem GI{c:Nat}{r:List Nat}(h:au c=false){s:List Nat}{x:Bool}(es:s=bif dB ((c::r).take 2)then(c::r).take 2 else[c])(ex:x=(dB ((c::r).take 2)||gV c)):fA (c::r)=bif x then .tok (.op s) s.length else bif s==[46]&&Ξ 10 r then .bad f7 else bif s==[61]then .bad lU else .bad (lV++s++[34]):=by
 rw[Rm h,ex,es,GH]
 cases dB ((c::r).take 2)with
 |true=>exact if_pos λe=>nomatch e
 |false=>
  cases gV c with
  |true=>exact if_pos (List.cons_ne_nil c [])
  |false=>
   refine(if_neg (not_not_intro rfl)).trans ((Gz ..).trans ?_)
   have q:∀d,decide (c=d)=([c]==[d]):=λd=>(gM _).symm
   rw[q]
   exact congrArg (cond _ _) ((Bool.cond_decide ..).symm.trans (congrArg (λb=>bif b then LR.bad lU else _) (q 61)))
theorem Rn{W:Nat}{h:Hp}(t:List Nat)(a:Nat){c:Nat}{r:List Nat}(e:t.drop a=c::r)(hc:au c=false)(as:ascii t=true):Gives 2 W .qW [.str t,.int a] h (.ret ((fA (c::r)).lv a) h):=ak λD hD=>by
 rw[ω (ρ:=[.v (.str t),.v (.int a),.un,.un]) rfl]
 have s2:=nX t a
 have s1:=vn t a
 rw[e]at s2
 rw[aV e]at s1
 have ll:=λs=>qr (W:=W) (h:=h) s D hD
 refine Eq.trans (kB (ge λκ=>κ _ s2)) ?_
 refine Eq.trans (kB (v:=.str (bif dB ((c::r).take 2)then(c::r).take 2 else[c])) (h':=h) ?_) ?_
 ·refine Eq.trans (GD (bO (bA rfl λ_=>ge λκ=>κ _ (ll _) _ (congrArg some (td _))))) ?_
  rw[GG hc]
  cases dB ((c::r).take 2)with
  |true=>rfl
  |false=>exact ge λκ=>κ _ (ag e)
 have ex:(decide (0<lvl (bif dB ((c::r).take 2)then(c::r).take 2 else[c]))||([33]==(bif dB ((c::r).take 2)then(c::r).take 2 else[c])||([126]==(bif dB ((c::r).take 2)then(c::r).take 2 else[c])||([58]==(bif dB ((c::r).take 2)then(c::r).take 2 else[c])||false))))=(dB ((c::r).take 2)||gV c):=by
  cases q:dB ((c::r).take 2)with
  |true=>exact oT (bD.mp ((GG hc).trans q)).2
  |false=>exact Rk c
 rw[GI hc rfl ex]
 have sl:(lV++(bif dB ((c::r).take 2)then(c::r).take 2 else[c])).length<=19+2:=bf (ξ _) (by cases dB ((c::r).take 2)<;>first|exact List.length_take_le .. |exact gv 1)
 generalize (bif dB ((c::r).take 2)then(c::r).take 2 else[c])=s at sl
 have md:=z_ (l:=r) (qs as (aV e))
 refine Eq.trans (cP (gU (gK (ge λκ=>κ _ (ll s) _ (congrArg some (td s))) λ_=>ge λκ=>κ _ (ψ rfl))) λ_=>rfl) (nY (f:=λx=>some (CR.ret (LR.lv a x) h)) (x:=.tok (.op s) s.length) ?_)
 refine Eq.trans (cP (bO (bA rfl λ_=>ge λκ=>κ _ s1 rfl _ md)) λ_=>rfl) (nY (f:=λx=>some (CR.ret (LR.lv a x) h)) (x:=.bad f7) ?_)
 refine Eq.trans (cP rfl λ_=>rfl) (nY (f:=λx=>some (CR.ret (LR.lv a x) h)) (x:=.bad lU) ?_)
 exact ga λκ=>κ _ (cR (η sl (by decide))) _ (cR (η (bf sl (ξ 1)) (by decide)))
section
noncomputable def Rp:List Nat:=[123,125,91,93,34,36,92,11,12,13]
noncomputable def eX(c:Nat):Bool:=decide (c<128)&& !Rp.contains c
inductive Good:List Nat->Prop
 |nil {l:List Nat} (e:l=[]):Good l
 |chr {l:List Nat} (c:Nat) (r:List Nat) (e:l=c::r) (h:eX c=true) (g:Good r):Good l
 |qy {l:List Nat} (r:List Nat) (e:l=92::10::r) (g:Good r):Good l
 |leaf {l:List Nat} (s:List Nat) (v:V) (r:List Nat) (e:l=s++r) (h:(s,v)∈eW) (g:Good r):Good l
theorem GJ:∀l:List Nat,l.findIdx? (· ==10)=if ba l<l.length then some (ba l)else none
 |[]=>rfl
 |c::r=>by
  rw[List.findIdx?_cons,GJ r]
  by_cases h:c=10
  ·rw[h];rfl
  ·rw[show(c==10)=false from beq_eq_false_iff_ne.mpr h,if_neg ς,show ba (c::r)=1+ba r from if_neg h,aQ]
   by_cases q:ba r<r.length
   ·rw[if_pos q];exact(if_pos (Nat.succ_lt_succ q)).symm
   ·rw[if_neg q];exact(if_neg λe=>q (fi e)).symm
theorem Rq(t:List Nat)(a:Nat):eM 10 t a=if ba (t.drop a)<(t.drop a).length then((a+ba (t.drop a):Nat):Int)else -1:=by
 unfold eM
 rw[GJ]
 by_cases q:ba (t.drop a)<(t.drop a).length
 ·rw[if_pos q,if_pos q]
 ·rw[if_neg q,if_neg q]
theorem GK{t:List Nat}{a:Nat}{r:List Nat}(e:t.drop a=r)(k:Nat):bG (.str t) (some (.int (a:Int))) (some (.int ((a:Int)+k)))=some (.str (r.take k)):=(dk t a (a+k)).trans (by rw[dN,e])
section
variable{C:Δ}{W:Nat}{h:Hp}{t l r:List Nat}{a c:Nat}
theorem Rr(sa:υ (.str t) (.int a)=some (.str [c]))(hc:c=32∨c=9∨c=10):π (θ C W Prog.eJ.body [.v (.str t),.v (.int a),.un,.un,.un,.un] h)=some (.ret (.tup [.none,.int 1,.str []]) h):=
 ga λκ=>κ _ sa _ (ψ rfl) _ (hc.elim (λe=>oT (eT (e▸rfl))) λhc=>hc.elim (λe=>lJ (oT (eT (e▸rfl)))) λe=>lJ (lJ (oT (eT (e▸rfl)))))
theorem Ru(sa:υ (.str t) (.int a)=some (.str [92])):π (θ C W Prog.eJ.body [.v (.str t),.v (.int a),.un,.un,.un,.un] h)=some (.ret (.tup [.none,.int 2,.str []]) h):=
 ga λκ=>κ _ sa _ (ψ rfl) _ rfl _ rfl _ rfl
theorem Rv(e:t.drop a=35::r)(ha:t.length<=700000):π (θ C W Prog.eJ.body [.v (.str t),.v (.int a),.un,.un,.un,.un] h)=some (.ret (.tup [.none,.int (1+ba r:Nat),.str []]) h):=by
 have fd:eN .find (.str t) [.str [10],.int a]=some (.int (eM 10 t a)):=Fj (a:Int) ⟨eC a,Int.lt_of_lt_of_le (aJ e) (Int.le_trans (aK.mpr ha) (by decide))⟩
 have q:=Rq t a
 rw[e]at q
 have cm:ba (35::r)=1+ba r:=rfl
 rw[cm]at q
 rw[q]at fd
 by_cases k:1+ba r<(35::r).length
 ·rw[if_pos k]at fd
  exact ga λκ=>(κ _ (ag e) _ (ψ rfl) _ rfl _ rfl _ rfl _ rfl _ rfl rfl _ fd _ rfl _ (dF (Int.not_ofNat_neg _))).trans (congrArg (λi=>some (CR.ret (.tup [.none,.int i,.str []]) h)) (Int.sub_eq_iff_eq_add.mpr (congrArg Nat.cast (aQ a _))))
 ·rw[if_neg k]at fd
  have ln:t.length=1+ba r+a:=by
   have:=congrArg List.length e
   rw[cY]at this
   rw[show 1+ba r=(35::r).length from Nat.le_antisymm (y3 (35::r)) (Nat.le_of_not_lt k),<-this,dP (bE (yX e))]
  exact ga λκ=>(κ _ (ag e) _ (ψ rfl) _ rfl _ rfl _ rfl _ rfl _ rfl rfl _ fd _ rfl _ rfl _ rfl).trans (congrArg (λi=>some (CR.ret (.tup [.none,.int i,.str []]) h)) (Int.sub_eq_iff_eq_add.mpr (congrArg Nat.cast ln)))
theorem Rw(sa:υ (.str t) (.int a)=some (.str [c]))(hc:c=40∨c=41∨c=44):π (θ C W Prog.eJ.body [.v (.str t),.v (.int a),.un,.un,.un,.un] h)=some (.ret (.tup [.tup [.str [c],.str [c],.int a],.int 1,.str []]) h):=by
 have k:∀{d},d=c->(d∉[32,9,10]∧¬d=92∧¬d=35)->(([[40],[41],[44]].map V.str).any λy=>y.eqv (.str [d]))=true->π (θ C W Prog.eJ.body [.v (.str t),.v (.int a),.un,.un,.un,.un] h)=some (.ret (.tup [.tup [.str [c],.str [c],.int a],.int 1,.str []]) h):=λe n q=>by
  subst e
  exact ga λκ=>κ _ sa _ (ψ rfl) _ (pR n.1) _ rfl _ (cF n.2.1) _ rfl _ (cF n.2.2) _ (ψ rfl) _ q
 exact hc.elim (λe=>k e.symm (by decide) rfl) λhc=>hc.elim (λe=>k e.symm (by decide) rfl) λe=>k e.symm (by decide) rfl
theorem Rx{b:Bool}{v:V}(sa:υ (.str t) (.int a)=some (.str [c]))(hc:c∉[32,9,10,92,35,40,41,44,123,91,34,36])(wl:C .gA [.str [c]] h=some (.ret (.bool b) h))(k:(bif b then C .mK [.str t,.int a] h else C .qW [.str t,.int a] h)=some (.ret v h)):π (θ C W Prog.eJ.body [.v (.str t),.v (.int a),.un,.un,.un,.un] h)=some (.ret v h):=by
 cases b<;>exact ga λκ=>κ _ sa _ (ψ rfl) _ (pR (L:=[32,9,10]) (nS hc (by decide))) _ rfl _ (cF (nM hc (by decide))) _ rfl _ (cF (nM hc (by decide))) _ (ψ rfl) _ (pR (L:=[40,41,44]) (nS hc (by decide))) _ (ψ rfl) _ (pR (L:=[123,91,34,36]) (nS hc (by decide))) _ wl _ rfl _ k
theorem GL{s2 s3:Slot}(e:t.drop a=l):∀(L:List (List Nat)) {k:List Nat} {v:V} {s5:Slot},(L.find? λk=>l.take k.length==k)=some k->findKey k eW=some v->
  ∃ρ,cy C W 5 [.ifs (.cmp .eq (.ae (.loc 0) (some (.loc 1)) (some (.bin .add (.loc 1) (.bi .len (.loc 5))))) (.loc 5))
     [.ret (.tup [(.tup [(.str [108,101,97,102]),(.sub (.loc 4) (.loc 5)),(.loc 1)]),(.bi .len (.loc 5)),(.str [])])]
     []] (L.map V.str) [.v (.str t),.v (.int a),s2,s3,.v (.dict eW),s5] h=some (.ok (.ret (.tup [.tup [.str jc,v,.int a],.int k.length,.str []])) ρ h)
 |k0::L,k,v,s5,f,fk=>by
  cases q:l.take k0.length==k0 with
  |true=>
   obtain rfl:=Option.some.inj ((List.find?_cons_of_pos (p:=λk=>l.take k.length==k) q).symm.trans f)
   exact⟨_,gf λκ=>κ _ rfl _ (GK e k0.length) _ rfl _ q _ fk _ rfl⟩
  |false=>
   rw[List.find?_cons_of_neg (by rw[q];exact ς)]at f
   exact(GL e L (s5:=.v (.str k0)) f fk).imp λρ ih=>gf λκ=>(κ _ rfl _ (GK e k0.length) _ rfl _ q).trans ih
theorem Ry(ll:C .mJ [] h=some (.ret (.dict eW) h)){p:List Nat×V}(m:p∈eW)(e:t.drop a=p.1++r):π (θ C W Prog.eJ.body [.v (.str t),.v (.int a),.un,.un,.un,.un] h)=some (.ret (.tup [.tup [.str jc,p.2,.int a],.int p.1.length,.str []]) h):=by
 have go:∀{c s},t.drop a=c::s->(c∉[32,9,10]∧¬c=92∧¬c=35∧c∉[40,41,44])->(([123,91,34,36].map λd=>V.str [d]).any λy=>y.eqv (.str [c]))=true->((eW.map (·.1)).find? λk=>(c::s).take k.length==k)=some p.1->findKey p.1 eW=some p.2->π (θ C W Prog.eJ.body [.v (.str t),.v (.int a),.un,.un,.un,.un] h)=some (.ret (.tup [.tup [.str jc,p.2,.int a],.int p.1.length,.str []]) h):=λe n q f k=>by
  obtain⟨ρ,y⟩:=GL (C:=C) (W:=W) (h:=h) (s2:=.v (.str [_])) (s3:=.un) e (eW.map (·.1)) (s5:=.un) f k
  exact ga λκ=>κ _ (ag e) _ (ψ rfl) _ (pR n.1) _ rfl _ (cF n.2.1) _ rfl _ (cF n.2.2.1) _ (ψ rfl) _ (pR n.2.2.2) _ (ψ rfl) _ q _ ll _ rfl _ y
 exact fL (P:=λp=>t.drop a=p.1++r->(∀{c s},t.drop a=c::s->(c∉[32,9,10]∧¬c=92∧¬c=35∧c∉[40,41,44])->(([123,91,34,36].map λd=>V.str [d]).any λy=>y.eqv (.str [c]))=true->((eW.map (·.1)).find? λk=>(c::s).take k.length==k)=some p.1->findKey p.1 eW=some p.2->π (θ C W Prog.eJ.body [.v (.str t),.v (.int a),.un,.un,.un,.un] h)=some (.ret (.tup [.tup [.str jc,p.2,.int a],.int p.1.length,.str []]) h))->π (θ C W Prog.eJ.body [.v (.str t),.v (.int a),.un,.un,.un,.un] h)=some (.ret (.tup [.tup [.str jc,p.2,.int a],.int p.1.length,.str []]) h)) m
  ⟨λe k=>k e (by decide) rfl rfl rfl,λe k=>k e (by decide) rfl rfl rfl,λe k=>k e (by decide) rfl rfl rfl,λe k=>k e (by decide) rfl rfl rfl,λe k=>k e (by decide) rfl rfl rfl,λe k=>k e (by decide) rfl rfl rfl,trivial⟩ e go
end
end
noncomputable def cw(c:Nat):Nat:=if c=40 then 4 else if c=58 then 2 else if gV c=true then 6 else if c=61 then 3 else if au c=true then 3 else 0
noncomputable def aW:List Nat->Nat
 |[]=>0
 |c::r=>cw c+aW r
theorem v':∀a b:List Nat,aW (a++b)=aW a+aW b
 |[],_=>(bR _).symm
 |x::a,b=>(congrArg (cw x+·) (v' a b)).trans (aA ..).symm
theorem GN(n:Nat)(l:List Nat):aW l=aW (l.take n)+aW (l.drop n):=by
 rw[<-v',fJ]
noncomputable def dK:TK->Nat
 |.op s=>if s=[58]then 2 else 6
 |.lp=>4
 |_=>0
noncomputable def ww:List Tok->Nat
 |[]=>0
 |x::r=>dK x.k+ww r
theorem mq:∀a b:List Tok,ww (a++b)=ww a+ww b
 |[],_=>(bR _).symm
 |x::a,b=>(congrArg (dK x.k+·) (mq a b)).trans (aA ..).symm
theorem Rz:∀k:TK,g6 k<=dK k
 |.op s=>by
  show 2<=if s=[58]then 2 else 6
  by_cases h:s=[58]
  ·rw[if_pos h];decide
  ·rw[if_neg h];decide
 |.lp=>ξ _
 |.num _|.wd _|.b4 _|.txt _|.rp|.cm|.fin=>ξ _
theorem Aa:∀ts:List Tok,wt ts<=ww ts
 |[]=>ξ _
 |x::r=>dG (Rz x.k) (Aa r)
theorem Ab:∀s∈i8,dK (.op s)<=aW s:=by decide
theorem GO{s:List Nat}(h:dH s=true):s∈i8:=(jh.mp h).elim λw m=>eq_of_beq m.2▸(by decide:∀w∈y6,w∈i8) w m.1
theorem qz{c:Nat}(h:au c=true):c<128:=Decidable.byContradiction λk=>(e_.mp h).elim (λe=>k (eq_of_beq e▸by decide)) λe=>absurd (v3 k▸of_decide_eq_true e) (by decide)
theorem RA{c:Nat}(h:au c=true∨c=58):eX c=true:=h.elim (λh=>(by decide+kernel:∀c<128,au c=true->eX c=true) c (qz h) h) λe=>e▸rfl
theorem GR{base:Int}:∀{l:List Nat} {v:Int} {c:Nat} {r:List Nat},c∈l->Ξ base (c::r)=false->i5 base l v=none
 |d::l,v,c,r,h,hc=>by
  by_cases q:aL d<0∨base<=aL d
  ·exact if_pos q
  ·refine(if_neg q).trans (GR ((dx.mp h).resolve_left λe=>?_) hc)
   subst e
   exact of_decide_eq_false hc ⟨Int.not_lt.mp (not_or.mp q).1,Int.not_le.mp (not_or.mp q).2⟩
theorem wa{base:Int}{l:List Nat}{c:Nat}{r:List Nat}(h:c∈l)(k:Ξ base (c::r)=false):digitsVal l base=none:=by
 unfold digitsVal
 by_cases q:l=[]
 ·exact if_pos q
 ·exact(if_neg q).trans (GR h k)
theorem GU(b:Int):∀l:List Nat,Ξ b (l.drop (aa b l))=false
 |[]=>rfl
 |c::r=>by
  cases q:Ξ b (c::r)with
  |true=>rw[jb q];exact GU b r
  |false=>rw[jP q];exact q
noncomputable def wb(s:List Nat):Prop:=∃c r,au c=true∧s=(c::r).take (runN (c::r))∧fA (c::r)=.tok (.wd s) (runN (c::r))
structure tf (k:TK):Prop where
 ok:eV k
 wr:∀s,k=.wd s->wb s
 nf:k≠.fin
theorem GV{s:List Nat}(h1:(2<s.length∧s.take 1=[48]∧0<aU ((s.drop 1).take 1))->digitsVal (s.drop 2) (aU ((s.drop 1).take 1))=none)(h2:¬(2<s.length∧s.take 1=[48]∧0<aU ((s.drop 1).take 1))->digitsVal s 10=none):ze s=none:=by
 by_cases q:2<s.length∧s.take 1=[48]∧0<aU ((s.drop 1).take 1)
 ·exact(if_pos q).trans (h1 q)
 ·exact(if_neg q).trans (h2 q)
theorem RB{c:Nat}{r:List Nat}(hc:au c=true)(hd:Ξ 10 (c::r)=false):ot ((c::r).take (runN (c::r))):=by
 refine⟨?_,mh _,?_⟩
 ·rw[cQ r hc];exact List.cons_ne_nil _ _
 ·rw[cQ r hc]
  exact GV (λq=>by rw[(List.cons.inj q.2.1).1]at hd;exact Bool.noConfusion hd) λ_=>wa (c9 ..) hd
theorem RC{l:List Nat}{off:Nat}{b:Int}(m1:bV l=true->off=2∧b=aU ((l.drop 1).take 1))(m2:bV l=false->off=0∧b=10)(kM:runN l=(off+aa b (l.drop off))+runN (l.drop (off+aa b (l.drop off))))(hw:ec (l.drop (off+aa b (l.drop off)))=true):ot (l.take (runN l)):=by
 have hs:=GU b (l.drop off)
 have r0:0<runN (l.drop (off+aa b (l.drop off))):=of_decide_eq_true (bD.mp hw).1
 have es:((l.take (runN l)).drop off).drop (aa b (l.drop off))=(l.drop (off+aa b (l.drop off))).take (runN (l.drop (off+aa b (l.drop off)))):=by
  rw[cA,List.drop_take,kM,dN]
 rw[cA]at hs
 cases ht:l.drop (off+aa b (l.drop off))with
 |nil=>rw[ht]at r0;exact absurd r0 (Nat.lt_irrefl 0)
 |cons y u=>
  rw[ht]at hs r0 es
  have ym:y∈(l.take (runN l)).drop off:=List.mem_of_mem_drop (i:=aa b (l.drop off)) (by rw[es,<-Nat.succ_pred_eq_of_pos r0];exact c9 ..)
  have mt:=v_ l
  refine⟨λe=>by rw[e]at ym;rw[List.drop_nil]at ym;exact absurd ym iD,mh _,GV (λq=>?_) λq=>?_⟩
  ·cases g:Ξ (aU (((l.take (runN l)).drop 1).take 1)) ((l.take (runN l)).drop 2)with
   |true=>
    have mk:bV (l.take (runN l))=true:=by unfold bV;rw[dT q.2.1,dT q.2.2,g];rfl
    have m:=m1 (mt.symm.trans mk)
    have r3:=(oK (mt.symm.trans mk)).2.2
    rw[m.1]at ym
    rw[show((l.take (runN l)).drop 1).take 1=(l.drop 1).take 1 by rw[List.drop_take,List.take_take,fH (Nat.le_sub_of_add_le (iE r3))],<-m.2]
    exact wa ym hs
   |false=>
    cases hz:(l.take (runN l)).drop 2 with
    |nil=>exact absurd (List.drop_eq_nil_iff.mp hz) (Nat.not_le.mpr q.1)
    |cons z v=>rw[hz]at g;exact wa (c9 ..) g
  ·have nm:bV l=false:=Bool.eq_false_iff.mpr λmk=>q (by
    have mk':=mt.trans mk
    have d:=bD.mp mk'
    have d2:=bD.mp d.2
    exact⟨by rw[te];exact(oK mk).2.2,of_decide_eq_true d.1,of_decide_eq_true d2.1⟩)
   have m:=m2 nm
   rw[m.1]at ym
   rw[m.2]at hs
   exact wa ym hs
theorem one_pow{b:Int}(hb:1<=b):∀n:Nat,1<=b^n
 |0=>fj (Int.pow_zero b).symm
 |n+1=>Int.le_trans (one_pow hb n) (by
  rw[Int.pow_succ]
  have:=Int.mul_le_mul_of_nonneg_left hb (Int.le_trans (by decide) (one_pow hb n))
  rw[Int.mul_one]at this;exact this)
theorem GX{b:Int}(hb:1<=b):∀(l:List Nat) (v:Int),0<=v->0<=bJ b l v∧bJ b l v+1<=(v+1)*b^l.length
 |[],v,h=>⟨h,fj (by rw[List.length_nil,Int.pow_zero,Int.mul_one];rfl)⟩
 |c::r,v,h=>by
  cases q:Ξ b (c::r)with
  |true=>
   have d:=of_decide_eq_true q
   rw[kL q]
   have ih:=GX hb r (v*b+aL c) (Int.add_nonneg (Int.mul_nonneg h (Int.le_trans (by decide) hb)) d.1)
   refine⟨ih.1,Int.le_trans ih.2 ?_⟩
   rw[List.length_cons,Int.pow_succ,Int.mul_comm (b^r.length) b,<-Int.mul_assoc]
   refine Int.mul_le_mul_of_nonneg_right ?_ (Int.le_trans (by decide) (one_pow hb _))
   rw[Int.add_mul,Int.one_mul,Int.add_assoc]
   exact Int.add_le_add_left d.2 _
  |false=>
   rw[tc q]
   have:=Int.mul_le_mul_of_nonneg_left (one_pow hb (c::r).length) (Int.add_nonneg h (by decide:(0:Int)<=1))
   rw[Int.mul_one]at this
   exact⟨h,this⟩
theorem GY{b:Nat}(hb:b∈bases){l:List Nat}(hl:l.length<=470):eV (.num (bJ b l 0)):=by
 have bd:=GX (b:=b) (aK.mpr (Gs hb)) l 0 (Int.le_refl 0)
 refine⟨bd.1,?_⟩
 by_cases z:(bJ b l 0).natAbs=0
 ·rw[z];decide
 ·rw[Nat.log2_lt z]
  have p:b^l.length<=2^1920:=η (Nat.pow_le_pow_left ((by decide:∀b∈bases,b<=16) b hb) _) (η (Nat.pow_le_pow_right (by decide) hl) (by decide+kernel))
  have q:=bd.2
  rw[show(0:Int)+1=1 from rfl,Int.one_mul,<-Int.natCast_pow]at q
  exact cJ.mp (by rw[Int.natAbs_of_nonneg bd.1];exact Int.lt_of_lt_of_le q (aK.mpr p))
noncomputable def SV(l:List Nat):LR->Prop
 |.tok k m=>1<=m∧m<=l.length∧(∀x∈l.take m,eX x=true)∧(l.length<=470->tf k∧dK k<=aW (l.take m))
 |.bad w=>w≠[]∧w.length<=100
 |.none=>False
theorem sv(c:Nat)(r:List Nat):SV (c::r) (fA (c::r)):=by
 have rs:∀x∈(c::r).take (runN (c::r)),eX x=true:=λx m=>RA (mh _ x m)
 have rl:=qu (c::r)
 cases hc:au c with
 |true=>
  have r1:1<=runN (c::r):=by rw[cQ r hc];exact ai ..
  have sk:=qx (r:=r) hc
  have wd:∀{k},fA (c::r)=.tok (.wd ((c::r).take (runN (c::r)))) k->k=runN (c::r)->ot ((c::r).take (runN (c::r)))->SV (c::r) (fA (c::r)):=λe q ok=>by
   subst q
   rw[e]
   exact⟨r1,rl,rs,λlen=>⟨⟨⟨ok,η (Ψ (te _)) (η rl len)⟩,λs q=>⟨c,r,hc,(TK.wd.inj q).symm,TK.wd.inj q▸e⟩,nofun⟩,bC _⟩⟩
  cases hd:Ξ 10 (c::r)with
  |false=>
   rw[hd,if_neg ς]at sk
   cases hw:dH ((c::r).take (runN (c::r)))with
   |true=>rw[sk,hw];exact⟨r1,rl,rs,λ_=>⟨⟨GO hw,nofun,nofun⟩,Ab _ (GO hw)⟩⟩
   |false=>exact wd (sk.trans (by rw[hw];rfl)) rfl (RB hc hd)
  |true=>
   obtain⟨off,b,m1,m2,_,kM,hp⟩:=Gy (c::r) hd
   have sk:=(sk.trans (if_pos hd)).trans (GB m1 m2)
   by_cases h1:off=0∧eR ((c::r).drop (off+aa b ((c::r).drop off)))=true
   ·rw[sk.trans (if_pos h1)];exact⟨List.cons_ne_nil _ _,by decide⟩
   ·by_cases h2:ec ((c::r).drop (off+aa b ((c::r).drop off)))=true
    ·have sk:=sk.trans ((if_neg h1).trans (if_pos h2))
     rw[<-kM]at sk
     exact wd sk rfl (RC m1 m2 kM h2)
    ·rw[sk.trans ((if_neg h1).trans (if_neg h2))]
     have nr:off+aa b ((c::r).drop off)<=runN (c::r):=kM▸aP ..
     refine⟨hp,η nr rl,λx m=>rs x ?_,λlen=>⟨⟨?_,nofun,nofun⟩,bC _⟩⟩
     ·rw[<-fH nr,<-List.take_take]at m;exact kS m
     ·have dl:((c::r).drop off).length<=470:=η (by rw[cY];exact Nat.sub_le ..) len
      cases hm:bV (c::r)with
      |false=>rw[(m2 hm).2];exact GY (b:=10) (by decide) dl
      |true=>
       have q:=of_decide_eq_true (bD.mp (bD.mp hm).2).1
       rw[z8]at q
       rw[(m1 hm).2,z8]
       cases ko:mc (((c::r).drop 1).take 1)with
       |none=>rw[ko]at q;exact absurd q (by decide)
       |some b=>exact GY (Gn ko) dl
 |false=>
  rw[GI hc rfl rfl]
  cases t2:dB ((c::r).take 2)with
  |true=>
   obtain⟨w,m,e⟩:=jh.mp t2
   have f:=(by decide+kernel:∀w∈vA,w.length=2∧w∈i8∧∀x∈w,eX x=true) w m
   rw[eq_of_beq e]at f
   show SV (c::r) (.tok (.op ((c::r).take 2)) ((c::r).take 2).length)
   rw[f.1]
   exact⟨by decide,f.1▸List.length_take_le' ..,f.2.2,λ_=>⟨⟨f.2.1,nofun,nofun⟩,Ab _ f.2.1⟩⟩
  |false=>
   cases o:gV c with
   |true=>
    obtain⟨d,m,e⟩:=jh.mp o
    have f:=(by decide+kernel:∀d∈pW,[d]∈i8∧eX d=true) d m
    rw[eq_of_beq e]at f
    exact⟨ξ 1,ai ..,λx m=>jV.mp m▸f.2,λ_=>⟨⟨f.1,nofun,nofun⟩,Ab _ f.1⟩⟩
   |false=>
    show SV (c::r) (bif [c]==[46]&&Ξ 10 r then .bad f7 else bif [c]==[61]then .bad lU else .bad (lV++[c]++[34]))
    cases([c]==[46]&&Ξ 10 r)with
    |true=>exact⟨List.cons_ne_nil _ _,by decide⟩
    |false=>
     cases[c]==[61]with
     |true=>exact⟨List.cons_ne_nil _ _,by decide⟩
     |false=>exact⟨List.cons_ne_nil _ _,show 21<=100 by decide⟩
theorem iy{c:Nat}{r:List Nat}(b:ey c=false)(n1:¬c=92)(n2:¬c=35):bZ (c::r)=0:=(pU r b).trans ((if_neg λq=>n1 q.1).trans (if_neg n2))
theorem Good.el{P:Prop}{c:Nat}{r:List Nat}(g:Good (c::r))(a:eX c=true->Good r->P)(b:∀r',c=92->r=10::r'->Good r'->P)(d:∀s v r',(s,v)∈eW->c::r=s++r'->Good r'->P):P:=by
 cases g with
 |nil e=>exact nomatch e
 |chr c r e h g=>exact a ((List.cons.inj e).1▸h) ((List.cons.inj e).2▸g)
 |qy r e g=>exact b r (List.cons.inj e).1 (List.cons.inj e).2 g
 |leaf s v r e h g=>exact d s v r h e g
theorem Good.dm{l:List Nat}(g:Good l):Good (l.drop (ba l)):=by
 induction g with
 |nil e=>rw[e];exact .nil rfl
 |chr c r e h g ih=>
  rw[e]
  by_cases jJ:c=10
  ·rw[show ba (c::r)=0 from if_pos jJ];exact .chr c r rfl h g
  ·rw[show ba (c::r)=1+ba r from if_neg jJ,aQ];exact ih
 |qy r e g=>rw[e];exact .chr 10 r rfl rfl g
 |leaf s v r e h g ih=>
  have k:∀s:List Nat,10∉s->(s++r).drop (ba (s++r))=r.drop (ba r):=λs=>by
   induction s with
   |nil=>exact λ_=>rfl
   |cons c s ih=>
    intro a
    rw[List.cons_append,show ba (c::(s++r))=1+ba (s++r)from if_neg λ(e:c=10)=>a (e▸c9 ..),aQ]
    exact ih λm=>a (List.mem_cons_of_mem _ m)
  rw[e,k s (fL (P:=λp:List Nat×V=>10∉p.1) h ⟨by decide,by decide,by decide,by decide,by decide,by decide,trivial⟩)]
  exact ih
theorem GZ{c:Nat}(h:eX c=true):c<128:=of_decide_eq_true (bD.mp h).1
theorem Good.asc{l:List Nat}(g:Good l):ascii l=true:=by
 induction g with
 |nil e=>rw[e];rfl
 |chr c r e h g ih=>rw[e];exact aT (dT (GZ h)) ih
 |qy r e g ih=>rw[e];exact ih
 |leaf s v r e h g ih=>
  rw[e,ascii,List.all_append]
  exact aT (fL (P:=λp:List Nat×V=>p.1.all (· <128)=true) h ⟨rfl,rfl,rfl,rfl,rfl,rfl,trivial⟩) ih
noncomputable def G0(r:List Nat)(p:List Nat×V):Prop:=∃k,eS (p.1++r)=.tok k p.1.length∧(∀a n,LR.lv a (.tok k n)=.tup [.tup [.str jc,p.2,.int (a:Nat)],.int (n:Nat),.str []])∧tf k∧dK k=0∧bZ (p.1++r)=0∧1<=p.1.length
theorem RE{s:List Nat}{v:V}(h:(s,v)∈eW)(r:List Nat):G0 r (s,v):=fL (P:=G0 r) h
 ⟨⟨.txt [120,32,121],rfl,λ_ _=>rfl,⟨⟨by unfold lX;decide,by decide⟩,nofun,nofun⟩,rfl,iy rfl (by decide) (by decide),by decide⟩,
  ⟨.b4 vE,rfl,λ_ _=>rfl,⟨.head _,nofun,nofun⟩,rfl,iy rfl (by decide) (by decide),by decide⟩,
  ⟨.txt [],rfl,λ_ _=>rfl,⟨⟨λ_ m=>absurd m iD,by decide⟩,nofun,nofun⟩,rfl,iy rfl (by decide) (by decide),by decide⟩,
  ⟨.b4 vG,rfl,λ_ _=>rfl,⟨.tail _ (.tail _ (.head _)),nofun,nofun⟩,rfl,iy rfl (by decide) (by decide),by decide⟩,
  ⟨.b4 y_,rfl,λ_ _=>rfl,⟨.tail _ (.tail _ (.tail _ (.head _))),nofun,nofun⟩,rfl,iy rfl (by decide) (by decide),by decide⟩,
  ⟨.b4 vF,rfl,λ_ _=>rfl,⟨.tail _ (.head _),nofun,nofun⟩,rfl,iy rfl (by decide) (by decide),by decide⟩,trivial⟩
theorem Ac{c:Nat}{r:List Nat}(h:c∉[36,91,34,123,40,41,44]):eS (c::r)=fA (c::r):=
 (if_neg λq=>q.elim (nM h (by decide)) λq=>q.elim (nM h (by decide)) (nM h (by decide))).trans ((if_neg (nM h (by decide))).trans ((if_neg (nM h (by decide))).trans ((if_neg (nM h (by decide))).trans (if_neg (nM h (by decide))))))
noncomputable def NX(l:List Nat)(v:Nat->V):Prop:=∀{W D:Nat} {h:Hp} {t:List Nat} {a:Nat},t.drop a=l->ascii t=true->t.length<W->t.length<=700000->3<=D->π (θ (ι prog W D) W Prog.eJ.body [.v (.str t),.v (.int a),.un,.un,.un,.un] h)=some (.ret (v a) h)
inductive G1 (l:List Nat):Prop
 |skip (m:Nat) (g:Good (l.drop m)) (h1:1<=m) (le:m<=l.length) (s:bZ l=m+bZ (l.drop m)) (nx:NX l λ_=>.tup [.none,.int (m:Nat),.str []])
 |tok (k:TK) (m:Nat) (g:Good (l.drop m)) (h1:1<=m) (le:m<=l.length) (s:bZ l=0) (e:eS l=.tok k m) (nx:NX l λa=>LR.lv a (.tok k m)) (f:l.length<=470->tf k∧dK k<=aW (l.take m))
 |bad (w:List Nat) (wn:w≠[]) (wl:w.length<=100) (s:bZ l=0) (e:eS l=.bad w) (nx:NX l λa=>LR.lv a (.bad w))
theorem Good.G2:∀(n:Nat) {l:List Nat},Good l->(∀c∈l.take n,eX c=true)->Good (l.drop n)
 |0,_,g,_=>g
 |_+1,[],_,_=>.nil rfl
 |n+1,c::r,g,a=>by
  have s:=a c (c9 ..)
  exact Good.G2 n (g.el (λ_ g=>g) (λ_ e _ _=>by rw[e]at s;exact Bool.noConfusion s) λu v r' m e _=>by
   have:=fL (P:=λp:List Nat×V=>(p.1.head?.any eX)=false∧p.1≠[]) m ⟨⟨rfl,List.cons_ne_nil _ _⟩,⟨rfl,List.cons_ne_nil _ _⟩,⟨rfl,List.cons_ne_nil _ _⟩,⟨rfl,List.cons_ne_nil _ _⟩,⟨rfl,List.cons_ne_nil _ _⟩,⟨rfl,List.cons_ne_nil _ _⟩,trivial⟩
   cases u with
   |nil=>exact absurd rfl this.2
   |cons d u=>exact Bool.noConfusion ((this.1.symm.trans (show eX d=true from(List.cons.inj e).1▸s)))) λx m=>a x (List.mem_cons_of_mem _ m)
theorem RF{c:Nat}{r:List Nat}(g:Good (c::r)):G1 (c::r):=g.el
 (λs gr=>by
  have lt:=GZ s
  by_cases h1:c=32∨c=9∨c=10
  ·exact .skip 1 gr (ξ 1) (ai ..) (y5 r ((by decide+kernel:∀c<128,(c=32∨c=9∨c=10)->ey c=true) c lt h1)) λe _ _ _ _=>Rr (ag e) h1
  ·have nb:ey c=false:=(by decide+kernel:∀c<128,eX c=true->¬(c=32∨c=9∨c=10)->ey c=false) c lt s h1
   have G3:¬c=92:=nC s rfl
   by_cases h2:c=35
   ·subst h2
    exact .skip (ba r+1) gr.dm (ai ..) (Nat.succ_le_succ (y3 r)) ((pU r rfl).trans ((if_neg λq=>nomatch q.1).trans (by rw[aQ 1];rfl))) λe _ _ l _=>(Rv e l).trans (by rw[aQ])
   ·have s0:=iy (r:=r) nb G3 h2
    by_cases h3:c=40∨c=41∨c=44
    ·have go:∀k,eS (c::r)=.tok k 1->(∀a,LR.lv a (.tok k 1)=.tup [.tup [.str [c],.str [c],.int (a:Nat)],.int 1,.str []])->tf k->dK k<=cw c->G1 (c::r):=λk e lv f w=>.tok k 1 gr (ξ 1) (ai ..) s0 e (λe _ _ _ _=>(Rw (ag e) h3).trans (congrArg (λv=>some (CR.ret v _)) (lv _).symm)) λ_=>⟨f,w⟩
     exact h3.elim (λe=>by subst e;exact go .lp rfl (λ_=>rfl) ⟨trivial,nofun,nofun⟩ (ξ 4)) λh3=>h3.elim (λe=>by subst e;exact go .rp rfl (λ_=>rfl) ⟨trivial,nofun,nofun⟩ (bC _)) λe=>by subst e;exact go .cm rfl (λ_=>rfl) ⟨trivial,nofun,nofun⟩ (bC _)
    ·have no:c∉[32,9,10,92,35,40,41,44,123,91,34,36]:=λm=>fL (P:=λd=>c=d->False) m ⟨λe=>h1 (.inl e),λe=>h1 (.inr (.inl e)),λe=>h1 (.inr (.inr e)),G3,h2,λe=>h3 (.inl e),λe=>h3 (.inr (.inl e)),λe=>h3 (.inr (.inr e)),nC s rfl,nC s rfl,nC s rfl,nC s rfl,trivial⟩ rfl
     have tk:=Ac (r:=r) (nS no (by decide))
     have nx:NX (c::r) λa=>LR.lv a (fA (c::r)):=λe as W l D=>Rx (ag e) no (zU c lt _ (dO D)) (by
      cases w:au c with
      |true=>exact Rh _ _ e w as W _ D
      |false=>exact Rn _ _ e w as _ (bE D))
     have v:=sv c r
     generalize fA (c::r)=x at tk nx v
     cases x with
     |none=>exact v.elim
     |bad w=>exact .bad w v.1 v.2 s0 tk nx
     |tok k m=>exact .tok k m (g.G2 m v.2.2.1) v.1 v.2.1 s0 tk nx v.2.2.2)
 (λr' e1 e2 gr=>by
  subst e1;subst e2
  exact .skip 2 gr (by decide) (ai ..) ((pU _ rfl).trans (if_pos ⟨rfl,rfl⟩)) λe _ _ _ _=>Ru (ag e))
 λs v r' m e gr=>by
  rw[e]
  obtain⟨k,tk,lv,f,w,s0,h1⟩:=RE m r'
  exact .tok k s.length (by rw[List.drop_left];exact gr) h1 (by rw[Θ];exact aP ..) s0 tk (λe _ _ _ D=>(Ry (Gm _ (dO D)) m e).trans (congrArg (λv=>some (CR.ret v _)) (lv _ _).symm)) λ_=>⟨f,w▸bC _⟩
theorem G4(x:Tok):υ x.lv (.int 2)=some (.int (x.a:Nat)):=oq
theorem qA(x:Tok):υ x.lv (.int 1)=some x.k.mf:=bB
theorem kN(x:Tok):υ x.lv (.int 0)=some (.str x.k.cj):=aM
theorem wc{W:Nat}{h:Hp}(t aR:List Nat)(hl:aR.length+t.length<=900000):Gives 1 W .fQ [.str t,.str aR] h (.ret (.str (cE aR t)) h):=ak λD hD=>by
 rw[ω (ρ:=[.v (.str t),.v (.str aR)]) rfl]
 have l:(cE aR t).length<=af:=by
  unfold cE af
  rw[Θ,Θ,Θ]
  exact bK hl (by simp+arith)
 exact ga λκ=>κ _ (cR (av (av l))) _ (cR (av l)) _ (cR l)
theorem RG(t:List Nat)(a:Nat):(marked t a).length=t.length+3:=by
 unfold marked
 rw[Θ,Θ,iG,<-Θ,fJ];rfl
theorem RH{W:Nat}{h:Hp}(t aR:List Nat)(x:Tok)(hl:aR.length+t.length<=800000):Gives 2 W .j3 [.str t,x.lv,.str aR] h (.ret (.str (ig aR t x.a)) h):=ak λD hD=>by
 rw[ω (ρ:=[.v (.str t),.v x.lv,.v (.str aR)]) rfl]
 have lm:=RG t x.a
 have l:(marked t x.a).length<=af:=by rw[lm];exact η (bM (η (ai ..) hl) 3) (by decide)
 have lw:(aR++sW).length<=af:=η (bf (η (aP ..) hl) (ξ 7)) (by decide)
 exact ga λκ=>κ _ (G4 x) _ (lS _ _) _ (cR (av l)) _ (G4 x) _ (y2 _ _) _ (cR l) _ (cR lw) _ (wc (marked t x.a) (aR++sW) (by rw[lm,Θ,Nat.add_add_add_comm];exact η (bM hl _) (by decide)) D hD)
noncomputable def ltB:List S:=[.cK [3,4,5] (.call .eJ [(.loc 0),(.loc 2)]),
    .ifs (.cmp .ne (.loc 5) (.str []))
    [.ret (.tup [(.loc 1),(.call .fQ [(.loc 0),(.loc 5)])])]
    [],
    .ifs (.cmp .jj (.loc 3) .none)
    [.ex (.app 1 (.loc 3))]
    [],
    .asg 2 (.bin .add (.loc 2) (.loc 4))]
noncomputable def th(C:Δ)(W n:Nat)(t:List Nat)(ac:List V)(i:Nat)(s3 s4 s5:Slot)(h:Hp):M Flow:=aO C W (.cmp .lt (.loc 2) (.bi .len (.loc 0))) ltB n [.v (.str t),.own ac,.v (.int i),s3,s4,s5] h
structure ti (l:List Nat) (ts:List Tok):Prop where
 all:∀x∈ts,eV x.k∧∀s,x.k=.wd s->wb s
 w:ww ts<=aW l
 len:ts.length<=l.length+1
 en:gc ts
noncomputable def oL(t:List Nat)(h:Hp)(l:List Nat)(ac:List V)(r:M Flow):LX->Prop
 |.ok ts=>ti l ts∧∃(tl:List V) (s3 s4 s5:Slot),tl++[Tok.lv ⟨.fin,t.length,0⟩]=ac++ts.map Tok.lv∧tl.length<=af∧r=some (.ok .ο [.v (.str t),.own tl,.v (.int (t.length:Nat)),s3,s4,s5] h)
 |.bad w=>w≠[]∧∃u ρ,r=some (.ok (.ret (.tup [.list u,.str (cE w t)])) ρ h)
theorem ti.up{l l':List Nat}{ts:List Tok}(f:ti l ts)(w:aW l<=aW l')(e:l.length<=l'.length):ti l' ts:=⟨f.all,η f.w w,η f.len (Nat.succ_le_succ e),f.en⟩
theorem oL.up{t l l':List Nat}{h:Hp}{ac:List V}{r:M Flow}(w:aW l<=aW l')(e:l.length<=l'.length):∀{x:LX},oL t h l ac r x->oL t h l' ac r x
 |.ok _,y=>⟨y.1.up w e,y.2⟩
 |.bad _,y=>y
theorem oL.cons{t l l':List Nat}{h:Hp}{ac:List V}{r:M Flow}{k:Tok}(f:tf k.k)(w:dK k.k+aW l<=aW l')(e:l.length+1<=l'.length):∀{x:LX},oL t h l (ac++[k.lv]) r x->oL t h l' ac r (x.cons k)
 |.ok ts,y=>⟨⟨λx m=>(dx.mp m).elim (λq=>q▸⟨f.ok,f.wr⟩) (y.1.all x),η (az y.1.w _) w,Nat.succ_le_succ (η y.1.len e),(match ts,y.1.en with
   |_::_,en=>⟨f.nf,en⟩:gc (k::ts))⟩,y.2.imp λ_ y=>y.imp λ_ y=>y.imp λ_ y=>y.imp λ_ y=>⟨y.1.trans (aN ..),y.2⟩⟩
 |.bad _,y=>y
theorem RJ{W D:Nat}{t:List Nat}(hD:4<=D)(hW:t.length<W)(hl:t.length<=470)(as:ascii t=true)(n:Nat):∀{l:List Nat} {p:Nat} {ac:List V} {s3 s4 s5:Slot},Good l->t.drop p=l->l.length+p=t.length->l.length<n->ac.length+l.length<=af->∃x,Lx p l x∧∀h,oL t h l ac (th (ι prog W D) W n t ac p s3 s4 s5 h) x:=by
 induction n with
 |zero=>exact λ_ _ _ hn=>absurd hn (Nat.not_lt_zero _)
 |succ n ih=>
  intro l p ac s3 s4 s5 g e lp hn ha
  obtain⟨D,rfl⟩:∃D',D=D'+1:=⟨D - 1,(dP (dO hD)).symm⟩
  have ll:l.length<=470:=η (nW e) hl
  cases l with
  |nil=>
   obtain rfl:p=t.length:=(bR p).symm.trans lp
   exact⟨_,.fin,λh=>⟨⟨λx m=>jV.mp m▸⟨trivial,nofun⟩,ξ _,ξ _,rfl⟩,ac,s3,s4,s5,rfl,ha,gw λκ=>κ _ rfl _ rfl _ (dF (hY e))⟩⟩
  |cons c r=>
   have run:∀{v h},π (θ (ι prog W D) W Prog.eJ.body [.v (.str t),.v (.int p),.un,.un,.un,.un] h)=some (.ret v h)->ι prog W (D+1) .eJ [.str t,.int p] h=some (.ret v h):=λk=>(ω (ρ:=[.v (.str t),.v (.int p),.un,.un,.un,.un]) rfl).trans k
   have dr:∀m,t.drop (p+m)=(c::r).drop m:=λm=>by rw[<-cA,e]
   have dl:∀{m},1<=m->((c::r).drop m).length<=r.length:=λh1=>by rw[cY];exact Nat.sub_le_sub_left h1 _
   have dp:∀{m},m<=(c::r).length->((c::r).drop m).length+(p+m)=t.length:=λle=>by rw[cY,Nat.add_left_comm,dP le,aQ];exact lp
   have lt:=aJ e
   have t7:=η hl (show 470<=700000 by decide)
   obtain⟨m,g',h1,le,s,nx⟩|⟨k,m,g',h1,le,s,tk,nx,f⟩|⟨w,wn,wl,s,tk,nx⟩:=RF g
   ·have k:=λh=>run (nx (h:=h) e as hW t7 (jZ hD))
    obtain⟨x,lx,y⟩:=ih (ac:=ac) (s3:=.v .none) (s4:=.v (.int m)) (s5:=.v (.str [])) g' (dr m) (dp le) (aX (dl h1) (fi hn)) (η (az (bW (dl h1)) _) ha)
    have st:∀h,th (ι prog W (D+1)) W (n+1) t ac p s3 s4 s5 h=th (ι prog W (D+1)) W n t ac (p+m) (.v .none) (.v (.int m)) (.v (.str [])) h:=λh=>gw λκ=>κ _ rfl _ rfl _ (dT lt) _ (k h) _ rfl _ rfl _ rfl _ rfl
    exact⟨x,.skip m s lx,λh=>st h▸(y h).up (by rw[GN m (c::r)];exact ai ..) (bW (dl h1))⟩
   ·have q:=λh=>run (nx (h:=h) e as hW t7 (jZ hD))
    have f:=f ll
    obtain⟨x,lx,y⟩:=ih (ac:=ac++[Tok.lv ⟨k,p,m⟩]) (s3:=.v (Tok.lv ⟨k,p,m⟩)) (s4:=.v (.int m)) (s5:=.v (.str [])) g' (dr m) (dp le) (aX (dl h1) (fi hn)) (by rw[Θ,aA];exact η (az (η (Ψ (aQ ..)) (Nat.succ_le_succ (dl h1))) _) ha)
    have st:∀h,th (ι prog W (D+1)) W (n+1) t ac p s3 s4 s5 h=th (ι prog W (D+1)) W n t (ac++[Tok.lv ⟨k,p,m⟩]) (p+m) (.v (Tok.lv ⟨k,p,m⟩)) (.v (.int m)) (.v (.str [])) h:=λh=>gw λκ=>κ _ rfl _ rfl _ (dT lt) _ (q h) _ rfl _ rfl _ rfl _ rfl (d7 ha)
    exact⟨_,.tok k m s tk h1 le lx,λh=>st h▸(y h).cons f.1 (by rw[GN m (c::r)];exact bM f.2 _) (Nat.succ_le_succ (dl h1))⟩
   ·exact⟨_,.bad w s tk,λh=>⟨wn,_,_,gw λκ=>κ _ rfl _ rfl _ (dT lt) _ (run (nx (h:=h) e as hW t7 (jZ hD))) _ rfl _ (b8 (sF wn)) _ (wc t w (η (dG wl hl) (by decide)) _ (ai ..))⟩⟩
noncomputable def RL(t:List Nat)(h:Hp)(r:Option CR):LX->Prop
 |.ok ts=>ti t ts∧r=some (.ret (.tup [.list (ts.map Tok.lv),.str []]) h)
 |.bad w=>∃u,r=some (.ret (.tup [.list u,.str (cE w t)]) h)
theorem RM{W D:Nat}{t:List Nat}(g:Good t)(hD:4<=D)(hW:t.length<W)(hl:t.length<=470):∃x,Lx 0 t x∧∀h,RL t h (ι prog W (D+1) .mL [.str t] h) x:=by
 obtain⟨x,lx,y⟩:=RJ hD hW hl g.asc W (p:=0) (ac:=[]) (s3:=.un) (s4:=.un) (s5:=.un) g rfl rfl hW (η (Ψ (bR _)) (η hl (by decide)))
 refine⟨x,lx,λh=>?_⟩
 rw[show ι prog W (D+1) .mL [.str t] h=_ from ω (ρ:=[.v (.str t),.un,.un,.un,.un,.un]) rfl]
 cases x with
 |ok ts=>
  obtain⟨f,tl,s3,s4,s5,e,l,y⟩:=y h
  exact⟨f,ga λκ=>(κ _ y _ rfl l).trans (congrArg (λv=>some (CR.ret (.tup [.list v,.str []]) h)) e)⟩
 |bad w=>
  obtain⟨_,u,ρ,y⟩:=y h
  exact⟨u,ga λκ=>κ _ y⟩
theorem qB{cond:V->Hp->M Bool}{elt:V->Hp->M V}{h:Hp}{x v:V}{b:Bool}{r l:List V}(hc:hM (cond x h)=some (b,h))(he:hM (elt x h)=some (v,h))(ih:fq cond elt r h=some (l,h)):fq cond elt (x::r) h=some (bif b then v::l else l,h):=by
 show(hM (cond x h)).bind _=_
 rw[hc]
 cases b with
 |true=>
  show(hM (elt x h)).bind _=_
  rw[he]
  show(fq cond elt r h).map _=_
  rw[ih];rfl
 |false=>exact ih
noncomputable def iz(low:List Nat):List (List Nat×Bool)->List V
 |[]=>[]
 |p::L=>bif p.1.take low.length==low then .bool p.2::iz low L else iz low L
noncomputable def tj:List (List Nat):=f9++f_
noncomputable def qC:List (List Nat×Bool):=f9.map (λw=>(w,true))++f_.map (λw=>(w,false))
theorem RN{C:Δ}{h:Hp}{low:List Nat}{a b s:Slot}:ν C (.fm 6 [2,3] (.cmp .eq (.ae (.sub (.loc 2) (.loc 0)) .none (some (.bi .len (.loc 1)))) (.loc 1)) (.cmp .lt (.loc 0) (.int 3)))
  [a,b,.v (.str low),.v (.tup (tj.map V.str)),s] h=some (.ok (.list (iz low qC)) [a,b,.v (.str low),.v (.tup (tj.map V.str)),s] h):=by
 have hc:∀{k:Int} {w:List Nat},υ (.tup (tj.map V.str)) (.int k)=some (.str w)->hM ((ν C (.cmp .eq (.ae (.sub (.loc 2) (.loc 0)) .none (some (.bi .len (.loc 1)))) (.loc 1)) (.v (.int k)::[.v (.str low),.v (.tup (tj.map V.str))]) h).ζ λb ρ h=>up (a_ b) ρ h)=some (w.take low.length==low,h):=λe=>by
  rw[show ν C (.cmp .eq (.ae (.sub (.loc 2) (.loc 0)) .none (some (.bi .len (.loc 1)))) (.loc 1)) (.v (.int _)::[.v (.str low),.v (.tup (tj.map V.str))]) h=_ from ge λκ=>κ _ e _ rfl _ (lS _ low.length) _ rfl];rfl
 show M.ζ (up (mO _ [2,3]) _ _) _=_
 show M.ζ (up (fq _ _ [.int 0,.int 1,.int 2,.int 3,.int 4,.int 5] h) _ _) _=_
 rw[qB (hc rfl) rfl (qB (hc rfl) rfl (qB (hc rfl) rfl (qB (hc rfl) rfl (qB (hc rfl) rfl (qB (hc rfl) rfl rfl)))))]
 rfl
theorem Ad(low w:List Nat):(w.take low.length==low)=cz low w:=by
 rw[cz,Bool.eq_iff_iff,beq_iff_eq,List.isPrefixOf_iff_prefix,List.prefix_iff_eq_take,eq_comm]
theorem G5(low:List Nat)(b:Bool):∀L,(iz low L).any (λy=>y.eqv (.bool b))=L.any λp=>cz low p.1&&(p.2==b)
 |[]=>rfl
 |p::L=>by
  rw[List.any_cons,<-G5 low b L,<-Ad,iz]
  cases p.1.take low.length==low<;>rfl
theorem G6(low:List Nat):∀L,(((iz low L).length:Int)==0)= !(L.any λp=>cz low p.1)
 |[]=>rfl
 |p::L=>by
  rw[List.any_cons,<-Ad,iz]
  cases p.1.take low.length==low with
  |true=>exact iF λe=>nomatch Int.ofNat.inj e
  |false=>exact G6 low L
theorem Ae(low:List Nat)(b:Bool):∀L,dS et (iz low L)=true
 |[]=>rfl
 |p::L=>by
  rw[iz]
  cases p.1.take low.length==low with
  |true=>exact Ae low b L
  |false=>exact Ae low b L
theorem Af(q:List Nat->Bool)(c b:Bool):∀A:List (List Nat),(A.map λw=>(w,c)).any (λp=>q p.1&&(p.2==b))=(A.any q&&(c==b))
 |[]=>rfl
 |w::A=>by
  rw[List.map_cons,List.any_cons,List.any_cons,Af q c b A,Bool.and_or_distrib_right]
theorem G7(q:List Nat->Bool)(c:Bool)(A:List (List Nat)):(A.map λw=>(w,c)).any (λp=>q p.1)=A.any q:=by
 rw[List.any_map];rfl
theorem G8(low:List Nat)(b:Bool):iO (.bool b) (.list (iz low qC))=some ((f9.any (cz low)&&(true==b))||(f_.any (cz low)&&(false==b))):=by
 show(if(dS et (iz low qC)&&true)=true then some ((iz low qC).any λy=>y.eqv (.bool b))else Option.none)=_
 rw[Ae low b,G5,qC,List.any_append,Af,Af];rfl
theorem RO{low:List Nat}(ne:low≠[])(a:f9.any (cz low)=true)(b:f_.any (cz low)=true):low=[111]:=by
 obtain⟨w,m,e⟩:=jh.mp a
 have e:=eq_of_beq ((Ad low w).trans e)
 have l:low.length<6:=aX (e▸List.length_take_le' ..) ((by decide:∀w∈f9,w.length<6) w m)
 have:=(by decide:∀w∈f9,∀n<6,w.take n≠[]->f_.any (cz (w.take n))=true->w.take n=[111]) w m _ l
 rw[e]at this
 exact this ne b
theorem RQ{s:List Nat}(ne:s≠[]):(!((f9.any (cz (s.map aB)))||(f_.any (cz (s.map aB))))||(f9.any (cz (s.map aB))&&f_.any (cz (s.map aB))))=ie s:=by
 unfold ie sV
 have nl:s.map aB≠[]:=λe=>ne (List.map_eq_nil_iff.mp e)
 generalize s.map aB=low at nl
 by_cases h1:low=[111]
 ·rw[h1];rfl
 ·rw[if_neg λq=>q.elim nl h1]
  have k:=RO nl
  cases ht:f9.any (cz low)with
  |false=>cases f_.any (cz low)<;>rfl
  |true=>
   cases hf:f_.any (cz low)with
   |false=>rfl
   |true=>exact absurd (k ht hf) h1
noncomputable def TK.code:TK->Nat
 |.op _=>0|.num _=>1|.wd _=>2|.b4 _=>3|.txt _=>4|.lp=>5|.rp=>6|.cm=>7|.fin=>8
noncomputable def G9:List (List Nat):=[h9,vx,bP,gX,n8,[40],[41],[44],cG]
noncomputable def G_:List (List Nat):=[h9,Gv,bP,jc,jc,[40],[41],[44],cG]
theorem Ag:∀κ:TK,κ.code<9∧κ.aq=(G9[κ.code]?).getD []∧κ.cj=(G_[κ.code]?).getD []
 |.op _|.num _|.wd _|.b4 _|.txt _|.lp|.rp|.cm|.fin=>⟨of_decide_eq_true rfl,rfl,rfl⟩
theorem LP{w:List Nat}(m:w∈[cG,[40],[41],[44],bP,h9,[]])(κ:TK):(κ.cj==w)=(κ.aq==w):=by
 rw[(Ag κ).2.1,(Ag κ).2.2]
 exact(by decide:∀n<9,∀w∈[cG,[40],[41],[44],bP,h9,[]],((G_[n]?).getD []==w)=((G9[n]?).getD []==w)) _ (Ag κ).1 w m
noncomputable def jd:List Tok->List Nat
 |[]=>[]
 |x::_=>x.k.cj
theorem G':∀r:List Tok,(jd r==[40])=i7 r
 |[]=>rfl
 |x::_=>(LP (by decide) x.k).trans p8
theorem Ha{W:Nat}{h:Hp}(x:Tok)(r:List Tok)(ok:dI x):Gives 1 W .qX [x.lv,.str (jd r)] h (.ret (.bool (eU x r)) h):=ak λD hD=>by
 rw[ω (ρ:=[.v x.lv,.v (.str (jd r)),.un,.un,.un]) rfl]
 have bl:=G' r
 cases hx:lZ x.k with
 |false=>
  have nw:(x.k.cj==bP)=false:=(LP (by decide) x.k).trans (zj hx)
  rw[vJ hx]
  exact ga λκ=>κ _ (kN x) _ rfl _ (b8 nw) _ (b8 nw)
 |true=>
  obtain⟨k,a,n⟩:=x
  cases k<;>first|exact absurd hx ς|skip
  rename_i s
  have x0:=kN ⟨.wd s,a,n⟩
  cases hl:i7 r with
  |true=>
   rw[show eU ⟨.wd s,a,n⟩ r=false by show(!i7 r&&_)=false;rw[hl];rfl]
   exact ga λκ=>κ _ x0 _ rfl _ rfl _ rfl _ (bl.trans hl)
  |false=>
   rw[show eU ⟨.wd s,a,n⟩ r=ie s by show(!i7 r&&_)=ie s;rw[hl];rfl,<-RQ (And.left ok).ne]
   refine Eq.trans (cP (x:=false) (v:=.none) (h':=h) (gU (gK (x:=false) (ge λκ=>κ _ x0 _ rfl) λ_=>(congrArg (λb=>some (Rs.ok (V.bool b) _ h)) (bl.trans hl)))) nofun) ?_
   refine Eq.trans (kB (ge λκ=>κ _ (qA _) rfl _ (zg (Fy (And.left ok))))) (Eq.trans (kB rfl) (Eq.trans (kB RN) ?_))
   refine Eq.trans (nR (gU (gK (x:= !(f9.any (cz (s.map aB))||f_.any (cz (s.map aB)))) (ge λκ=>κ _ rfl _ (congrArg some ?_)) λ_=>bO (bA (x:=f9.any (cz (s.map aB))&&true||f_.any (cz (s.map aB))&&false) (y:=f9.any (cz (s.map aB))&&false||f_.any (cz (s.map aB))&&true) (ge λκ=>κ _ (G8 _ true)) λ_=>ge λκ=>κ _ (G8 _ false))))) ?_
   ·rw[G6,qC,List.any_append,G7,G7]
   ·rw[gM,Bool.and_false,Bool.or_false,Bool.and_false,gM,Bool.false_or]
theorem RR{α:Type}(a b c d e f g h:List α):a++b++c++d++e++f++g++h=a++(b++c++d++e++f++g++h):=by simp only[aN]
theorem bq{a b:List Nat}(h:(a++b).length<=af):t9 (.str a) (.str b)=some (.str (a++b)):=cR h
theorem Hb{W:Nat}{h:Hp}(t s:List Nat)(hs:s.length<=10000)(hl:t.length<=700000):Gives 2 W .o7 [.str t,.str s] h (.ret (.str (kE s t)) h):=ak λD hD=>by
 rw[ω (ρ:=[.v (.str t),.v (.str s)]) rfl]
 have l0:=zv hs
 have hf:=wc (W:=W) (h:=h) t (p9++s++[34]) (η (dG l0 hl) (show 18+10000+1+700000<=900000 by decide)) D hD
 have l0:=η l0 (show _<=af by decide)
 have e:cE (p9++s++[34]) t++zm++s++zo++s++zp++s++zq=kE s t:=RR (cE (p9++s++[34]) t) zm s zo s zp s zq
 have l1:=FH hs hl
 rw[<-e]at l1⊢
 have l2:=av l1
 have l3:=av l2
 have l4:=av l3
 have l5:=av l4
 have l6:=av l5
 have m7:=bq (av l6)
 have m6:=bq l6
 have m5:=bq l5
 have m4:=bq l4
 have m3:=bq l3
 have m2:=bq l2
 have m1:=bq l1
 exact ga λκ=>κ _ (bq (av l0)) _ (bq l0) _ hf _ m7 _ m6 _ m5 _ m4 _ m3 _ m2 _ m1
section
noncomputable def mw:List Tok->List Nat
 |[]=>[]
 |p::_=>p.k.cj
theorem we{w:List Nat}(m:w∈[cG,[40],[41],[44],bP,h9,[]]):∀pre:List Tok,(mw pre==w)=(jL pre==w)
 |[]=>rfl
 |p::_=>LP m p.k
theorem tm{w:List Nat}(m:w∈[cG,[40],[41],[44],bP,h9,[]])(κ:TK):(w==κ.cj)=(w==κ.aq):=BEq.comm.trans ((LP m κ).trans BEq.comm)
theorem Hc(κ:TK):∀L:List (List Nat),(∀w∈L,w∈[cG,[40],[41],[44],bP,h9,[]])->L.contains κ.cj=L.contains κ.aq
 |[],_=>rfl
 |w::L,m=>by rw[List.contains_cons,List.contains_cons,LP (m w (c9 ..)) κ,Hc κ L λw k=>m w (List.mem_cons_of_mem _ k)]
theorem RS{α:Type}(F S:List Nat->α)(pre:List Tok)(κ:TK)(f:Bool):ow F S (mw pre) κ.cj f=ow F S (jL pre) κ.aq f:=by
 unfold ow
 rw[we (by decide) pre,we (by decide) pre,we (by decide) pre,LP (by decide) κ,LP (by decide) κ,LP (by decide) κ,tm (by decide) κ,tm (by decide) κ]
theorem RT:∀{pre:List Tok},ik pre=true->(mw pre==[40])=true
 |[],h|[_],h=>absurd h ς
 |p::_::_,h=>(LP (by decide) p.k).trans (bD.mp h).1
theorem RU(κ:TK):vO κ.cj=vO κ.aq:=by
 unfold vO
 rw[tm (by decide) κ,tm (by decide) κ,tm (by decide) κ]
theorem RW{α:Type}(F:List Nat->α)(B S:α)(κ:TK)(b:Bool):tailD F B S κ.cj b=tailD F B S κ.aq b:=by
 unfold tailD
 rw[LP (by decide) κ,LP (by decide) κ,LP (by decide) κ]
section
variable{C:Δ}{W D:Nat}{h:Hp}{t:List Nat}{x:Tok}{r pre:List Tok}
theorem oM{w:List Nat}{ρ:Loc}(hl:t.length<=700000)(hD:1<=D)(hw:w.length<=1000):ν (ι prog W D) (.call .fQ [(.loc 0),(.str w)]) (.v (.str t)::ρ) h=some (.ok (.str (cE w t)) (.v (.str t)::ρ) h):=congrArg (fp · _) (wc t w (η (dG hw hl) (by decide)) D hD)
theorem tq{w:List Nat}{ρ:Loc}(hl:t.length<=700000)(hD:2<=D)(hw:w.length<=1000):ν (ι prog W D) (.call .j3 [(.loc 0),(.loc 1),(.str w)]) (.v (.str t)::.v x.lv::ρ) h=some (.ok (.str (ig w t x.a)) (.v (.str t)::.v x.lv::ρ) h):=congrArg (fp · _) (RH t w x (η (dG hw hl) (by decide)) D hD)
theorem RX(hl:t.length<=700000)(pre:List Tok)(x:Tok):Gives 3 W .tY [.str t,x.lv,.str (mw pre),.bool (ik pre)] h (.ret (.str (l9 t pre x)) h):=ak λD hD=>by
 rw[ω (ρ:=[.v (.str t),.v x.lv,.v (.str (mw pre)),.v (.bool (ik pre)),.un]) rfl]
 have D1:=bE hD
 refine Eq.trans (kB (ge λκ=>κ _ (kN x))) (Eq.trans ?_ ((FK (λw=>some (CR.ret (.str w) h)) _ _ _ _ _).trans (congrArg (λw=>some (CR.ret (.str w) h)) (RS (cE · t) (ig · t x.a) pre x.k (ik pre)))))
 refine Eq.trans (cP (bO (bA rfl λ_=>rfl)) λ_=>oM hl D1 (by decide)) (congrArg (cond _ _) ?_)
 refine Eq.trans (cP (bO (bA rfl λ_=>rfl)) λ_=>oM hl D1 (by decide)) (congrArg (cond _ _) ?_)
 refine Eq.trans (cP (bO (bA rfl λ_=>rfl)) λ_=>oM hl D1 (by decide)) (congrArg (cond _ _) ?_)
 refine Eq.trans (cP (bO (bA rfl λ_=>rfl)) λ_=>tq hl hD (by decide)) (congrArg (cond _ _) ?_)
 refine Eq.trans (cP (x:=(ik pre&&x.k.cj==[44])||(mw pre==[44]&&(cG==x.k.cj||([41]==x.k.cj||false)))) (gU (gK ?_ λ_=>bO (bA rfl λ_=>ge λκ=>κ _ (ψ rfl)))) λ_=>tq hl hD (by decide)) (congrArg (cond _ _) (nR (tq hl hD (by decide))))
 refine Eq.trans (bO (bA rfl λ_=>bA rfl λ_=>rfl)) ?_
 cases f:ik pre with
 |true=>rw[RT f];rfl
 |false=>rfl
noncomputable def Ah:List S:=Prog.hH.body.drop 3
theorem RY(hl:t.length<=700000)(hD:2<=D)(ok:dI x){hv:V}{top:List Nat}:π (θ (ι prog W D) W Ah [.v (.str t),.v x.lv,.v hv,.v (.str (jd r)),.v (.str x.k.cj),.v (.str top)] h)=some (.ret (.str (bif ma x&&top==[63]then ig vK t x.a else jM t x r)) h):=by
 have D1:=bE hD
 have bw:eU x r=true->ι prog W D .o7 [.str t,x.k.mf] h=some (.ret (.str (kE (nm x) t)) h):=λb=>by
  have xk:=zG b
  unfold dI at ok
  rw[xk]at ok⊢
  exact Hb t (nm x) (η (And.right ok) (by decide)) hl D hD
 refine Eq.trans (cP (bO (bA (ge λκ=>κ _ (ψ rfl)) λ_=>rfl)) λ_=>tq hl hD (by decide)) ?_
 rw[gx (λw=>some (CR.ret (.str w) h)),show ma x=_ from(RU x.k).symm]
 refine congrArg (cond _ _) (Eq.trans ?_ ((tailD_map (λw=>some (CR.ret (.str w) h)) (cE · t) (kE (nm x) t) (ig FE t x.a) x.k.cj (eU x r)).trans (congrArg (λw=>some (CR.ret (.str w) h)) (RW ..))))
 refine Eq.trans (cP rfl λ_=>oM hl D1 (by decide)) (congrArg (cond _ _) ?_)
 refine Eq.trans (cP rfl λ_=>oM hl D1 (by decide)) (congrArg (cond _ _) ?_)
 refine Eq.trans (cP rfl λ_=>oM hl D1 (by decide)) (congrArg (cond _ _) ?_)
 exact Eq.trans (cP (ge λκ=>κ _ (Ha x r ok D D1)) λb=>ge λκ=>κ _ (qA x) _ (bw b)) (congrArg (cond _ _) (nR (tq hl hD (by decide))))
noncomputable def wg:List Nat:=[99,97,108,108]
noncomputable def wh:List Nat:=[99,111,108,111,110]
noncomputable def Hd.s:Hd->List Nat
 |.q=>[63]|.par=>[40]|.call=>wg|.colon=>wh
noncomputable def a9(H:List Hd):List V:=(H.map λd=>V.str d.s).reverse
noncomputable def dD:List Hd->List Nat
 |[]=>[]
 |d::_=>d.s
theorem fB(d:Hd)(H:List Hd):a9 (d::H)=a9 H++[.str d.s]:=List.reverse_cons
theorem jQ(H:List Hd):(a9 H).length=H.length:=List.length_reverse.trans (b_ ..)
theorem RZ(n k:Nat):PySem.seqIndex? (Int.negSucc k) (n+k+1)=some n:=by
 have e:Int.negSucc k+((n+k+1:Nat):Int)=(n:Nat):=by
  rw[Int.negSucc_eq,aA,Int.natCast_add,Int.add_left_comm,<-Int.natCast_succ,Int.add_left_neg,Int.add_zero]
 unfold PySem.seqIndex?
 rw[if_pos (Int.negSucc_lt_zero k),e]
 exact if_pos (bD.mpr ⟨decide_eq_true (eC _),decide_eq_true (cJ.mpr (Nat.lt_succ_of_le (aP ..)))⟩)
theorem sub_neg{l:List V}{n k:Nat}{v:V}(e:l.length=n+k+1)(q:l[n]?=some v):υ (.list l) (.int (Int.negSucc k))=some v:=by
 show(PySem.seqIndex? (Int.negSucc k) l.length).bind _=_
 rw[e,RZ];exact q
theorem Ai(d:Hd)(H:List Hd):υ (.list (a9 (d::H))) (.int (-1))=some (.str d.s):=sub_neg (n:=H.length) (k:=0) (jQ _) (by rw[fB,<-jQ H];exact List.getElem?_concat_length)
theorem R0(d e:Hd)(H:List Hd):υ (.list (a9 (d::e::H))) (.int (-2))=some (.str e.s):=sub_neg (n:=H.length) (k:=1) (jQ _) (by
 rw[fB,fB,aN,<-jQ H]
 exact(List.getElem?_append_right (ξ _)).trans (by rw[Nat.sub_self];rfl))
theorem R7{ρ:Loc}{c d A E:Mine.E}{n:Nat}{rest:List S}{v w:V}{b:Bool}(hc:ν C c ρ h=some (.ok (.bool true) ρ h))(hA:ν C A ρ h=some (.ok v ρ h))(hd:ν C d (ρ.set n (.v v)) h=some (.ok (.bool b) (ρ.set n (.v v)) h))(hE:ν C E (ρ.set n (.v v)) h=some (.ok w (ρ.set n (.v v)) h)):
  π (θ C W (.ifs c [.asg n A,.ifs d [.ret E] []] []::rest) ρ h)=bif b then some (.ret w h)else π (θ C W rest (ρ.set n (.v v)) h):=by
 show π (M.ζ (M.ζ (ν C c ρ h) _) _)=_
 rw[hc]
 show π (M.ζ (M.ζ (M.ζ (ν C A ρ h) _) _) _)=_
 rw[hA]
 show π (M.ζ (M.ζ (M.ζ (ν C d _ h) _) _) _)=_
 rw[hd]
 cases b with
 |false=>rfl
 |true=>
  show π (M.ζ (M.ζ (M.ζ (M.ζ (ν C E _ h) _) _) _) _)=_
  rw[hE];rfl
theorem HK.of{s:TO}{w:List Nat}{u:List Nat}:∀{G:List Hd},FU (.stop u) G=.stop w->u=w∧∃ends,HK ends G
 |[],e=>⟨TO.stop.inj e,_,.nil⟩
 |.par::_,e=>⟨TO.stop.inj e,_,.par _⟩
 |.call::_,e=>⟨TO.stop.inj e,_,.call _⟩
theorem R8{ρ:Loc}{a b c:Slot}:ν C (.and [(.cmp .eq (.loc 4) (.str [111,112])),(.cmp .eq (.sub (.loc 1) (.int 1)) (.str [58]))]) (a::.v x.lv::b::c::.v (.str x.k.cj)::ρ) h=some (.ok (.bool (ij x)) (a::.v x.lv::b::c::.v (.str x.k.cj)::ρ) h):=by
 have v:=qA x
 unfold ij
 generalize x.k=κ at v
 cases κ with
 |op s=>exact bO (bA (x:=true) (y:=s==[58]) rfl λ_=>ge λκ=>κ _ v _ rfl)
 |_=>exact bO (vh rfl)
theorem R9{H:List Hd}{bh:List Nat}:π (θ C W Prog.hH.body [.v (.str t),.v x.lv,.v (.list (a9 H)),.v (.str bh),.un,.un] h)=π (θ C W (Prog.hH.body.drop 2) [.v (.str t),.v x.lv,.v (.list (a9 H)),.v (.str bh),.v (.str x.k.cj),.v (.str (dD H))] h):=by
 show π (θ _ _ (Prog.hH.body.take 2++Prog.hH.body.drop 2) _ _)=_
 cases H with
 |nil=>exact gq λκ=>κ _ (kN x) _ rfl _ rfl _ rfl
 |cons d H=>
  have e:=jQ (d::H)
  exact gq λκ=>κ _ (kN x) _ rfl _ rfl _ (dT (by rw[e];exact Int.ofNat_succ_pos _)) _ (Ai d H)
theorem R_(hl:t.length<=700000)(ok:dI x){w:List Nat}:∀{H:List Hd},ee t x r H=.stop w->Gives 3 W .hH [.str t,x.lv,.list (a9 H),.str (jd r)] h (.ret (.str w) h):=λ{H} q=>ak λD hD=>by
 rw[ω (ρ:=[.v (.str t),.v x.lv,.v (.list (a9 H)),.v (.str (jd r)),.un,.un]) rfl]
 refine Eq.trans R9 ?_
 have tl:∀{hv top},_:=λ{hv top}=>RY (r:=r) (h:=h) (W:=W) hl hD ok (hv:=hv) (top:=top)
 have plain:∀{H},(dD H==wh)=false->(dD H==[63])=false->π (θ (ι prog W D) W (Prog.hH.body.drop 2) [.v (.str t),.v x.lv,.v (.list (a9 H)),.v (.str (jd r)),.v (.str x.k.cj),.v (.str (dD H))] h)=some (.ret (.str (jM t x r)) h):=λ{H} n1 n2=>by
  show π (θ _ _ (List.take 1 (Prog.hH.body.drop 2)++Ah) _ _)=_
  exact gq λκ=>(κ _ rfl _ n1).trans (tl.trans (by rw[n2,Bool.and_false];rfl))
 match H,q with
 |[],q=>exact TO.stop.inj q▸plain (H:=[]) rfl rfl
 |.par::G,q=>exact TO.stop.inj q▸plain (H:=.par::G) rfl rfl
 |.call::G,q=>exact TO.stop.inj q▸plain (H:=.call::G) rfl rfl
 |.q::G,q=>
  rw[<-TO.stop.inj q]
  show π (θ _ _ (List.take 1 (Prog.hH.body.drop 2)++Ah) _ _)=_
  exact gq λκ=>(κ _ rfl _ rfl).trans (tl.trans (congrArg (λw=>some (CR.ret (.str w) h)) (by
   show(bif ma x&&true then _ else _)=_
   cases ma x<;>rfl)))
 |.colon::G,q=>
  obtain⟨q,ends,k⟩:=HK.of (s:=.none) q
  rw[<-q]
  have ke:FT G=ends∧(dD G==[63])=false∧υ (.dict [([],.tup [.str [101,110,100]]),([40],.tup [.str [41]]),([99,97,108,108],.tup [.str [41],.str [44]])]) (.str (dD G))=some (.tup (ends.map V.str)):=by cases k<;>exact⟨rfl,rfl,rfl⟩
  have hA:ν (ι prog W D) (.ite (.cmp .gt (.bi .len (.loc 2)) (.int 1)) (.sub (.loc 2) (.neg (.int 2))) (.str [])) [.v (.str t),.v x.lv,.v (.list (a9 (.colon::G))),.v (.str (jd r)),.v (.str x.k.cj),.v (.str wh)] h=some (.ok (.str (dD G)) [.v (.str t),.v x.lv,.v (.list (a9 (.colon::G))),.v (.str (jd r)),.v (.str x.k.cj),.v (.str wh)] h):=by
   cases G with
   |nil=>rfl
   |cons d G=>exact ge λκ=>κ _ rfl _ rfl _ (dT (by rw[jQ];exact zB _)) _ (R0 _ d G)
  refine Eq.trans (R7 rfl hA (gU (gK (ge λκ=>κ _ ke.2.2 _ (vR x.k.cj ends)) λ_=>R8)) (oM hl (bE hD) (by decide))) (Eq.trans (congrArg (cond _ _) (tl.trans (by rw[ke.2.1,Bool.and_false]))) ?_)
  rw[ke.1,<-Bool.cond_eq_ite,Hc x.k ends (by cases k<;>decide)]
  exact(gx (λw=>some (CR.ret (.str w) h))).symm
end
end
section
noncomputable def tu:List S:=lM Prog.o8.body 3
noncomputable def qD:List S:=tu.drop 6
noncomputable def Ro.s:Ro->List Nat
 |.un=>[117,110]|.call=>wg|.bg=>[111,112,101,110]|.aZ=>[99,108,111,115,101]|.leaf=>jc|.bin=>[98,105,110]|.col=>[58]|.dm=>[44]
noncomputable def fE(R:List Ro):List V:=R.map λr=>V.str r.s
theorem Sb(a b:List Ro):fE (a++b)=fE a++fE b:=fc
noncomputable def gj(t:List Nat)(T:V)(R:List Ro)(H:List Hd)(w:Bool)(ρ:Loc):Loc:=.v (.str t)::.v T::.own (fE R)::.own (a9 H)::.v (.bool w)::ρ
theorem g8{C:Δ}{W:Nat}{ρ:Loc}{h:Hp}{x:Nat}{e:E}{v:V}{r:List S}(k:ν C e ρ h=some (.ok v ρ h)):θ C W (.asg x e::r) ρ h=θ C W r (ρ.set x (.v v)) h:=by
 show M.ζ (M.ζ (ν C e ρ h) _) _=_
 rw[k];rfl
noncomputable def qE(m:M Flow)(T:V)(t:List Nat)(R:List Ro)(H:List Hd)(ρ:Loc)(h:Hp):TO->Prop
 |.none=>True
 |.go w H' ro=>H'.length<=H.length+1∧ro.length<=1∧m=some (.ok .ο (gj t T (R++ro) H' w ρ) h)
 |.stop wd=>∃ρ,m=some (.ok (.ret (.tup [.str wd,.list (fE R)])) ρ h)
theorem qF{ts:List Tok}{i:Nat}{x:Tok}(e:ts[i]?=some x):υ (.list (ts.map Tok.lv)) (.int (i:Nat))=some x.lv:=oj (by rw[eE,e];rfl)
theorem He{ts:List Tok}{i:Nat}(j:Nat){x:Tok}(e:ts[i]?=some x):υ (.list (ts.map Tok.lv)) (.int (((i+j:Nat):Int) - (j:Nat)))=some x.lv:=by rw[i9];exact qF e
theorem Se{κ:TK}(h:(κ.cj==cG)=true):κ=.fin:=F6 ((LP (by decide) κ).symm.trans h)
section
variable{t:List Nat}{ts:List Tok}{W D:Nat}{h:Hp}{pre r:List Tok}{x:Tok}{R:List Ro}{H:List Hd}{w:Bool}
noncomputable def seen(pre:List Tok)(x:Tok)(r:List Tok)(H:List Hd):Loc:=[.v (.int pre.length),.v (.str x.k.cj),.v x.k.mf,.v (.str (mw pre)),.v (.str (jd r)),.v (.bool (ik pre)),.v (.str (dD H))]
theorem Sf(z:Zp ts pre (x::r)){s6 s7 s8 s9 s10 s11:Slot}:θ (ι prog W D) W tu (gj t (.list (ts.map Tok.lv)) R H w [.v (.int pre.length),s6,s7,s8,s9,s10,s11]) h=θ (ι prog W D) W qD (gj t (.list (ts.map Tok.lv)) R H w (seen pre x r H)) h:=by
 have tk:=qF (eA z.e)
 refine Eq.trans (g8 (ge λκ=>κ _ tk _ (kN x))) (Eq.trans (g8 (ge λκ=>κ _ tk _ (qA x))) (Eq.trans (g8 (v:=.str (mw pre)) ?_) (Eq.trans (g8 (v:=.str (jd r)) ?_) (Eq.trans (g8 (v:=.bool (ik pre)) ?_) (g8 (v:=.str (dD H)) ?_)))))
 ·cases pre with
  |nil=>exact ge λκ=>κ _ rfl _ rfl
  |cons p pre=>exact ge λκ=>κ _ rfl _ (dT (zz _)) _ (He 1 (zy z.e)) _ (kN p)
 ·cases c:x.k.cj==cG with
  |true=>
   have en:=z.en
   cases r with
   |nil=>exact ge λκ=>κ _ rfl _ (dZ c)
   |cons=>exact absurd (Se c) en.1
  |false=>
   have en:=z.en.tail λe=>by rw[e]at c;exact Bool.noConfusion c
   cases r with
   |nil=>exact en.elim
   |cons y r=>exact ge λκ=>κ _ rfl _ (b8 c) _ (qF (i:=pre.length+1) (eA (pre:=x::pre) (z.step λe=>by rw[e]at c;exact Bool.noConfusion c).e)) _ (kN y)
 ·cases pre with
  |nil=>exact bO (vh rfl)
  |cons p pre=>
   cases pre with
   |nil=>exact Eq.trans (bO (bA (y:=false) rfl λ_=>vh (ge λκ=>κ _ rfl))) (by rw[Bool.and_false];rfl)
   |cons q pre=>
    refine Eq.trans (bO (bA rfl λ_=>bA (x:=true) (ge λκ=>(κ _ rfl).trans (congrArg (λb=>some (Rs.ok (V.bool b) _ _)) (dT (zB _)))) λ_=>ge λκ=>κ _ (He 2 (FO z.e)) _ (kN q) _ rfl)) (congrArg (λb=>some (Rs.ok (V.bool b) _ h)) ?_)
    show(p.k.cj==[40]&&(true&&(q.k.cj==bP)))=(p.k.aq==[40]&&(q.k.aq==bP))
    rw[LP (by decide) p.k,LP (by decide) q.k];rfl
 ·cases H with
  |nil=>exact ge λκ=>κ _ rfl _ rfl
  |cons d H=>exact ge λκ=>κ _ rfl _ (dT (by rw[jQ];exact zz _)) _ (Ai d H)
theorem Hf{R:List Ro}(l:R.length<=400000):(fE R).length<=af:=η (Ψ (b_ ..)) (η l (by decide))
theorem Hg{H:List Hd}(l:H.length<=400000):(a9 H).length<=af:=η (Ψ (jQ H)) (η l (by decide))
theorem eh{ro:List Ro}{H':List Hd}{w':Bool}{m:M Flow}{T:V}{ρ:Loc}(l1:H'.length<=H.length+1)(l2:ro.length<=1)(e:m=some (.ok .ο (.v (.str t)::.v T::.own (fE R++fE ro)::.own (a9 H')::.v (.bool w')::ρ) h)):qE m T t R H ρ h (.go w' H' ro):=⟨l1,l2,e.trans (by rw[gj,Sb])⟩
theorem Sg(z:Zp ts pre (x::r))(ok:dI x)(hl:t.length<=700000)(hD:3<=D)(lR:R.length<=400000)(lH:H.length<=400000):qE (θ (ι prog W D) W qD (gj t (.list (ts.map Tok.lv)) R H true (seen pre x r H)) h) (.list (ts.map Tok.lv)) t R H (seen pre x r H) h (dC t pre x r H x.k):=by
 have tk:=qF (eA z.e)
 have l:=Hf lR
 have lh:=Hg lH
 have up:=gv H.length
 have ib:=Ha (W:=W) (h:=h) x r ok D (dO hD)
 have oN:=λq=>vJ (x:=x) (r:=r) q
 have no:=RX (W:=W) (h:=h) hl pre x D hD
 have bl:=G' r
 have bp:=we (w:=bP) (by decide) pre
 unfold seen
 cases hx:x.k with
 |op s=>
  have eb:=oN (by rw[hx];rfl)
  cases c:oy s with
  |true=>rw[show dC t pre x r H (.op s)=_ from if_pos c];exact eh up (ξ 1) (gs λκ=>κ _ rfl _ rfl _ rfl _ (ψ rfl) _ c l)
  |false=>rw[show dC t pre x r H (.op s)=_ from if_neg (by rw[c];exact ς)];exact⟨_,gs λκ=>κ _ rfl _ rfl _ rfl _ (ψ rfl) _ c _ rfl _ rfl _ rfl _ rfl _ rfl _ rfl _ rfl _ rfl _ tk _ ib _ eb _ (ψ rfl) _ rfl _ tk _ no⟩
 |wd s=>
  have eb:eU x r=(!i7 r&&ie s):=by unfold eU;rw[hx]
  cases c:i7 r with
  |true=>rw[show dC t pre x r H (.wd s)=_ from if_pos c];exact eh up (ξ 1) (gs λκ=>κ _ rfl _ rfl _ rfl _ rfl _ rfl _ rfl _ rfl _ (bl.trans c) l)
  |false=>
   rw[show dC t pre x r H (.wd s)=_ from if_neg (by rw[c];exact ς)]
   rw[c]at eb
   cases b:ie s with
   |true=>
    rw[if_pos rfl]
    unfold dI at ok
    rw[hx]at ok
    exact⟨_,gs λκ=>κ _ rfl _ rfl _ rfl _ rfl _ rfl _ rfl _ rfl _ (bl.trans c) _ rfl _ rfl _ rfl _ rfl _ rfl _ tk _ ib _ (eb.trans b) _ (Hb t s (η (And.right ok) (by decide)) hl D (bE hD))⟩
   |false=>rw[if_neg ς];exact eh up (ξ 1) (gs λκ=>κ _ rfl _ rfl _ rfl _ rfl _ rfl _ rfl _ rfl _ (bl.trans c) _ rfl _ rfl _ rfl _ rfl _ rfl _ tk _ ib _ (eb.trans b) _ (ψ rfl) _ rfl l)
 |lp=>
  show qE _ _ _ _ _ _ _ (.go true ((if jL pre=bP then Hd.call else Hd.par)::H) [.bg])
  by_cases c:jL pre=bP
  ·rw[if_pos c];exact eh (ξ _) (ξ 1) (by rw[fB];exact gs λκ=>κ _ rfl _ rfl _ rfl _ rfl _ rfl _ rfl _ rfl _ rfl _ rfl l _ rfl _ (bp.trans (sT c)) lh)
  ·rw[if_neg c];exact eh (ξ _) (ξ 1) (by rw[fB];exact gs λκ=>κ _ rfl _ rfl _ rfl _ rfl _ rfl _ rfl _ rfl _ rfl _ rfl l _ rfl _ (bp.trans (sF c)) lh)
 |rp=>
  have eb:=oN (by rw[hx];rfl)
  cases c:ik pre with
  |true=>
   rw[show dC t pre x r H .rp=_ from if_pos c]
   cases H with
   |nil=>trivial
   |cons d H=>exact eh (bW (gv _)) (ξ 1) (by rw[gj,fB];exact gs λκ=>(κ _ rfl _ rfl _ rfl _ rfl _ rfl _ rfl _ rfl _ rfl _ rfl _ rfl _ rfl _ rfl l _ jX).trans (by rw[jY];rfl))
  |false=>
   rw[c]at no
   rw[show dC t pre x r H .rp=_ from if_neg (by rw[c];exact ς)];exact⟨_,gs λκ=>κ _ rfl _ rfl _ rfl _ rfl _ rfl _ rfl _ rfl _ rfl _ rfl _ rfl _ rfl _ rfl _ tk _ ib _ eb _ (ψ rfl) _ rfl _ tk _ no⟩
 |num=>exact eh up (ξ 1) (gs λκ=>κ _ rfl _ rfl _ rfl _ rfl _ rfl _ rfl _ rfl _ rfl _ rfl _ rfl _ rfl _ rfl _ tk _ ib _ (oN (by rw[hx];rfl)) _ (ψ rfl) _ rfl l)
 |b4=>exact eh up (ξ 1) (gs λκ=>κ _ rfl _ rfl _ rfl _ rfl _ rfl _ rfl _ rfl _ rfl _ rfl _ rfl _ rfl _ rfl _ tk _ ib _ (oN (by rw[hx];rfl)) _ (ψ rfl) _ rfl l)
 |txt=>exact eh up (ξ 1) (gs λκ=>κ _ rfl _ rfl _ rfl _ rfl _ rfl _ rfl _ rfl _ rfl _ rfl _ rfl _ rfl _ rfl _ tk _ ib _ (oN (by rw[hx];rfl)) _ (ψ rfl) _ rfl l)
 |cm=>exact⟨_,gs λκ=>κ _ rfl _ rfl _ rfl _ rfl _ rfl _ rfl _ rfl _ rfl _ rfl _ rfl _ rfl _ rfl _ tk _ ib _ (oN (by rw[hx];rfl)) _ (ψ rfl) _ rfl _ tk _ no⟩
 |fin=>exact⟨_,gs λκ=>κ _ rfl _ rfl _ rfl _ rfl _ rfl _ rfl _ rfl _ rfl _ rfl _ rfl _ rfl _ rfl _ tk _ ib _ (oN (by rw[hx];rfl)) _ (ψ rfl) _ rfl _ tk _ no⟩
theorem qG{P:TO->Prop}(hn:P .none)(hs:∀wd,ee t x r H=.stop wd->P (.stop wd)):P (ee t x r H):=
 match H,hs with
 |[],hs|.par::_,hs|.call::_,hs|.q::_,hs|.colon::[],hs|.colon::.par::_,hs|.colon::.call::_,hs=>hs _ rfl
 |.colon::.q::_,_|.colon::.colon::_,_=>hn
theorem Si(z:Zp ts pre (x::r))(ok:dI x)(hl:t.length<=700000)(hD:3<=D)(lR:R.length<=400000)(lH:H.length<=400000):qE (θ (ι prog W D) W qD (gj t (.list (ts.map Tok.lv)) R H false (seen pre x r H)) h) (.list (ts.map Tok.lv)) t R H (seen pre x r H) h (dw t x r H x.k):=by
 have tk:=qF (eA z.e)
 have l:=Hf lR
 have lh:=Hg lH
 have up:=gv H.length
 have no:=λwd (q:ee t x r H=.stop wd)=>R_ (W:=W) (h:=h) hl ok q D hD
 unfold seen
 cases hx:x.k with
 |op s=>
  have ll:=qr (W:=W) (h:=h) s D (dO hD)
  have lg:=td s
  by_cases l0:0<lvl s
  ·rw[show dw t x r H (.op s)=_ from if_pos l0]
   by_cases q:s=[63]
   ·rw[if_pos q];exact eh (ξ _) (ξ 1) (by rw[fB];exact gs λκ=>κ _ rfl _ rfl _ rfl _ ll _ rfl _ (lg.trans (dT l0)) l _ rfl _ (sT q) lh)
   ·rw[if_neg q];exact eh up (ξ 1) (gs λκ=>κ _ rfl _ rfl _ rfl _ ll _ rfl _ (lg.trans (dT l0)) l _ rfl _ (sF q))
  ·rw[show dw t x r H (.op s)=_ from if_neg l0]
   have lg:=lg.trans (dF l0)
   cases c:s==[58]with
   |false=>
    rw[Bool.false_and,if_neg ς]
    exact qG trivial λwd q=>⟨_,gs λκ=>κ _ rfl _ rfl _ rfl _ ll _ rfl _ lg _ rfl _ rfl _ rfl _ c _ c _ rfl _ rfl _ rfl _ rfl _ rfl _ rfl _ rfl _ rfl _ rfl _ tk _ (no wd q)⟩
   |true=>
    match H with
    |[]=>exact eh (ξ _) (ξ 1) (gs λκ=>κ _ rfl _ rfl _ rfl _ ll _ rfl _ lg _ rfl _ rfl _ rfl _ c _ rfl _ rfl l _ rfl _ rfl lh)
    |.par::H=>exact eh (H':=.colon::.par::H) (ξ _) (ξ 1) (by rw[fB .colon];exact gs λκ=>κ _ rfl _ rfl _ rfl _ ll _ rfl _ lg _ rfl _ rfl _ rfl _ c _ rfl _ rfl l _ rfl _ rfl lh)
    |.call::H=>exact eh (H':=.colon::.call::H) (ξ _) (ξ 1) (by rw[fB .colon];exact gs λκ=>κ _ rfl _ rfl _ rfl _ ll _ rfl _ lg _ rfl _ rfl _ rfl _ c _ rfl _ rfl l _ rfl _ rfl lh)
    |.q::H=>exact eh (bW (gv _)) (ξ 1) (by rw[gj,fB];exact gs λκ=>(κ _ rfl _ rfl _ rfl _ ll _ rfl _ lg _ rfl _ rfl _ rfl _ c _ rfl _ rfl l _ rfl _ rfl _ jX).trans (by rw[jY];rfl))
    |.colon::H=>
     show qE _ _ _ _ _ _ _ (ee t x r (.colon::H))
     exact qG trivial λwd q=>⟨_,gs λκ=>κ _ rfl _ rfl _ rfl _ ll _ rfl _ lg _ rfl _ rfl _ rfl _ c _ rfl _ rfl _ rfl _ rfl _ rfl _ rfl _ rfl _ rfl _ rfl _ rfl _ rfl _ tk _ (no wd q)⟩
 |rp=>
  match H with
  |.par::H=>exact eh (bW (gv _)) (ξ 1) (by rw[gj,fB];exact gs λκ=>(κ _ rfl _ rfl _ rfl _ rfl _ rfl _ rfl _ rfl _ rfl _ rfl _ (ψ rfl) _ rfl l _ jX).trans (by rw[jY];rfl))
  |.call::H=>exact eh (bW (gv _)) (ξ 1) (by rw[gj,fB];exact gs λκ=>(κ _ rfl _ rfl _ rfl _ rfl _ rfl _ rfl _ rfl _ rfl _ rfl _ (ψ rfl) _ rfl l _ jX).trans (by rw[jY];rfl))
  |[]=>exact⟨_,gs λκ=>κ _ rfl _ rfl _ rfl _ rfl _ rfl _ rfl _ rfl _ rfl _ rfl _ (ψ rfl) _ rfl _ rfl _ rfl _ rfl _ rfl _ rfl _ rfl _ tk _ (no _ rfl)⟩
  |.q::H=>exact⟨_,gs λκ=>κ _ rfl _ rfl _ rfl _ rfl _ rfl _ rfl _ rfl _ rfl _ rfl _ (ψ rfl) _ rfl _ rfl _ rfl _ rfl _ rfl _ rfl _ rfl _ tk _ (no _ rfl)⟩
  |.colon::H=>exact qG (H:=.colon::H) trivial λwd q=>⟨_,gs λκ=>κ _ rfl _ rfl _ rfl _ rfl _ rfl _ rfl _ rfl _ rfl _ rfl _ (ψ rfl) _ rfl _ rfl _ rfl _ rfl _ rfl _ rfl _ rfl _ tk _ (no wd q)⟩
 |cm=>
  match H with
  |.call::H=>exact eh up (ξ 1) (gs λκ=>κ _ rfl _ rfl _ rfl _ rfl _ rfl _ rfl _ rfl _ rfl _ rfl _ rfl _ rfl _ rfl _ rfl _ rfl l)
  |[]=>exact⟨_,gs λκ=>κ _ rfl _ rfl _ rfl _ rfl _ rfl _ rfl _ rfl _ rfl _ rfl _ rfl _ rfl _ rfl _ rfl _ rfl _ rfl _ rfl _ rfl _ tk _ (no _ rfl)⟩
  |.par::H=>exact⟨_,gs λκ=>κ _ rfl _ rfl _ rfl _ rfl _ rfl _ rfl _ rfl _ rfl _ rfl _ rfl _ rfl _ rfl _ rfl _ rfl _ rfl _ rfl _ rfl _ tk _ (no _ rfl)⟩
  |.q::H=>exact⟨_,gs λκ=>κ _ rfl _ rfl _ rfl _ rfl _ rfl _ rfl _ rfl _ rfl _ rfl _ rfl _ rfl _ rfl _ rfl _ rfl _ rfl _ rfl _ rfl _ tk _ (no _ rfl)⟩
  |.colon::H=>exact qG (H:=.colon::H) trivial λwd q=>⟨_,gs λκ=>κ _ rfl _ rfl _ rfl _ rfl _ rfl _ rfl _ rfl _ rfl _ rfl _ rfl _ rfl _ rfl _ rfl _ rfl _ rfl _ rfl _ rfl _ tk _ (no wd q)⟩
 |fin=>
  match H with
  |[]=>exact eh (H:=[]) (bC 1) (bC 1) (by rw[show fE R++fE []=fE R from ck _];exact gs λκ=>κ _ rfl _ rfl _ rfl _ rfl _ rfl _ rfl _ rfl _ rfl _ rfl _ rfl _ rfl _ rfl _ rfl _ rfl _ rfl _ rfl _ rfl)
  |d::H=>
   have nt:((dD (d::H))==[])=false:=by cases d<;>rfl
   exact qG (H:=d::H) trivial λwd q=>⟨_,gs λκ=>κ _ rfl _ rfl _ rfl _ rfl _ rfl _ rfl _ rfl _ rfl _ rfl _ rfl _ rfl _ rfl _ rfl _ rfl _ rfl _ rfl _ (b8 nt) _ tk _ (no wd q)⟩
 |_=>exact qG trivial λwd q=>⟨_,gs λκ=>κ _ rfl _ rfl _ rfl _ rfl _ rfl _ rfl _ rfl _ rfl _ rfl _ rfl _ rfl _ rfl _ rfl _ rfl _ rfl _ rfl _ tk _ (no wd q)⟩
theorem Sj(z:Zp ts pre (x::r))(ok:dI x)(hl:t.length<=700000)(hD:3<=D)(lR:R.length<=400000)(lH:H.length<=400000):qE (θ (ι prog W D) W qD (gj t (.list (ts.map Tok.lv)) R H w (seen pre x r H)) h) (.list (ts.map Tok.lv)) t R H (seen pre x r H) h (jO t pre x r w H):=match w with
 |true=>Sg z ok hl hD lR lH
 |false=>Si z ok hl hD lR lH
end
noncomputable def gL(k:Nat):Nat->List V
 |0=>[]
 |n+1=>.int (k:Nat)::gL (k+1) n
theorem Hh(a:Nat):∀n:Nat,(List.range n).map (λk=>V.int ((a:Int)+(k:Nat)))=gL a n
 |0=>rfl
 |n+1=>by
  rw[List.range_succ_eq_map,List.map_cons,List.map_map,gL,<-Hh (a+1) n]
  exact congrArg (_::·) (List.map_congr_left λk _=>congrArg V.int (show(a:Int)+(k+1:Nat)=((a+1:Nat):Int)+k by rw[Int.natCast_add,Int.natCast_add,Int.add_right_comm,Int.add_assoc]))
theorem wi{a b:Nat}:gR (a:Nat) (b:Nat)=gL a (b - a):=by
 unfold gR
 rw[Int.toNat_sub,Hh]
theorem tv{a n:Nat}(ha:a<=1000000)(h:n<=1000000):0<=(a:Int)∧(a:Int)<=dy∧(n:Int)<=dy∧ -dy<=(n:Int):=⟨eC _,aK.mpr ha,aK.mpr h,Int.le_trans (by decide) (eC _)⟩
noncomputable def oO(m:M Flow)(t:List Nat)(T:V)(R:List Ro)(h:Hp):SC->Prop
 |.none=>True
 |.ok R'=>∃ρ,m=some (.ok .ο (.v (.str t)::.v T::.own (fE (R++R'))::ρ) h)
 |.bad wd=>∃u ρ,m=some (.ok (.ret (.tup [.str wd,u])) ρ h)
theorem oO.app{m:M Flow}{t:List Nat}{T:V}{R ro:List Ro}{h:Hp}:∀{s:SC},oO m t T (R++ro) h s->oO m t T R h (s.app ro)
 |.none,_=>trivial
 |.ok _,y=>y.imp λ_ y=>y.trans (by rw[aN])
 |.bad _,y=>y
theorem Hi{t:List Nat}{ts:List Tok}{W D:Nat}{h:Hp}(ok:∀x∈ts,dI x)(hl:t.length<=700000)(len:ts.length<=400000)(hD:3<=D):∀{rest pre:List Tok} {R:List Ro} {H:List Hd} {w:Bool} {s5 s6 s7 s8 s9 s10 s11:Slot},rest=[]∨Zp ts pre rest->R.length+rest.length<=ts.length->H.length+rest.length<=ts.length->
  oO (cy (ι prog W D) W 5 tu (gL pre.length rest.length) (gj t (.list (ts.map Tok.lv)) R H w [s5,s6,s7,s8,s9,s10,s11]) h) t (.list (ts.map Tok.lv)) R h (gZ t pre rest w H)
 |[],_,_,_,_,_,_,_,_,_,_,_,_,_,_=>⟨_,by rw[ck];rfl⟩
 |x::r,pre,R,H,w,s5,s6,s7,s8,s9,s10,s11,z,lR,lH=>by
  have z:=z.resolve_left (List.cons_ne_nil _ _)
  have tr:=Sj (W:=W) (D:=D) (h:=h) (w:=w) (R:=R) (H:=H) z (ok x (by rw[z.e];exact cS _ (c9 ..))) hl hD (η (d7 lR) len) (η (d7 lH) len)
  have st:cy (ι prog W D) W 5 tu (gL pre.length (x::r).length) (gj t (.list (ts.map Tok.lv)) R H w [s5,s6,s7,s8,s9,s10,s11]) h=(θ (ι prog W D) W qD (gj t (.list (ts.map Tok.lv)) R H w (seen pre x r H)) h).ζ λf ρ h=>yL f (cy (ι prog W D) W 5 tu (gL (x::pre).length r.length) ρ h) ρ h:=nL.trans (congrArg (M.ζ · _) (Sf z))
  rw[st]
  show oO _ _ _ _ _ ((jO t pre x r w H).run _)
  generalize θ (ι prog W D) W qD (gj t (.list (ts.map Tok.lv)) R H w (seen pre x r H)) h=m at tr
  generalize jO t pre x r w H=o at tr
  cases o with
  |none=>trivial
  |stop wd=>exact tr.elim λρ e=>⟨_,ρ,by rw[e];rfl⟩
  |go w' H' ro=>
   rw[tr.2.2]
   refine oO.app (Hi ok hl len hD (match r,z.en with
    |[],_=>.inl rfl
    |y::r,en=>.inr (z.step en.1)) ?_ ?_)
   ·rw[Θ,aA];exact η (az (η (bM tr.2.1 _) (Ψ (aQ ..))) _) lR
   ·exact η (η (bM tr.1 _) (Ψ (iG .. |>.trans (aA ..)))) lH
noncomputable def Sk(r:Option CR)(h:Hp):SC->Prop
 |.none=>True
 |.ok R=>r=some (.ret (.tup [.str [],.list (fE R)]) h)
 |.bad wd=>∃u,r=some (.ret (.tup [.str wd,u]) h)
theorem Sm{t:List Nat}{ts:List Tok}{W D:Nat}{h:Hp}(ok:∀x∈ts,dI x)(en:gc ts)(hl:t.length<=700000)(len:ts.length<=400000)(hD:3<=D):Sk (ι prog W (D+1) .o8 [.str t,.list (ts.map Tok.lv)] h) h (gZ t [] ts true []):=by
 have lp:=Hi (W:=W) (h:=h) (w:=true) (s5:=.un) (s6:=.un) (s7:=.un) (s8:=.un) (s9:=.un) (s10:=.un) (s11:=.un) ok hl len hD (pre:=[]) (R:=[]) (H:=[]) (.inr ⟨rfl,en⟩) (Ψ (bR _)) (Ψ (bR _))
 rw[show ι prog W (D+1) .o8 [.str t,.list (ts.map Tok.lv)] h=_ from ω (ρ:=[.v (.str t),.v (.list (ts.map Tok.lv)),.un,.un,.un,.un,.un,.un,.un,.un,.un,.un]) rfl]
 have rg:gR 0 ((ts.map Tok.lv).length:Nat)=gL 0 ts.length:=wi.trans (by rw[b_];rfl)
 have bd:0<=((0:Nat):Int)∧((0:Nat):Int)<=dy∧(((ts.map Tok.lv).length:Nat):Int)<=dy∧ -dy<=(((ts.map Tok.lv).length:Nat):Int):=tv (bC _) (by rw[b_];exact η len (by decide))
 revert lp
 show oO (cy _ _ _ _ (gL 0 ts.length) _ _) _ _ _ _ _->_
 rw[<-rg]
 cases gZ t [] ts true []with
 |none=>exact λ_=>trivial
 |ok R=>exact λ⟨ρ,y⟩=>ga λκ=>κ _ rfl bd _ y
 |bad wd=>exact λ⟨u,ρ,y⟩=>⟨u,ga λκ=>κ _ rfl bd _ y⟩
end
section
noncomputable def CT.zs:CT->List (Tok×Ro)
 |.leaf x=>[(x,.leaf)]
 |.un x a=>(x,.un)::a.zs
 |.par l a r=>(l,.bg)::(a.zs++[(r,.aZ)])
 |.dJ w l r=>[(w,.call),(l,.bg),(r,.aZ)]
 |.call w l as r=>(w,.call)::(l,.bg)::(as.zs++[(r,.aZ)])
 |.bin x a b=>a.zs++(x,.bin)::b.zs
 |.b5 q a m c b=>a.zs++(q,.bin)::(m.zs++(c,.col)::b.zs)
 |.last a=>a.zs
 |.more a c as=>a.zs++(c,.dm)::as.zs
structure Zs (z:List (Tok×Ro)) (f:List Tok) (r:List Ro):Prop where
 f:z.map Prod.fst=f
 r:z.map Prod.snd=r
section
variable{z z':List (Tok×Ro)}{f f':List Tok}{r r':List Ro}{x:Tok}{o:Ro}
theorem Zs.nil:Zs [] [] []:=⟨rfl,rfl⟩
theorem Zs.cons(a:Zs z f r):Zs ((x,o)::z) (x::f) (o::r):=⟨congrArg (x::·) a.f,congrArg (o::·) a.r⟩
theorem Zs.app(a:Zs z f r)(b:Zs z' f' r'):Zs (z++z') (f++f') (r++r'):=⟨by rw[fc,a.f,b.f],by rw[fc,a.r,b.r]⟩
end
theorem Aj(T:CT):Zs T.zs T.flat T.cI:=by
 induction T with
 |leaf|dJ=>exact⟨rfl,rfl⟩
 |un x a a1=>exact a1.cons
 |par l a r a1=>exact(a1.app Zs.nil.cons).cons
 |call w l a r a1=>exact(a1.app Zs.nil.cons).cons.cons
 |bin x a b a1 b1=>exact a1.app b1.cons
 |b5 q a m c b a1 m1 b1=>exact a1.app (m1.app b1.cons).cons
 |last a a1=>exact a1
 |more a c b a1 b1=>exact a1.app b1.cons
theorem oP(T:CT):1<=T.zs.length:=by
 have pl:∀{a b:List (Tok×Ro)} {x:Tok×Ro},1<=(a++x::b).length:=λ{a b x}=>by rw[Θ];exact ai ..
 induction T with
 |last a a1=>exact a1
 |bin|b5|more=>exact pl
 |_=>exact ai ..
theorem CT.qH{T:CT}:T.ok->1<=T.mn:=by
 induction T with
 |un x a a1=>exact λh=>a1 h.2.1
 |bin x a b a1 b1=>exact λh=>Nat.le_min.mpr ⟨bE h.2.1,Nat.le_min.mpr ⟨a1 h.2.2.1,b1 h.2.2.2.1⟩⟩
 |last|more=>exact False.elim
 |b5=>exact λ_=>ξ 1
 |_=>exact λ_=>(by decide:1<=13)
noncomputable def Sn:Ro->Bool
 |.leaf=>true
 |.un=>true
 |.call=>true
 |_=>false
structure Rl {σ:Type} (A:List (Tok×Ro)->σ->Prop) (up mid:σ->σ) (Gd:Nat->σ->Prop):Prop where
 bg:∀{x l s},A l (up s)->A ((x,.bg)::l) s
 aZ:∀{x l s},A l s->A ((x,.aZ)::l) (up s)
 one:∀{x r l s},Sn r=true->A l s->A ((x,r)::l) s
 dm:∀{x l s},A l (up s)->A ((x,.dm)::l) (up s)
 bin:∀{x l s},x.k=.op (nm x)->2<=lvl (nm x)->Gd (lvl (nm x)) s->A l s->A ((x,.bin)::l) s
 q:∀{x l s},x.k=.op [63]->Gd 1 s->A l (mid s)->A ((x,.bin)::l) s
 col:∀{x l s},A l s->A ((x,.col)::l) (mid s)
 qI:∀{m s},Gd m (up s)
 wj:∀{m s},1<=m->Gd 1 s->Gd m (mid s)
 mx:∀{m m' s},m<=m'->Gd m s->Gd m' s
section
variable{σ:Type}{A:List (Tok×Ro)->σ->Prop}{up mid:σ->σ}{Gd:Nat->σ->Prop}(H:Rl A up mid Gd)
theorem jR{A:List (Tok×Ro)->σ->Prop}{a b c:List (Tok×Ro)}{x:Tok×Ro}{s:σ}(h:A (a++x::(b++c)) s):A ((a++x::b)++c) s:=(congrArg (A · s) (aN a (x::b) c)).mpr h
include H
theorem Rl.pass(T:CT):(T.ok->∀{l s},Gd T.mn s->A l s->A (T.zs++l) s)∧(T.ja->∀{l s},A l (up s)->A (T.zs++l) (up s)):=by
 induction T with
 |leaf x=>exact⟨λ_ _ _ _=>H.one rfl,False.elim⟩
 |un x a a1=>exact⟨λk _ _ g y=>H.one rfl (a1.1 k.2.1 g y),False.elim⟩
 |par l a r a1=>exact⟨λk _ _ _ y=>H.bg (jR (b:=[]) (a1.1 k.2.1 H.qI (H.aZ y))),False.elim⟩
 |dJ w l r=>exact⟨λ_ _ _ _ y=>H.one rfl (H.bg (H.aZ y)),False.elim⟩
 |call w l a r a1=>exact⟨λk _ _ _ y=>H.one rfl (H.bg (jR (b:=[]) (a1.2 k.2.2.1 (H.aZ y)))),False.elim⟩
 |bin x a b a1 b1=>exact⟨λk _ _ g y=>jR (a1.1 k.2.2.1 (H.mx (η (Nat.min_le_right ..) (Nat.min_le_left ..)) g) (H.bin k.1 k.2.1 (H.mx (Nat.min_le_left ..) g) (b1.1 k.2.2.2.1 (H.mx (η (Nat.min_le_right ..) (Nat.min_le_right ..)) g) y))),False.elim⟩
 |b5 q a m c b a1 m1 b1=>exact⟨λk _ _ g y=>jR (a1.1 k.2.1 (H.mx (iE k.2.2.1) g) (H.q k.1 g (jR (m1.1 k.2.2.2.1 (H.wj (CT.qH k.2.2.2.1) g) (H.col (b1.1 k.2.2.2.2.2 (H.mx (CT.qH k.2.2.2.2.2) g) y)))))),False.elim⟩
 |last a a1=>exact⟨False.elim,λk _ _=>a1.1 k H.qI⟩
 |more a c b a1 b1=>exact⟨False.elim,λk _ _ y=>jR (a1.1 k.1 H.qI (H.dm (b1.2 k.2.2 y)))⟩
end
structure LS where
 d:Nat
 p:Int
 l:Nat
noncomputable def LS.up(s:LS):LS:=⟨s.d+1,s.p,s.l⟩
noncomputable def tk(a l:Nat):Bool:=decide (a<l)||(a==l&&(decide (1<a)&&decide (a<12)))
theorem Hj{a l:Nat}(h:l<=13)(k:13<=a):tk a l=false:=oF (dF (Nat.not_lt.mpr (η h k))) (eP (eP (dF (Nat.not_lt.mpr (iE k)))))
theorem Ak{a l:Nat}(h:l<a∨l=12∨l=1)(k:l<=a):tk a l=false:=oF (dF (Nat.not_lt.mpr k)) (by
 cases e:a==l with
 |false=>rfl
 |true=>
  have e:=eq_of_beq e
  rcases h with h|h|h
  ·exact absurd e (Nat.ne_of_gt h)
  ·rw[e,h];rfl
  ·rw[e,h];rfl)
noncomputable def Gt(m:Nat)(s:LS):Prop:=s.d=0->∀a,m<=a->tk a s.l=false
noncomputable def keep:Ro->Bool
 |.bg=>false
 |.aZ=>false
 |.bin=>false
 |_=>true
structure Rt (A:List (Tok×Ro)->LS->Prop) (e:Nat):Prop where
 bg:∀{x l s},A l s.up->A ((x,.bg)::l) s
 aZ:∀{x l s},A l s->A ((x,.aZ)::l) s.up
 one:∀{x r l s},keep r=true->A l s->A ((x,r)::l) s
 bs:∀{x l s},x.k=.op (nm x)->(s.d=0->tk (lvl (nm x)) s.l=false)->A l s->A ((x,.bin)::l) s
 bt:∀{x l s},x.k=.op (nm x)->s.d=0->tk (lvl (nm x)) s.l=true->(∀p:Nat,p+(l.length+1)=e->A l ⟨0,p,lvl (nm x)⟩)->A ((x,.bin)::l) s
theorem Am{s:List Nat}(h:2<=lvl s):lvl s<=12:=(by decide+kernel:∀p∈gY,p.2<=12) _ (qq (d6 (by decide) h))
theorem qJ{x:Tok}(h:x.k=.op [63]):nm x=[63]:=congrArg qc h
theorem wk{x:Tok}(h:x.k=.op [63]):x.k=.op (nm x):=h.trans (congrArg TK.op (qJ h).symm)
structure Sl (m:Nat) (s:LS):Prop where
 d:s.d=0
 lo:m<=s.l
 hi:s.l<=13
section
variable{A:List (Tok×Ro)->LS->Prop}{e:Nat}(H:Rt A e)
include H
theorem Rt.rl:Rl A LS.up id Gt where
 bg:=H.bg
 aZ:=H.aZ
 one:=λ{_ r _ _} h=>H.one (by cases r<;>first|rfl|exact absurd h ς)
 dm:=H.one rfl
 bin:=λh _ g=>H.bs h λd=>g d _ (ξ _)
 q:=λh g=>H.bs (wk h) λd=>g d _ (by rw[qJ h];exact ξ 1)
 col:=H.one rfl
 qI:=λd=>absurd d (Nat.succ_ne_zero _)
 wj:=λk g d a h=>g d a (η k h)
 mx:=λk g d a h=>g d a (η k h)
theorem Rt.bb{x:Tok}{l:List (Tok×Ro)}{s:LS}{m:Nat}(hx:x.k=.op (nm x))(hm:m<=lvl (nm x))(So:lvl (nm x)<=13)(S:Sl m s)(y:∀{s:LS},Sl m s->A l s):A ((x,.bin)::l) s:=by
 cases c:tk (lvl (nm x)) s.l with
 |true=>exact H.bt hx S.d c λp _=>y ⟨rfl,hm,So⟩
 |false=>exact H.bs hx (λ_=>c) (y S)
theorem Rt.low(T:CT):T.ok->∀{l s m},m<=T.mn->Sl m s->(∀{s},Sl m s->A l s)->A (T.zs++l) s:=by
 have key:∀{T:CT},T.mn=13->T.ok->∀{l s m},m<=T.mn->Sl m s->(∀{s},Sl m s->A l s)->A (T.zs++l) s:=λ{T} e k l s m _ S y=>(H.rl.pass T).1 k (λ_ a h=>Hj S.hi (e▸h)) (y S)
 induction T with
 |bin x a b a1 b1=>exact λk l s m h S y=>jR (a1 k.2.2.1 (η h (η (Nat.min_le_right ..) (Nat.min_le_left ..))) S λS=>H.bb k.1 (η h (Nat.min_le_left ..)) (bW (Am k.2.1)) S λS=>b1 k.2.2.2.1 (η h (η (Nat.min_le_right ..) (Nat.min_le_right ..))) S y)
 |b5 q a m c b a1 m1 b1=>
  intro k l s n h S y
  have e:lvl (nm q)=1:=by rw[qJ k.1];rfl
  exact jR (a1 k.2.1 (η h (iE k.2.2.1)) S λS=>H.bb (wk k.1) (by rw[e];exact h) (by rw[e];decide) S λS=>jR (m1 k.2.2.2.1 (η h (CT.qH k.2.2.2.1)) S λS=>H.one rfl (b1 k.2.2.2.2.2 (η h (CT.qH k.2.2.2.2.2)) S y)))
 |un x a=>exact λk=>key (T:=.un x a) k.2.2 k
 |last|more=>exact False.elim
 |_=>exact key rfl
theorem Rt.single{T:CT}(k:T.ok)(h:T.mn=13){p:Int}(y:A [] ⟨0,p,13⟩):A T.zs ⟨0,p,13⟩:=ck T.zs▸(H.rl.pass T).1 k (λ_ _ g=>Hj (ξ 13) (h▸g)) y
theorem Rt.bin{x:Tok}{a b:CT}(k:(CT.bin x a b).ok){p:Int}(y:∀p:Nat,p+(b.zs.length+1)=e->A [] ⟨0,p,lvl (nm x)⟩):A (CT.bin x a b).zs ⟨0,p,13⟩:=by
 have l2:=Am k.2.1
 have i:lvl (nm x)<=b.mn∧lvl (nm x)<=a.mn∧(lvl (nm x)<b.mn∨lvl (nm x)=12)∧∀n,a.mn<=n->tk (lvl (nm x)) n=true:=by
  have h:=k.2.2.2.2
  by_cases c:nm x=[42,42]
  ·rw[if_pos c]at h
   have e:lvl (nm x)=12:=by rw[c];rfl
   rw[e,h.1]
   exact⟨h.2,by decide,.inr rfl,λn g=>oT (dT g)⟩
  ·rw[if_neg c]at h
   have l3:lvl (nm x)<12:=Nat.lt_of_le_of_ne l2 λq=>c ((Gf (d6 (by decide) k.2.1)).2 q)
   refine⟨bE h.2,h.1,.inl h.2,λn g=>?_⟩
   rcases Nat.lt_or_eq_of_le (η h.1 g)with q|q
   ·exact oT (dT q)
   ·exact lJ (aT (beq_iff_eq.mpr q) (aT (dT k.2.1) (dT l3)))
 exact H.low a k.2.2.1 (ξ _) ⟨rfl,a.qp,ξ 13⟩ λS=>H.bt k.1 S.d (i.2.2.2 _ S.lo) λp q=>ck b.zs▸(H.rl.pass b).1 k.2.2.2.1 (λ_ n g=>Ak (i.2.2.1.imp (λq=>d6 q g) .inl) (η i.1 g)) (y p q)
theorem Rt.b5{q c:Tok}{a m b:CT}(k:(CT.b5 q a m c b).ok){p:Int}(y:∀p:Nat,p+((m.zs++(c,.col)::b.zs).length+1)=e->A [] ⟨0,p,1⟩):A (CT.b5 q a m c b).zs ⟨0,p,13⟩:=by
 have e:lvl (nm q)=1:=by rw[qJ k.1];rfl
 exact H.low a k.2.1 (ξ _) ⟨rfl,a.qp,ξ 13⟩ λS=>H.bt (wk k.1) S.d (e▸oT (dT (η k.2.2.1 S.lo))) λp h=>e▸(H.rl.pass m).1 k.2.2.2.1 (λ_ n g=>Ak (.inr (.inr rfl)) (η (CT.qH k.2.2.2.1) g)) (H.one rfl (ck b.zs▸(H.rl.pass b).1 k.2.2.2.2.2 (λ_ n g=>Ak (.inr (.inr rfl)) (η (CT.qH k.2.2.2.2.2) g)) (y p h)))
end
end
section
noncomputable def Zr(T R:V)(Z:List (Tok×Ro)):Prop:=∀{k x r},Z[k]?=some (x,r)->υ T (.int (k:Nat))=some x.lv∧υ R (.int (k:Nat))=some (.str r.s)
noncomputable def At(Z:List (Tok×Ro))(k:Nat)(l:List (Tok×Ro)):Prop:=∃u,Z.drop k=l++u
section
variable{Z l m:List (Tok×Ro)}{k:Nat}{x:Tok×Ro}
theorem At.left(A:At Z k (l++m)):At Z k l:=A.elim λu e=>⟨m++u,e.trans (aN ..)⟩
theorem At.right(A:At Z k (l++m)):At Z (k+l.length) m:=A.imp λu e=>by rw[<-cA,e,aN];exact List.drop_left
theorem At.next(A:At Z k (x::l)):At Z (k+1) l:=A.imp λu e=>aV e
theorem At.get(A:At Z k (x::l)):Z[k]?=some x:=A.elim λu e=>nU e
theorem At.le(A:At Z k l)(h:1<=l.length):k+l.length<=Z.length:=A.elim λu e=>by
 have e:=congrArg List.length e
 rw[cY,Θ]at e
 have g:l.length<=Z.length - k:=e▸aP ..
 rw[aQ];exact Nat.add_le_of_le_sub (bE (Nat.lt_of_sub_pos (η h g))) g
end
section
variable{C:Δ}{W:Nat}{ρ aH:Loc}{h:Hp}{c:E}{A B:List S}{y:Bool}
theorem eB(hc:ν C c ρ h=some (.ok (.bool y) ρ h))(hA:y=true->θ C W A ρ h=some (.ok .ο aH h))(hB:y=false->θ C W B ρ h=some (.ok .ο aH h)):θ C W [.ifs c A B] ρ h=some (.ok .ο aH h):=by
 show M.ζ (M.ζ (ν C c ρ h) _) _=_
 rw[hc]
 cases y with
 |true=>show M.ζ (θ C W A ρ h) _=_;rw[hA rfl];rfl
 |false=>show M.ζ (θ C W B ρ h) _=_;rw[hB rfl];rfl
theorem iA{R:V}{k:Int}{u:List Nat}(s:List Nat){i:Nat}(h1:ρ[1]?=some (.v R))(hi:ρ[i]?=some (.v (.int k)))(rk:υ R (.int k)=some (.str u)):ν C (.cmp .eq (.sub (.loc 1) (.loc i)) (.str s)) ρ h=some (.ok (.bool (u==s)) ρ h):=by
 show M.ζ (M.ζ (k9 ρ[1]? 1 ρ h) _) _=_
 rw[h1]
 show M.ζ (M.ζ (k9 ρ[i]? i ρ h) _) _=_
 rw[hi]
 show M.ζ (up (υ R (.int k)) ρ h) _=_
 rw[rk];rfl
theorem oQ{n:Nat}(hc:ν C c ρ h=some (.ok (.bool true) ρ h))(hb:θ C W B ρ h=some (.ok .ο aH h)):aO C W c B (n+1) ρ h=aO C W c B n aH h:=by
 rw[bU,hc]
 show M.ζ (θ C W B ρ h) _=_
 rw[hb];rfl
noncomputable def FA(C:Δ)(W:Nat)(b:List S)(h:Hp)(Z:List (Tok×Ro)){σ ε:Type}(Q:σ->ε->Loc)(e:Nat)(F:σ)(l:List (Tok×Ro))(s:σ):Prop:=∀k,At Z k l->k+l.length=e->∀u,∃u',cy C W 7 b (gL k l.length) (Q s u) h=some (.ok .ο (Q F u') h)
theorem FA.step{Z:List (Tok×Ro)}{σ ε:Type}{Q:σ->ε->Loc}{e:Nat}{F s:σ}{s':Nat->σ}{l:List (Tok×Ro)}{x:Tok×Ro}(hb:∀k,Z[k]?=some x->k+(l.length+1)=e->∀u,∃u',θ C W B ((Q s u).set 7 (.v (.int (k:Nat)))) h=some (.ok .ο (Q (s' k) u') h))(H:∀k,k+(l.length+1)=e->FA C W B h Z Q e F l (s' k)):FA C W B h Z Q e F (x::l) s:=λk a i u=>
 (hb k a.get i u).elim λu' q=>(H k i (k+1) a.next ((aA ..).trans ((congrArg (k+·) (aQ ..)).trans i)) u').imp λ_ y=>nL.trans (by rw[q];exact y)
end
theorem wm(a b:Nat):decide (((a:Nat):Int) - 1<((b:Nat):Int) - 1)=decide (a<b):=decide_eq_decide.mpr ⟨λh=>cJ.mp (Int.lt_of_sub_lt_sub_right h),λh=>Int.sub_lt_sub_right (cJ.mpr h) 1⟩
theorem Hk(a b:Nat):decide (((a:Nat):Int)<((b:Nat):Int) - 1)=decide (a+1<b):=decide_eq_decide.mpr ⟨λh=>cJ.mp (Int.add_lt_of_lt_sub_right h),λh=>Int.lt_sub_right_of_add_lt (cJ.mpr h)⟩
theorem Hl(a b:Nat):(((a:Nat):Int) - 1==((b:Nat):Int) - 1)=(a==b):=Bool.eq_iff_iff.mpr ⟨λh=>beq_iff_eq.mpr (Int.ofNat.inj ((Int.sub_left_inj 1).mp (eq_of_beq h))),λh=>beq_iff_eq.mpr (congrArg (λn:Nat=>(n:Int) - 1) (eq_of_beq h))⟩
theorem tw{x:Tok}{s:List Nat}(hx:x.k=.op s):υ x.lv (.int 1)=some (.str s):=(qA x).trans (congrArg (λk=>some k.mf) hx)
noncomputable def Sp:List S:=Prog.cV.body.take 4
noncomputable def my:List S:=Prog.cV.body.drop 4
noncomputable def qK:List S:=lM Prog.cV.body 3
noncomputable def gk(T R:V)(f b:Nat)(s:LS)(u:Slot×Slot):Loc:=[.v T,.v R,.v (.int (f:Nat)),.v (.int (b:Nat)),.v (.int (s.d:Nat)),.v (.int s.p),.v (.int ((s.l:Nat) - 1)),u.1,u.2,.un,.un,.un,.un,.un]
section
variable{C:Δ}{W:Nat}{h:Hp}{T R y z:V}{f b k:Nat}{s:LS}{s8:Slot}{u:List Nat}{x:Tok}
theorem Sq(rk:υ R (.int (k:Nat))=some (.str Ro.bg.s)):θ C W qK (gk T R f b s (.v (.int (k:Nat)),s8)) h=some (.ok .ο (gk T R f b s.up (.v (.int (k:Nat)),s8)) h):=gs λκ=>κ _ rk _ rfl _ rfl
theorem Sr(rk:υ R (.int (k:Nat))=some (.str Ro.aZ.s)):θ C W qK (gk T R f b s.up (.v (.int (k:Nat)),s8)) h=some (.ok .ο (gk T R f b s (.v (.int (k:Nat)),s8)) h):=gs λκ=>(κ _ rk _ rfl _ rfl _ rk _ rfl _ rfl).trans (by rw[show((s.up.d:Nat):Int) - 1=s.d from i9 s.d 1];rfl)
theorem Hm(rk:υ R (.int (k:Nat))=some (.str u))(h1:(u==Ro.bg.s)=false)(h2:(u==Ro.aZ.s)=false)(h3:(u==Ro.bin.s&&((s.d:Nat):Int)==0)=false):θ C W qK (gk T R f b s (.v (.int (k:Nat)),s8)) h=some (.ok .ο (gk T R f b s (.v (.int (k:Nat)),s8)) h):=
 eB (iA _ rfl rfl rk) (λq=>absurd (h1.symm.trans q) ς) λ_=>eB (iA _ rfl rfl rk) (λq=>absurd (h2.symm.trans q) ς) λ_=>eB (bO (bA (iA _ rfl rfl rk) λ_=>rfl)) (λq=>absurd (h3.symm.trans q) ς) λ_=>rfl
theorem Ss{a c d:E}{ρ:Loc}{o1 o2:gy}{u v w:V}{p q:Bool}(ha:ν C a ρ h=some (.ok u ρ h))(hc:ν C c ρ h=some (.ok v ρ h))(hd:ν C d ρ h=some (.ok w ρ h))(h1:aY o1 u v=some p)(h2:aY o2 v w=some q):ν C (.fR o1 o2 a c d) ρ h=some (.ok (.bool (p&&q)) ρ h):=by
 rw[Oa,ha]
 show M.ζ (ν C c ρ h) _=_
 rw[hc]
 show dh (aY o1 u v) _ _=_
 rw[h1]
 cases p with
 |false=>rfl
 |true=>show M.ζ (ν C d ρ h) _=_;rw[hd];show up ((aY o2 v w).map V.bool) ρ h=_;rw[h2];rfl
theorem Hn(rk:υ R (.int (k:Nat))=some (.str Ro.bin.s))(d0:s.d=0)(tk:υ T (.int (k:Nat))=some x.lv)(hx:x.k=.op (nm x))(ll:C .iM [.str (nm x)] h=some (.ret (.int ((lvl (nm x):Nat) - 1)) h)):
  θ C W qK (gk T R f b s (.v (.int (k:Nat)),s8)) h=some (.ok .ο (gk T R f b (bif Mine.tk (lvl (nm x)) s.l then⟨0,k,lvl (nm x)⟩else s) (.v (.int (k:Nat)),.v (.int ((lvl (nm x):Nat) - 1)))) h):=by
 obtain⟨d,p,l⟩:=s
 obtain rfl:d=0:=d0
 refine eB (iA _ rfl rfl rk) (λq=>absurd q ς) λ_=>eB (iA _ rfl rfl rk) (λq=>absurd q ς) λ_=>eB (bO (bA (iA _ rfl rfl rk) λ_=>rfl)) (λ_=>Eq.trans (g8 (v:=.int ((lvl (nm x):Nat) - 1)) ?_) ?_) (λq=>absurd (q:true=false) (Ne.symm ς))
 ·exact ge λκ=>κ _ tk _ (tw hx) _ ll
 refine eB (gU (gK rfl λ_=>bO (bA rfl λ_=>Ss rfl rfl rfl rfl rfl))) (λq=>?_) λq=>?_
 ·rw[show Mine.tk (lvl (nm x)) l=true by unfold Mine.tk;rw[<-wm,<-Hl,<-Hk 0,<-wm _ 12];exact q];rfl
 ·rw[show Mine.tk (lvl (nm x)) l=false by unfold Mine.tk;rw[<-wm,<-Hl,<-Hk 0,<-wm _ 12];exact q];rfl
theorem Su{l:Nat}{r:CR}{s7:Slot×Slot}(sg:C .iN [T,R,.int (f:Nat),.int (b:Nat)] h=some r):π (θ C W my (gk T R f b ⟨0, -1,l⟩ s7) h)=some r:=by
 cases r<;>exact ga λκ=>κ _ rfl _ rfl _ sg
theorem Sv{op:List Nat}{a0 a1 a2 a3 a4 a5 a6 a7 a8 Sw Sx:Slot}:π (θ C W (my.drop 5) [a0,a1,a2,a3,a4,a5,a6,a7,a8,.v (.str op),.v y,Sw,Sx,.v z] h)=some (.ret (jN op y z) h):=by
 by_cases h1:op=[38,38]
 ·rw[h1];exact ga λκ=>κ _ (ψ rfl) _ rfl _ rfl _ rfl
 ·by_cases h2:op=[124,124]
  ·rw[h2];exact ga λκ=>κ _ (ψ rfl) _ rfl _ rfl _ rfl
  ·exact ga λκ=>(κ _ (ψ rfl) _ (oF (hX h1) (oF (hX h2) rfl))).trans (by unfold jN;rw[if_neg h1,if_neg h2])
section
variable{p q l:Nat}{s7:Slot×Slot}(tk:υ T (.int (p:Nat))=some x.lv)(hx:x.k=.op (nm x))(lf:C .cV [T,R,.int (f:Nat),.int (p:Nat)] h=some (.ret y h))
include tk hx lf
theorem Sy(no:¬nm x=[63])(rt:C .cV [T,R,.int ((p+1:Nat):Int),.int (b:Nat)] h=some (.ret z h)):π (θ C W my (gk T R f b ⟨0,p,l⟩ s7) h)=some (.ret (jN (nm x) y z) h):=by
 refine Eq.trans (gq (b:=my.take 5) (tl:=my.drop 5) λκ=>κ _ rfl _ (dF (Int.not_lt.mpr (eC _))) _ tk _ (tw hx) _ lf _ rfl _ (sF no) _ rt) Sv
theorem Sz{v:V}{g:Nat}(no:nm x=[63])(co:C .qY [T,R,.int ((p+1:Nat):Int)] h=some (.ret (.int (g:Nat)) h))(md:C .cV [T,R,.int ((p+1:Nat):Int),.int (g:Nat)] h=some (.ret v h))(rt:C .cV [T,R,.int ((g+1:Nat):Int),.int (b:Nat)] h=some (.ret z h)):π (θ C W my (gk T R f b ⟨0,p,l⟩ s7) h)=some (.ret (sX y v z) h):=
 ga λκ=>κ _ rfl _ (dF (Int.not_lt.mpr (eC _))) _ tk _ (tw hx) _ lf _ rfl _ (sT no) _ co _ md _ rt
end
noncomputable def tA(T R:V)(f b:Nat):Loc:=[.v T,.v R,.v (.int (f:Nat)),.v (.int (b:Nat)),.un,.un,.un]
section
variable(tk:υ T (.int (f:Nat))=some x.lv)
include tk
theorem SA(rk:υ R (.int (f:Nat))=some (.str Ro.un.s))(lt:C .cV [T,R,.int ((f+1:Nat):Int),.int (b:Nat)] h=some (.ret y h)):π (θ C W Prog.iN.body (tA T R f b) h)=some (.ret (il x.k.mf y) h):=ga λκ=>κ _ tk _ rk _ rfl _ rfl _ lt
theorem SD{g:Nat}(i:g+1=b)(rk:υ R (.int (f:Nat))=some (.str Ro.bg.s))(lt:C .cV [T,R,.int ((f+1:Nat):Int),.int (g:Nat)] h=some (.ret y h)):π (θ C W Prog.iN.body (tA T R f b) h)=some (.ret y h):=ga λκ=>κ _ tk _ rk _ rfl _ rfl _ rk _ rfl _ rfl _ (Eq.trans (congrArg (λn=>C .cV [T,R,.int ((f+1:Nat):Int),.int n] h) ((congrArg (λb:Nat=>(b:Int) - 1) i.symm).trans (i9 g 1))) lt)
theorem Ho(rk:υ R (.int (f:Nat))=some (.str Ro.call.s))(lc:C .o9 [T,R,.int (f:Nat),.int (b:Nat)] h=some (.ret y h)):π (θ C W Prog.iN.body (tA T R f b) h)=some (.ret y h):=ga λκ=>κ _ tk _ rk _ rfl _ rfl _ rk _ rfl _ rfl _ rk _ rfl _ rfl _ lc
theorem SE(rk:υ R (.int (f:Nat))=some (.str Ro.leaf.s))(hx:i_ x.k=true):π (θ C W Prog.iN.body (tA T R f b) h)=some (.ret (zF x) h):=by
 refine Eq.trans (gq (b:=Prog.iN.body.take 4) (tl:=Prog.iN.body.drop 4) λκ=>κ _ tk _ rk _ rfl _ rfl _ rk _ rfl _ rfl _ rk _ rfl _ rfl) ?_
 unfold zF
 generalize x.k=c at hx
 cases c<;>first|rfl|exact absurd hx ς
end
noncomputable def tB:E:=.or [(.cmp .gt (.loc 3) (.int 0)),(.cmp .ne (.sub (.loc 1) (.loc 2)) (.str [58]))]
noncomputable def kO:List S:=lM Prog.qY.body 1
noncomputable def d5(T R:V)(p d:Nat):Loc:=[.v T,.v R,.v (.int (p:Nat)),.v (.int (d:Nat))]
section
variable{n d d':Nat}
theorem oR(rk:υ R (.int (k:Nat))=some (.str u))(g:(decide ((0:Int)<(d:Nat))|| !(u==Ro.col.s))=true):ν C tB (d5 T R k d) h=some (.ok (.bool true) (d5 T R k d) h):=by
 refine Eq.trans (gU (gK rfl λ_=>?_)) (congrArg (λb=>some (Rs.ok (V.bool b) (d5 T R k d) h)) g)
 exact(ge λκ=>κ _ rk _ rfl:ν C (.cmp .ne (.sub (.loc 1) (.loc 2)) (.str [58])) (d5 T R k d) h=_)
theorem SH(rk:υ R (.int (k:Nat))=some (.str Ro.col.s)):aO C W tB kO (n+1) (d5 T R k 0) h=some (.ok .ο (d5 T R k 0) h):=gw λκ=>κ _ rfl _ rfl _ rk _ rfl _ rfl
theorem SI(rk:υ R (.int (k:Nat))=some (.str Ro.bg.s)):θ C W kO (d5 T R k d) h=some (.ok .ο (d5 T R (k+1) (d+1)) h):=gs λκ=>κ _ rk _ rfl _ rfl _ rfl
theorem SJ(rk:υ R (.int (k:Nat))=some (.str Ro.bin.s))(tk:υ T (.int (k:Nat))=some x.lv)(hx:x.k=.op (nm x))(no:¬nm x=[63]):θ C W kO (d5 T R k d) h=some (.ok .ο (d5 T R (k+1) d) h):=gs λκ=>κ _ rk _ rfl _ rfl _ rk _ rfl _ rfl _ tk _ (tw hx) _ rfl _ (sF no) _ rk _ (ψ rfl) _ rfl
theorem SK(rk:υ R (.int (k:Nat))=some (.str Ro.bin.s))(tk:υ T (.int (k:Nat))=some x.lv)(hx:x.k=.op [63]):θ C W kO (d5 T R k d) h=some (.ok .ο (d5 T R (k+1) (d+1)) h):=gs λκ=>κ _ rk _ rfl _ rfl _ rk _ rfl _ rfl _ tk _ (tw hx) _ rfl _ rfl
theorem Hq(rk:υ R (.int (k:Nat))=some (.str u))(h1:(u==Ro.bg.s)=false)(h2:(u==Ro.bin.s)=false)(h3:([V.str Ro.aZ.s,.str Ro.col.s].any λy=>y.eqv (.str u))=true):θ C W kO (d5 T R k (d+1)) h=some (.ok .ο (d5 T R (k+1) d) h):=gs λκ=>(κ _ rk _ rfl _ h1 _ rk _ rfl _ h2 _ h2 _ rk _ (ψ rfl) _ h3).trans (by rw[show((d+1:Nat):Int) - 1=d from i9 d 1];rfl)
theorem Hr(rk:υ R (.int (k:Nat))=some (.str u))(h1:(u==Ro.bg.s)=false)(h2:(u==Ro.bin.s)=false)(h3:([V.str Ro.aZ.s,.str Ro.col.s].any λy=>y.eqv (.str u))=false):θ C W kO (d5 T R k d) h=some (.ok .ο (d5 T R (k+1) d) h):=gs λκ=>κ _ rk _ rfl _ h1 _ rk _ rfl _ h2 _ h2 _ rk _ (ψ rfl) _ h3
end
noncomputable def mz:List S:=lM Prog.o9.body 3
structure CS where
 as:List V
 g:Nat
 d:Nat
noncomputable def CS.up(s:CS):CS:=⟨s.as,s.g,s.d+1⟩
noncomputable def fF(T R:V)(f b:Nat)(s:CS)(u:Slot):Loc:=[.v T,.v R,.v (.int (f:Nat)),.v (.int (b:Nat)),.own s.as,.v (.int (s.g:Nat)),.v (.int (s.d:Nat)),u]
section
variable{s:CS}{as:List V}{g:Nat}
theorem SM(rk:υ R (.int (k:Nat))=some (.str Ro.bg.s)):θ C W mz (fF T R f b s (.v (.int (k:Nat)))) h=some (.ok .ο (fF T R f b s.up (.v (.int (k:Nat)))) h):=gs λκ=>κ _ rk _ rfl _ rfl
theorem wq{d:Nat}(rk:υ R (.int (k:Nat))=some (.str u)):ν C (.and [(.cmp .eq (.loc 6) (.int 0)),(.or [(.cmp .eq (.sub (.loc 1) (.loc 7)) (.str [44])),(.cmp .eq (.loc 7) (.bin .sub (.loc 3) (.int 1)))])]) (fF T R f b ⟨as,g,d⟩ (.v (.int (k:Nat)))) h=some (.ok (.bool (((d:Nat):Int)==0&&(u==Ro.dm.s||((k:Nat):Int)==(b:Nat) - 1))) (fF T R f b ⟨as,g,d⟩ (.v (.int (k:Nat)))) h):=bO (bA rfl λ_=>gU (gK (iA _ rfl rfl rk) λ_=>rfl))
theorem SN(rk:υ R (.int (k:Nat))=some (.str Ro.aZ.s)):θ C W mz (fF T R f b s.up (.v (.int (k:Nat)))) h=some (.ok .ο (fF T R f b s (.v (.int (k:Nat)))) h):=
 eB (iA _ rfl rfl rk) (λq=>absurd (q:false=true) ς) λ_=>eB (wq rk) (λq=>absurd (q:false=true) ς) λ_=>gs λκ=>(κ _ rk _ rfl _ rfl).trans (by rw[show((s.up.d:Nat):Int) - 1=s.d from i9 s.d 1];rfl)
theorem tC{d:Nat}(rk:υ R (.int (k:Nat))=some (.str u))(h1:(u==Ro.bg.s)=false)(h2:(u==Ro.aZ.s)=false)(h3:(((d:Nat):Int)==0&&(u==Ro.dm.s||((k:Nat):Int)==(b:Nat) - 1))=false):θ C W mz (fF T R f b ⟨as,g,d⟩ (.v (.int (k:Nat)))) h=some (.ok .ο (fF T R f b ⟨as,g,d⟩ (.v (.int (k:Nat)))) h):=
 eB (iA _ rfl rfl rk) (λq=>absurd (h1.symm.trans q) ς) λ_=>eB (wq rk) (λq=>absurd (h3.symm.trans q) ς) λ_=>eB (iA _ rfl rfl rk) (λq=>absurd (h2.symm.trans q) ς) λ_=>rfl
theorem Hs(rk:υ R (.int (k:Nat))=some (.str u))(h1:(u==Ro.bg.s)=false)(h3:(u==Ro.dm.s||((k:Nat):Int)==(b:Nat) - 1)=true)(l:as.length<=af)(hg:g<k)(lt:C .cV [T,R,.int (g:Nat),.int (k:Nat)] h=some (.ret y h)):θ C W mz (fF T R f b ⟨as,g,0⟩ (.v (.int (k:Nat)))) h=some (.ok .ο (fF T R f b ⟨as++[y],k+1,0⟩ (.v (.int (k:Nat)))) h):=
 eB (iA _ rfl rfl rk) (λq=>absurd (h1.symm.trans q) ς) λ_=>eB (wq rk) (λ_=>gs λκ=>κ _ rfl _ (dT (cJ.mpr hg)) _ lt l) λq=>absurd (h3.symm.trans q) (Ne.symm ς)
theorem SO(rk:υ R (.int (k:Nat))=some (.str Ro.aZ.s))(h3:(((k:Nat):Int)==(b:Nat) - 1)=true):θ C W mz (fF T R f b ⟨as,k,0⟩ (.v (.int (k:Nat)))) h=some (.ok .ο (fF T R f b ⟨as,k+1,0⟩ (.v (.int (k:Nat)))) h):=
 eB (iA _ rfl rfl rk) (λq=>absurd (q:false=true) ς) λ_=>eB (wq rk) (λ_=>gs λκ=>κ _ rfl _ (dF (Int.lt_irrefl _))) λq=>absurd (h3.symm.trans q) (Ne.symm ς)
end
end
end
section
theorem g9{a b:List Tok}{x:Tok}{D:Nat}(h:12+wt (a++x::b)<=D):12+wt a<=D∧12+wt b<=D:=by
 rw[vQ]at h
 exact⟨η (az (aP ..) _) h,η (az (η (ai ..) (ai ..)) _) h⟩
theorem qL{n m c D:Nat}(e:n=c+m)(h:12+n<=D):∃D',D=D'+c∧12+m<=D':=⟨D - c,(dP (η (e▸η (aP c m) (ai ..)) h)).symm,Nat.le_sub_of_add_le (η (Ψ (by rw[e,aA,aQ m])) h)⟩
theorem wu{a b:List Tok}{x:Tok}{s:List Nat}{D:Nat}(hx:x.k=.op s)(h:12+wt (a++x::b)<=D):∃D',D=D'+2∧12+wt a<=D'∧12+wt b<=D':=
 (qL (c:=2) (m:=wt a+wt b) (by rw[vQ,show wt (x::b)=2+wt b from congrArg (· +wt b) (congrArg g6 hx),Nat.add_left_comm]) h).imp λ_ y=>⟨y.1,η (az (aP ..) _) y.2,η (az (ai ..) _) y.2⟩
section
variable{T R:V}{Z:List (Tok×Ro)}(zr:Zr T R Z){W D:Nat}{h:Hp}
include zr
theorem An(hD:1<=D){f b e:Nat}{F:LS}:Rt (FA (ι prog W D) W qK h Z (gk T R f b) e F) e where
 bg:=λH=>FA.step (λk g _ u=>⟨_,Sq (zr g).2⟩) λ_ _=>H
 aZ:=λH=>FA.step (λk g _ u=>⟨_,Sr (zr g).2⟩) λ_ _=>H
 one:=λ{_ r _ _} c H=>FA.step (λk g _ u=>by
  have rk:=(zr g).2
  cases r<;>first|exact absurd c ς|exact⟨_,Hm rk rfl rfl rfl⟩) λ_ _=>H
 bs:=λ{x l s} hx c H=>FA.step (λk g _ u=>by
  by_cases d:s.d=0
  ·exact⟨_,(Hn (W:=W) (f:=f) (b:=b) (s8:=u.2) (zr g).2 d (zr g).1 hx (qr (W:=W) (h:=h) (nm x) D hD)).trans (by rw[c d];rfl)⟩
  ·exact⟨_,Hm (zr g).2 rfl rfl (eP (iF λq=>d (Int.ofNat.inj q)))⟩) λ_ _=>H
 bt:=λ{x l s} hx d c H=>FA.step (s':=λk=>⟨0,(k:Nat),lvl (nm x)⟩) (λk g _ u=>⟨_,(Hn (W:=W) (f:=f) (b:=b) (s8:=u.2) (zr g).2 d (zr g).1 hx (qr (W:=W) (h:=h) (nm x) D hD)).trans (by rw[c];rfl)⟩) H
noncomputable def KA(C:Δ)(W:Nat)(h:Hp)(T R:V)(Z:List (Tok×Ro))(e:Nat)(X:M Flow)(l:List (Tok×Ro))(d:Nat):Prop:=∀k n,At Z k l->k+l.length=e->l.length<=n->aO C W tB kO n (d5 T R k d) h=X
omit zr in
theorem KA.step{C:Δ}{e:Nat}{X:M Flow}{l:List (Tok×Ro)}{x:Tok×Ro}{d d':Nat}(hb:∀k n,Z[k]?=some x->aO C W tB kO (n+1) (d5 T R k d) h=aO C W tB kO n (d5 T R (k+1) d') h)(H:KA C W h T R Z e X l d'):KA C W h T R Z e X (x::l) d:=λk n a i le=>by
 cases n with
 |zero=>exact absurd le (Nat.not_succ_le_zero _)
 |succ n=>exact(hb k n a.get).trans (H (k+1) n a.next ((aA ..).trans ((congrArg (k+·) (aQ ..)).trans i)) (jZ le))
theorem SP{C:Δ}{e:Nat}{X:M Flow}:Rl (KA C W h T R Z e X) Nat.succ Nat.succ λ_ _=>True where
 bg:=KA.step λk n g=>oQ (oR (zr g).2 (Bool.or_true _)) (SI (zr g).2)
 aZ:=KA.step λk n g=>oQ (oR (zr g).2 (Bool.or_true _)) (Hq (zr g).2 rfl rfl rfl)
 one:=λ{_ r _ _} c=>KA.step λk n g=>by
  have rk:=(zr g).2
  cases r<;>first|exact absurd c ς|exact oQ (oR rk (Bool.or_true _)) (Hr rk rfl rfl rfl)
 dm:=KA.step λk n g=>oQ (oR (zr g).2 (Bool.or_true _)) (Hr (zr g).2 rfl rfl rfl)
 bin:=λhx l _=>KA.step λk n g=>oQ (oR (zr g).2 (Bool.or_true _)) (SJ (zr g).2 (zr g).1 hx λq=>absurd (q▸l) (by decide))
 q:=λhx _=>KA.step λk n g=>oQ (oR (zr g).2 (Bool.or_true _)) (SK (zr g).2 (zr g).1 hx)
 col:=KA.step λk n g=>oQ (oR (zr g).2 (oT (dT (Int.natCast_pos.mpr (gu _))))) (Hq (zr g).2 rfl rfl rfl)
 qI:=trivial
 wj:=λ_ _=>trivial
 mx:=λ_ _=>trivial
omit zr in
theorem kb{k b:Nat}{l:List (Tok×Ro)}(i:k+(l.length+1)=b)(n:l≠[]):(((k:Nat):Int)==(b:Nat) - 1)=false:=by
 rw[<-i,<-aA,show((k+l.length+1:Nat):Int) - 1=(k+l.length:Nat)from i9 _ 1]
 exact iF λq=>absurd (Int.ofNat.inj q) (eD (Nat.lt_add_of_pos_right (List.length_pos_iff.mpr n)))
noncomputable def AA(C:Δ)(W:Nat)(h:Hp)(T R:V)(Z:List (Tok×Ro))(f b:Nat)(F:CS)(l:List (Tok×Ro))(s:CS):Prop:=l≠[]∧FA C W mz h Z (fF T R f b) b F l s
theorem Ht{C:Δ}{f b:Nat}{F:CS}:Rl (AA C W h T R Z f b F) CS.up id λ_ _=>True where
 bg:=λH=>⟨List.cons_ne_nil _ _,FA.step (λk g _ u=>⟨_,SM (zr g).2⟩) λ_ _=>H.2⟩
 aZ:=λH=>⟨List.cons_ne_nil _ _,FA.step (λk g _ u=>⟨_,SN (zr g).2⟩) λ_ _=>H.2⟩
 one:=λ{_ r _ _} c H=>⟨List.cons_ne_nil _ _,FA.step (λk g i u=>by
  have rk:=(zr g).2
  cases r<;>first|exact absurd c ς|exact⟨_,tC rk rfl rfl (eP (kb i H.1))⟩) λ_ _=>H.2⟩
 dm:=λH=>⟨List.cons_ne_nil _ _,FA.step (λk g _ u=>⟨_,tC (zr g).2 rfl rfl rfl⟩) λ_ _=>H.2⟩
 bin:=λ_ _ _ H=>⟨List.cons_ne_nil _ _,FA.step (λk g i u=>⟨_,tC (zr g).2 rfl rfl (eP (kb i H.1))⟩) λ_ _=>H.2⟩
 q:=λ_ _ H=>⟨List.cons_ne_nil _ _,FA.step (λk g i u=>⟨_,tC (zr g).2 rfl rfl (eP (kb i H.1))⟩) λ_ _=>H.2⟩
 col:=λH=>⟨List.cons_ne_nil _ _,FA.step (λk g i u=>⟨_,tC (zr g).2 rfl rfl (eP (kb i H.1))⟩) λ_ _=>H.2⟩
 qI:=trivial
 wj:=λ_ _=>trivial
 mx:=λ_ _=>trivial
omit zr in
theorem Hu{k b n:Nat}(i:k+n=b):gR (k:Nat) (b:Nat)=gL k n:=wi.trans (by rw[<-i,dN])
variable(hZ:Z.length<=400000)
section
variable{k b:Nat}{l:List (Tok×Ro)}(A:At Z k l)(i:k+l.length=b)
include hZ A i
omit zr in
theorem Ao(n:1<=l.length):b<=1000000:=i▸η (A.le n) (η hZ (by decide))
omit zr in
theorem Ap{F:LS}(n:1<=l.length)(fa:FA (ι prog W D) W qK h Z (gk T R k b) b F l ⟨0, -1,13⟩):∃u,ι prog W (D+1) .cV [T,R,.int (k:Nat),.int (b:Nat)] h=π (θ (ι prog W D) W my (gk T R k b F u) h):=
 (fa k A i (.un,.un)).imp λu y=>(ω (ρ:=[.v T,.v R,.v (.int (k:Nat)),.v (.int (b:Nat)),.un,.un,.un,.un,.un,.un,.un,.un,.un,.un]) rfl).trans (gq (b:=Sp) (tl:=my) λκ=>κ (tv (η (d7 (Ψ i)) (Ao hZ A i n)) (Ao hZ A i n)) (.ok .ο (gk T R k b F u) h) ((congrArg (λl=>cy _ _ _ _ l _ _) (Hu i)).trans y))
end
include hZ in
theorem tD{t:CT}{v:V}{k b:Nat}(ok:t.ok)(mn:t.mn=13)(A:At Z k t.zs)(i:k+t.zs.length=b)(hD:1<=D)(sg:π (θ (ι prog W D) W Prog.iN.body (tA T R k b) h)=some (.ret v h)):ι prog W (D+2) .cV [T,R,.int (k:Nat),.int (b:Nat)] h=some (.ret v h):=
 (Ap hZ A i (oP t) ((An zr (bW hD)).single ok mn λ_ _ _ u=>⟨u,rfl⟩)).elim λu y=>y.trans (Su ((ω rfl).trans sg))
end
section
variable{T R:V}{Z:List (Tok×Ro)}{W D:Nat}{h:Hp}
theorem Hv{k b g:Nat}{w l:Tok}{rest:List (Tok×Ro)}{as:List V}(zr:Zr T R Z)(hZ:Z.length<=400000)(A:At Z k ((w,.call)::(l,.bg)::rest))(i:k+(rest.length+2)=b)(hw:w.k=.wd (nm w))(fa:FA (ι prog W D) W mz h Z (fF T R k b) b ⟨as,g,0⟩ rest ⟨[],k+2,0⟩):ι prog W (D+1) .o9 [T,R,.int (k:Nat),.int (b:Nat)] h=some (.ret (qd (nm w) as) h):=by
 have i2:k+2+rest.length=b:=(aA ..).trans ((congrArg (k+·) (aQ ..)).trans i)
 have bd:=Ao hZ A i (ai ..)
 obtain⟨u,y⟩:=fa (k+2) A.next.next i2 .un
 exact(ω (ρ:=[.v T,.v R,.v (.int (k:Nat)),.v (.int (b:Nat)),.un,.un,.un,.un]) rfl).trans (ga λκ=>κ (tv (η (d7 (Ψ i2)) bd) bd) (.ok .ο (fF T R k b ⟨as,g,0⟩ u) h) ((congrArg (λl=>cy _ _ _ _ l _ _) (Hu i2)).trans y) _ (zr A.get).1 _ ((qA w).trans (congrArg (λk=>some k.mf) hw)) _ rfl)
end
noncomputable def eY(T R:V)(Z:List (Tok×Ro))(W:Nat)(h:Hp)(t:CT):Prop:=∀{k D b},12+wt t.flat<=D->At Z k t.zs->k+t.zs.length=b->ι prog W D .cV [T,R,.int (k:Nat),.int (b:Nat)] h=some (.ret t.val h)
noncomputable def tE(T R:V)(Z:List (Tok×Ro))(W:Nat)(h:Hp)(t:CT):Prop:=∀{k D f b} {acc:List V} {r:Tok},12+wt t.flat<=D->At Z k (t.zs++[(r,.aZ)])->k+(t.zs++[(r,Ro.aZ)]).length=b->acc.length+t.zs.length<=400000->FA (ι prog W D) W mz h Z (fF T R f b) b ⟨acc++t.vals,b,0⟩ (t.zs++[(r,.aZ)]) ⟨acc,k,0⟩
theorem SQ{c:TK}(h:qg c=true):c.d4=c.mf:=by cases c<;>first|rfl|exact absurd h ς
theorem dn{n D:Nat}(h:12+n<=D):∃D',D=D'+4:=⟨D - 4,(dP (η (η (by decide) (aP 12 n)) h)).symm⟩
theorem pos_eq{α:Type}{k p b:Nat}{l m:List α}{x:α}(i:k+(l++x::m).length=b)(j:p+(m.length+1)=b):p=k+l.length:=Nat.add_right_cancel (j.trans (i.symm.trans (by rw[Θ,<-aA];rfl)))
theorem pos_r{α:Type}{k b:Nat}{l m:List α}{x:α}(i:k+(l++x::m).length=b):k+l.length+1+m.length=b:=by rw[<-i,Θ,iG,aA k];rfl
theorem SR{α:Type}{k:Nat}{l:List α}{x:α}:k+1+l.length=k+(l++[x]).length:=by rw[Θ,iG];rfl
theorem Aq{k n b:Nat}(i:k+(n+1)=b):k+1+n=b:=(iG ..).trans i
section
variable{T R:V}{Z:List (Tok×Ro)}{W:Nat}{h:Hp}(zr:Zr T R Z)(hZ:Z.length<=400000){t u v:CT}{x y z:Tok}
include zr hZ
theorem SS(ok:(CT.leaf x).ok):eY T R Z W h (.leaf x):=λ{k D b} hD A i=>by
 obtain⟨D,rfl⟩:=dn hD
 exact tD zr hZ ok rfl A i (ai ..) (SE (zr A.get).1 (zr A.get).2 ok)
theorem SU(ok:(CT.un x t).ok)(ih:eY T R Z W h t):eY T R Z W h (.un x t):=λ{k D b} hD A i=>by
 obtain⟨D,rfl,h1⟩:=qL (c:=2) (m:=wt t.flat) (congrArg (· +wt t.flat) (congrArg g6 (oB ok.1))) hD
 exact tD (t:=.un x t) zr hZ ok ok.2.2 A i (η (by decide:1<=12) (d7 h1)) ((SA (zr A.get).1 (zr A.get).2 (ih h1 A.next (Aq i))).trans (congrArg (λv=>some (CR.ret (il v t.val) h)) (SQ ok.1).symm))
theorem SW(ok:(CT.par x t y).ok)(ih:eY T R Z W h t):eY T R Z W h (.par x t y):=λ{k D b} hD A i=>by
 obtain⟨D,rfl,h1⟩:=qL (c:=4) (m:=wt (t.flat++[y])) (congrArg (· +wt (t.flat++[y])) (congrArg g6 ok.1)) hD
 exact tD zr hZ ok rfl A i (ai ..) (SD (g:=k+(t.zs++[(y,Ro.aZ)]).length) (zr A.get).1 i (zr A.get).2 (ih (Nat.le_add_right_of_le (g9 h1).1) A.next.left SR))
theorem SX(ok:(CT.dJ x y z).ok):eY T R Z W h (.dJ x y z):=λ{k D b} hD A i=>by
 obtain⟨D,rfl⟩:=dn hD
 refine tD zr hZ ok rfl A i (ai ..) (Ho (zr A.get).1 (zr A.get).2 (Hv (g:=b) zr hZ A i ok.1 (FA.step (s':=λk=>⟨[],k+1,0⟩) (λk' g j u=>⟨.v (.int (k':Nat)),?_⟩) λk' j _ _ _ u=>⟨u,by rw[<-j];rfl⟩)))
 obtain rfl:k'=k+2:=Nat.succ.inj (j.trans i.symm)
 exact SO (zr g).2 (iT (by rw[<-j];exact(i9 (k+2) 1).symm))
theorem SY(ok:(CT.call x y t z).ok)(ih:tE T R Z W h t):eY T R Z W h (.call x y t z):=λ{k D b} hD A i=>by
 obtain⟨D,rfl,h1⟩:=qL (c:=4) (m:=wt (t.flat++[z])) ((congrArg (· +wt (y::(t.flat++[z]))) (congrArg g6 ok.1)).trans ((bR _).trans (congrArg (· +wt (t.flat++[z])) (congrArg g6 ok.2.1)))) hD
 have ha:=A.next.next.left
 exact tD zr hZ ok rfl A i (ai ..) (Ho (zr A.get).1 (zr A.get).2 (Hv zr hZ A i ok.1 (ih (bW (g9 h1).1) A.next.next (Aq (Aq i)) (η (Ψ (bR _)) (η (kW (ha.le (oP t))) hZ)))))
theorem S5(ok:(CT.last t).ja)(ih:eY T R Z W h t):tE T R Z W h (.last t):=λ{k D f b acc r} hD A i l=>
 (((Ht zr).pass t).1 ok trivial ⟨List.cons_ne_nil _ _,FA.step (s':=λk=>⟨acc++[t.val],k+1,0⟩) (λk' g j u=>⟨_,by
  have e:=pos_eq (x:=(r,Ro.aZ)) i j
  exact Hs (zr g).2 rfl (lJ (iT (by rw[<-j];exact(i9 k' 1).symm))) (η (d7 l) (by decide)) (e▸Nat.lt_add_of_pos_right (oP t)) (ih hD A.left e.symm)⟩) λk' j _ _ _ u=>⟨u,by rw[<-j];rfl⟩⟩).2
theorem S7(ok:(CT.more t x u).ja)(ih:eY T R Z W h t)(iu:tE T R Z W h u):tE T R Z W h (.more t x u):=λ{k D f b acc r} hD A i l=>by
 have A:At Z k (t.zs++(x,Ro.dm)::(u.zs++[(r,Ro.aZ)])):=(congrArg (At Z k) (aN ..)).mp A
 have i:k+(t.zs++(x,Ro.dm)::(u.zs++[(r,Ro.aZ)])).length=b:=(congrArg (λl=>k+List.length l=b) (aN ..)).mp i
 have e:acc.length+(t.zs.length+(u.zs.length+1))<=400000:=(congrArg (acc.length+· <=400000) (Θ (as:=t.zs) (bs:=(x,Ro.dm)::u.zs))).mp l
 refine(jR (A:=AA (ι prog W D) W h T R Z f b ⟨acc++t.val::u.vals,b,0⟩) (((Ht zr).pass t).1 ok.1 trivial ⟨List.cons_ne_nil _ _,FA.step (s':=λk=>⟨acc++[t.val],k+1,0⟩) (λk' g j u=>⟨.v (.int (k':Nat)),?_⟩) λk' j=>?_⟩)).2
 ·have e:=pos_eq i j
  exact Hs (zr g).2 rfl rfl (η (d7 l) (by decide)) (e▸Nat.lt_add_of_pos_right (oP t)) (ih (g9 hD).1 A.left e.symm)
 ·obtain rfl:=pos_eq i j
  have y:=iu (f:=f) (acc:=acc++[t.val]) (g9 hD).2 A.right.next (pos_r i) (by rw[Θ,aA];exact η (az (η (Ψ (aQ 1 _)) (ai ..)) _) e)
  rw[aN]at y;exact y
theorem S8(ok:(CT.bin x t u).ok)(it:eY T R Z W h t)(iu:eY T R Z W h u):eY T R Z W h (.bin x t u):=λ{k D b} hD A i=>by
 obtain⟨D,rfl,h1,h2⟩:=wu ok.1 hD
 obtain⟨s,y⟩:=Ap (D:=D+1) (F:=⟨0,(k+t.zs.length:Nat),lvl (nm x)⟩) hZ A i (oP _) ((An zr (ai ..)).bin ok λp j _ _ _ u=>⟨u,by rw[pos_eq i j];rfl⟩)
 have g:=zr A.right.get
 exact y.trans (Sy g.1 ok.1 (it (bW h1) A.left rfl) (λq=>absurd (q▸ok.2.1) (by decide)) (iu (bW h2) A.right.next (pos_r i)))
theorem S9(hW:Z.length<W)(ok:(CT.b5 x t u y v).ok)(it:eY T R Z W h t)(iu:eY T R Z W h u)(iv:eY T R Z W h v):eY T R Z W h (.b5 x t u y v):=λ{k D b} hD A i=>by
 obtain⟨D,rfl,h1,h2⟩:=wu ok.1 hD
 obtain⟨s,e⟩:=Ap (D:=D+1) (F:=⟨0,(k+t.zs.length:Nat),1⟩) hZ A i (oP _) ((An zr (ai ..)).b5 ok λp j _ _ _ u=>⟨u,by rw[pos_eq i j];rfl⟩)
 have g:=zr A.right.get
 have B:=A.right.next
 have j:=pos_r i
 have co:=((SP zr (W:=W) (C:=ι prog W D) (X:=some (.ok .ο (d5 T R (k+t.zs.length+1+u.zs.length) 0) h)) (e:=b)).pass u).1 ok.2.2.2.1 trivial (l:=(y,.col)::v.zs) (s:=0) (λk' n a i' le=>by
  cases n with
  |zero=>exact absurd le (Nat.not_succ_le_zero _)
  |succ n=>rw[<-pos_eq j i'];exact SH (zr a.get).2) _ W B j (kW (η (B.le (η (oP u) (by rw[Θ];exact aP ..))) (bE hW)))
 exact e.trans (Sz g.1 (wk ok.1) (it (bW h1) A.left rfl) (qJ ok.1) ((ω (ρ:=[.v T,.v R,.v (.int ((k+t.zs.length+1:Nat):Int)),.un]) rfl).trans (ga λκ=>κ _ co)) (iu (bW (g9 h2).1) B.left rfl) (iv (bW (g9 h2).2) B.right.next (pos_r j)))
theorem S_(hW:Z.length<W)(t:CT):(t.ok->eY T R Z W h t)∧(t.ja->tE T R Z W h t):=by
 induction t with
 |leaf x=>exact⟨SS zr hZ,False.elim⟩
 |un x a a1=>exact⟨λok=>SU zr hZ ok (a1.1 ok.2.1),False.elim⟩
 |par l a r a1=>exact⟨λok=>SW zr hZ ok (a1.1 ok.2.1),False.elim⟩
 |dJ w l r=>exact⟨SX zr hZ,False.elim⟩
 |call w l a r a1=>exact⟨λok=>SY zr hZ ok (a1.2 ok.2.2.1),False.elim⟩
 |bin x a b a1 b1=>exact⟨λok=>S8 zr hZ ok (a1.1 ok.2.2.1) (b1.1 ok.2.2.2.1),False.elim⟩
 |b5 q a m c b a1 m1 b1=>exact⟨λok=>S9 zr hZ hW ok (a1.1 ok.2.1) (m1.1 ok.2.2.2.1) (b1.1 ok.2.2.2.2.2),False.elim⟩
 |last a a1=>exact⟨False.elim,λok=>S5 zr hZ ok (a1.1 ok)⟩
 |more a c b a1 b1=>exact⟨False.elim,λok=>S7 zr hZ ok (a1.1 ok.1) (b1.2 ok.2.2)⟩
end
end
section
theorem Tb{T:CT}{x:Tok}:Zr (.list ((T.flat++[x]).map Tok.lv)) (.list (fE T.cI)) T.zs:=λ{k y r} e=>by
 have f:=(eE (f:=Prod.fst) (l:=T.zs) (i:=k)).trans (congrArg (Option.map Prod.fst) e)
 have g:=(eE (f:=Prod.snd) (l:=T.zs) (i:=k)).trans (congrArg (Option.map Prod.snd) e)
 rw[(Aj T).f]at f
 rw[(Aj T).r]at g
 exact⟨qF ((List.getElem?_append_left (ej.mp f).1).trans f),oj (by unfold fE;rw[eE,g];rfl)⟩
theorem Hw(T:CT):T.zs.length=T.flat.length:=(b_ (as:=T.zs) Prod.fst).symm.trans (congrArg List.length (Aj T).f)
theorem Au{W D:Nat}{h:Hp}{T:CT}{x:Tok}{ts:List Tok}(ok:T.ok)(fl:ts=T.flat++[x])(len:ts.length<=400000)(hW:400000<W)(hD:12+wt ts<=D):ι prog W D .cV [.list (ts.map Tok.lv),.list (fE T.cI),.int 0,.int ((ts.length:Nat) - 1)] h=some (.ret T.val h):=by
 subst fl
 rw[Θ,show((T.flat.length+[x].length:Nat):Int) - 1=T.flat.length from i9 _ 1]
 have hl:T.zs.length<=400000:=Hw T▸η (Θ▸aP ..) len
 exact(S_ (W:=W) (h:=h) Tb hl (aX hl hW) T).1 ok (g9 hD).1 ⟨[],(ck _).symm⟩ ((bR _).trans (Hw T))
section
variable{α:Type}{P:α->Prop}
theorem ei{b:Bool}{x y:α}(hx:P x)(hy:P y):P (bif b then x else y):=by cases b<;>assumption
theorem je{c:Prop}[Decidable c]{x y:α}(hx:P x)(hy:P y):P (if c then x else y):=by
 by_cases h:c
 ·rw[if_pos h];exact hx
 ·rw[if_neg h];exact hy
end
noncomputable def kP(w:List Nat):Prop:=w≠[]
theorem g_(w t:List Nat):kP (cE w t):=List.append_ne_nil_of_right_ne_nil _ (List.cons_ne_nil _ _)
theorem Hx(s t:List Nat):kP (kE s t):=List.append_ne_nil_of_right_ne_nil _ (List.append_ne_nil_of_right_ne_nil _ (List.cons_ne_nil _ _))
noncomputable def SC.ne:SC->Prop
 |.bad w=>kP w
 |_=>True
noncomputable def TO.ne:TO->Prop
 |.stop w=>kP w
 |_=>True
section
variable{t:List Nat}{pre r:List Tok}{x:Tok}{w:Bool}{H:List Hd}
theorem Av:kP (l9 t pre x):=ei (g_ _ _) (ei (g_ _ _) (ei (g_ _ _) (ei (g_ _ _) (ei (g_ _ _) (g_ _ _)))))
theorem Aw:kP (jM t x r):=ei (g_ _ _) (ei (g_ _ _) (ei (g_ _ _) (ei (Hx _ _) (g_ _ _))))
theorem tF:(ee t x r H).ne:=match H with
 |[]|.par::_|.call::_=>Aw
 |.q::_=>je (P:=kP) (g_ _ _) Aw
 |.colon::[]|.colon::.par::_|.colon::.call::_=>je (P:=kP) (g_ _ _) Aw
 |.colon::.q::_|.colon::.colon::_=>trivial
theorem Tc{k:List Hd->TO}{n:TO}(hk:∀H,(k H).ne)(hn:n.ne):(zC k n H).ne:=by
 cases H with
 |nil=>exact hn
 |cons d H=>cases d<;>first|exact hn|exact hk _
theorem Td{k:List Hd->TO}{n:TO}(hk:∀H,(k H).ne)(hn:n.ne):(zD k n H).ne:=by
 cases H with
 |nil=>exact hn
 |cons d H=>cases d<;>first|exact hn|exact hk _
theorem Te{k:List Hd->TO}{n:TO}(hk:∀H,(k H).ne)(hn:n.ne):(zE k n H).ne:=by
 cases H with
 |nil=>exact hk _
 |cons d H=>exact hn
theorem Tf:(jO t pre x r w H).ne:=by
 refine ei ?_ ?_
 ·cases x.k with
  |op=>exact je trivial Av
  |wd s=>exact je (P:=TO.ne) trivial (je (P:=TO.ne) (Hx s t) trivial)
  |rp=>exact je (by cases H<;>trivial) Av
  |cm|fin=>exact Av
  |_=>trivial
 ·cases x.k with
  |op=>exact je trivial (je trivial tF)
  |rp=>exact Tc (k:=λH=>.go false H [.aZ]) (λ_=>trivial) tF
  |cm=>exact Td (k:=λH=>.go true H [.dm]) (λ_=>trivial) tF
  |fin=>exact Te (k:=λH=>.go false H []) (λ_=>trivial) tF
  |_=>exact tF
end
theorem Tg(t:List Nat)(rest:List Tok):∀{pre:List Tok} {w:Bool} {H:List Hd},(gZ t pre rest w H).ne:=by
 induction rest with
 |nil=>exact trivial
 |cons x r ih=>
  intro pre w H
  have n:=Tf (t:=t) (pre:=pre) (x:=x) (r:=r) (w:=w) (H:=H)
  show((jO t pre x r w H).run _).ne
  generalize jO t pre x r w H=o at n
  cases o with
  |none=>trivial
  |stop=>exact n
  |go w H ro=>
   have n:=ih (pre:=x::pre) (w:=w) (H:=H)
   show((gZ t (x::pre) r w H).app ro).ne
   generalize gZ t (x::pre) r w H=s at n
   cases s<;>exact n
theorem Th{C:Δ}{W:Nat}{h:Hp}{t w:List Nat}{T:V}(lx:C .mL [.str t] h=some (.ret (.tup [T,.str w]) h))(hw:kP w):π (θ C W Prog.j4.body [.v (.str t),.un,.un,.un] h)=some (.ret (kH w) h):=ga λκ=>κ _ lx _ rfl _ (sF hw) _ rfl _ (b8 (sF hw))
theorem Ti{W D B:Nat}{h:Hp}{t:List Nat}{ts:List Tok}{r:V}(T:Gk ts B)(hl:t.length<=700000)(hW:400000<W)(hD:12+B<=D)(lt:ι prog W D .mL [.str t] h=some (.ret (.tup [.list (ts.map Tok.lv),.str []]) h))(to:Told t ts r):ι prog W (D+1) .j4 [.str t] h=some (.ret r h):=by
 refine(ω (ρ:=[.v (.str t),.un,.un,.un]) rfl).trans ?_
 obtain⟨D,rfl⟩:∃D',D=D'+4:=dn hD
 have sc:=Sm (W:=W) (D:=D+3) (h:=h) T.ok T.en hl T.len (ai ..)
 have ne:=Tg t ts (pre:=[]) (w:=true) (H:=[])
 cases to with
 |bad w s q=>
  rw[s]at sc ne
  obtain⟨u,sc⟩:=sc
  rw[q];exact ga λκ=>κ _ lt _ rfl _ rfl _ sc _ rfl _ (b8 (sF ne))
 |ok T1 x ok fl s q=>
  rw[s]at sc
  rw[q];exact ga λκ=>κ _ lt _ rfl _ rfl _ sc _ rfl _ rfl _ rfl _ (Eq.trans (by rw[b_]) (Au ok fl T.len hW (η (az T.wt 12) hD)))
end
section
noncomputable def Ax(v:V):List Nat:=bif v.eqv vE then[123,97,32,98,125]else bif v.eqv vF then[34,97,36,118,34]else bif v.eqv vG then[91,102,32,49,93]else[36,123,118,125]
noncomputable def jS:TK->List Nat
 |.num n=>gC n.toNat
 |.wd s=>[123]++s++[125]
 |.txt s=>[123]++s++[125]
 |.b4 v=>Ax v
 |_=>[]
noncomputable def CT.wr:CT->List Nat
 |.leaf x=>jS x.k
 |.un x a=>[40]++nm x++a.wr++[41]
 |.par _ a _=>a.wr
 |.dJ w _ _=>nm w++[40]++[]++[41]
 |.call w _ a _=>nm w++[40]++a.wr++[41]
 |.bin x a b=>[40]++a.wr++[32]++nm x++[32]++b.wr++[41]
 |.b5 _ a m _ b=>[40]++a.wr++[63]++m.wr++[58]++b.wr++[41]
 |.last a=>a.wr
 |.more a _ b=>a.wr++[44,32]++b.wr
section
variable{C:Δ}{W:Nat}{h:Hp}{v a b c:V}{s w x y z:List Nat}{n:Int}
noncomputable def kQ(v:V):Loc:=[.v v,.un,.un]
theorem Tj(hb:k8 .str (.int n)=some (.str w)):π (θ C W Prog.bH.body (kQ (FQ n)) h)=some (.ret (.str w) h):=ga λκ=>κ _ aM _ rfl _ rfl _ bB _ hb
theorem Ay(l:([123]++s++[125]).length<=af):π (θ C W Prog.bH.body (kQ (l_ s)) h)=some (.ret (.str ([123]++s++[125])) h):=ga λκ=>κ _ aM _ rfl _ rfl _ rfl _ rfl _ bB _ (bq (av l)) _ (bq l)
theorem Tp(l:([40]++s++x++[41]).length<=af)(ca:C .bH [a] h=some (.ret (.str x) h)):π (θ C W Prog.bH.body (kQ (il (.str s) a)) h)=some (.ret (.str ([40]++s++x++[41])) h):=by
 have l2:=av l
 exact ga λκ=>κ _ aM _ rfl _ rfl _ rfl _ rfl _ rfl _ rfl _ bB _ (bq (av l2)) _ oq _ ca _ (bq l2) _ (bq l)
theorem Tq(l:([40]++x++[63]++y++[58]++z++[41]).length<=af)(ca:C .bH [a] h=some (.ret (.str x) h))(cb:C .bH [b] h=some (.ret (.str y) h))(cc:C .bH [c] h=some (.ret (.str z) h)):π (θ C W Prog.bH.body (kQ (sX a b c)) h)=some (.ret (.str ([40]++x++[63]++y++[58]++z++[41])) h):=by
 have l2:=av l
 have l3:=av l2
 have l4:=av l3
 have l5:=av l4
 exact ga λκ=>κ _ aM _ rfl _ rfl _ rfl _ rfl _ rfl _ rfl _ rfl _ rfl _ rfl _ rfl _ rfl _ rfl _ rfl _ rfl _ bB _ ca _ (bq (av l5)) _ (bq l5) _ oq _ cb _ (bq l4) _ (bq l3) _ vD _ cc _ (bq l2) _ (bq l)
theorem Tr(l:([40]++x++[32]++s++[32]++y++[41]).length<=af)(ca:C .bH [a] h=some (.ret (.str x) h))(cb:C .bH [b] h=some (.ret (.str y) h)):π (θ C W Prog.bH.body (kQ (jN s a b)) h)=some (.ret (.str ([40]++x++[32]++s++[32]++y++[41])) h):=by
 have l2:=av l
 have l3:=av l2
 unfold jN
 by_cases h1:s=[38,38]
 ·rw[if_pos h1]
  rw[h1,aN ([40]++x) [32],aN ([40]++x)]at l l2 l3⊢
  exact ga λκ=>κ _ aM _ rfl _ rfl _ rfl _ rfl _ rfl _ rfl _ rfl _ rfl _ rfl _ rfl _ rfl _ bB _ ca _ (bq (av l3)) _ rfl _ rfl _ (bq l3) _ oq _ cb _ (bq l2) _ (bq l)
 ·rw[if_neg h1]
  by_cases h2:s=[124,124]
  ·rw[if_pos h2]
   rw[h2,aN ([40]++x) [32],aN ([40]++x)]at l l2 l3⊢
   exact ga λκ=>κ _ aM _ rfl _ rfl _ rfl _ rfl _ rfl _ rfl _ rfl _ rfl _ rfl _ rfl _ rfl _ rfl _ bB _ ca _ (bq (av l3)) _ rfl _ rfl _ (bq l3) _ oq _ cb _ (bq l2) _ (bq l)
  ·rw[if_neg h2]
   have l4:=av l3
   have l5:=av l4
   exact ga λκ=>κ _ aM _ rfl _ rfl _ rfl _ rfl _ rfl _ rfl _ rfl _ rfl _ oq _ ca _ (bq (av l5)) _ (bq l5) _ bB _ (bq l4) _ (bq l3) _ vD _ cb _ (bq l2) _ (bq l)
theorem Az(v0:υ v (.int 0)=some (.str gX))(lc:ν C (.comp (.loc 2) [0,2] (some (.cmp .eq (.sub (.loc 2) (.loc 0)) (.loc 1))) (.loc 0)) [.v v,.v (.str gX),.v (.dict eW)] h=some (.ok (.list [.str w]) [.v v,.v (.str gX),.v (.dict eW)] h))(ll:C .mJ [] h=some (.ret (.dict eW) h)):π (θ C W Prog.bH.body (kQ v) h)=some (.ret (.str w) h):=
 ga λκ=>κ _ v0 _ rfl _ rfl _ rfl _ rfl _ rfl _ rfl _ rfl _ rfl _ rfl _ rfl _ rfl _ rfl _ rfl _ rfl _ rfl _ rfl _ ll _ lc _ rfl
noncomputable def CG(C:Δ)(h:Hp)(vs:List V)(ws:List (List Nat)):Prop:=fq (λx h=>j8 C .none [.v x] h) (λx h=>ν C (.call .bH [.loc 0]) [.v x] h) vs h=some (ws.map V.str,h)
theorem CG.cons{vs:List V}{ws:List (List Nat)}(e:C .bH [v] h=some (.ret (.str w) h))(k:CG C h vs ws):CG C h (v::vs) (w::ws):=by
 show Option.bind (hM (fp (C .bH [v] h) _)) _=_
 rw[e]
 show Option.map _ _=_
 rw[k];rfl
theorem strs_map:∀l:List (List Nat),strsOf (l.map V.str)=some l
 |[]=>rfl
 |s::l=>congrArg (Option.map (s::·)) (strs_map l)
theorem Hy{vs:List V}{ws:List (List Nat)}(g:CG C h vs ws)(hl:vs.length<=af)(l:(s++[40]++fX [44,32] ws++[41]).length<=af):π (θ C W Prog.bH.body (kQ (qd s vs)) h)=some (.ret (.str (s++[40]++fX [44,32] ws++[41])) h):=by
 have l2:=av l
 have ce:∀{ρ:Loc},ν C (.sub (.loc 0) (.int 2)) ρ h=some (.ok (.tup vs) ρ h)->ν C (.comp (.sub (.loc 0) (.int 2)) [] .none (.call .bH [.loc 0])) ρ h=some (.ok (.list (ws.map V.str)) ρ h):=λ{ρ} e=>by
  show M.ζ (ν C (.sub (.loc 0) (.int 2)) ρ h) _=_
  rw[e]
  show(if vs.length<=af then _ else _)=_
  rw[if_pos hl]
  show M.ζ (up (fq _ _ vs h) ρ h) _=_
  rw[g];rfl
 have j:eN .join (.str [44,32]) [.list (ws.map V.str)]=some (.str (fX [44,32] ws)):=by
  show Option.bind (strsOf (ws.map V.str)) _=_
  rw[strs_map];exact cR (jK l2)
 exact ga λκ=>κ _ aM _ rfl _ rfl _ rfl _ rfl _ rfl _ rfl _ rfl _ rfl _ rfl _ rfl _ rfl _ rfl _ rfl _ rfl _ rfl _ rfl _ bB _ (bq (av l2)) rfl _ (ce rfl) _ j _ (bq l2) _ (bq l)
end
end
section
section
variable{W D:Nat}{h:Hp}
theorem iB{v:V}{w:List Nat}(e:π (θ (ι prog W D) W Prog.bH.body (kQ v) h)=some (.ret (.str w) h)):ι prog W (D+1) .bH [v] h=some (.ret (.str w) h):=(ω rfl).trans e
theorem Ts{k:TK}(hx:i_ k=true)(ok:eV k)(l:(jS k).length<=af):ι prog W (D+2) .bH [oz k] h=some (.ret (.str (jS k)) h):=by
 have ll:=Gm (W:=W) (h:=h) (D+1) (ai ..)
 cases k with
 |num n=>exact iB (Tj (if_pos ok))
 |wd s=>exact iB (Ay l)
 |txt s=>exact iB (Ay l)
 |b4 v=>exact fL (P:=λv=>ι prog W (D+2) .bH [qe v] h=some (.ret (.str (Ax v)) h)) ok ⟨iB (Ay (s:=[97,32,98]) (by decide)),iB (Az rfl rfl ll),iB (Az rfl rfl ll),iB (Az rfl rfl ll),trivial⟩
 |_=>exact absurd hx ς
noncomputable def gm(W:Nat)(h:Hp)(t:CT):Prop:=∀{D},12+wt t.flat<=D->t.wr.length<=af->ι prog W D .bH [t.val] h=some (.ret (.str t.wr) h)
noncomputable def tG(W:Nat)(h:Hp)(t:CT):Prop:=∀{D},12+wt t.flat<=D->t.wr.length<=af->∃ws,CG (ι prog W D) h t.vals ws∧fX [44,32] ws=t.wr∧ws≠[]∧t.vals.length<=t.wr.length+1
variable{t u v:CT}{x y z:Tok}
theorem Tt(ok:(CT.leaf x).ok)(f:eV x.k):gm W h (.leaf x):=λ{D} hD l=>by
 obtain⟨D,rfl⟩:=dn hD
 exact Ts ok f l
theorem Tu(ok:(CT.un x t).ok)(ih:gm W h t):gm W h (.un x t):=λ{D} hD l=>by
 obtain⟨D,rfl,h1⟩:=qL (c:=2) (m:=wt t.flat) (congrArg (· +wt t.flat) (congrArg g6 (oB ok.1))) hD
 have e:x.k.d4=.str (nm x):=congrArg TK.d4 (oB ok.1)
 exact iB ((congrArg (λv=>π (θ _ _ _ (kQ (il v t.val)) h)) e).trans (Tp l (ih (bW h1) (jK (av l)))))
theorem Tv:gm W h (.dJ x y z):=λ{D} hD l=>by
 obtain⟨D,rfl⟩:=dn hD
 exact iB (Hy (ws:=[]) rfl (bC _) l)
theorem Tw(ok:(CT.call x y t z).ok)(ih:tG W h t):gm W h (.call x y t z):=λ{D} hD l=>by
 obtain⟨D,rfl,h1⟩:=qL (c:=4) (m:=wt (t.flat++[z])) ((congrArg (· +wt (y::(t.flat++[z]))) (congrArg g6 ok.1)).trans ((bR _).trans (congrArg (· +wt (t.flat++[z])) (congrArg g6 ok.2.1)))) hD
 obtain⟨ws,g,j,_,b⟩:=ih (Nat.le_add_right_of_le (k:=3) (g9 h1).1) (jK (av l))
 refine iB ((Hy g ?_ (j▸l)).trans (by rw[j];rfl))
 exact η b (η (η (Ψ (aQ ..)) (dG (ai 1 (nm x).length) (ξ t.wr.length))) (η (Ψ (by rw[Θ,Θ];rfl)) (av l)))
theorem Tz(ok:(CT.bin x t u).ok)(it:gm W h t)(iu:gm W h u):gm W h (.bin x t u):=λ{D} hD l=>by
 obtain⟨D,rfl,h1,h2⟩:=wu ok.1 hD
 exact iB (Tr l (it (bW h1) (jK (av (av (av (av (av l))))))) (iu (bW h2) (jK (av l))))
theorem TA(ok:(CT.b5 x t u y v).ok)(it:gm W h t)(iu:gm W h u)(iv:gm W h v):gm W h (.b5 x t u y v):=λ{D} hD l=>by
 obtain⟨D,rfl,h1,h2⟩:=wu ok.1 hD
 exact iB (Tq l (it (bW h1) (jK (av (av (av (av (av l))))))) (iu (bW (g9 h2).1) (jK (av (av (av l))))) (iv (bW (g9 h2).2) (jK (av l))))
theorem TB(ih:gm W h t):tG W h (.last t):=λ{D} hD l=>⟨[t.wr],CG.cons (ih hD l) rfl,rfl,List.cons_ne_nil _ _,ai 1 t.wr.length⟩
theorem TC(ih:gm W h t)(iu:tG W h u):tG W h (.more t x u):=λ{D} hD l=>by
 obtain⟨ws,g,j,n,b⟩:=iu (g9 hD).2 (jK l)
 refine⟨t.wr::ws,CG.cons (ih (g9 hD).1 (av (av l))) g,?_,List.cons_ne_nil _ _,?_⟩
 ·cases ws with
  |nil=>exact absurd rfl n
  |cons w ws=>exact congrArg (t.wr++[44,32]++·) j
 ·exact Nat.succ_le_succ (η b (η (η (Ψ (aQ ..)) (dG (show 1<=(t.wr++[44,32]).length by rw[Θ];exact ai ..) (ξ u.wr.length))) (Ψ Θ.symm)))
theorem written(t:CT):(t.ok->(∀x∈t.flat,eV x.k)->gm W h t)∧(t.ja->(∀x∈t.flat,eV x.k)->tG W h t):=by
 induction t with
 |leaf x=>exact⟨λok f=>Tt ok (f x (c9 ..)),False.elim⟩
 |un x a a1=>exact⟨λok f=>Tu ok (a1.1 ok.2.1 λy m=>f y (.tail _ m)),False.elim⟩
 |par l a r a1=>exact⟨λok f {D} hD=>a1.1 ok.2.1 (λy m=>f y (.tail _ (cU _ m))) (g9 (qi hD)).1,False.elim⟩
 |dJ w l r=>exact⟨λ_ _=>Tv,False.elim⟩
 |call w l a r a1=>exact⟨λok f=>Tw ok (a1.2 ok.2.2.1 λy m=>f y (.tail _ (.tail _ (cU _ m)))),False.elim⟩
 |bin x a b a1 b1=>exact⟨λok f=>Tz ok (a1.1 ok.2.2.1 λy m=>f y (cU _ m)) (b1.1 ok.2.2.2.1 λy m=>f y (cS _ (.tail _ m))),False.elim⟩
 |b5 q a m c b a1 m1 b1=>exact⟨λok f=>TA ok (a1.1 ok.2.1 λy m=>f y (cU _ m)) (m1.1 ok.2.2.2.1 λy m=>f y (cS _ (.tail _ (cU _ m)))) (b1.1 ok.2.2.2.2.2 λy m=>f y (cS _ (.tail _ (cS _ (.tail _ m))))),False.elim⟩
 |last a a1=>exact⟨False.elim,λok f=>TB (a1.1 ok f)⟩
 |more a c b a1 b1=>exact⟨False.elim,λok f=>TC (a1.1 ok.1 λy m=>f y (cU _ m)) (b1.2 ok.2.2 λy m=>f y (cS _ (.tail _ m)))⟩
end
end
structure Tk (l:List Nat) (k:TK) (m:Nat):Prop where
 s:bZ l=0
 t:eS l=.tok k m
 p:1<=m
 le:m<=l.length
theorem Tk.lx{s r:List Nat}{k:TK}{p:Nat}{x:LX}(t:Tk (s++r) k s.length)(g:Lx (p+s.length) r x):Lx p (s++r) (x.cons ⟨k,p,s.length⟩):=.tok k s.length t.s t.t t.p t.le (by rw[List.drop_left];exact g)
structure Dl (r:List Nat):Prop where
 rn:runN r=0
 fl:eR r=false
 bc:aU (r.take 1)=0
 dg:∀b,Ξ b r=false
theorem TF:Dl []:=⟨rfl,rfl,rfl,λ_=>rfl⟩
theorem mB{c:Nat}{u:List Nat}(h:c∈[32,63,41,44]):Dl (c::u):=fL (P:=λc=>Dl (c::u)) h ⟨⟨by cases u<;>rfl,rfl,rfl,λ_=>rfl⟩,⟨by cases u<;>rfl,rfl,rfl,λ_=>rfl⟩,⟨by cases u<;>rfl,rfl,rfl,λ_=>rfl⟩,⟨by cases u<;>rfl,rfl,rfl,λ_=>rfl⟩,trivial⟩
theorem TG{d:Nat}{u:List Nat}(h:¬d=58):Dl (58::d::u):=⟨(jI u rfl).trans (if_neg λq=>h q.2),rfl,rfl,λ_=>rfl⟩
theorem TH{c:Nat}(h:au c=true):ey c=false∧¬c=92∧¬c=35∧c∉[36,91,34,123,40,41,44]:=(by decide+kernel:∀c<128,au c=true->ey c=false∧¬c=92∧¬c=35∧c∉[36,91,34,123,40,41,44]) c (qz h) h
theorem AB{c:Nat}{r:List Nat}{k:TK}{m:Nat}(hc:au c=true)(e:fA (c::r)=.tok k m)(p:1<=m)(le:m<=(c::r).length):Tk (c::r) k m:=
 have f:=TH hc
 ⟨iy f.1 f.2.1 f.2.2.1,(Ac f.2.2.2).trans e,p,le⟩
theorem TJ{b:Int}{r:List Nat}(hr:Ξ b r=false)(u:List Nat)(hu:∀c∈u,Ξ b [c]=true):aa b (u++r)=u.length∧∀v,bJ b (u++r) v=bJ b u v:=by
 induction u with
 |nil=>
  cases r with
  |nil=>exact⟨rfl,λ_=>rfl⟩
  |cons c r=>exact⟨jP hr,λ_=>tc hr⟩
 |cons c u ih=>
  have q:=hu c (c9 ..)
  have ih:=ih λc m=>hu c (.tail _ m)
  exact⟨(jb (r:=u++r) q).trans (congrArg (· +1) ih.1),λv=>(kL (r:=u++r) q).trans ((ih.2 _).trans (kL (r:=u) q).symm)⟩
theorem TL{c:Nat}(hc:Ξ 10 [c]=true)(u:List Nat)(hu:∀c∈u,Ξ 10 [c]=true):∀v,bJ 10 (u++[c]) v=bJ 10 u v*10+aL c:=by
 induction u with
 |nil=>exact λv=>kL hc
 |cons d u ih=>
  have q:=hu d (c9 ..)
  exact λv=>(kL (r:=u++[c]) q).trans ((ih (λc m=>hu c (.tail _ m)) _).trans (congrArg (· *10+aL c) (kL (r:=u) q).symm))
theorem Hz:∀d<10,Ξ 10 [(Nat.digitChar d).toNat]=true∧aL (Nat.digitChar d).toNat=(d:Nat):=by decide+kernel
theorem HA(n:Nat):(∀c∈gC n,Ξ 10 [c]=true)∧gC n≠[]∧bJ 10 (gC n) 0=(n:Nat):=by
 induction n using Nat.strongRecOn with
 |_ n ih=>
  unfold gC at ih⊢
  rw[Nat.toDigits_eq_if (by decide)]
  by_cases h:n<10
  ·rw[if_pos h]
   have f:=Hz n h
   exact⟨λc m=>jV.mp m▸f.1,List.cons_ne_nil _ _,(kL (r:=[]) f.1).trans ((Int.zero_add _).trans f.2)⟩
  ·rw[if_neg h,fc]
   have i:=ih (n/10) (Nat.div_lt_self (d6 (by decide) (Nat.not_lt.mp h)) (by decide))
   have f:=Hz (n%10) (Nat.mod_lt n (by decide))
   refine⟨λc m=>(List.mem_append.mp m).elim (i.1 c) λm=>jV.mp m▸f.1,List.append_ne_nil_of_right_ne_nil _ (List.cons_ne_nil _ _),(TL f.1 _ i.1 0).trans ?_⟩
   rw[i.2.2,f.2]
   exact congrArg Nat.cast ((congrArg (· +n%10) (Nat.mul_comm ..)).trans (Nat.div_add_mod n 10))
theorem HB{l tl:List Nat}{off n:Nat}{b:Int}(hn:off+aa b (l.drop off)=n)(ht:l.drop n=tl):n9 l off b=if off=0∧eR tl=true then .bad f7 else if ec tl=true then .tok (.wd (l.take (n+runN tl))) (n+runN tl)else .tok (.num (bJ b (l.drop off) 0)) n:=by rw[<-ht,<-hn];rfl
theorem TM(n:Nat){r:List Nat}(h:Dl r):Tk (gC n++r) (.num n) (gC n).length:=by
 obtain⟨hu,ne,val⟩:=HA n
 generalize gC n=u at hu ne val
 obtain⟨c,u,rfl⟩:=List.exists_cons_of_ne_nil ne
 have hc:=hu c (c9 ..)
 have f:=TJ (h.dg 10) (c::u) hu
 have mk:bV (c::u++r)=false:=eP (aF (dF (by
  rw[show aU ((((c::u)++r).drop 1).take 1)=0 from match u,hu with
   |[],_=>h.bc
   |d::_,hu=>(by decide+kernel:∀d<128,Ξ 10 [d]=true->aU [d]=0) d (qz (kK (hu d (.tail _ (.head _))))) (hu d (.tail _ (.head _)))]
  exact Int.lt_irrefl 0)))
 refine AB (kK hc) ((qx (r:=u++r) (kK hc)).trans ((if_pos hc).trans ((if_neg (by rw[show bV (c::(u++r))=false from mk];exact ς)).trans ((HB (l:=(c::u)++r) (n:=(c::u).length) ((bR _).trans f.1) List.drop_left).trans ((if_neg λq=>ς (h.fl.symm.trans q.2)).trans ((if_neg (by unfold ec;rw[h.rn];exact ς)).trans (congrArg (λi=>LR.tok (.num i) _) ((f.2 0).trans val)))))))) (ai ..) ?_
 show(c::u).length<=((c::u)++r).length
 rw[Θ];exact aP ..
theorem TN{s r:List Nat}(k:oh (s++125::r)=some s):eS (123::(s++125::r))=.tok (.txt s) (s.length+2):=(show eS (123::(s++125::r))=(oh (s++125::r)).elim .none λw=>.tok (.txt w) (w.length+2)from rfl).trans (by rw[k];rfl)
theorem TP{s:List Nat}(h:lX s)(r:List Nat):Tk ([123]++s++[125]++r) (.txt s) ([123]++s++[125]).length:=by
 have k:oh (s++125::r)=some s:=by
  induction s with
  |nil=>rfl
  |cons c s ih=>
   have hc:=h c (c9 ..)
   exact(if_neg hc.2.1).trans ((if_neg λq=>q.elim hc.1 hc.2.2).trans (congrArg (Option.map (c::·)) (ih λx m=>h x (.tail _ m))))
 rw[Θ,show[123]++s++[125]++r=123::(s++125::r)from aN ([123]++s) [125] r]
 exact⟨iy rfl (by decide) (by decide),TN k,ai ..,Nat.succ_le_succ (show s.length+1<=(s++125::r).length by rw[Θ];exact az (ai 1 r.length) _)⟩
theorem kR{c:Nat}{r:List Nat}{k:TK}(b:ey c=false)(n1:¬c=92)(n2:¬c=35)(t:eS (c::r)=.tok k 1):Tk ([c]++r) k 1:=⟨iy b n1 n2,t,ξ 1,Nat.succ_le_succ (bC _)⟩
theorem tH{r:List Nat}:Tk ([40]++r) .lp 1:=kR rfl (by decide) (by decide) rfl
theorem tI{r:List Nat}:Tk ([41]++r) .rp 1:=kR rfl (by decide) (by decide) rfl
theorem TQ{r:List Nat}:Tk ([44]++r) .cm 1:=kR rfl (by decide) (by decide) rfl
theorem TS{r:List Nat}:Tk ([63]++r) (.op [63]) 1:=kR rfl (by decide) (by decide) rfl
theorem TU{r:List Nat}:Tk ([58]++r) (.op [58]) 1:=kR rfl (by decide) (by decide) rfl
theorem TV{s:List Nat}(h:oy s=true){d:Nat}(hd:¬d=61){r:List Nat}:Tk (s++d::r) (.op s) s.length:=by
 have k3:eS (33::d::r)=.tok (.op [33]) 1:=by
  have o:ed (33::d::r)=[33]:=by
   rw[GH,show dB ((33::d::r).take 2)=(([33,61]==[33,d])||[[38,38],[124,124]].any (· ==[33,d]))from rfl,beq_eq_false_iff_ne.mpr λe=>hd (List.cons.inj (List.cons.inj e).2).1.symm]
   rfl
  exact(Ac (by decide)).trans ((if_pos (by rw[o];exact List.cons_ne_nil _ _)).trans (by rw[o];rfl))
 have el:=λ{p q:Bool} (h:(p||q)=true)=>e_.mp h
 exact(el h).elim (λe=>eq_of_beq e▸kR rfl (by decide) (by decide) rfl) λh=>(el h).elim (λe=>eq_of_beq e▸kR rfl (by decide) (by decide) rfl) λh=>(el h).elim (λe=>eq_of_beq e▸kR rfl (by decide) (by decide) rfl) λh=>(el h).elim (λe=>eq_of_beq e▸kR rfl (by decide) (by decide) k3) λh=>absurd h ς
theorem TX{s:List Nat}(h:2<=lvl s)(r:List Nat):Tk (s++32::r) (.op s) s.length:=by
 have k:∀s,[]≠s∧bZ (s++32::r)=0∧eS (s++32::r)=.tok (.op s) s.length->Tk (s++32::r) (.op s) s.length:=λs q=>
  ⟨q.2.1,q.2.2,List.length_pos_iff.mpr q.1.symm,by rw[Θ];exact aP ..⟩
 have sg:∀{c u},ey c=false->¬c=92->¬c=35->eS (c::(u++32::r))=.tok (.op (c::u)) (c::u).length->Tk (c::u++32::r) (.op (c::u)) (c::u).length:=λb n1 n2 t=>k _ ⟨(List.cons_ne_nil _ _).symm,iy b n1 n2,t⟩
 have wd:∀{c d},au c=true->au d=true->Ξ 10 [c]=false->dH [c,d]=true->Tk ([c,d]++32::r) (.op [c,d]) 2:=λ{c d} hc hd n w=>by
  have rn:runN (c::d::32::r)=2:=by rw[cQ _ hc,cQ _ hd,(mB (u:=r) (.head _)).rn]
  have e:=(qx (r:=d::32::r) hc).trans (if_neg λq=>ς (n.symm.trans q))
  rw[rn,show(c::d::32::r).take 2=[c,d]from rfl,if_pos w]at e
  exact AB hc e (by decide) (ai 2 (r.length+1))
 have m:=qq (s:=s) (d6 (by decide) h)
 exact fL (P:=λp=>2<=p.2->Tk (p.1++32::r) (.op p.1) p.1.length) m ⟨λh=>absurd h (by decide),λ_=>sg rfl (by decide) (by decide) rfl,λ_=>sg rfl (by decide) (by decide) rfl,λ_=>sg rfl (by decide) (by decide) rfl,λ_=>sg rfl (by decide) (by decide) rfl,λ_=>sg rfl (by decide) (by decide) rfl,λ_=>sg rfl (by decide) (by decide) rfl,λ_=>sg rfl (by decide) (by decide) rfl,
  λ_=>wd rfl rfl rfl rfl,λ_=>wd rfl rfl rfl rfl,λ_=>wd rfl rfl rfl rfl,λ_=>wd rfl rfl rfl rfl,λ_=>sg rfl (by decide) (by decide) rfl,λ_=>sg rfl (by decide) (by decide) rfl,λ_=>sg rfl (by decide) (by decide) rfl,λ_=>sg rfl (by decide) (by decide) rfl,λ_=>wd rfl rfl rfl rfl,λ_=>wd rfl rfl rfl rfl,λ_=>wd rfl rfl rfl rfl,λ_=>wd rfl rfl rfl rfl,
  λ_=>sg rfl (by decide) (by decide) rfl,λ_=>sg rfl (by decide) (by decide) rfl,λ_=>sg rfl (by decide) (by decide) rfl,λ_=>sg rfl (by decide) (by decide) rfl,λ_=>sg rfl (by decide) (by decide) rfl,λ_=>sg rfl (by decide) (by decide) rfl,λ_=>sg rfl (by decide) (by decide) rfl,λ_=>sg rfl (by decide) (by decide) rfl,trivial⟩ h
theorem HC{b:Int}{x:List Nat}(hx:Ξ b x=false):∀u:List Nat,aa b (u++x)=aa b u
 |[]=>match x,hx with
  |[],_=>rfl
  |_::_,hx=>jP hx
 |c::u=>by
  cases q:Ξ b (c::u)with
  |true=>exact(jb (r:=u++x) q).trans ((congrArg (· +1) (HC hx u)).trans (jb q).symm)
  |false=>exact(jP (r:=u++x) q).trans (jP q).symm
noncomputable def AD:List Nat->Bool
 |[]=>false
 |c::r=> !([c]==[58])&& !dH (c::r)
theorem TY{x:List Nat}:∀{u:List Nat},runN (u++x)=u.length->ec (u++x)=AD u
 |[],h=>by unfold ec;rw[h];rfl
 |c::u,h=>by unfold ec;rw[h,List.take_left,dT (show 0<(c::u).length from gu _)];rfl
noncomputable def HD(s:List Nat)(off n:Nat)(x:List Nat):Prop:=∃z,n_ (s++x)=if off=0∧eR (s.drop n++x)=true then .bad f7 else if AD (s.drop n)=true then .tok (.wd s) s.length else .tok (.num z) n
theorem TZ(s:List Nat):∃off n,∀x,runN (s++x)=s.length->(∀b,Ξ b x=false)->HD s off n x:=by
 have k:∀off b,off<=s.length->∀x,(∀b,Ξ b x=false)->runN (s++x)=s.length->runN (s++x)=off+runN ((s++x).drop off)->n_ (s++x)=n9 (s++x) off b->HD s off (off+aa b (s.drop off)) x:=λoff b le x hx hr ho e=>by
  have d:(s++x).drop off=s.drop off++x:=List.drop_append_of_le_length le
  have fl:=(oJ b (s.drop off)).1
  have f:aa b ((s++x).drop off)=aa b (s.drop off):=d▸HC (hx b) _
  have nl:off+aa b (s.drop off)<=s.length:=η (az fl off) (by rw[cY,Nat.add_sub_cancel' le];exact ξ _)
  have d2:(s++x).drop (off+aa b (s.drop off))=s.drop (off+aa b (s.drop off))++x:=List.drop_append_of_le_length nl
  have rn:runN (s++x)=off+aa b (s.drop off)+runN ((s++x).drop (off+aa b (s.drop off))):=by
   rw[<-cA,aA,<-f,<-ta _ _ (oJ b _).1 (oJ b _).2];exact ho
  have rt:runN (s.drop (off+aa b (s.drop off))++x)=(s.drop (off+aa b (s.drop off))).length:=by rw[cY,<-d2,<-hr,rn,dN]
  refine⟨bJ b ((s++x).drop off) 0,e.trans ((HB (n:=off+aa b (s.drop off)) (congrArg (off+·) f) d2).trans ?_)⟩
  rw[TY rt,<-d2,<-rn,hr,List.take_left]
 cases m:bV s with
 |false=>
  refine⟨0,0+aa 10 (s.drop 0),λx hr hx=>k 0 10 (bC _) x hx hr (bR _).symm (if_neg ?_)⟩
  rw[<-v_,hr,List.take_left,m];exact ς
 |true=>
  have ms:=(oK m).2.2
  have sl:3<=s.length:=η ms (qu s)
  refine⟨2,2+aa (aU ((s.drop 1).take 1)) (s.drop 2),λx hr hx=>?_⟩
  have mk:bV (s++x)=true:=by rw[<-v_,hr,List.take_left,m]
  have mr:=oK mk
  refine k 2 _ (iE sl) x hx hr (ta 2 _ mr.2.1 mr.1) ((if_pos mk).trans ?_)
  rw[List.drop_append_of_le_length (iE (iE sl)),List.take_append_of_le_length (by rw[cY];exact Nat.le_sub_of_add_le (iE sl))]
theorem T7{u v r:List Nat}(hc:∀c∈u,au c=true∨c=58)(hu:u≠[])(h:eR (u++40::r)=true):eR (u++v)=true:=by
 have HE:∀c,(au c=true∨c=58)->([c]==[46])=false∧i6 [c]=false:=λc h=>h.elim (λh=>(by decide+kernel:∀c<128,au c=true->([c]==[46])=false∧i6 [c]=false) c (qz h) h) λe=>e▸⟨rfl,rfl⟩
 match u,hc,hu with
 |a::u,hc,_=>
  have ha:=(HE a (hc a (c9 ..))).1
  show(bif [a]==[46]then true else bif !([a]==[101])&& !([a]==[69])then false else Ξ 10 ((a::(u++v)).drop (bif i6 ((u++v).take 1)then 2 else 1)))=true
  have h:(bif [a]==[46]then true else bif !([a]==[101])&& !([a]==[69])then false else Ξ 10 ((a::(u++40::r)).drop (bif i6 ((u++40::r).take 1)then 2 else 1)))=true:=h
  rw[ha]at h⊢
  cases e:(!([a]==[101])&& !([a]==[69]))with
  |true=>rw[e]at h;exact h
  |false=>
   rw[e]at h
   match u,hc with
   |[],_=>exact absurd h ς
   |b::u,hc=>
    have hb:=(HE b (hc b (.tail _ (.head _)))).2
    have h:Ξ 10 ((a::b::(u++40::r)).drop (bif i6 [b]then 2 else 1))=true:=h
    show Ξ 10 ((a::b::(u++v)).drop (bif i6 [b]then 2 else 1))=true
    rw[hb]at h⊢;exact h
theorem HF{b:Int}{c:Nat}{r:List Nat}(h:au c=false):Ξ b (c::r)=false:=Bool.eq_false_iff.mpr λq=>ς (h.symm.trans (kK q))
theorem AE(b:Int):∀l:List Nat,Ξ b (l.drop (runN l))=false
 |[]=>rfl
 |[c]=>by
  cases w:au c with
  |true=>rw[cQ _ w];rfl
  |false=>rw[show runN [c]=0 from if_neg (by rw[w];exact ς)];exact HF w
 |c::d::r=>by
  cases w:au c with
  |true=>rw[cQ _ w];exact AE b (d::r)
  |false=>
   rw[jI r w]
   by_cases q:c=58∧d=58
   ·rw[if_pos q,aQ];exact AE b r
   ·rw[if_neg q];exact HF w
theorem wx(r:List Nat):runN (40::r)=0:=by cases r<;>rfl
theorem AF(r:List Nat):∀l:List Nat,runN (l.take (runN l)++40::r)=runN l
 |[]=>wx r
 |[c]=>by
  cases w:au c with
  |true=>rw[cQ _ w];exact(cQ (40::r) w).trans (congrArg (· +1) (wx r))
  |false=>rw[show runN [c]=0 from if_neg (by rw[w];exact ς)];exact wx r
 |c::d::l=>by
  cases w:au c with
  |true=>rw[cQ _ w];exact(cQ ((d::l).take (runN (d::l))++40::r) w).trans (congrArg (· +1) (AF r (d::l)))
  |false=>
   rw[jI l w]
   by_cases q:c=58∧d=58
   ·rw[if_pos q,aQ];exact(jI (l.take (runN l)++40::r) w).trans ((if_pos q).trans ((congrArg (2+·) (AF r l)).trans (aQ ..)))
   ·rw[if_neg q];exact wx r
theorem HG{s:List Nat}(h:wb s)(r:List Nat):Tk (s++40::r) (.wd s) s.length:=by
 obtain⟨c,u,hc,e,sk⟩:=h
 have sl:=(congrArg List.length e).trans (te (c::u))
 have ev:c::u=s++(c::u).drop (runN (c::u)):=by rw[e,fJ]
 have rp:runN (s++40::r)=s.length:=by rw[e,AF,te]
 have e2:s=c::u.take (runN u):=by rw[e,cQ u hc];rfl
 have ch:=mh (c::u)
 rw[<-e]at ch
 rw[<-sl]at sk
 have l1:1<=s.length:=by rw[e2];exact gu _
 have go:∀x,x=s++40::r->fA x=.tok (.wd s) s.length->Tk (s++40::r) (.wd s) s.length:=λx ex q=>by
  subst ex
  rw[e2]at q⊢
  exact AB hc q (gu _) (η (aP ..) (Ψ (Θ (as:=c::u.take (runN u)) (bs:=40::r)).symm))
 refine go _ rfl ?_
 have w1:=qx (r:=u) hc
 have w2:=qx (r:=u.take (runN u)++40::r) hc
 rw[show c::(u.take (runN u)++40::r)=s++40::r by rw[e2];rfl]at w2
 rw[sk]at w1
 cases d:Ξ 10 [c]with
 |false=>
  rw[if_neg (by rw[show Ξ 10 (c::u)=false from d];exact ς),<-e,<-sl]at w1
  rw[if_neg (by rw[show Ξ 10 (s++40::r)=false by rw[e2];exact d];exact ς),rp,List.take_left]at w2
  exact w2.trans w1.symm
 |true=>
  rw[if_pos (show Ξ 10 (c::u)=true from d),ev]at w1
  rw[if_pos (show Ξ 10 (s++40::r)=true by rw[e2];exact d)]at w2
  obtain⟨off,n,k⟩:=TZ s
  obtain⟨z1,k1⟩:=k _ (by rw[<-ev,sl]) λb=>AE b (c::u)
  obtain⟨z2,k2⟩:=k (40::r) rp λ_=>rfl
  rw[k1]at w1
  rw[w2,k2]
  by_cases f:off=0∧eR (s.drop n++(c::u).drop (runN (c::u)))=true
  ·rw[if_pos f]at w1;exact nomatch w1
  ·rw[if_neg f]at w1
   cases t:AD (s.drop n)with
   |false=>rw[t,if_neg ς]at w1;exact nomatch w1
   |true=>rw[if_neg λq=>f ⟨q.1,T7 (λc m=>ch c (List.mem_of_mem_drop m)) (λq=>by rw[q]at t;exact nomatch t) q.2⟩,if_pos rfl]
section
structure Lf (k k':TK):Prop where
 op:i_ k'=true
 nw:lZ k'=false
 v:oz k'=oz k
 ok:eV k'
 w:g6 k'=0
 tk:∀r,Dl r->Tk (jS k++r) k' (jS k).length
 hd:∃d u,jS k=d::u∧¬d=61∧¬d=58
theorem HH{c:Nat}(h:au c=true):¬c=61∧¬c=58:=(by decide+kernel:∀c<128,au c=true->¬c=61∧¬c=58) c (qz h) h
theorem HI{k:TK}(hx:i_ k=true)(ok:eV k):∃k',Lf k k':=by
 have txt:∀{k s},lX s->s.length<=470->oz k=l_ s->jS k=[123]++s++[125]->∃k',Lf k k':=λ{k s} h l v w=>⟨.txt s,rfl,rfl,v.symm,⟨h,l⟩,rfl,λr _=>w▸TP h r,123,s++[125],w.trans (show(123::s)++[125]=_ from rfl),by decide,by decide⟩
 cases k with
 |num n=>
  have e:((n.toNat:Nat):Int)=n:=Int.toNat_of_nonneg ok.1
  obtain⟨hu,ne,_⟩:=HA n.toNat
  refine⟨.num n,rfl,rfl,rfl,ok,rfl,λr h=>e▸TM n.toNat h,?_⟩
  show∃d u,gC n.toNat=d::u∧_
  obtain⟨c,u,q⟩:=List.exists_cons_of_ne_nil ne
  exact⟨c,u,q,HH (kK (hu c (q▸c9 ..)))⟩
 |wd s=>exact txt (λc m=>(ok.1.ch c m).elim (λh=>(by decide+kernel:∀c<128,au c=true->c≠123∧c≠125∧c≠92) c (qz h) h) λe=>e▸(by decide)) ok.2 rfl rfl
 |txt s=>exact txt ok.1 ok.2 rfl rfl
 |b4 v=>
  have lf:∀{v c u},v∈zi->jS (.b4 v)=c::u->¬c=61->¬c=58->ey c=false->¬c=92->¬c=35->(∀r,eS (c::(u++r))=.tok (.b4 v) (c::u).length)->∃k',Lf (.b4 v) k':=λ{v c u} m w h1 h2 b n1 n2 t=>⟨.b4 v,rfl,rfl,rfl,m,rfl,λr _=>by rw[w];exact⟨iy b n1 n2,t r,ai ..,η (aP ..) (Ψ (Θ (as:=c::u) (bs:=r)).symm)⟩,c,u,w,h1,h2⟩
  exact fL (P:=λv=>∃k',Lf (.b4 v) k') ok ⟨txt (s:=[97,32,98]) (by unfold lX;decide) (by decide) rfl rfl,lf (.tail _ (.head _)) rfl (by decide) (by decide) rfl (by decide) (by decide) λ_=>rfl,lf (.tail _ (.tail _ (.head _))) rfl (by decide) (by decide) rfl (by decide) (by decide) λ_=>rfl,lf (.tail _ (.tail _ (.tail _ (.head _)))) rfl (by decide) (by decide) rfl (by decide) (by decide) λ_=>rfl,trivial⟩
 |_=>exact absurd hx ς
section
variable{t:List Nat}{pre r:List Tok}{x y z:Tok}{H:List Hd}
theorem T8{κ:TK}(h:i_ κ=true)(n:lZ κ=false):dC t pre x r H κ=.go false H [.leaf]:=by
 cases κ<;>first|rfl|exact absurd h ς|exact absurd n.symm ς
theorem T9(h:i_ x.k=true)(n:lZ x.k=false):SG t pre (x::r) true H [.leaf] (x::pre) r false H:=SG.of (T8 h n)
theorem AG(b:(jL pre==bP)=false)(h:x.k=.lp):SG t pre (x::r) true H [.bg] (x::pre) r true (.par::H):=SG.of ((congrArg (dC t pre x r H) h).trans (congrArg (λd=>TO.go true (d::H) [.bg]) (if_neg λq=>ς (b.symm.trans (beq_iff_eq.mpr q)))))
theorem T_{s:List Nat}(h:x.k=.op s)(u:oy s=true):SG t pre (x::r) true H [.un] (x::pre) r true H:=SG.of ((congrArg (dC t pre x r H) h).trans (if_pos u))
theorem AH(h:x.k=.rp):SG t pre (x::r) false (.par::H) [.aZ] (x::pre) r false H:=SG.of (congrArg (dw t x r (.par::H)) h)
theorem Ua(h:x.k=.rp):SG t pre (x::r) false (.call::H) [.aZ] (x::pre) r false H:=SG.of (congrArg (dw t x r (.call::H)) h)
theorem Ub{s:List Nat}(h:x.k=.op s)(l:2<=lvl s):SG t pre (x::r) false H [.bin] (x::pre) r true H:=SG.of ((congrArg (dw t x r H) h).trans ((if_pos (d6 (by decide) l)).trans (congrArg (λH=>TO.go true H [.bin]) (if_neg λq=>absurd (q▸l) (by decide)))))
theorem Uc(h:x.k=.op [63]):SG t pre (x::r) false H [.bin] (x::pre) r true (.q::H):=SG.of (congrArg (dw t x r H) h)
theorem Ud(h:x.k=.op [58]):SG t pre (x::r) false (.q::H) [.col] (x::pre) r true H:=SG.of (congrArg (dw t x r (.q::H)) h)
theorem Ue(h:x.k=.cm):SG t pre (x::r) false (.call::H) [.dm] (x::pre) r true (.call::H):=SG.of (congrArg (dw t x r (.call::H)) h)
theorem HJ{s:List Nat}(h:x.k=.wd s){a n:Nat}:SG t pre (x::⟨.lp,a,n⟩::r) true H [.call,.bg] (⟨.lp,a,n⟩::x::pre) r true (.call::H):=
 SG.tr (rs:=[.call]) (SG.of (congrArg (dC t pre x (⟨.lp,a,n⟩::r) H) h)) (SG.of (congrArg (λd=>TO.go true (d::H) [.bg]) (if_pos (congrArg TK.aq h))))
theorem Ug{s:List Nat}(h:x.k=.wd s){a n:Nat}(hz:z.k=.rp):SG t (⟨.lp,a,n⟩::x::pre) (z::r) true (.call::H) [.aZ] (z::⟨.lp,a,n⟩::x::pre) r false H:=SG.of ((congrArg (dC t (⟨.lp,a,n⟩::x::pre) z r (.call::H)) hz).trans (if_pos (show(x.k.aq==bP)=true by rw[h];rfl)))
end
end
section
theorem pl{w v r:List Nat}{p:Nat}{x:LX}(h:Lx (p+(w++v).length) r x):Lx (p+w.length+v.length) r x:=by rw[Θ,<-aA]at h;exact h
theorem AI{p:Nat}{r:List Nat}{x:LX}(h:Lx (p+1) r x):Lx p ([32]++r) x:=.skip 1 (y5 r rfl) h
theorem oS{α:Type}{a b c d:List α}:a++b++c++d=a++(b++(c++d)):=by rw[aN,aN]
theorem tJ{α:Type}{a b c d e:List α}:a++b++c++d++e=a++(b++(c++(d++e))):=(aN ..).trans oS
theorem HL{α:Type}{a b c d e f g h:List α}:a++b++c++d++e++f++g++h=a++(b++(c++(d++(e++(f++(g++h)))))):=(tJ (a:=a++b++c++d)).trans tJ
structure Al (l:List Tok):Prop where
 ok:∀y∈l,dI y
 en:gc l
theorem ac{x:Tok}{l:List Tok}(h:dI x)(n:(x.k.aq==cG)=false)(k:Al l):Al (x::l):=⟨λy m=>(dx.mp m).elim (λe=>e▸h) (k.ok y),match l,k.en with
 |_::_,e=>⟨λq=>ς (n.symm.trans (by rw[q];rfl)),e⟩⟩
structure Wr (T:CT) (p:Nat) (r:List Nat) (q:List Tok) (K:List Hd->List Hd) (U:CT) (L:List Tok):Prop where
 fl:L=U.flat++q
 lx:Lx p (T.wr++r) (.ok L)
 all:Al q->Al L
 wt:wt L<=ww T.flat+wt q
 sc:∀t pre H,(jL pre==bP)=false->∃wy,SG t pre L true (K H) U.cI wy q false (K H)
structure Uh (T U:CT):Prop where
 ok:U.ok
 mn:U.mn=13
 v:U.val=T.val
structure Ui (T U:CT):Prop where
 ok:U.ja
 v:U.vals=T.vals
noncomputable def eZ(T:CT):Prop:=∀{p r q},Dl r->Lx (p+T.wr.length) r (.ok q)->∃U L,Uh T U∧Wr T p r q id U L
noncomputable def tK(T:CT):Prop:=∀{p r q},Dl r->Lx (p+T.wr.length) r (.ok q)->∃U L,Ui T U∧Wr T p r q (Hd.call::·) U L
noncomputable def AJ(T:CT):Prop:=∃d u,T.wr=d::u∧¬d=61∧¬d=58
noncomputable def jT(x:Tok):Prop:=eV x.k∧∀s,x.k=.wd s->wb s
section
variable{t u v:CT}{x y z:Tok}
theorem Uj{k:TK}(h:i_ k=true):(k.aq==cG)=false:=by
 cases k<;>first|rfl|exact absurd h ς
theorem Uk(ok:(CT.leaf x).ok)(f:jT x):eZ (.leaf x):=λ{p r q} hd g=>by
 obtain⟨k,lf⟩:=HI ok f.1
 exact⟨.leaf ⟨k,p,(jS x.k).length⟩,_,⟨lf.op,rfl,lf.v⟩,rfl,(lf.tk r hd).lx g,ac lf.ok (Uj lf.op),bM (η (Ψ lf.w) (bC _)) _,λ_ _ _ _=>⟨_,T9 lf.op lf.nw⟩⟩
theorem Ul{a b l:Nat}(h:l<=a+(0+b)):4+(2+l)<=6+a+b:=η (az (az h 2) 4) (Ψ (by rw[bR,<-aA 4 2,<-aA (4+2)]))
theorem HM{a b q l m:Nat}(h:l<=a+(2+m))(k:m<=b+(0+q)):4+l<=a+(6+b)+q:=η (az (η h (az (az k 2) a)) 4) (Ψ (by rw[bR,Nat.add_left_comm 4 a,<-aA 4 2,<-aA (4+2),aA a]))
theorem Um{a b c q l m n:Nat}(h:l<=a+(2+m))(k:m<=b+(2+n))(j:n<=c+(0+q)):4+l<=a+(6+(b+(2+c)))+q:=η (HM (b:=b+(2+c)) (q:=q) h (η k (η (az (az j 2) b) (Ψ (by rw[bR,aA b,aA 2]))))) (ξ _)
theorem Un(ok:(CT.un x t).ok)(f:jT x)(h:AJ t)(ih:eZ t):eZ (.un x t):=λ{p r q} hd g=>by
 have e:=oB ok.1
 have us:oy (nm x)=true:=by have h:=ok.1;unfold vN at h;rw[e]at h;exact h
 have op:nm x∈i8:=by have h:=f.1;rw[e]at h;exact h
 have nw:dK x.k=6:=by rw[e];exact if_neg λ(q:nm x=[58])=>absurd (q▸us) (by decide)
 obtain⟨d,w,hw,Uo,_⟩:=h
 obtain⟨U,L,a,b⟩:=ih (p:=p+([40]++nm x).length) (r:=[41]++r) (mB (.tail _ (.tail _ (.head _)))) (pl (tI.lx (pl g)))
 have tk:Tk (nm x++(t.wr++([41]++r))) (.op (nm x)) (nm x).length:=by rw[hw];exact TV us Uo
 refine⟨.par ⟨.lp,p,1⟩ (.un ⟨.op (nm x),p+[40].length,(nm x).length⟩ U) ⟨.rp,p+([40]++nm x++t.wr).length,1⟩,(⟨.lp,p,1⟩:Tok)::⟨.op (nm x),p+[40].length,(nm x).length⟩::L,⟨⟨rfl,⟨us,a.ok,a.mn⟩,rfl⟩,rfl,?_⟩,?_,?_,λhq=>ac trivial rfl (ac op rfl (b.all (ac (x:=⟨.rp,_,_⟩) trivial rfl hq))),?_,λs pre H hb=>?_⟩
 ·exact(congrArg (il (.str (nm x))) a.v).trans (congrArg (λo=>il o t.val) (congrArg TK.d4 e).symm)
 ·exact congrArg (λl=>(⟨.lp,p,1⟩:Tok)::⟨.op (nm x),p+[40].length,(nm x).length⟩::l) (b.fl.trans (aN U.flat [_] q).symm)
 ·exact(congrArg (Lx p · _) tJ).mpr (tH.lx (tk.lx (pl b.lx)))
 ·exact(congrArg (λn=>4+(2+wt L)<=n+ww t.flat+wt q) nw).mpr (Ul b.wt)
 ·exact(b.sc s _ _ rfl).elim λwy k=>⟨_,(AG hb rfl).tr ((T_ rfl us).tr (k.tr (AH rfl)))⟩
theorem Uq(ok:(CT.bin x t u).ok)(f:jT x)(it:eZ t)(iu:eZ u):eZ (.bin x t u):=λ{p r q} hd g=>by
 have op:nm x∈i8:=by have h:=f.1;rw[ok.1]at h;exact h
 have nw:dK x.k=6:=by rw[ok.1];exact if_neg λ(q:nm x=[58])=>absurd (q▸ok.2.1) (by decide)
 obtain⟨V,M,c,d⟩:=iu (p:=p+([40]++t.wr++[32]++nm x++[32]).length) (r:=[41]++r) (mB (.tail _ (.tail _ (.head _)))) (pl (tI.lx (pl g)))
 obtain⟨U,L,a,b⟩:=it (p:=p+[40].length) (r:=[32]++(nm x++([32]++(u.wr++([41]++r))))) (mB (.head _)) (pl (AI (pl ((TX ok.2.1 _).lx (pl (AI (pl d.lx)))))))
 have oG:=Am ok.2.1
 refine⟨.par ⟨.lp,p,1⟩ (.bin ⟨.op (nm x),p+([40]++t.wr++[32]).length,(nm x).length⟩ U V) ⟨.rp,p+([40]++t.wr++[32]++nm x++[32]++u.wr).length,1⟩,(⟨.lp,p,1⟩:Tok)::L,⟨⟨rfl,⟨rfl,ok.2.1,a.ok,c.ok,?_⟩,rfl⟩,rfl,?_⟩,?_,?_,λhq=>ac trivial rfl (b.all (ac (x:=⟨.op (nm x),_,_⟩) op rfl (d.all (ac (x:=⟨.rp,_,_⟩) trivial rfl hq)))),?_,λs pre H hb=>?_⟩
 ·rw[a.mn,c.mn];exact je (P:=id) ⟨rfl,by decide⟩ ⟨bW oG,Nat.lt_succ_of_le oG⟩
 ·show jN (nm x) U.val V.val=jN (nm x) t.val u.val
  rw[a.v,c.v]
 ·rw[b.fl,d.fl]
  exact congrArg (λl=>(⟨.lp,p,1⟩:Tok)::l) (oS (a:=U.flat) (b:=_::V.flat) (c:=[_])).symm
 ·exact(congrArg (Lx p · _) HL).mpr (tH.lx b.lx)
 ·rw[show ww (CT.bin x t u).flat=ww t.flat+(6+ww u.flat)from(mq ..).trans (congrArg (λn=>ww t.flat+(n+ww u.flat)) nw)];exact HM b.wt d.wt
 ·exact(b.sc s _ _ rfl).elim λp1 k=>(d.sc s (_::p1) _ rfl).elim λp2 j=>⟨_,(AG hb rfl).tr ((k.tr ((Ub rfl ok.2.1).tr j)).tr (AH rfl))⟩
theorem Ur(ok:(CT.b5 x t u y v).ok)(hv:AJ v)(it:eZ t)(iu:eZ u)(iv:eZ v):eZ (.b5 x t u y v):=λ{p r q} hd g=>by
 have qn:nm x=[63]:=qJ ok.1
 obtain⟨W,N,e,f⟩:=iv (p:=p+([40]++t.wr++[63]++u.wr++[58]).length) (r:=[41]++r) (mB (.tail _ (.tail _ (.head _)))) (pl (tI.lx (pl g)))
 have d8:Dl ([58]++(v.wr++([41]++r))):=by obtain⟨d,w,hw,_,h⟩:=hv;rw[hw];exact TG h
 obtain⟨V,M,c,d⟩:=iu (p:=p+([40]++t.wr++[63]).length) d8 (pl (TU.lx (pl f.lx)))
 obtain⟨U,L,a,b⟩:=it (p:=p+[40].length) (r:=[63]++(u.wr++([58]++(v.wr++([41]++r))))) (mB (.tail _ (.head _))) (pl (TS.lx (pl d.lx)))
 refine⟨.par ⟨.lp,p,1⟩ (.b5 ⟨.op [63],p+([40]++t.wr).length,1⟩ U V ⟨.op [58],p+([40]++t.wr++[63]++u.wr).length,1⟩ W) ⟨.rp,p+([40]++t.wr++[63]++u.wr++[58]++v.wr).length,1⟩,(⟨.lp,p,1⟩:Tok)::L,⟨⟨rfl,⟨rfl,a.ok,by rw[a.mn];decide,c.ok,rfl,e.ok⟩,rfl⟩,rfl,?_⟩,?_,?_,λhq=>ac trivial rfl (b.all (ac (x:=⟨.op [63],_,_⟩) (show[63]∈i8 by decide) rfl (d.all (ac (x:=⟨.op [58],_,_⟩) (show[58]∈i8 by decide) rfl (f.all (ac (x:=⟨.rp,_,_⟩) trivial rfl hq)))))),?_,λs pre H hb=>?_⟩
 ·show sX U.val V.val W.val=sX t.val u.val v.val
  rw[a.v,c.v,e.v]
 ·rw[b.fl,d.fl,f.fl]
  exact congrArg (λl=>(⟨.lp,p,1⟩:Tok)::l) ((congrArg (λl=>U.flat++_::l) (oS (a:=V.flat) (b:=_::W.flat) (c:=[_]) (d:=q)).symm).trans ((congrArg (λl=>U.flat++_::l) (aN (V.flat++_::W.flat) [_] q)).trans (oS (a:=U.flat) (b:=_::(V.flat++_::W.flat)) (c:=[_])).symm))
 ·exact(congrArg (Lx p · _) HL).mpr (tH.lx b.lx)
 ·rw[show ww (CT.b5 x t u y v).flat=ww t.flat+(6+(ww u.flat+(2+ww v.flat)))from(mq ..).trans (congrArg (ww t.flat+·) (show dK x.k+ww (u.flat++y::v.flat)=_ by rw[ok.1,mq,show ww (y::v.flat)=dK y.k+ww v.flat from rfl,ok.2.2.2.2.1];rfl))];exact Um b.wt d.wt f.wt
 ·exact(b.sc s _ _ rfl).elim λp1 k=>(d.sc s (_::p1) _ rfl).elim λp2 j=>(f.sc s (_::p2) _ rfl).elim λp3 i=>⟨_,(AG hb rfl).tr ((k.tr ((Uc rfl).tr (j.tr ((Ud rfl).tr i)))).tr (AH rfl))⟩
theorem Us(ih:eZ t):eZ (.par x t y):=λhd g=>(ih hd g).imp λ_ y=>y.imp λ_ y=>⟨⟨y.1.ok,y.1.mn,y.1.v⟩,y.2.fl,y.2.lx,y.2.all,η y.2.wt (bM (η (aP ..) (η (Ψ (mq ..).symm) (ai ..))) _),y.2.sc⟩
theorem Ut(ok:(CT.dJ x y z).ok)(f:jT x):eZ (.dJ x y z):=λ{p r q} hd g=>by
 have nk:dI ⟨.wd (nm x),p,(nm x).length⟩:=by have h:=f.1;rw[ok.1]at h;exact h
 refine⟨.dJ ⟨.wd (nm x),p,(nm x).length⟩ ⟨.lp,p+(nm x).length,1⟩ ⟨.rp,p+(nm x++[40]++[]).length,1⟩,(⟨.wd (nm x),p,(nm x).length⟩:Tok)::⟨.lp,p+(nm x).length,1⟩::⟨.rp,p+(nm x++[40]++[]).length,1⟩::q,⟨⟨rfl,rfl,rfl⟩,rfl,rfl⟩,rfl,?_,λhq=>ac nk rfl (ac (x:=⟨.lp,_,_⟩) trivial rfl (ac (x:=⟨.rp,_,_⟩) trivial rfl hq)),?_,λs pre H hb=>⟨_,(HJ rfl).tr (Ug rfl rfl)⟩⟩
 ·exact(congrArg (Lx p · _) tJ).mpr ((HG (f.2 _ ok.1) _).lx (tH.lx (pl (pl (v:=[]) (tI.lx (pl g))))))
 ·show 0+(4+(0+wt q))<=dK x.k+(dK y.k+(dK z.k+0))+wt q
  rw[ok.1,ok.2.1,ok.2.2,bR,bR]
  exact ξ _
theorem Uu(ok:(CT.call x y t z).ok)(f:jT x)(ih:tK t):eZ (.call x y t z):=λ{p r q} hd g=>by
 have nk:dI ⟨.wd (nm x),p,(nm x).length⟩:=by have h:=f.1;rw[ok.1]at h;exact h
 obtain⟨U,L,a,b⟩:=ih (p:=p+(nm x++[40]).length) (r:=[41]++r) (mB (.tail _ (.tail _ (.head _)))) (pl (tI.lx (pl g)))
 refine⟨.call ⟨.wd (nm x),p,(nm x).length⟩ ⟨.lp,p+(nm x).length,1⟩ U ⟨.rp,p+(nm x++[40]++t.wr).length,1⟩,(⟨.wd (nm x),p,(nm x).length⟩:Tok)::⟨.lp,p+(nm x).length,1⟩::L,⟨⟨rfl,rfl,a.ok,rfl⟩,rfl,congrArg (qd (nm x)) a.v⟩,?_,?_,λhq=>ac nk rfl (ac (x:=⟨.lp,_,_⟩) trivial rfl (b.all (ac (x:=⟨.rp,_,_⟩) trivial rfl hq))),?_,λs pre H hb=>?_⟩
 ·exact congrArg (λl=>(⟨.wd (nm x),p,(nm x).length⟩:Tok)::⟨.lp,p+(nm x).length,1⟩::l) (b.fl.trans (aN U.flat [_] q).symm)
 ·exact(congrArg (Lx p · _) tJ).mpr ((HG (f.2 _ ok.1) _).lx (tH.lx (pl b.lx)))
 ·show 0+(4+wt L)<=dK x.k+(dK y.k+ww (t.flat++[z]))+wt q
  rw[ok.1,ok.2.1,mq,aA (dK _),aA (dK _),aA (ww t.flat)]
  exact az (az (η b.wt (az (bM (bC _) _) _)) 4) 0
 ·exact(b.sc s (⟨.lp,_,_⟩::_) H rfl).elim λwy k=>⟨_,(HJ rfl).tr (k.tr (Ua rfl))⟩
theorem Uv(ih:eZ t):tK (.last t):=λhd g=>(ih hd g).elim λU y=>y.elim λL y=>⟨.last U,L,⟨y.1.ok,congrArg (λv=>[v]) y.1.v⟩,y.2.fl,y.2.lx,y.2.all,y.2.wt,λs pre H hb=>y.2.sc s pre (.call::H) hb⟩
theorem Uw(ok:(CT.more t x u).ja)(it:eZ t)(iu:tK u):tK (.more t x u):=λ{p r q} hd g=>by
 obtain⟨V,M,c,d⟩:=iu (p:=p+(t.wr++[44,32]).length) hd (pl g)
 obtain⟨U,L,a,b⟩:=it (p:=p) (r:=[44]++([32]++(u.wr++r))) (mB (.tail _ (.tail _ (.tail _ (.head _))))) (TQ.lx (AI (pl d.lx)))
 refine⟨.more U ⟨.cm,p+t.wr.length,1⟩ V,L,⟨⟨a.ok,rfl,c.ok⟩,?_⟩,?_,?_,λhq=>b.all (ac (x:=⟨.cm,_,_⟩) trivial rfl (d.all hq)),?_,λs pre H hb=>?_⟩
 ·show U.val::V.vals=t.val::u.vals
  rw[a.v,c.v]
 ·exact b.fl.trans ((congrArg (λl=>U.flat++_::l) d.fl).trans (aN U.flat (_::V.flat) q).symm)
 ·exact(congrArg (Lx p · _) oS).mpr b.lx
 ·rw[show ww (CT.more t x u).flat=ww t.flat+(0+ww u.flat)from(mq ..).trans (congrArg (ww t.flat+·) (show dK x.k+ww u.flat=_ by rw[ok.2.1];rfl)),aA,aA]
  exact η b.wt (az (az d.wt 0) _)
 ·exact(b.sc s pre (.call::H) hb).elim λp1 k=>(d.sc s (⟨.cm,_,_⟩::p1) H rfl).elim λp2 j=>⟨_,k.tr ((Ue rfl).tr j)⟩
theorem HN(ok:x.k=.wd (nm x))(f:jT x)(w:List Nat):∃d u,nm x++w=d::u∧¬d=61∧¬d=58:=by
 obtain⟨c,r,hc,e,_⟩:=f.2 _ ok
 rw[e,cQ r hc]
 exact⟨c,_,rfl,HH hc⟩
theorem Ux(t:CT):(t.ok->(∀x∈t.flat,jT x)->AJ t∧eZ t)∧(t.ja->(∀x∈t.flat,jT x)->tK t):=by
 have AK:∀{w u},w=40::u->∃d u,w=d::u∧¬d=61∧¬d=58:=λe=>⟨40,_,e,by decide,by decide⟩
 induction t with
 |leaf x=>exact⟨λok f=>⟨(HI ok (f x (.head _)).1).elim λ_ l=>l.hd,Uk ok (f x (.head _))⟩,False.elim⟩
 |un x a a1=>exact⟨λok f=>have i:=a1.1 ok.2.1 λy m=>f y (.tail _ m);⟨AK rfl,Un ok (f x (.head _)) i.1 i.2⟩,False.elim⟩
 |par l a r a1=>exact⟨λok f=>have i:=a1.1 ok.2.1 λy m=>f y (.tail _ (cU _ m));⟨i.1,Us i.2⟩,False.elim⟩
 |dJ w l r=>exact⟨λok f=>⟨by have h:=HN ok.1 (f w (.head _)) ([40]++([]++[41]));rw[<-oS]at h;exact h,Ut ok (f w (.head _))⟩,False.elim⟩
 |call w l a r a1=>exact⟨λok f=>⟨by have h:=HN ok.1 (f w (.head _)) ([40]++(a.wr++[41]));rw[<-oS]at h;exact h,Uu ok (f w (.head _)) (a1.2 ok.2.2.1 λy m=>f y (.tail _ (.tail _ (cU _ m))))⟩,False.elim⟩
 |bin x a b a1 b1=>exact⟨λok f=>⟨AK rfl,Uq ok (f x (cS _ (.head _))) (a1.1 ok.2.2.1 λy m=>f y (cU _ m)).2 (b1.1 ok.2.2.2.1 λy m=>f y (cS _ (.tail _ m))).2⟩,False.elim⟩
 |b5 q a m c b a1 m1 b1=>exact⟨λok f=>have i:=b1.1 ok.2.2.2.2.2 λy m=>f y (cS _ (.tail _ (cS _ (.tail _ m))));⟨AK rfl,Ur ok i.1 (a1.1 ok.2.1 λy m=>f y (cU _ m)).2 (m1.1 ok.2.2.2.1 λy m=>f y (cS _ (.tail _ (cU _ m)))).2 i.2⟩,False.elim⟩
 |last a a1=>exact⟨False.elim,λok f=>Uv (a1.1 ok f).2⟩
 |more a c b a1 b1=>exact⟨False.elim,λok f=>Uw ok (a1.1 ok.1 λy m=>f y (cU _ m)).2 (b1.2 ok.2.2 λy m=>f y (cS _ (.tail _ m)))⟩
end
end
noncomputable def LX.le(n:Nat):LX->Prop
 |.ok ts=>ts.length<=n
 |.bad _=>True
theorem Uy{p:Nat}{l:List Nat}{x:LX}(g:Lx p l x):x.le (l.length+1):=by
 induction g with
 |fin=>exact ξ 1
 |skip m s g ih=>
  rename_i x
  cases x with
  |bad=>trivial
  |ok ts=>exact η ih (Nat.succ_le_succ (by rw[cY];exact Nat.sub_le ..))
 |tok k m b h h1 h2 g ih=>
  rename_i x
  cases x with
  |bad=>trivial
  |ok ts=>exact Nat.succ_le_succ (η ih (by rw[cY];exact η (Nat.succ_le_succ (Nat.sub_le_sub_left h1 _)) (Ψ (dP (η h1 h2)))))
 |bad=>trivial
theorem Uz{n:Nat}(h:n.log2<1920):(gC n).length<=600:=by
 unfold gC
 rw[b_,Nat.length_toDigits_le_iff (by decide) (by decide)]
 by_cases z:n=0
 ·rw[z];exact Nat.pow_pos (by decide)
 ·exact gn ((Nat.log2_lt z).mp h) (by decide+kernel)
theorem leaf_len{k:TK}(hx:i_ k=true)(ok:eV k):(jS k).length<=700:=by
 have txt:∀{s:List Nat},s.length<=470->([123]++s++[125]).length<=700:=λh=>η (bf (bf (ξ 1) h) (ξ 1)) (by decide)
 cases k with
 |num n=>exact η (Uz (Int.ofNat.inj ((Int.toNat_of_nonneg ok.1).trans (Int.natAbs_of_nonneg ok.1).symm)▸ok.2)) (by decide)
 |wd s=>exact txt ok.2
 |txt s=>exact txt ok.2
 |b4 v=>exact fL (P:=λv=>(Ax v).length<=700) ok ⟨by decide,by decide,by decide,by decide,trivial⟩
 |_=>exact absurd hx ς
theorem sw(a k b:Nat):a+k+b=a+(b+k):=(aA ..).trans (congrArg (a+·) (aQ k b))
theorem HO{a k:Nat}(h:k<=698):1+k+a+1<=a+700:=η (Ψ (congrArg (· +1) (aQ ..))) (az (Nat.succ_le_succ (η (Ψ (aQ ..)) (Nat.succ_le_succ h))) a)
theorem UA{a b:Nat}:1+a+1+470+1+b+1<=a+(b+700):=η (Ψ ((congrArg (· +472+b+1) (aQ 1 a)).trans (congrArg (· +1) (sw a 473 b)))) (az (az (by decide:474<=700) b) a)
theorem UB{a b c:Nat}:1+a+1+b+1+c+1<=a+(b+(c+700)+700):=η (Ψ ((congrArg (· +1+b+1+c+1) (aQ 1 a)).trans ((congrArg (· +1+c+1) (sw a 2 b)).trans (congrArg (· +1) ((aA a (b+3) c).trans (congrArg (a+·) (sw b 3 c))))))) (az (η (az (az (by decide:4<=700) c) b) (aP _ 700)) a)
noncomputable def WL(t:CT):Prop:=t.wr.length<=700*t.flat.length
theorem wz{x:Tok}(h:x.k=.op (nm x)∨x.k=.wd (nm x))(f:eV x.k):(nm x).length<=470:=h.elim (λh=>(by decide:∀s∈i8,s.length<=470) (nm x) (by rw[h]at f;exact f)) λh=>by rw[h]at f;exact f.2
theorem tL{a b:List Tok}{x:Tok}:700*(a++x::b).length=700*a.length+(700*b.length+700):=by rw[Θ,Nat.mul_add];rfl
theorem HP(t:CT):(t.ok∨t.ja)->(∀x∈t.flat,eV x.k)->WL t:=by
 have el:∀{p:Prop},p∨False->p:=λh=>h.elim id False.elim
 have er:∀{p:Prop},False∨p->p:=λh=>h.elim False.elim id
 induction t with
 |leaf x=>exact λok f=>leaf_len (el ok) (f x (.head _))
 |un x a a1=>exact λok f=>η (bf (bf (bf (ξ 1) (wz (.inl (oB (el ok).1)) (f x (.head _)))) (a1 (.inl (el ok).2.1) λy m=>f y (.tail _ m))) (ξ 1)) (HO (by decide))
 |par l a r a1=>exact λok f=>η (a1 (.inl (el ok).2.1) λy m=>f y (.tail _ (cU _ m))) (ji 700 (bW (by rw[Θ];exact aP ..)))
 |dJ w l r=>exact λok f=>η (bf (bf (bf (wz (.inr (el ok).1) (f w (.head _))) (ξ 1)) (ξ 0)) (ξ 1)) (by decide:470+1+0+1<=700*3)
 |call w l a r a1=>exact λok f=>η (bf (bf (bf (wz (.inr (el ok).1) (f w (.head _))) (ξ 1)) (a1 (.inr (el ok).2.2.1) λy m=>f y (.tail _ (.tail _ (cU _ m))))) (ξ 1)) (η (HO (k:=470) (by decide)) (η (η (az (ai 700 (700*0)) _) (Ψ (tL (x:=r) (b:=[])).symm)) (ji 700 (aP _ 2))))
 |bin x a b a1 b1=>exact λok f=>η (bf (bf (bf (bf (bf (bf (ξ 1) (a1 (.inl (el ok).2.2.1) λy m=>f y (cU _ m))) (ξ 1)) (wz (.inl (el ok).1) (f x (cS _ (.head _))))) (ξ 1)) (b1 (.inl (el ok).2.2.2.1) λy m=>f y (cS _ (.tail _ m)))) (ξ 1)) (η UA (Ψ tL.symm))
 |b5 q a m c b a1 m1 b1=>exact λok f=>η (bf (bf (bf (bf (bf (bf (ξ 1) (a1 (.inl (el ok).2.1) λy m=>f y (cU _ m))) (ξ 1)) (m1 (.inl (el ok).2.2.2.1) λy m=>f y (cS _ (.tail _ (cU _ m))))) (ξ 1)) (b1 (.inl (el ok).2.2.2.2.2) λy m=>f y (cS _ (.tail _ (cS _ (.tail _ m)))))) (ξ 1)) (η UB (Ψ (tL.trans (congrArg (λn=>700*a.flat.length+(n+700)) tL)).symm))
 |last a a1=>exact λok f=>a1 (.inl (er ok)) f
 |more a c b a1 b1=>exact λok f=>η (bf (bf (a1 (.inl (er ok).1) λy m=>f y (cU _ m)) (ξ 2)) (b1 (.inr (er ok).2.2) λy m=>f y (cS _ (.tail _ m)))) (η (Ψ (sw ..)) (η (az (az (by decide:2<=700) _) _) (Ψ tL.symm)))
noncomputable def UC:Option CR->V
 |some (.ret v _)=>v
 |_=>.none
theorem UD{W D B:Nat}{h:Hp}{T:CT}(ok:T.ok)(f:∀x∈T.flat,jT x)(hw:ww T.flat<=B)(hl:T.flat.length<=470)(hW:950000<=W)(hD:14+B<=D):∃h',ι prog W (D+3) .gB [.str T.wr] h=some (.ret (oI T.val) h'):=by
 obtain⟨U,L,a,b⟩:=((Ux T).1 ok f).2 (p:=0) (r:=[]) (q:=[⟨.fin,0+T.wr.length,0⟩]) TF .fin
 have lx:=b.lx
 rw[ck]at lx
 have l3:T.wr.length<=329000:=η (HP T (.inl ok) λx m=>(f x m).1) (ji 700 hl)
 have al:=b.all ⟨λy m=>jV.mp m▸trivial,rfl⟩
 have len:L.length<=400000:=η (Uy lx) (η (Nat.succ_le_succ l3) (by decide))
 have wB:wt L<=B:=η b.wt hw
 obtain⟨r,h',e,to⟩:=Gl (h:=h) (η (Nat.succ_le_succ (bM l3 10)) (η (by decide) hW)) (η (by decide) hW) (η l3 (by decide)) lx ⟨al.ok,al.en,wB,len⟩ hD
 refine⟨h',e.trans (congrArg (λv=>some (CR.ret v h')) ?_)⟩
 obtain⟨wy,s⟩:=b.sc T.wr [] [] rfl
 have s:gZ T.wr [] L true []=.ok U.cI:=s.trans (congrArg SC.ok (ck _))
 cases to with
 |bad w sc=>exact nomatch sc.symm.trans s
 |ok T1 x UE fl sc q=>
  have oC:12+wt L<=D:=η (dG (by decide) wB) hD
  have e1:=Au (h:=h) UE fl len (η (by decide) hW) oC
  rw[SC.ok.inj (sc.symm.trans s)]at e1
  have e2:=Au (h:=h) a.ok b.fl len (η (by decide) hW) oC
  exact q.trans (congrArg oI ((congrArg UC (e1.symm.trans e2)).trans a.v))
section
theorem pick{L:List (List Nat)}{n:Nat}(hn:L.length=n)(h:0<n)(q:Int):∃s,s∈L∧υ (.tup (L.map V.str)) (.int (Int.fmod q (n:Int)))=some (.str s):=by
 have h1:=Int.fmod_nonneg_of_pos q (cJ.mpr h)
 obtain⟨m,e⟩:=Int.eq_ofNat_of_zero_le h1
 have h2:=Int.fmod_lt_of_pos q (cJ.mpr h)
 rw[e]at h2⊢
 have h3:m<L.length:=hn▸cJ.mp h2
 exact⟨L[m],List.getElem_mem h3,oj (vs:=L.map V.str) (by rw[eE,jW h3];rfl)⟩
noncomputable def wA:List Int:=[5,0,8,16,40,7,24,4,32,6,40,136,8,6,2,17,0,0]
theorem tM{W:Nat}(xs:List Int)(p:Nat)(hp:p<18):∃d:Int,∀h,Gives 1 W .iL [.list (xs.map V.int),.int p] h (.ret (.int d) h):=by
 have e1:υ (.list (wA.map V.int)) (.int (p:Nat))=some (.int wA[p]):=oj (by rw[eE,jW hp];rfl)
 have ln:((xs.map V.int).length:Int)=xs.length:=by rw[b_]
 by_cases hl:p<xs.length
 ·exact⟨wA[p]+xs[p],λh=>ak λD hD=>(ω (ρ:=[.v (.list (xs.map V.int)),.v (.int p),.un]) rfl).trans (ga λκ=>κ _ e1 _ rfl _ rfl _ (dT (ln▸cJ.mpr hl)) _ (oj (x:=.int xs[p]) (by rw[eE,jW hl];rfl)))⟩
 ·exact⟨wA[p]+0,λh=>ak λD hD=>(ω (ρ:=[.v (.list (xs.map V.int)),.v (.int p),.un]) rfl).trans (ga λκ=>κ _ e1 _ rfl _ rfl _ (dF (ln▸λq=>hl (cJ.mp q))))⟩
structure Pc (s:List Nat):Prop where
 ne:s≠[]
 g:Good s
 l:s.length<=5
theorem wC:∀{s:List Nat},s.all eX=true->Good s
 |[],_=>.nil rfl
 |c::s,h=>have h:=bD.mp h;.chr c s rfl h.1 (wC h.2)
noncomputable def HQ(m:Nat)(s:List Nat):Bool:= !s.isEmpty&&(decide (s.length<=5)&&(decide (aW s<=m)&&(s.all eX||eW.any (·.1==s))))
theorem UG{m:Nat}{s:List Nat}(h:HQ m s=true):Pc s∧aW s<=m:=by
 have h:=bD.mp h
 have h2:=bD.mp h.2
 have h3:=bD.mp h2.2
 refine⟨⟨λq=>?_,(e_.mp h3.2).elim wC λq=>(jh.mp q).elim λp m=>.leaf p.1 p.2 [] ((eq_of_beq m.2).symm.trans (ck _).symm) m.1 (.nil rfl),of_decide_eq_true h2.1⟩,of_decide_eq_true h3.1⟩
 rw[q]at h;exact ς h.1
theorem tN{L:List (List Nat)}{m:Nat}(h:L.all (HQ m)=true){s:List Nat}(hs:s∈L):Pc s∧aW s<=m:=UG (dM.mp h s hs)
noncomputable def HS:List (List Nat):=[[55],[48],[49,50],[48,120,49,70],[116,114,117,101],[123,120,32,121,125],[48,98,49,48,49],[36,123,118,125],[48,49,48],[34,97,32,98,34],[79,102,102],[91,102,32,49,93],[48,68,57],[110],[123,125],[34,97,36,118,34],[51,48,53],[111]]
noncomputable def HT:List (List Nat):=[[43],[45],[42],[47],[37],[42,42],[60,60],[62,62],[60],[62],[60,61],[62,61],[61,61],[33,61],[38],[94],[124],[38,38],[124,124],[101,113],[110,101],[105,110],[110,105],[108,116],[103,116],[108,101],[103,101]]
noncomputable def HU:List (List Nat):=[[40],[41],[44],[63],[58],[33],[45],[61],[64],[49,46,53],[35],[55],[97,98,99],[42,42],[55,101,53],[116,114,117,101],[38,38],[46,53],[58,58],[48,120],[55,101,113],[95]]
noncomputable def HV:List (List Nat):=[[45],[43],[126],[33]]
noncomputable def HW:List (List Nat):=[[109,97,120],[97,98,115],[110],[102,58,58,103]]
section
variable{W:Nat}(q:Int)
theorem UH:∃s,s∈HS∧∀h,Gives 1 W .qU [.int q] h (.ret (.str s) h):=(pick (L:=HS) (n:=18) rfl (by decide) q).imp λ_ y=>⟨y.1,λ_=>ak λ_ _=>(ω (ρ:=[.v (.int q)]) rfl).trans (ga λκ=>κ _ rfl _ y.2)⟩
theorem UI:∃s,s∈HT∧∀h,Gives 1 W .qV [.int q] h (.ret (.str s) h):=(pick (L:=HT) (n:=27) rfl (by decide) q).imp λ_ y=>⟨y.1,λ_=>ak λ_ _=>(ω (ρ:=[.v (.int q)]) rfl).trans (ga λκ=>κ _ rfl _ y.2)⟩
theorem UJ:∃s,s∈HU∧∀h,Gives 1 W .tU [.int q] h (.ret (.str s) h):=(pick (L:=HU) (n:=22) rfl (by decide) q).imp λ_ y=>⟨y.1,λ_=>ak λ_ _=>(ω (ρ:=[.v (.int q)]) rfl).trans (ga λκ=>κ _ rfl _ y.2)⟩
end
noncomputable def wD:List S:=lM Prog.j1.body 3
noncomputable def UK:List S:=wD.drop 4
noncomputable def ao(l:List (List Nat)):List V:=l.map V.str
structure Dr where
 L:List (List Nat)
 H:List Hd
 w:Bool
noncomputable def HX(H:List Hd)(vs:List V):Bool:=vs.any λy=>y.eqv (.str (dD H))
noncomputable def AL(so sb sg sn:List Nat)(κ q:Int)(H:List Hd)(w:Bool):Dr:=
 bif w&&(decide (κ<5)||decide ((8:Int)<((a9 H).length:Nat)))then⟨[so],H,false⟩
 else bif w&&κ==5 then⟨[sg],H,w⟩
 else bif w&&(κ==7&&Int.fmod q 5==4)then⟨[sn,[40],[41]],H,false⟩
 else bif w then(bif κ==7 then⟨[sn,[40]],.call::H,w⟩else⟨[[40]],.par::H,w⟩)
 else bif κ==5&&HX H [.str wg,.str [40]]then⟨[[41]],H.tail,w⟩
 else bif κ==4 then⟨[[63]],.q::H,true⟩
 else bif κ==6&&dD H==[63]then⟨[[58]],H.tail,true⟩
 else bif κ==7&&dD H==wg then⟨[[44]],H,true⟩
 else⟨[sb],H,true⟩
noncomputable def b9(X:V)(A B:List V)(w:Bool)(u:Slot×Slot×Slot×Slot×Slot):Loc:=[.v X,.own A,.own B,.v (.bool w),u.1,u.2.1,u.2.2.1,u.2.2.2.1,u.2.2.2.2]
noncomputable def HY(X:V)(A:List V)(u:Slot×Slot×Slot×Slot×Slot)(d:Dr):Loc:=b9 X (A++ao d.L) (a9 d.H) d.w u
theorem HZ{C:Δ}{e:E}{ρ:Loc}{h:Hp}{r:M V}(k:ν C e ρ h=r):evalAnd C [e] ρ h=r:=k
theorem mC{C:Δ}{W:Nat}{ρ:Loc}{h:Hp}{α:Type}{F:α->Loc}{c:E}{A B:List S}{y:Bool}{a b:α}(hc:ν C c ρ h=some (.ok (.bool y) ρ h))(hA:y=true->θ C W A ρ h=some (.ok .ο (F a) h))(hB:y=false->θ C W B ρ h=some (.ok .ο (F b) h)):θ C W [.ifs c A B] ρ h=some (.ok .ο (F (bif y then a else b)) h):=by
 cases y with
 |true=>exact eB hc hA λq=>absurd q.symm ς
 |false=>exact eB hc (λq=>absurd q ς) hB
section
variable{C:Δ}{W:Nat}{h:Hp}{X:V}{ts:List (List Nat)}{H:List Hd}{w:Bool}{e6 q:Int}{s4 s5:Slot}{so sb sg sn:List Nat}
theorem H4{A A':List V}{u:Slot×Slot×Slot×Slot×Slot}{b:Bool}{Y:List S}(n:dD H≠[])(k:∀{i:List V} {d:V},θ C W Y (b9 X A (i++[d]) w u) h=some (.ok .ο (b9 X A' i b u) h)):θ C W Y (b9 X A (a9 H) w u) h=some (.ok .ο (b9 X A' (a9 H.tail) b u) h):=by
 cases H with
 |nil=>exact absurd rfl n
 |cons d H=>rw[fB];exact k
theorem hc{F:List V->Loc}(d:Hd):(some (.ok .ο (F (a9 H++[.str d.s])) h):M Flow)=some (.ok .ο (F (a9 (d::H))) h):=congrArg (λB=>some (Rs.ok Flow.ο (F B) h)) (fB d H).symm
theorem UL{A:List V}(op:C .qU [.int q] h=some (.ret (.str so) h))(be:C .qV [.int q] h=some (.ret (.str sb) h))(si:υ (.tup (ao HV)) (.int (Int.fmod q 4))=some (.str sg))(na:υ (.tup (ao HW)) (.int (Int.fmod q 4))=some (.str sn))(l3:A.length+3<=af)(h0:(a9 H).length<=af):
  θ C W UK (b9 X A (a9 H) w (s4,s5,.v (.int e6),.v (.int q),.v (.str (dD H)))) h=some (.ok .ο (HY X A (s4,s5,.v (.int e6),.v (.int q),.v (.str (dD H))) (AL so sb sg sn e6 q H w)) h):=by
 have l0:A.length<=af:=d7 l3
 have l1:∀{v:V},(A++[v]).length<=af:=λ{v}=>by rw[Θ];exact η (az (by decide:1<=3) _) l3
 refine mC (F:=HY X A (s4,s5,.v (.int e6),.v (.int q),.v (.str (dD H)))) (bO (bA rfl λ_=>gU (gK rfl λ_=>rfl))) (λ_=>gs λκ=>κ _ op l0) λ_=>?_
 refine mC (bO (bA rfl λ_=>rfl)) (λ_=>gs λκ=>κ _ rfl _ si l0) λ_=>?_
 refine mC (bO (bA rfl λ_=>bA rfl λ_=>rfl)) (λ_=>gs λκ=>κ _ rfl _ na l3) λ_=>?_
 refine mC rfl (λ_=>?_) λ_=>?_
 ·cases e:e6==7 with
  |true=>exact gs λκ=>(κ _ rfl _ e _ rfl _ na l0 l1 _ rfl _ e h0).trans (by rw[aN];exact hc (F:=λB=>b9 X (A++[V.str sn,V.str [40]]) B w (s4,s5,.v (.int e6),.v (.int q),.v (.str (dD H)))) .call)
  |false=>exact gs λκ=>(κ _ rfl _ e l0 _ rfl _ e h0).trans (hc (F:=λB=>b9 X (A++[V.str [40]]) B w (s4,s5,.v (.int e6),.v (.int q),.v (.str (dD H)))) .par)
 refine mC (bO (bA rfl λ_=>HZ (ge λκ=>κ _ (ψ rfl)))) (λy=>?_) λ_=>(g8 rfl).trans ?_
 ·exact H4 (λe=>absurd (bD.mp y).2 (by unfold HX;rw[e];exact ς)) (gs λκ=>(κ l0 _ jX).trans (by rw[jY];rfl))
 refine mC rfl (λ_=>gs λκ=>(κ l0 h0).trans (hc (F:=λB=>b9 X (A++[V.str [63]]) B true (s4,s5,.v (.int e6),.v (.int q),.v (.str (dD H)))) .q)) λ_=>?_
 refine mC (bO (bA rfl λ_=>rfl)) (λy=>?_) λ_=>?_
 ·exact H4 (λe=>absurd (bD.mp y).2 (by rw[e];exact ς)) (gs λκ=>(κ l0 _ jX).trans (by rw[jY];rfl))
 exact mC (bO (bA rfl λ_=>rfl)) (λ_=>gs λκ=>κ l0) λ_=>gs λκ=>κ _ be l0
end
end
section
noncomputable def cX{α:Type}(f:α->Nat):List α->Nat
 |[]=>0
 |x::r=>f x+cX f r
theorem mD{α:Type}(f:α->Nat):∀a b:List α,cX f (a++b)=cX f a+cX f b
 |[],_=>(bR _).symm
 |x::a,b=>(congrArg (f x+·) (mD f a b)).trans (aA ..).symm
noncomputable def hq:Hd->Nat
 |.q=>5
 |_=>0
noncomputable def dE(L:List (List Nat)):Prop:=∀s∈L,Pc s
theorem dE.nil:dE []:=λ_ m=>absurd m iD
theorem dE.cons{s:List Nat}{L:List (List Nat)}(h:Pc s)(k:dE L):dE (s::L):=λ_ m=>(dx.mp m).elim (λe=>e▸h) (k _)
theorem dE.app{a b:List (List Nat)}(h:dE a)(k:dE b):dE (a++b):=λ_ m=>(List.mem_append.mp m).elim (h _) (k _)
theorem qM{c:Nat}(h:eX c=true):Pc [c]:=⟨List.cons_ne_nil _ _,.chr c [] rfl h (.nil rfl),(by decide:1<=5)⟩
structure Inv (k:Nat) (ts:List (List Nat)) (H:List Hd):Prop where
 p:dE ts
 s:cX aW ts+cX hq H<=15*k
 l:ts.length+2*H.length<=4*k
section
variable{k:Nat}{ts L:List (List Nat)}{H H':List Hd}(I:Inv k ts H)(p:dE L)
include I p
theorem Inv.step(w:cX aW L+cX hq H'<=15+cX hq H)(c:L.length+2*H'.length<=4+2*H.length):Inv (k+1) (ts++L) H':=
 have go:∀{a b c d e n:Nat},a+b<=n->c+d<=e+b->a+c+d<=n+e:=λ{a b c d e n} h k=>η (Ψ (aA ..)) (η (az k a) (η (Ψ ((congrArg (a+·) (aQ ..)).trans (aA ..).symm)) (bM h e)))
 ⟨I.p.app p,by rw[mD];exact go I.s w,by rw[Θ];exact go I.l c⟩
theorem Inv.keep(w:cX aW L<=15)(c:L.length<=4):Inv (k+1) (ts++L) H:=I.step p (bM w _) (bM c _)
theorem Inv.push{d:Hd}(w:cX aW L+hq d<=15)(c:L.length+2<=4):Inv (k+1) (ts++L) (d::H):=I.step p (η (Ψ (aA ..).symm) (bM w _)) (η (Ψ ((congrArg (L.length+·) (aQ (2*H.length) 2)).trans (aA ..).symm)) (bM c _))
theorem Inv.pop(w:cX aW L<=15)(c:L.length<=4):Inv (k+1) (ts++L) H.tail:=by
 cases H with
 |nil=>exact I.keep p w c
 |cons d H=>exact I.step p (dG w (ai ..)) (dG c (ji 2 (gv _)))
end
noncomputable def DI(k:Nat)(ts:List (List Nat))(d:Dr):Prop:=Inv (k+1) (ts++d.L) d.H
theorem UM{k:Nat}{ts:List (List Nat)}{H:List Hd}{so sb sg sn:List Nat}{e6 q:Int}{w:Bool}(I:Inv k ts H)(po:Pc so∧aW so<=15)(pb:Pc sb∧aW sb<=12)(pg:Pc sg∧aW sg<=6)(pn:Pc sn∧aW sn<=10):DI k ts (AL so sb sg sn e6 q H w):=
 have one:∀{s},Pc s->dE [s]:=λh=>.cons h .nil
 have c1:∀{c:Nat},eX c=true->dE [[c]]:=λh=>one (qM h)
 ei (I.keep (one po.1) po.2 (by decide:1<=4)) (ei (I.keep (one pg.1) (η pg.2 (by decide)) (by decide:1<=4)) (ei (I.keep (.cons pn.1 (.cons (qM rfl) (c1 rfl))) (η (bM pn.2 4) (by decide)) (by decide:3<=4))
  (ei (ei (I.push (d:=.call) (.cons pn.1 (c1 rfl)) (η (bM pn.2 4) (by decide)) (by decide:2+2<=4)) (I.push (d:=.par) (L:=[[40]]) (c1 rfl) (by decide) (by decide:1+2<=4)))
  (ei (I.pop (L:=[[41]]) (c1 rfl) (by decide) (by decide)) (ei (I.push (d:=.q) (L:=[[63]]) (c1 rfl) (by decide) (by decide)) (ei (I.pop (L:=[[58]]) (c1 rfl) (by decide) (by decide)) (ei (I.keep (L:=[[44]]) (c1 rfl) (by decide) (by decide)) (I.keep (one pb.1) (η pb.2 (by decide)) (by decide:1<=4)))))))))
noncomputable abbrev U5:Type:=Slot×Slot×Slot×Slot×Slot
theorem UN{C:Δ}{h:Hp}{X:V}{A:List V}{H:List Hd}{w:Bool}{u:U5}:ν C (.ite (.cmp .gt (.fS 2) (.int 0)) (.k4 2 (.neg (.int 1))) (.str [])) (b9 X A (a9 H) w u) h=some (.ok (.str (dD H)) (b9 X A (a9 H) w u) h):=by
 cases H with
 |nil=>rfl
 |cons d H=>
  refine(GD (x:=true) (C:=C) (h:=h) (ρ:=b9 X A (a9 (d::H)) w u) ?_).trans ?_
  ·exact congrArg (λb=>some (Rs.ok (V.bool b) (b9 X A (a9 (d::H)) w u) h)) (dT (p:=(0:Int)<((a9 (d::H)).length:Nat)) (by rw[jQ];exact cJ.mpr (gu _)))
  show up (υ (.list (a9 (d::H))) (.int (-1))) _ h=_
  rw[Ai];rfl
section
variable{W D:Nat}{h:Hp}(xs:List Int)(hD:1<=D)
include hD
theorem UO{k:Nat}(hk:k<18){ts:List (List Nat)}{H:List Hd}(w:Bool)(I:Inv k ts H)(u:U5):∃pH H' w' u',Inv (k+1) pH H'∧θ (ι prog W D) W wD ((b9 (.list (xs.map V.int)) (ao ts) (a9 H) w u).set 4 (.v (.int (k:Nat)))) h=some (.ok .ο (b9 (.list (xs.map V.int)) (ao pH) (a9 H') w' u') h):=by
 obtain⟨d,hd⟩:=tM (W:=W) xs k hk
 obtain⟨so,UP,UQ⟩:=UH (W:=W) (Int.fdiv d 8)
 obtain⟨sb,yh,yi⟩:=UI (W:=W) (Int.fdiv d 8)
 obtain⟨sg,UR,vW⟩:=pick (L:=HV) (n:=4) rfl (by decide) (Int.fdiv d 8)
 obtain⟨sn,US,UT⟩:=pick (L:=HW) (n:=4) rfl (by decide) (Int.fdiv d 8)
 have l:ts.length+2*H.length<=72:=η I.l (ji 4 (bE hk))
 refine⟨_,_,(AL so sb sg sn (Int.fmod d 8) (Int.fdiv d 8) H w).w,(.v (.int (k:Nat)),.v (.int d),.v (.int (Int.fmod d 8)),.v (.int (Int.fdiv d 8)),.v (.str (dD H))),UM (e6:=Int.fmod d 8) (q:=Int.fdiv d 8) (w:=w) I (tN (m:=15) rfl UP) (tN (m:=12) rfl yh) (tN (m:=6) rfl UR) (tN (m:=10) rfl US),?_⟩
 have y:=UL (W:=W) (X:=.list (xs.map V.int)) (A:=ao ts) (H:=H) (w:=w) (e6:=Int.fmod d 8) (s4:=.v (.int (k:Nat))) (s5:=.v (.int d)) (UQ h D hD) (yi h D hD) vW UT (η (bM (η (Ψ (b_ ..)) (d7 l)) 3) (by decide)) (η (Ψ (jQ H)) (η (Nat.le_of_mul_le_mul_left (η (kW l) (by decide:72<=2*36)) (by decide)) (by decide)))
 refine Eq.trans (g8 (v:=.int d) (ge λκ=>κ _ (hd h D hD))) ((g8 (v:=.int (Int.fmod d 8)) rfl).trans ((g8 (v:=.int (Int.fdiv d 8)) rfl).trans ((g8 (UN (u:=(.v (.int (k:Nat)),.v (.int d),.v (.int (Int.fmod d 8)),.v (.int (Int.fdiv d 8)),u.2.2.2.2)))).trans (y.trans ?_))))
 unfold ao;rw[fc];rfl
theorem UU(n:Nat):∀{k:Nat} {ts:List (List Nat)} {H:List Hd} {w:Bool} {u:U5},k+n<=18->Inv k ts H->∃pH H' w' u',Inv (k+n) pH H'∧cy (ι prog W D) W 4 wD (gL k n) (b9 (.list (xs.map V.int)) (ao ts) (a9 H) w u) h=some (.ok .ο (b9 (.list (xs.map V.int)) (ao pH) (a9 H') w' u') h):=by
 induction n with
 |zero=>exact λ_ I=>⟨_,_,_,_,I,rfl⟩
 |succ n ih=>
  intro k ts H w u hk I
  obtain⟨t1,h1,w1,u1,I1,e⟩:=UO (W:=W) (h:=h) xs hD (d6 (Nat.lt_add_of_pos_right (gu n)) hk) w I u
  have e0:k+1+n=k+(n+1):=iG ..
  obtain⟨t2,h2,w2,u2,I2,y⟩:=ih (w:=w1) (u:=u1) (e0▸hk) I1
  exact⟨t2,h2,w2,u2,e0▸I2,nL.trans (by rw[e];exact y)⟩
end
noncomputable def tO:List S:=lM Prog.j1.body 5
theorem UW{C:Δ}{W:Nat}{h:Hp}{X:V}{w:Bool}{u:U5}(H:List Hd):∀{n:Nat} {ts:List (List Nat)},H.length<n->ts.length+2*H.length<=1000->∃L,dE L∧cX aW L<=cX hq H∧L.length<=2*H.length∧aO C W (.cmp .gt (.fS 2) (.int 0)) tO n (b9 X (ao ts) (a9 H) w u) h=some (.ok .ο (b9 X (ao (ts++L)) [] w u) h):=by
 induction H with
 |nil=>
  intro n ts hn _
  cases n with
  |zero=>exact absurd hn (Nat.not_lt_zero _)
  |succ n=>exact⟨[],.nil,ξ 0,ξ 0,by rw[ck];exact gw λκ=>κ _ rfl _ rfl⟩
 |cons d H ih=>
  intro n ts hn hl
  cases n with
  |zero=>exact absurd hn (Nat.not_lt_zero _)
  |succ n=>
   have n0:decide ((0:Int)<((a9 H++[V.str d.s]).length:Nat))=true:=dT (by rw[Θ];exact cJ.mpr (gu _))
   have l2:(ao ts).length+2<=af:=η (bM (η (Ψ (b_ ..)) (d7 hl)) 2) (by decide)
   have l0:(ao ts).length<=af:=d7 l2
   have l1:(ao ts++[V.str [58]]).length<=af:=by rw[Θ];exact iE l2
   have go:∀(K:List (List Nat)),dE K->cX aW K<=hq d->K.length<=2->aO C W (.cmp .gt (.fS 2) (.int 0)) tO (n+1) (b9 X (ao ts) (a9 (d::H)) w u) h=aO C W (.cmp .gt (.fS 2) (.int 0)) tO n (b9 X (ao (ts++K)) (a9 H) w u) h->∃L,dE L∧cX aW L<=cX hq (d::H)∧L.length<=2*(d::H).length∧aO C W (.cmp .gt (.fS 2) (.int 0)) tO (n+1) (b9 X (ao ts) (a9 (d::H)) w u) h=some (.ok .ο (b9 X (ao (ts++L)) [] w u) h):=λK p g c e=>by
    obtain⟨L,p1,g1,c1,y⟩:=ih (n:=n) (ts:=ts++K) (fi hn) (by rw[Θ,aA];exact η (az (η (bM c _) (Ψ (aQ ..))) _) hl)
    rw[aN]at y
    exact⟨K++L,p.app p1,by rw[mD];exact dG g g1,by rw[Θ,aQ];exact dG c1 c,e.trans y⟩
   cases e:d.s==[63]with
   |true=>
    have dq:d=.q:=by cases d<;>first|rfl|exact absurd e ς
    subst dq
    refine go [[58],[48]] (.cons (qM rfl) (.cons (qM rfl) .nil)) (by decide) (by decide) ?_
    rw[fB,show ao (ts++[[58],[48]])=ao ts++[.str [58]]++[.str [48]]by unfold ao;rw[fc,aN];rfl]
    exact gw λκ=>(κ _ rfl _ n0 _ jX _ rfl _ rfl l0 l1).trans (by rw[jY];rfl)
   |false=>
    refine go [[41]] (.cons (qM rfl) .nil) (bC _) (by decide) ?_
    rw[fB,show ao (ts++[[41]])=ao ts++[.str [41]]from fc]
    exact gw λκ=>(κ _ rfl _ n0 _ jX _ rfl _ e l0).trans (by rw[jY];rfl)
structure Dn (T:List (List Nat)) (m n:Nat):Prop where
 p:dE T
 w:cX aW T<=m
 l:T.length<=n
theorem UX{W D:Nat}{h:Hp}(xs:List Int)(hW:200<W)(hD:1<=D):∃T,Dn T 183 49∧ι prog W (D+1) .j1 [.list (xs.map V.int)] h=some (.ret (.list (ao T)) h):=by
 obtain⟨d,hd⟩:=tM (W:=W) xs 17 (by decide)
 have f1:=Int.fmod_nonneg_of_pos d (by decide:(0:Int)<12)
 have f2:=Int.fmod_lt_of_pos d (by decide:(0:Int)<12)
 obtain⟨m,e⟩:=Int.eq_ofNat_of_zero_le (Int.sub_nonneg_of_le (Int.le_of_lt f2))
 have wF:m<=12:=aK.mp (e▸Int.sub_le_self 12 f1)
 obtain⟨ts,H,w,u,I,lp⟩:=UU (W:=W) (h:=h) xs hD m (k:=0) (ts:=[]) (H:=[]) (w:=true) (u:=(.un,.un,.un,.un,.un)) (η (Ψ (bR _)) (η wF (by decide))) ⟨.nil,ξ 0,ξ 0⟩
 rw[bR]at I
 have s:=η I.s (ji 15 wF)
 have l:=η I.l (ji 4 wF)
 have lt:(ao ts).length<=af:=η (Ψ (b_ ..)) (η (d7 l) (by decide))
 have go:∀(K:List (List Nat)),dE K->cX aW K<=3->K.length<=1->(∀T,aO (ι prog W D) W (.cmp .gt (.fS 2) (.int 0)) tO W (b9 (.list (xs.map V.int)) (ao (ts++K)) (a9 H) w u) h=some (.ok .ο (b9 (.list (xs.map V.int)) (ao T) [] w u) h)->ι prog W (D+1) .j1 [.list (xs.map V.int)] h=some (.ret (.list (ao T)) h))->∃T,Dn T 183 49∧ι prog W (D+1) .j1 [.list (xs.map V.int)] h=some (.ret (.list (ao T)) h):=λK p g c y=>by
  have a:∀{a b c n k x:Nat},a+b<=n->c<=k->x<=b->a+c+x<=n+k:=λ{a b c n k x} h1 h2 h3=>η (Ψ (iG ..)) (dG (η (az h3 a) h1) h2)
  obtain⟨L,p1,g1,c1,z⟩:=UW (C:=ι prog W D) (W:=W) (h:=h) (X:=.list (xs.map V.int)) (w:=w) (u:=u) H (n:=W) (ts:=ts++K) (aX (η (Nat.le_mul_of_pos_left H.length (by decide:0<2)) (kW l)) (gn (by decide) hW)) (by rw[Θ];exact η (a l c (ξ _)) (by decide))
  exact⟨ts++K++L,⟨(I.p.app p).app p1,by rw[mD,mD];exact a s g g1,by rw[Θ,Θ];exact a l c c1⟩,y _ z⟩
 have bd:0<=(0:Int)∧(0:Int)<=dy∧12 - Int.fmod d 12<=dy∧ -dy<=12 - Int.fmod d 12:=e▸tv (a:=0) (n:=m) (bC _) (η wF (by decide))
 have rg:gR 0 (12 - Int.fmod d 12)=gL 0 m:=e▸wi (a:=0) (b:=m)
 have lp:=(congrArg (λl=>cy (ι prog W D) W 4 wD l (b9 (.list (xs.map V.int)) (ao []) (a9 []) true (.un,.un,.un,.un,.un)) h) rg).trans lp
 cases w with
 |true=>exact go [[55]] (.cons (qM rfl) .nil) (by decide) (by decide) λT y=>(ω (ρ:=[.v (.list (xs.map V.int)),.un,.un,.un,.un,.un,.un,.un,.un]) rfl).trans (ga λκ=>κ _ (hd h D hD) _ rfl bd (.ok .ο (b9 (.list (xs.map V.int)) (ao ts) (a9 H) true u) h) lp _ rfl lt _ ((congrArg (λl=>aO _ _ _ _ _ (b9 _ l _ _ _) _) (show ao ts++[.str [55]]=ao (ts++[[55]])from(fc (f:=V.str) (l₁:=ts) (l₂:=[[55]])).symm)).trans y))
 |false=>exact go [] .nil (by decide) (by decide) λT y=>(ω (ρ:=[.v (.list (xs.map V.int)),.un,.un,.un,.un,.un,.un,.un,.un]) rfl).trans (ga λκ=>κ _ (hd h D hD) _ rfl bd (.ok .ο (b9 (.list (xs.map V.int)) (ao ts) (a9 H) false u) h) lp _ rfl _ ((congrArg (λl=>aO _ _ _ _ _ (b9 _ (ao l) _ _ _) _) (ck ts).symm).trans y))
end
section
theorem Good.append{a b:List Nat}(g:Good a)(k:Good b):Good (a++b):=by
 induction g with
 |nil e=>rw[e];exact k
 |chr c r e h g ih=>rw[e];exact .chr c _ rfl h ih
 |qy r e g ih=>rw[e];exact .qy _ rfl ih
 |leaf s v r e h g ih=>rw[e,aN];exact .leaf s v _ rfl h ih
noncomputable def H5:List (List Nat):=[[],[32],[],[10],[],[9,32],[92,10],[32]]
structure Gp (s:List Nat):Prop where
 g:Good s
 w:aW s=0
 l:s.length<=2
theorem wG:Gp [32]:=⟨.chr 32 [] rfl rfl (.nil rfl),rfl,by decide⟩
theorem UY{s:List Nat}(h:s∈H5):Gp s:=
 have e:Gp []:=⟨.nil rfl,rfl,by decide⟩
 fL (P:=Gp) h ⟨e,wG,e,⟨wC rfl,rfl,by decide⟩,e,⟨wC rfl,rfl,by decide⟩,⟨.qy [] rfl (.nil rfl),rfl,by decide⟩,wG,trivial⟩
noncomputable def Sh(s:List Nat):Prop:=s=[]∨∃c,s=[c]∧c<128
theorem UZ(m:Nat):PySem.clipAt (m+1) (-1)=m:=by
 unfold PySem.clipAt
 rw[if_pos (by decide),Int.add_comm,show((m+1:Nat):Int)+ -1=m from i9 m 1,Int.min_eq_left (aK.mpr (gv m)),Int.max_eq_right (eC _)]
 rfl
theorem U0{t:List Nat}(as:ascii t=true):∃s,bG (.str t) (some (.int (-1))) Option.none=some (.str s)∧Sh s:=by
 rcases List.eq_nil_or_concat t with rfl|⟨i,o,rfl⟩
 ·exact⟨[],rfl,.inl rfl⟩
 ·rw[List.concat_eq_append]at as⊢
  refine⟨[o],?_,.inr ⟨o,rfl,of_decide_eq_true (dM.mp as o (cS _ (.head _)))⟩⟩
  show some (V.str (((i++[o]).drop (PySem.clipAt (i++[o]).length (-1))).take ((i++[o]).length - PySem.clipAt (i++[o]).length (-1))))=_
  rw[show(i++[o]).length=i.length+1 from Θ,UZ,List.drop_left,dN]
  rfl
noncomputable def tP:List S:=lM Prog.kZ.body 1
noncomputable def iC(T:V)(g:Int)(cf:Bool)(text:List Nat)(s4 s5:Slot):Loc:=[.v T,.v (.int g),.v (.bool cf),.v (.str text),s4,s5]
theorem U1{C:Δ}{W:Nat}{ρ:Loc}{h:Hp}{c e:E}{x:Nat}{rest:List S}{v:V}{y:Bool}(hc:ν C c ρ h=some (.ok (.bool y) ρ h))(he:ν C e ρ h=some (.ok v ρ h)):θ C W (.ifs c [.asg x e] []::rest) ρ h=θ C W rest (bif y then ρ.set x (.v v)else ρ) h:=by
 show M.ζ (M.ζ (ν C c ρ h) _) _=_
 rw[hc]
 cases y with
 |true=>show M.ζ (M.ζ (M.ζ (ν C e ρ h) _) _) _=_;rw[he];rfl
 |false=>rfl
theorem U2{k:Nat}(h:k<=1000):eL (k:Int)=true:=by
 unfold eL
 exact decide_eq_true ⟨Int.lt_of_lt_of_le (by decide+kernel) (eC k),Int.lt_of_le_of_lt (aK.mpr h) (by decide+kernel)⟩
theorem U3{a b:Int}(h:eL b=true):dR .mul (.int a) (.int b)=some (.int (a*b)):=if_pos (by rw[h];rfl)
section
variable{W D:Nat}{h:Hp}(hD:1<=D)
include hD
theorem H6{s:List Nat}(hs:Sh s):∃b,ι prog W D .gA [.str s] h=some (.ret (.bool b) h):=hs.elim (λe=>⟨_,e▸QQ D hD⟩) λ⟨c,e,hc⟩=>⟨_,e▸zU c hc D hD⟩
theorem U4{T:V}{g:Int}{cf:Bool}{text r:List Nat}{k c:Nat}{s5:Slot}(hk:k<=1000)(as:ascii text=true)(hc:c<128)(tk:υ T (.int (k:Nat))=some (.str (c::r)))(l:text.length+7<=af)(lr:(c::r).length<=5):∃gap,Gp gap∧θ (ι prog W D) W tP (iC T g cf text (.v (.int (k:Nat))) s5) h=some (.ok .ο (iC T g cf (text++gap++(c::r)) (.v (.int (k:Nat))) (.v (.str gap))) h):=by
 obtain⟨n,en⟩:=Int.eq_ofNat_of_zero_le (Int.fmod_nonneg_of_pos (k:Int) (by decide:(0:Int)<6))
 have n6:n<6:=cJ.mp (en▸Int.fmod_lt_of_pos (k:Int) (by decide:(0:Int)<6))
 have pw:=(by decide:∀n<6,(0:Int)<8^n∧(8:Int)^n<1000000) n n6
 obtain⟨gap,gp,U6⟩:=pick (L:=H5) (n:=8) rfl (by decide) (Int.fdiv g ((8:Int)^n)+g*k+k)
 have gp:=UY gp
 obtain⟨c0,sl,sh⟩:=U0 as
 obtain⟨b0,w0⟩:=H6 (W:=W) (h:=h) hD sh
 obtain⟨b1,w1⟩:=H6 (W:=W) (h:=h) hD (s:=[c]) (.inr ⟨c,rfl,hc⟩)
 have key:∀qN,Gp qN->θ (ι prog W D) W (tP.drop 2) (iC T g cf text (.v (.int (k:Nat))) (.v (.str qN))) h=some (.ok .ο (iC T g cf (text++qN++(c::r)) (.v (.int (k:Nat))) (.v (.str qN))) h):=λqN U7=>by
  have l2:(text++qN++(c::r)).length<=af:=by rw[Θ,Θ,aA];exact η (az (dG U7.l lr) _) l
  exact gs λκ=>κ _ (bq (av l2)) _ tk _ (bq l2)
 obtain⟨y,cond⟩:∃y,ν (ι prog W D) (.and [(.cmp .eq (.loc 5) (.str [])),(.loc 2),(.call .gA [(.ae (.loc 3) (some (.neg (.int 1))) .none)]),(.call .gA [(.sub (.sub (.loc 0) (.loc 4)) (.int 0))])]) (iC T g cf text (.v (.int (k:Nat))) (.v (.str gap))) h=some (.ok (.bool y) (iC T g cf text (.v (.int (k:Nat))) (.v (.str gap))) h):=
  ⟨_,bO (bA rfl λ_=>bA rfl λ_=>bA (ge λκ=>κ _ sl _ w0) λ_=>HZ (ge λκ=>κ _ tk _ sub_0 _ w1))⟩
 have hm:dR .mul (.int g) (.int (k:Nat))=some (.int (g*k)):=U3 (U2 hk)
 have st:∀{z},θ (ι prog W D) W (tP.drop 2) (bif y then iC T g cf text (.v (.int (k:Nat))) (.v (.str [32]))else iC T g cf text (.v (.int (k:Nat))) (.v (.str gap))) h=z->θ (ι prog W D) W tP (iC T g cf text (.v (.int (k:Nat))) s5) h=z:=λe=>by
  refine Eq.trans (g8 (v:=.str gap) ?_) ((U1 cond rfl).trans e)
  exact ge λκ=>κ (.int n) (en▸rfl) _ (if_pos ⟨rfl,eC n,cJ.mpr (gn n6 (by decide))⟩) _ (if_pos pw) _ hm _ rfl _ U6
 cases y with
 |true=>exact⟨[32],wG,st (key _ wG)⟩
 |false=>exact⟨gap,gp,st (key _ gp)⟩
structure Tx (text:List Nat) (l:List (List Nat)) (t:List Nat):Prop where
 g:Good t
 w:aW t<=aW text+cX aW l
 l:t.length<=text.length+7*l.length
theorem U8{T:List (List Nat)}{g:Int}{cf:Bool}(p:dE T)(l:List (List Nat)):∀{k:Nat} {text:List Nat} {s4 s5:Slot},T.drop k=l->Good text->text.length+7*l.length<=900->k+l.length<=900->∃t,Tx text l t∧∃U9 U_,cy (ι prog W D) W 4 tP (gL k l.length) (iC (.list (ao T)) g cf text s4 s5) h=some (.ok .ο (iC (.list (ao T)) g cf t U9 U_) h):=by
 induction l with
 |nil=>exact λ{k text s4 s5} _ gt _ _=>⟨text,⟨gt,ξ _,ξ _⟩,s4,s5,rfl⟩
 |cons tok l ih=>
  intro k text s4 s5 e gt hl hk
  have pt:=p tok (List.mem_of_mem_drop (e▸c9 ..))
  have l7:text.length+7+7*l.length<=900:=η (Ψ ((aA ..).trans (congrArg (text.length+·) (aQ ..)))) hl
  cases tok with
  |nil=>exact absurd rfl pt.ne
  |cons c r=>
   obtain⟨gap,gp,y⟩:=U4 (W:=W) (h:=h) hD (T:=.list (ao T)) (g:=g) (cf:=cf) (s5:=s5) (η (d7 hk) (by decide)) gt.asc (of_decide_eq_true (bD.mp pt.g.asc).1) (oj (by unfold ao;rw[eE,nU e];rfl)) (η (d7 l7) (by decide)) pt.l
   have ln:(text++gap++c::r).length<=text.length+7:=by rw[Θ,Θ,aA];exact az (dG gp.l pt.l) _
   obtain⟨t,x,a4,a5,z⟩:=ih (s4:=.v (.int (k:Nat))) (s5:=.v (.str gap)) (aV e) ((gt.append gp.g).append pt.g) (η (bM ln _) l7) (η (Ψ (iG ..)) hk)
   exact⟨t,⟨x.g,by have w:=x.w;rw[v',v',gp.w,Nat.add_zero,aA]at w;exact w,η x.l (η (bM ln _) (Ψ ((aA ..).trans (congrArg (text.length+·) (aQ ..)))))⟩,a4,a5,nL.trans ((congrArg (M.ζ · _) y).trans z)⟩
theorem H7{T:List (List Nat)}{m:Nat}(d:Dn T m 67)(g:Int)(cf:Bool):∃t,Tx [] T t∧ι prog W (D+1) .kZ [.list (ao T),.int g,.bool cf] h=some (.ret (.str t) h):=by
 obtain⟨t,x,a4,a5,y⟩:=U8 (W:=W) (h:=h) hD (g:=g) (cf:=cf) d.p T (k:=0) (text:=[]) (s4:=.un) (s5:=.un) rfl (.nil rfl) (η (Ψ (bR _)) (η (ji 7 d.l) (by decide))) (η (Ψ (bR _)) (η d.l (by decide)))
 have ln:(ao T).length=T.length:=b_ ..
 exact⟨t,x,(ω (ρ:=[.v (.list (ao T)),.v (.int g),.v (.bool cf),.un,.un,.un]) rfl).trans (ga λκ=>κ _ rfl (tv (a:=0) (n:=(ao T).length) (bC _) (ln▸η d.l (by decide))) (.ok .ο (iC (.list (ao T)) g cf t a4 a5) h) ((congrArg (λl=>cy _ _ _ _ l _ _) (wi.trans (by rw[ln];rfl))).trans y))⟩
end
theorem wH(L:List V)(a:Nat):bG (.list L) Option.none (some (.int (a:Nat)))=some (.list (L.take a)):=by
 show some (V.list ((L.drop 0).take (PySem.clipAt L.length a - 0)))=_
 rw[pT,Nat.sub_zero,List.drop_zero,<-List.take_eq_take_min]
theorem AM(L:List V)(a:Nat):bG (.list L) (some (.int (a:Nat))) Option.none=some (.list (L.drop a)):=by
 show some (V.list ((L.drop (PySem.clipAt L.length a)).take (L.length - PySem.clipAt L.length a)))=_
 rw[jU (Ψ cY),pT]
 rcases Nat.le_total a L.length with h|h
 ·rw[fH h]
 ·rw[Nat.min_eq_right h,kU (ξ _),kU h]
theorem U'{α:Type}(f:α->Nat):∀l:List α,cX f (l.drop 1)<=cX f l
 |[]=>ξ _
 |_::_=>ai ..
theorem AN{T P:List (List Nat)}{m n a b:Nat}(d:Dn T m n)(p:dE P)(w:cX aW P<=12)(l:P.length<=1)(ab:b=a∨b=a+1):Dn (T.take a++P++T.drop b) (m+12) (n+1):=by
 have g:=mD aW (T.take a) (T.drop a)
 have ln:=Θ (as:=T.take a) (bs:=T.drop a)
 rw[fJ]at g ln
 have le:cX aW (T.drop b)<=cX aW (T.drop a)∧(T.drop b).length<=(T.drop a).length:=ab.elim (λe=>e▸⟨ξ _,ξ _⟩) λe=>by
  rw[e,<-cA]
  exact⟨U' ..,by rw[cY];exact Nat.sub_le ..⟩
 have a3:∀{x y z c k},x+z=c->y<=k->∀{z'},z'<=z->x+y+z'<=c+k:=λ{x y z c k} e h {z'} h'=>η (Ψ (iG ..)) (dG (η (az h' x) (Ψ e)) h)
 refine⟨dE.app (dE.app (λs h=>d.p s (kS h)) p) λs h=>d.p s (List.mem_of_mem_drop h),?_,?_⟩
 ·rw[mD,mD];exact η (a3 g.symm w le.1) (bM d.w _)
 ·rw[Θ,Θ];exact η (a3 ln.symm l le.2) (bM d.l _)
theorem add_l{a b:List V}{n:Nat}(h:(a++b).length<=n)(k:n<=af):t9 (.list a) (.list b)=some (.list (a++b)):=if_pos (η h k)
theorem Va{x y:Int}{a:Nat}(h:y≠0)(e:Int.fmod x y=a):dR .mod (.int x) (.int y)=some (.int (a:Nat)):=(if_pos h).trans (congrArg (λi=>some (V.int i)) e)
theorem Vb{W D:Nat}{h:Hp}(hD:1<=D){T:List (List Nat)}{m n:Nat}(d:Dn T m n)(hn:n<1000)(pl dr:Int):∃T',Dn T' (m+12) (n+1)∧ι prog W (D+1) .j2 [.list (ao T),.int pl,.int dr] h=some (.ret (.list (ao T')) h):=by
 obtain⟨p,pm,hg⟩:=UJ (W:=W) (Int.fdiv dr 4)
 have pc:=tN (m:=12) rfl pm
 have sl:((ao T).length:Int)=T.length:=congrArg Nat.cast (b_ ..)
 obtain⟨a,ea⟩:=Int.eq_ofNat_of_zero_le (Int.fmod_nonneg_of_pos pl (show(0:Int)<((ao T).length:Int)+1 from cJ.mpr (gu _)))
 have d1:=AN d (P:=[]) (a:=a) (b:=a+1) .nil (bC _) (bC _) (.inr rfl)
 have d2:=AN d (P:=[p]) (a:=a) (b:=a) (.cons pc.1 .nil) pc.2 (ξ 1) (.inl rfl)
 have d3:=AN d (P:=[p]) (a:=a) (b:=a+1) (.cons pc.1 .nil) pc.2 (ξ 1) (.inr rfl)
 have e:∀{P b},ao (T.take a++P++T.drop b)=(ao T).take a++ao P++(ao T).drop b:=λ{P b}=>by unfold ao;rw[fc,fc,List.map_take,List.map_drop]
 have ln:∀{T':List (List Nat)} {m'},Dn T' m' (n+1)->(ao T').length<=1000:=λd=>η (Ψ (b_ ..)) (η d.l hn)
 have l1:=ln d1
 have l2:=ln d2
 have l3:=ln d3
 rw[e]at l1 l2 l3
 rw[show ao []=[]from rfl,ck]at l1
 have run:∀{T'},π (θ (ι prog W D) W (Prog.j2.body.drop 2) [.v (.list (ao T)),.v (.int pl),.v (.int dr),.v (.int (a:Nat)),.v (.str p)] h)=some (.ret (.list (ao T')) h)->ι prog W (D+1) .j2 [.list (ao T),.int pl,.int dr] h=some (.ret (.list (ao T')) h):=λy=>by
  refine(ω (ρ:=[.v (.list (ao T)),.v (.int pl),.v (.int dr),.un,.un]) rfl).trans (Eq.trans (gq (b:=Prog.j2.body.take 2) (tl:=Prog.j2.body.drop 2) ?_) y)
  exact λκ=>κ _ rfl (.int (a:Nat)) (Va (Int.ne_of_gt (show(0:Int)<((ao T).length:Int)+1 from cJ.mpr (gu _))) ea) _ rfl _ (hg h D hD)
 cases y0:Int.fmod dr 4==0 with
 |true=>exact⟨_,d1,run (ga λκ=>(κ _ rfl _ rfl _ y0 _ (wH _ a) _ (AM _ (a+1)) _ (add_l l1 (by decide))).trans (by rw[e,show ao []=[]from rfl,ck]))⟩
 |false=>
  cases y1:Int.fmod dr 4==1 with
  |true=>exact⟨_,d2,run (ga λκ=>(κ _ rfl _ rfl _ y0 _ rfl _ rfl _ y1 _ (wH _ a) _ (add_l (av l2) (by decide)) _ (AM _ a) _ (add_l l2 (by decide))).trans (by rw[e];rfl))⟩
  |false=>exact⟨_,d3,run (ga λκ=>(κ _ rfl _ rfl _ y0 _ rfl _ rfl _ y1 _ (wH _ a) _ (add_l (av l3) (by decide)) _ (AM _ (a+1)) _ (add_l l3 (by decide))).trans (by rw[e];rfl))⟩
end
section
structure Qv (n:Nat) (v:V):Prop where
 p:V.plain n v=true
 e:V.eqv v v=true
structure Qs (n:Nat) (vs:List V):Prop where
 p:dS n vs=true
 e:rf vs vs=true
section
variable{n:Nat}{v:V}{vs:List V}
theorem Qs.nil:Qs n []:=⟨by cases n<;>rfl,rfl⟩
theorem Qs.cons(a:Qv n v)(b:Qs n vs):Qs n (v::vs):=⟨(Od ..).trans (aT a.p b.p),aT a.e b.e⟩
theorem Qs.tup(a:Qs n vs):Qv (n+1) (.tup vs):=⟨a.p,a.e⟩
theorem Qv.str{s:List Nat}:Qv n (.str s):=⟨by cases n<;>rfl,beq_self_eq_true s⟩
theorem Qv.int{i:Int}:Qv n (.int i):=⟨by cases n<;>rfl,beq_self_eq_true i⟩
theorem Qv.ne(a:Qv et (.tup vs)):aY .ne (.tup vs) (.tup vs)=some false:=by
 show(o_ (.tup vs) (.tup vs)).map (!·)=_
 rw[show o_ (.tup vs) (.tup vs)=if(V.plain et (.tup vs)&&V.plain et (.tup vs))=true then some (V.eqv (.tup vs) (.tup vs))else Option.none from rfl,a.p,a.e]
 rfl
theorem Qs.tag{s:List Nat}(a:Qs n vs):Qv (n+1) (.tup (.str s::vs)):=(Qs.cons .str a).tup
end
theorem Vc{n:Nat}{k:TK}(hx:i_ k=true)(ok:eV k):Qv (n+3) (oz k):=by
 cases k with
 |num i=>exact(Qs.cons .int .nil).tag
 |wd s=>exact(Qs.cons .str .nil).tag
 |txt s=>exact(Qs.cons .str .nil).tag
 |b4 v=>exact fL (P:=λv=>Qv (n+3) (qe v)) ok ⟨⟨rfl,rfl⟩,⟨rfl,rfl⟩,⟨rfl,rfl⟩,⟨rfl,rfl⟩,trivial⟩
 |_=>exact absurd hx ς
noncomputable def VQ(t:CT):Prop:=∀{n},t.flat.length+2<=n->Qv n t.val
noncomputable def Vd(t:CT):Prop:=∀{n},t.flat.length+2<=n->Qs n t.vals
theorem up1{k n:Nat}(h:k+1<=n):∃m,n=m+1∧k<=m:=⟨n - 1,(dP (kW h)).symm,Nat.le_sub_of_add_le h⟩
theorem AO{α:Type}{l m:List α}{x:α}{n:Nat}(h:(l++x::m).length+2<=n):∃k,n=k+1∧l.length+2<=k∧m.length+2<=k:=by
 rw[Θ]at h
 exact(up1 (k:=l.length+m.length+2) (η (Ψ (by rw[List.length_cons];rfl)) h)).imp λ_ y=>⟨y.1,η (bM (aP ..) 2) y.2,η (bM (ai ..) 2) y.2⟩
theorem Ve(t:CT):(t.ok->(∀x∈t.flat,eV x.k)->VQ t)∧(t.ja->(∀x∈t.flat,eV x.k)->Vd t):=by
 induction t with
 |leaf x=>exact⟨λok f n hn=>by
   obtain⟨m,rfl⟩:=Nat.exists_eq_add_of_le' hn
   exact Vc ok (f x (.head _)),False.elim⟩
 |un x a a1=>exact⟨λok f n hn=>by
   obtain⟨m,rfl,h⟩:=up1 hn
   show Qv (m+1) (il x.k.d4 a.val)
   rw[show x.k.d4=.str (nm x)from congrArg TK.d4 (oB ok.1)]
   exact(Qs.cons .str (.cons (a1.1 ok.2.1 (λy m=>f y (.tail _ m)) h) .nil)).tag,False.elim⟩
 |par l a r a1=>exact⟨λok f n hn=>a1.1 ok.2.1 (λy m=>f y (.tail _ (cU _ m))) (η (bM (bW (by rw[Θ];exact aP ..)) 2) hn),False.elim⟩
 |dJ w l r=>exact⟨λok f n hn=>by
   obtain⟨m,rfl⟩:=Nat.exists_eq_add_of_le' hn
   exact(Qs.cons .str (.cons Qs.nil.tup .nil)).tag,False.elim⟩
 |call w l a r a1=>exact⟨λok f n hn=>by
   obtain⟨m,rfl,h1⟩:=up1 hn
   obtain⟨m,rfl,h2⟩:=up1 h1
   exact(Qs.cons .str (.cons (a1.2 ok.2.2.1 (λy m=>f y (.tail _ (.tail _ (cU _ m)))) (η (bM (show a.flat.length<=(a.flat++[r]).length by rw[Θ];exact aP ..) 2) h2)).tup .nil)).tag,False.elim⟩
 |bin x a b a1 b1=>exact⟨λok f n hn=>by
   obtain⟨m,rfl,ha,hb⟩:=AO hn
   have qa:=a1.1 ok.2.2.1 (λy m=>f y (cU _ m)) ha
   have qb:=b1.1 ok.2.2.2.1 (λy m=>f y (cS _ (.tail _ m))) hb
   exact je (P:=Qv (m+1)) (Qs.cons qa (.cons qb .nil)).tag (je (P:=Qv (m+1)) (Qs.cons qa (.cons qb .nil)).tag (Qs.cons .str (.cons qa (.cons qb .nil))).tag),False.elim⟩
 |b5 q a m c b a1 m1 b1=>exact⟨λok f n hn=>by
   obtain⟨k,rfl,ha,hm⟩:=AO hn
   have ln:m.flat.length<=(m.flat++c::b.flat).length∧b.flat.length<=(m.flat++c::b.flat).length:=by rw[Θ];exact⟨aP ..,η (gv _) (ai ..)⟩
   exact(Qs.cons (a1.1 ok.2.1 (λy m=>f y (cU _ m)) ha) (.cons (m1.1 ok.2.2.2.1 (λy m=>f y (cS _ (.tail _ (cU _ m)))) (η (bM ln.1 2) hm)) (.cons (b1.1 ok.2.2.2.2.2 (λy m=>f y (cS _ (.tail _ (cS _ (.tail _ m))))) (η (bM ln.2 2) hm)) .nil))).tag,False.elim⟩
 |last a a1=>exact⟨False.elim,λok f n hn=>.cons (a1.1 ok f hn) .nil⟩
 |more a c b a1 b1=>exact⟨False.elim,λok f n hn=>by
   obtain⟨k,e,ha,hb⟩:=AO hn
   have le:k<=n:=e▸gv k
   exact .cons (a1.1 ok.1 (λy m=>f y (cU _ m)) (η ha le)) (b1.2 ok.2.2 (λy m=>f y (cS _ (.tail _ m))) (η hb le))⟩
theorem H8(w:List Nat):aY .ne (kH w) (kH w)=some false:=(Qs.cons .int (.cons .str (.cons ⟨rfl,rfl⟩ .nil))).tup.ne
theorem Vf{v:V}(q:Qv 499 v):aY .ne (oI v) (oI v)=some false:=(Qs.cons .int (.cons q (.cons ⟨rfl,rfl⟩ .nil))).tup.ne
structure H9 (W D:Nat) (t:List Nat) (h:Hp) (r:V):Prop where
 told:∃h1,ι prog W D .gB [.str t] h=some (.ret r h1)
 tQ:∀h,ι prog W D .j4 [.str t] h=some (.ret r h)
 ne:aY .ne r r=some false
 rk:(∃w,r=kH w)∨∃v wr,r=oI v∧(∀h,ι prog W D .bH [v] h=some (.ret (.str wr) h))∧∀h,∃h1,ι prog W D .gB [.str wr] h=some (.ret r h1)
theorem agree{W D:Nat}{t:List Nat}(hW:950000<=W)(hD:214<=D)(g:Good t)(hl:t.length<=470)(hw:aW t<=200)(h:Hp):∃r,H9 W (D+3) t h r:=by
 have w1:t.length+10<W:=aX (bM hl 10) (d6 (by decide) hW)
 have l7:t.length<=700000:=η hl (by decide)
 obtain⟨x,lx,lt⟩:=RM (D:=D+1) g (η (by decide) (bW hD)) (aX (aP ..) w1) hl
 cases x with
 |bad w=>exact⟨kH (cE w t),QL (h:=h) w1 l7 lx (η (by decide) hD),λh=>(lt h).elim λu e=>(ω (ρ:=[.v (.str t),.un,.un,.un]) rfl).trans (Th e (g_ _ _)),H8 _,.inl ⟨_,rfl⟩⟩
 |ok ts=>
  have f:=(lt []).1
  have wl:wt ts<=200:=η (Aa ts) (η f.w hw)
  obtain⟨r,h1,e,to⟩:=Gl (h:=h) w1 (d6 (by decide) hW) l7 lx (B:=200) ⟨λx m=>(f.all x m).1,f.en,wl,η f.len (η (Nat.succ_le_succ hl) (by decide))⟩ hD
  have tQ:=λh=>Ti (h:=h) (W:=W) (D:=D+2) (B:=200) ⟨λx m=>(f.all x m).1,f.en,wl,η f.len (η (Nat.succ_le_succ hl) (by decide))⟩ l7 (d6 (by decide) hW) (η (by decide) (Nat.le_add_right_of_le hD)) (lt h).2 to
  cases to with
  |bad w sc q=>exact⟨r,⟨h1,e⟩,tQ,q▸H8 w,.inl ⟨w,q⟩⟩
  |ok T x ok fl sc q=>
   have mem:∀y∈T.flat,jT y:=λy m=>f.all y (by rw[fl];exact cU _ m)
   have sZ:=λy m=>(mem y m).1
   have ln:T.flat.length<=470:=jZ (η (Ψ (by rw[fl,Θ];rfl)) (η f.len (Nat.succ_le_succ hl)))
   have wB:ww T.flat<=200:=η (η (by rw[fl,mq];exact aP ..) f.w) hw
   have Vg:T.wr.length<=af:=η (HP T (.inl ok) sZ) (η (ji 700 ln) (by decide))
   refine⟨r,⟨h1,e⟩,tQ,q▸Vf ((Ve T).1 ok sZ (η (bM ln 2) (by decide))),.inr ⟨T.val,T.wr,q,λh=>(written T).1 ok sZ (η (az (η (Aa _) wB) 12) (Nat.le_add_right_of_le (η (by decide) hD))) Vg,λh=>q▸UD ok mem wB ln hW hD⟩⟩
noncomputable def AP:List S:=lM Prog.eK.body 7
noncomputable def oU(X L:V)(g:Int)(t r k d:Slot):Loc:=[.v X,.v L,.v (.int g),t,r,k,d]
section
variable{C:Δ}{W:Nat}{h h1 h2:Hp}{X L L' r v:V}{t wr:List Nat}{d d1 d2 g:Int}{k:Nat}
theorem Vh(wI:bG X Option.none (some (.int 63))=some X)(dr:C .j1 [X] h=some (.ret L h))(dg:C .iL [X,.int 16] h=some (.ret (.int d) h))(tx:C .kZ [L,.int (Int.fmod d 262144),.bool true] h=some (.ret (.str t) h))(du:C .j4 [.str t] h=some (.ret r h))(to:C .gB [.str t] h=some (.ret r h1))(ne:aY .ne r r=some false)
  (rk:(∃w,r=kH w)∨∃v wr,r=oI v∧(∀h,C .bH [v] h=some (.ret (.str wr) h))∧∀h,∃h1,C .gB [.str wr] h=some (.ret r h1)):
  ∃h2,π (θ C W Prog.eK.body [.v X,.un,.un,.un,.un,.un,.un] h)=π (θ C W (Prog.eK.body.drop 7) (oU X L (Int.fmod d 262144) (.v (.str t)) (.v r) .un .un) h2):=by
 rcases rk with⟨w,rfl⟩|⟨v,wr,rfl,w,to2⟩
 ·exact⟨h1,gq (b:=Prog.eK.body.take 7) (tl:=Prog.eK.body.drop 7) λκ=>κ _ wI _ dr _ dg _ rfl (.int (Int.fmod d 262144)) rfl _ tx _ du _ to _ ne _ rfl _ rfl _ rfl _ rfl _ rfl⟩
 ·obtain⟨h2,e⟩:=to2 h1
  exact⟨h2,gq (b:=Prog.eK.body.take 7) (tl:=Prog.eK.body.drop 7) λκ=>κ _ wI _ dr _ dg _ rfl (.int (Int.fmod d 262144)) rfl _ tx _ du _ to _ ne _ rfl _ rfl _ rfl _ rfl _ rfl _ (w h1) _ e _ ne _ rfl⟩
theorem Vi{t0 r0 s6:Slot}(Vj:C .iL [X,.int ((k+1:Nat):Int)] h=some (.ret (.int d1) h))(Vk:C .iL [X,.int (k:Nat)] h=some (.ret (.int d2) h))(sp:C .j2 [L,.int d2,.int d1] h=some (.ret L' h))(tx:C .kZ [L',.int g,.bool (!(Int.fmod d1 4==3))] h=some (.ret (.str t) h))(to:C .gB [.str t] h=some (.ret r h1))(du:C .j4 [.str t] h1=some (.ret r h1))(ne:aY .ne r r=some false):
  θ C W AP (oU X L g t0 r0 (.v (.int (k:Nat))) s6) h=some (.ok .ο (oU X L g (.v (.str t)) r0 (.v (.int (k:Nat))) (.v (.int d1))) h1):=gs λκ=>κ _ Vj _ Vk _ sp _ rfl _ rfl _ tx _ to _ du _ ne _ rfl
end
theorem Vl{W D:Nat}(hW:950000<=W)(hD:214<=D)(xs:List Int)(hx:xs.length<=63):∃h',ι prog W (D+4) .eK [.list (xs.map V.int)] []=some (.ret (.bool true) h'):=by
 have D3:∀{n},n<=3->n<=D+3:=λh=>η h (ai ..)
 have wI:bG (.list (xs.map V.int)) Option.none (some (.int 63))=some (.list (xs.map V.int)):=(wH _ 63).trans (by rw[jU (by rw[b_];exact hx)])
 obtain⟨T,dn,dr⟩:=UX (W:=W) (D:=D+2) (h:=[]) xs (d6 (by decide) hW) (ai ..)
 obtain⟨d,dg⟩:=tM (W:=W) xs 16 (by decide)
 have H_:∀{m n} {T:List (List Nat)} {t:List Nat} (h:Hp),Dn T m n->m<=200->n<=67->Tx [] T t->∃r,H9 W (D+3) t h r:=λh d hm hn x=>agree hW hD x.g (η x.l (η (Ψ (bR _)) (η (ji 7 (η d.l hn)) (by decide)))) (η x.w (η (Ψ (bR _)) (η d.w hm))) h
 obtain⟨t,x,tx⟩:=H7 (W:=W) (D:=D+2) (h:=[]) (ai ..) (T:=T) (m:=183) ⟨dn.p,dn.w,η dn.l (by decide)⟩ (Int.fmod d 262144) true
 obtain⟨r,a⟩:=H_ [] dn (by decide) (by decide) x
 obtain⟨h1,to⟩:=a.told
 obtain⟨h2,y⟩:=Vh (W:=W) wI dr (dg [] _ (D3 (by decide))) tx (a.tQ []) to a.ne a.rk
 have turn:∀(k:Nat) (h:Hp) (t0 s6:Slot),k+1<18->∃t1 d1 h',θ (ι prog W (D+3)) W AP (oU (.list (xs.map V.int)) (.list (ao T)) (Int.fmod d 262144) t0 (.v r) (.v (.int (k:Nat))) s6) h=some (.ok .ο (oU (.list (xs.map V.int)) (.list (ao T)) (Int.fmod d 262144) t1 (.v r) (.v (.int (k:Nat))) d1) h'):=λk h t0 s6 hk=>by
  obtain⟨d1,g1⟩:=tM (W:=W) xs (k+1) hk
  obtain⟨d2,g2⟩:=tM (W:=W) xs k (Nat.lt_of_succ_lt hk)
  obtain⟨T',wJ,sp⟩:=Vb (W:=W) (D:=D+2) (h:=h) (ai ..) dn (by decide) d2 d1
  obtain⟨t',x',Vm⟩:=H7 (W:=W) (D:=D+2) (h:=h) (ai ..) (T:=T') (m:=195) ⟨wJ.p,wJ.w,η wJ.l (by decide)⟩ (Int.fmod d 262144) (!(Int.fmod d1 4==3))
  obtain⟨r',a'⟩:=H_ h wJ (by decide) (by decide) x'
  obtain⟨h',Vn⟩:=a'.told
  exact⟨_,_,h',Vi (g1 h _ (D3 (by decide))) (g2 h _ (D3 (by decide))) sp Vm Vn (a'.tQ h') a'.ne⟩
 obtain⟨t1,d1,h3,b1⟩:=turn 12 h2 (.v (.str t)) .un (by decide)
 obtain⟨t2,d2,h4,b2⟩:=turn 14 h3 t1 d1 (by decide)
 have lp:cy (ι prog W (D+3)) W 5 AP [.int 12,.int 14] (oU (.list (xs.map V.int)) (.list (ao T)) (Int.fmod d 262144) (.v (.str t)) (.v r) .un .un) h2=some (.ok .ο (oU (.list (xs.map V.int)) (.list (ao T)) (Int.fmod d 262144) t2 (.v r) (.v (.int 14)) d2) h4):=nL.trans ((congrArg (M.ζ · _) b1).trans (nL.trans ((congrArg (M.ζ · _) b2).trans rfl)))
 exact⟨h4,(ω (ρ:=[.v (.list (xs.map V.int)),.un,.un,.un,.un,.un,.un]) rfl).trans (y.trans (ga λκ=>κ _ rfl _ lp))⟩
end
theorem all_true:PySem.Challenge.rw_np0146_01.Holds:=holds_of λxs hx=>Vl (W:=u_) (D:=296) (by decide) (by decide) xs hx
end Mine
end
theorem PySem.Challenge.cw_np0146_01_holds : PySem.Challenge.rw_np0146_01.Holds :=
  Mine.all_true
