import PyProof.Rows.All
import Wide.All
import OpenK.AllK
import Wide.FinOn
import Lean
import PySem.Challenge.RW_pq0086_02
set_option Elab.async false
set_option linter.unusedVariables false
set_option genSizeOfSpec false
set_option genInjectivity false
section
open PySem PySem.W PyProof.Rows
namespace PL
theorem Z7z:type_of% @Nat.le_trans:=@Nat.le_trans
theorem Z70:type_of% @Nat.le_refl:=@Nat.le_refl
theorem Z71:type_of% @Nat.le_add_right:=@Nat.le_add_right
theorem Z72:type_of% @Nat.le_add_left:=@Nat.le_add_left
theorem Z73:type_of% @Nat.lt_of_lt_of_le:=@Nat.lt_of_lt_of_le
theorem Z74:type_of% @Nat.lt_of_le_of_lt:=@Nat.lt_of_le_of_lt
theorem Z75:type_of% @Nat.succ_le_succ:=@Nat.succ_le_succ
theorem Z76:type_of% @Nat.add_le_add_left:=@Nat.add_le_add_left
theorem Z77:type_of% @Nat.add_le_add_right:=@Nat.add_le_add_right
theorem Z78:type_of% @Nat.le_of_ble_eq_true:=@Nat.le_of_ble_eq_true
theorem Z79:type_of% @Nat.lt_succ_self:=@Nat.lt_succ_self
theorem Z8a:type_of% @Nat.add_assoc:=@Nat.add_assoc
theorem Z8b:type_of% @Nat.le_of_succ_le:=@Nat.le_of_succ_le
theorem Z8c:type_of% @Nat.le_of_eq:=@Nat.le_of_eq
theorem Z8d:type_of% @Nat.zero_le:=@Nat.zero_le
theorem Z8e:type_of% @Nat.le_of_lt:=@Nat.le_of_lt
theorem Z8f:type_of% @Nat.le_of_lt_succ:=@Nat.le_of_lt_succ
theorem Z8g:type_of% @List.mem_cons_self:=@List.mem_cons_self
theorem Z8h:type_of% @List.mem_cons_of_mem:=@List.mem_cons_of_mem
theorem Z8i:type_of% @List.length_map:=@List.length_map
theorem Z8j:type_of% @List.length_append:=@List.length_append
theorem Z8k:type_of% @List.mem_cons:=@List.mem_cons
theorem Z8l:type_of% @List.mem_map:=@List.mem_map
theorem Z8m:type_of% @List.mem_singleton:=@List.mem_singleton
theorem Z8n:type_of% @List.append_assoc:=@List.append_assoc
theorem Z8o:type_of% @List.map_cons:=@List.map_cons
theorem Z8p:type_of% @List.length_cons:=@List.length_cons
theorem Z8q:type_of% @Option.some.inj:=@Option.some.inj
theorem Z8r:type_of% @Option.map_eq_some_iff:=@Option.map_eq_some_iff
theorem Z8s:type_of% @Array.getElem?_toList:=@Array.getElem?_toList
theorem Z8t:type_of% @Array.getElem?_eq_getElem:=@Array.getElem?_eq_getElem
theorem Z8u:type_of% @Array.length_toList:=@Array.length_toList
theorem Z8v:type_of% @List.getElem?_eq_getElem:=@List.getElem?_eq_getElem
theorem Z8w:type_of% @List.getElem?_eq_some_iff:=@List.getElem?_eq_some_iff
theorem Z8x:type_of% @Heap.get?_push_of_some:=@Heap.get?_push_of_some
theorem Z8y:type_of% @Heap.get?_push_size:=@Heap.get?_push_size
theorem Z8z:type_of% @wpAny_bind:=@wpAny_bind
theorem Z80:type_of% @wpAny_pure:=@wpAny_pure
theorem Z81:type_of% @congrArg:=@congrArg
theorem Z82:type_of% @decide_eq_true:=@decide_eq_true
theorem Z83:type_of% @decide_eq_false:=@decide_eq_false
theorem Z84:type_of% @eq_of_beq:=@eq_of_beq
theorem Z85:type_of% @beq_eq_false_iff_ne:=@beq_eq_false_iff_ne
theorem Z86:type_of% @Bool.false_ne_true:=@Bool.false_ne_true
theorem Z87:type_of% @beq_self_eq_true:=@beq_self_eq_true
theorem Z88:type_of% @List.nodup_cons:=@List.nodup_cons
theorem Z89:type_of% @List.mem_of_getElem?:=@List.mem_of_getElem?
end PL
end
section
open PySem
open scoped Classical
namespace PL
section
noncomputable abbrev CS:=List Nat
inductive ZA where
 |none | bool (b:Bool) | int (i:Int) | str (s:CS) | tup (xs:List ZA) | lst (xs:List ZA) | ref (id:Nat)
inductive ZK where
 |list (xs:List ZA) | dict (es:List (ZA×ZA)) | inst (c:String) (k:Nat) (m:String→Option ZA) | exc (c:String) (k:Nat) (cx:Bool×Bool) (m:String→Option ZA)
structure St where
 n:Nat
 f:Nat→Option ZK
namespace St
noncomputable def put(σ:St)(id:Nat)(o:ZK):St:=⟨σ.n,λj=>if j=id then some o else σ.f j⟩
noncomputable def new(σ:St)(o:ZK):St:=⟨σ.n+1,λj=>if j=σ.n then some o else σ.f j⟩
end St
noncomputable abbrev Fm:=String→Option ZA
noncomputable def upd{β:Type}(f:String→Option β)(x:String)(v:β):String→Option β:=λy=>if y=x then some v else f y
noncomputable def Zv:List String→List ZA→Fm→Option Fm
 | [],[],ν=>some ν
 |x::xs,v::vs,ν=>Zv xs vs (upd ν x v)
 |_,_,_=>none
noncomputable def hide(ν:Fm):Fm:=λy=>if y=".0" then none else ν y
noncomputable def ZA.flat(v:ZA):Bool:=@ZA.casesOn (λZ=>Bool) v false (λZ=>false) (λZ=>true) (λZ=>true) (λZ=>false) (λZ=>false) (λZ=>false)
noncomputable def ZA.isTup(v:ZA):Bool:=@ZA.casesOn (λZ=>Bool) v false (λZ=>false) (λZ=>false) (λZ=>false) (λZ=>true) (λZ=>false) (λZ=>false)
noncomputable def ZA.isKey(v:ZA):Bool:=@ZA.casesOn (λZ=>Bool) v false (λZ=>false) (λZ=>true) (λZ=>true) (λxs=>xs.all ZA.flat) (λZ=>false) (λZ=>false)
structure Zfd(es:List (ZA×ZA))(k:ZA):Prop where
 key:k.isKey=true
 all:∀e∈es,e.1.isTup=k.isTup
noncomputable def YW(es:List (ZA×ZA))(k:ZA):Option ZA:=(es.find? λe=>decide (e.1=k)).map (·.2)
noncomputable def Xx(es:List (ZA×ZA))(k v:ZA):List (ZA×ZA):=
 if(YW es k).isSome then es.map (λe=>if e.1=k then(e.1,v)else e)else es++[(k,v)]
noncomputable def Vh(es:List (ZA×ZA))(k:ZA):List (ZA×ZA):=es.filter λe=>!decide (e.1=k)
inductive LOf(σ:St):ZA→List ZA→Prop
 |lst (xs:List ZA):LOf σ (.lst xs) xs
 |ref {id:Nat} {xs:List ZA} (h:σ.f id=some (.list xs)):LOf σ (.ref id) xs
inductive Its(σ:St):ZA→List ZA→Prop
 |tup (xs:List ZA):Its σ (.tup xs) xs
 |lst {x:ZA} {xs:List ZA} (h:LOf σ x xs):Its σ x xs
noncomputable def GW(n:Nat):CS:=(Nat.toDigits 10 n).map Char.toNat
noncomputable def ZQ(i:Int):CS:=if i<0 then 45::GW i.natAbs else GW i.natAbs
noncomputable def Zrm:CS→Nat→Option Nat
 | [],a=>some a
 |c::r,a=>if 48≤c∧c≤57 then Zrm r (a*10+(c-48))else none
noncomputable def Zp(c:Nat):CS→List CS
 | []=>[[]]
 |x::r=>if x=c then[]::Zp c r else match Zp c r with
  |h::t=>(x::h)::t
  | []=>[[x]]
noncomputable def Yg(sep:CS):List CS→CS
 | []=>[]
 | [x]=>x
 |x::r=>x++sep++Yg sep r
noncomputable def Zco(c:Nat):Bool:=(9≤c&&c≤13) || (28≤c&&c≤32)
inductive Flw where
 |next | ret (v:ZA)
def Jy(g:Option (Nat×List ZA))(σ:St):Prop:=∀p,g=some p→σ.f p.1=some (.list p.2)
theorem no{P:Prop}(h:false=true):P:=(Z86 h).elim
theorem ZC{a b:Bool}(h:(a&&b)=true):a=true∧b=true:=Bool.and_eq_true_iff.mp h
noncomputable def nn1{a:Type}:a→Bool:=λZ=>false
noncomputable def nn2{a b:Type}:a→b→Bool:=λZ Z=>false
noncomputable def nn3{a b c:Type}:a→b→c→Bool:=λZ Z Z=>false
noncomputable def nn4{a b c d:Type}:a→b→c→d→Bool:=λZ Z Z Z=>false
noncomputable def nn5{a b c d e:Type}:a→b→c→d→e→Bool:=λZ Z Z Z Z=>false
noncomputable def nn7{a b c d e f g:Type}:a→b→c→d→e→f→g→Bool:=λZ Z Z Z Z Z Z=>false
noncomputable def Xj{a b c d e f g h i j:Type}:a→b→c→d→e→f→g→h→i→j→Bool:=λZ Z Z Z Z Z Z Z Z Z=>false
noncomputable def KJ{a b c d e f g h i j k:Type}:a→b→c→d→e→f→g→h→i→j→k→Bool:=λZ Z Z Z Z Z Z Z Z Z Z=>false
theorem mm1{a:Type}{P:a→Prop}(xa:a)(h:false=true):P xa:=no h
theorem mm2{a b:Type}{P:a→b→Prop}(xa:a)(xb:b)(h:false=true):P xa xb:=no h
theorem mm3{a b c:Type}{P:a→b→c→Prop}(xa:a)(xb:b)(xc:c)(h:false=true):P xa xb xc:=no h
theorem mm4{a b c d:Type}{P:a→b→c→d→Prop}(xa:a)(xb:b)(xc:c)(xd:d)(h:false=true):P xa xb xc xd:=no h
theorem mm5{a b c d e:Type}{P:a→b→c→d→e→Prop}(xa:a)(xb:b)(xc:c)(xd:d)(xe:e)(h:false=true):P xa xb xc xd xe:=no h
theorem mm7{a b c d e f g:Type}{P:a→b→c→d→e→f→g→Prop}(xa:a)(xb:b)(xc:c)(xd:d)(xe:e)(xf:f)(xg:g)(h:false=true):P xa xb xc xd xe xf xg:=no h
theorem Xk{a b c d e f g h i j:Type}{P:a→b→c→d→e→f→g→h→i→j→Prop}(xa:a)(xb:b)(xc:c)(xd:d)(xe:e)(xf:f)(xg:g)(xh:h)(xi:i)(xj:j)(h:false=true):P xa xb xc xd xe xf xg xh xi xj:=no h
theorem KO{a b c d e f g h i j k:Type}{P:a→b→c→d→e→f→g→h→i→j→k→Prop}(xa:a)(xb:b)(xc:c)(xd:d)(xe:e)(xf:f)(xg:g)(xh:h)(xi:i)(xj:j)(xk:k)(h:false=true):P xa xb xc xd xe xf xg xh xi xj xk:=no h
noncomputable def Zex(k:BoolOp→(List Expr)→Pos→Bool)(x:Expr):Bool:=@Expr.casesOn (λZ=>Bool) x (λa b c=>k a b c) nn3 nn4 nn3 nn4 nn4 nn3 nn3 nn4 nn4 nn5 nn4 nn2 nn2 nn2 nn4 nn4 nn4 nn2 nn3 nn3 nn3 nn2 nn2 nn2 nn3 nn4
@[elab_as_elim]theorem Zci{k:BoolOp→(List Expr)→Pos→Bool}{Q:Expr→Prop}{x:Expr}(h:Zex k x=true)(f:∀a b c,k a b c=true→Q (.BoolOp a b c)):Q x:=@Expr.casesOn (λx=>Zex k x=true→Q x) x (λa b c h=>f a b c h) mm3 mm4 mm3 mm4 mm4 mm3 mm3 mm4 mm4 mm5 mm4 mm2 mm2 mm2 mm4 mm4 mm4 mm2 mm3 mm3 mm3 mm2 mm2 mm2 mm3 mm4 h
noncomputable def Zpq(k:Expr→Operator→Expr→Pos→Bool)(x:Expr):Bool:=@Expr.casesOn (λZ=>Bool) x nn3 nn3 (λa b c d=>k a b c d) nn3 nn4 nn4 nn3 nn3 nn4 nn4 nn5 nn4 nn2 nn2 nn2 nn4 nn4 nn4 nn2 nn3 nn3 nn3 nn2 nn2 nn2 nn3 nn4
@[elab_as_elim]theorem Zbj{k:Expr→Operator→Expr→Pos→Bool}{Q:Expr→Prop}{x:Expr}(h:Zpq k x=true)(f:∀a b c d,k a b c d=true→Q (.BinOp a b c d)):Q x:=@Expr.casesOn (λx=>Zpq k x=true→Q x) x mm3 mm3 (λa b c d h=>f a b c d h) mm3 mm4 mm4 mm3 mm3 mm4 mm4 mm5 mm4 mm2 mm2 mm2 mm4 mm4 mm4 mm2 mm3 mm3 mm3 mm2 mm2 mm2 mm3 mm4 h
noncomputable def Zeu(k:UnaryOp→Expr→Pos→Bool)(x:Expr):Bool:=@Expr.casesOn (λZ=>Bool) x nn3 nn3 nn4 (λa b c=>k a b c) nn4 nn4 nn3 nn3 nn4 nn4 nn5 nn4 nn2 nn2 nn2 nn4 nn4 nn4 nn2 nn3 nn3 nn3 nn2 nn2 nn2 nn3 nn4
@[elab_as_elim]theorem Zet{k:UnaryOp→Expr→Pos→Bool}{Q:Expr→Prop}{x:Expr}(h:Zeu k x=true)(f:∀a b c,k a b c=true→Q (.UnaryOp a b c)):Q x:=@Expr.casesOn (λx=>Zeu k x=true→Q x) x mm3 mm3 mm4 (λa b c h=>f a b c h) mm4 mm4 mm3 mm3 mm4 mm4 mm5 mm4 mm2 mm2 mm2 mm4 mm4 mm4 mm2 mm3 mm3 mm3 mm2 mm2 mm2 mm3 mm4 h
noncomputable def Zpp(k:Expr→Expr→Expr→Pos→Bool)(x:Expr):Bool:=@Expr.casesOn (λZ=>Bool) x nn3 nn3 nn4 nn3 nn4 (λa b c d=>k a b c d) nn3 nn3 nn4 nn4 nn5 nn4 nn2 nn2 nn2 nn4 nn4 nn4 nn2 nn3 nn3 nn3 nn2 nn2 nn2 nn3 nn4
@[elab_as_elim]theorem Zbi{k:Expr→Expr→Expr→Pos→Bool}{Q:Expr→Prop}{x:Expr}(h:Zpp k x=true)(f:∀a b c d,k a b c d=true→Q (.IfExp a b c d)):Q x:=@Expr.casesOn (λx=>Zpp k x=true→Q x) x mm3 mm3 mm4 mm3 mm4 (λa b c d h=>f a b c d h) mm3 mm3 mm4 mm4 mm5 mm4 mm2 mm2 mm2 mm4 mm4 mm4 mm2 mm3 mm3 mm3 mm2 mm2 mm2 mm3 mm4 h
noncomputable def Zwt(k:(List (Option Expr))→(List Expr)→Pos→Bool)(x:Expr):Bool:=@Expr.casesOn (λZ=>Bool) x nn3 nn3 nn4 nn3 nn4 nn4 (λa b c=>k a b c) nn3 nn4 nn4 nn5 nn4 nn2 nn2 nn2 nn4 nn4 nn4 nn2 nn3 nn3 nn3 nn2 nn2 nn2 nn3 nn4
@[elab_as_elim]theorem Zc1{k:(List (Option Expr))→(List Expr)→Pos→Bool}{Q:Expr→Prop}{x:Expr}(h:Zwt k x=true)(f:∀a b c,k a b c=true→Q (.Dict a b c)):Q x:=@Expr.casesOn (λx=>Zwt k x=true→Q x) x mm3 mm3 mm4 mm3 mm4 mm4 (λa b c h=>f a b c h) mm3 mm4 mm4 mm5 mm4 mm2 mm2 mm2 mm4 mm4 mm4 mm2 mm3 mm3 mm3 mm2 mm2 mm2 mm3 mm4 h
noncomputable def Zc0(k:Expr→(List Comprehension)→Scope→Pos→Bool)(x:Expr):Bool:=@Expr.casesOn (λZ=>Bool) x nn3 nn3 nn4 nn3 nn4 nn4 nn3 nn3 (λa b c d=>k a b c d) nn4 nn5 nn4 nn2 nn2 nn2 nn4 nn4 nn4 nn2 nn3 nn3 nn3 nn2 nn2 nn2 nn3 nn4
@[elab_as_elim]theorem Ziz{k:Expr→(List Comprehension)→Scope→Pos→Bool}{Q:Expr→Prop}{x:Expr}(h:Zc0 k x=true)(f:∀a b c d,k a b c d=true→Q (.ListComp a b c d)):Q x:=@Expr.casesOn (λx=>Zc0 k x=true→Q x) x mm3 mm3 mm4 mm3 mm4 mm4 mm3 mm3 (λa b c d h=>f a b c d h) mm4 mm5 mm4 mm2 mm2 mm2 mm4 mm4 mm4 mm2 mm3 mm3 mm3 mm2 mm2 mm2 mm3 mm4 h
noncomputable def Zew(k:Expr→(List CmpOp)→(List Expr)→Pos→Bool)(x:Expr):Bool:=@Expr.casesOn (λZ=>Bool) x nn3 nn3 nn4 nn3 nn4 nn4 nn3 nn3 nn4 nn4 nn5 nn4 nn2 nn2 nn2 (λa b c d=>k a b c d) nn4 nn4 nn2 nn3 nn3 nn3 nn2 nn2 nn2 nn3 nn4
@[elab_as_elim]theorem Jv{k:Expr→(List CmpOp)→(List Expr)→Pos→Bool}{Q:Expr→Prop}{x:Expr}(h:Zew k x=true)(f:∀a b c d,k a b c d=true→Q (.Compare a b c d)):Q x:=@Expr.casesOn (λx=>Zew k x=true→Q x) x mm3 mm3 mm4 mm3 mm4 mm4 mm3 mm3 mm4 mm4 mm5 mm4 mm2 mm2 mm2 (λa b c d h=>f a b c d h) mm4 mm4 mm2 mm3 mm3 mm3 mm2 mm2 mm2 mm3 mm4 h
noncomputable def Zf4(k:Expr→(List Expr)→(List Keyword)→Pos→Bool)(x:Expr):Bool:=@Expr.casesOn (λZ=>Bool) x nn3 nn3 nn4 nn3 nn4 nn4 nn3 nn3 nn4 nn4 nn5 nn4 nn2 nn2 nn2 nn4 (λa b c d=>k a b c d) nn4 nn2 nn3 nn3 nn3 nn2 nn2 nn2 nn3 nn4
@[elab_as_elim]theorem Zc3{k:Expr→(List Expr)→(List Keyword)→Pos→Bool}{Q:Expr→Prop}{x:Expr}(h:Zf4 k x=true)(f:∀a b c d,k a b c d=true→Q (.Call a b c d)):Q x:=@Expr.casesOn (λx=>Zf4 k x=true→Q x) x mm3 mm3 mm4 mm3 mm4 mm4 mm3 mm3 mm4 mm4 mm5 mm4 mm2 mm2 mm2 mm4 (λa b c d h=>f a b c d h) mm4 mm2 mm3 mm3 mm3 mm2 mm2 mm2 mm3 mm4 h
noncomputable def Jl(k:Expr→Int→(Option Expr)→Pos→Bool)(x:Expr):Bool:=@Expr.casesOn (λZ=>Bool) x nn3 nn3 nn4 nn3 nn4 nn4 nn3 nn3 nn4 nn4 nn5 nn4 nn2 nn2 nn2 nn4 nn4 (λa b c d=>k a b c d) nn2 nn3 nn3 nn3 nn2 nn2 nn2 nn3 nn4
@[elab_as_elim]theorem Zc9{k:Expr→Int→(Option Expr)→Pos→Bool}{Q:Expr→Prop}{x:Expr}(h:Jl k x=true)(f:∀a b c d,k a b c d=true→Q (.FormattedValue a b c d)):Q x:=@Expr.casesOn (λx=>Jl k x=true→Q x) x mm3 mm3 mm4 mm3 mm4 mm4 mm3 mm3 mm4 mm4 mm5 mm4 mm2 mm2 mm2 mm4 mm4 (λa b c d h=>f a b c d h) mm2 mm3 mm3 mm3 mm2 mm2 mm2 mm3 mm4 h
noncomputable def Zdt(k:(List Expr)→Pos→Bool)(x:Expr):Bool:=@Expr.casesOn (λZ=>Bool) x nn3 nn3 nn4 nn3 nn4 nn4 nn3 nn3 nn4 nn4 nn5 nn4 nn2 nn2 nn2 nn4 nn4 nn4 (λa b=>k a b) nn3 nn3 nn3 nn2 nn2 nn2 nn3 nn4
@[elab_as_elim]theorem Zch{k:(List Expr)→Pos→Bool}{Q:Expr→Prop}{x:Expr}(h:Zdt k x=true)(f:∀a b,k a b=true→Q (.JoinedStr a b)):Q x:=@Expr.casesOn (λx=>Zdt k x=true→Q x) x mm3 mm3 mm4 mm3 mm4 mm4 mm3 mm3 mm4 mm4 mm5 mm4 mm2 mm2 mm2 mm4 mm4 mm4 (λa b h=>f a b h) mm3 mm3 mm3 mm2 mm2 mm2 mm3 mm4 h
noncomputable def Zc2(k:Const→Nat→Pos→Bool)(x:Expr):Bool:=@Expr.casesOn (λZ=>Bool) x nn3 nn3 nn4 nn3 nn4 nn4 nn3 nn3 nn4 nn4 nn5 nn4 nn2 nn2 nn2 nn4 nn4 nn4 nn2 (λa b c=>k a b c) nn3 nn3 nn2 nn2 nn2 nn3 nn4
@[elab_as_elim]theorem Zar{k:Const→Nat→Pos→Bool}{Q:Expr→Prop}{x:Expr}(h:Zc2 k x=true)(f:∀a b c,k a b c=true→Q (.Constant a b c)):Q x:=@Expr.casesOn (λx=>Zc2 k x=true→Q x) x mm3 mm3 mm4 mm3 mm4 mm4 mm3 mm3 mm4 mm4 mm5 mm4 mm2 mm2 mm2 mm4 mm4 mm4 mm2 (λa b c h=>f a b c h) mm3 mm3 mm2 mm2 mm2 mm3 mm4 h
noncomputable def Je(k:Expr→Str→Pos→Bool)(x:Expr):Bool:=@Expr.casesOn (λZ=>Bool) x nn3 nn3 nn4 nn3 nn4 nn4 nn3 nn3 nn4 nn4 nn5 nn4 nn2 nn2 nn2 nn4 nn4 nn4 nn2 nn3 (λa b c=>k a b c) nn3 nn2 nn2 nn2 nn3 nn4
@[elab_as_elim]theorem Z9{k:Expr→Str→Pos→Bool}{Q:Expr→Prop}{x:Expr}(h:Je k x=true)(f:∀a b c,k a b c=true→Q (.Attribute a b c)):Q x:=@Expr.casesOn (λx=>Je k x=true→Q x) x mm3 mm3 mm4 mm3 mm4 mm4 mm3 mm3 mm4 mm4 mm5 mm4 mm2 mm2 mm2 mm4 mm4 mm4 mm2 mm3 (λa b c h=>f a b c h) mm3 mm2 mm2 mm2 mm3 mm4 h
noncomputable def Zab(k:Expr→Expr→Pos→Bool)(x:Expr):Bool:=@Expr.casesOn (λZ=>Bool) x nn3 nn3 nn4 nn3 nn4 nn4 nn3 nn3 nn4 nn4 nn5 nn4 nn2 nn2 nn2 nn4 nn4 nn4 nn2 nn3 nn3 (λa b c=>k a b c) nn2 nn2 nn2 nn3 nn4
@[elab_as_elim]theorem Qi{k:Expr→Expr→Pos→Bool}{Q:Expr→Prop}{x:Expr}(h:Zab k x=true)(f:∀a b c,k a b c=true→Q (.Subscript a b c)):Q x:=@Expr.casesOn (λx=>Zab k x=true→Q x) x mm3 mm3 mm4 mm3 mm4 mm4 mm3 mm3 mm4 mm4 mm5 mm4 mm2 mm2 mm2 mm4 mm4 mm4 mm2 mm3 mm3 (λa b c h=>f a b c h) mm2 mm2 mm2 mm3 mm4 h
noncomputable def Zbq(k:Str→Pos→Bool)(x:Expr):Bool:=@Expr.casesOn (λZ=>Bool) x nn3 nn3 nn4 nn3 nn4 nn4 nn3 nn3 nn4 nn4 nn5 nn4 nn2 nn2 nn2 nn4 nn4 nn4 nn2 nn3 nn3 nn3 nn2 (λa b=>k a b) nn2 nn3 nn4
@[elab_as_elim]theorem Ym{k:Str→Pos→Bool}{Q:Expr→Prop}{x:Expr}(h:Zbq k x=true)(f:∀a b,k a b=true→Q (.Name a b)):Q x:=@Expr.casesOn (λx=>Zbq k x=true→Q x) x mm3 mm3 mm4 mm3 mm4 mm4 mm3 mm3 mm4 mm4 mm5 mm4 mm2 mm2 mm2 mm4 mm4 mm4 mm2 mm3 mm3 mm3 mm2 (λa b h=>f a b h) mm2 mm3 mm4 h
noncomputable def Zws(k:(List Expr)→Pos→Bool)(x:Expr):Bool:=@Expr.casesOn (λZ=>Bool) x nn3 nn3 nn4 nn3 nn4 nn4 nn3 nn3 nn4 nn4 nn5 nn4 nn2 nn2 nn2 nn4 nn4 nn4 nn2 nn3 nn3 nn3 nn2 nn2 (λa b=>k a b) nn3 nn4
@[elab_as_elim]theorem Zcz{k:(List Expr)→Pos→Bool}{Q:Expr→Prop}{x:Expr}(h:Zws k x=true)(f:∀a b,k a b=true→Q (.List a b)):Q x:=@Expr.casesOn (λx=>Zws k x=true→Q x) x mm3 mm3 mm4 mm3 mm4 mm4 mm3 mm3 mm4 mm4 mm5 mm4 mm2 mm2 mm2 mm4 mm4 mm4 mm2 mm3 mm3 mm3 mm2 mm2 (λa b h=>f a b h) mm3 mm4 h
noncomputable def Zfi(k:(List Expr)→Nat→Pos→Bool)(x:Expr):Bool:=@Expr.casesOn (λZ=>Bool) x nn3 nn3 nn4 nn3 nn4 nn4 nn3 nn3 nn4 nn4 nn5 nn4 nn2 nn2 nn2 nn4 nn4 nn4 nn2 nn3 nn3 nn3 nn2 nn2 nn2 (λa b c=>k a b c) nn4
@[elab_as_elim]theorem Jd{k:(List Expr)→Nat→Pos→Bool}{Q:Expr→Prop}{x:Expr}(h:Zfi k x=true)(f:∀a b c,k a b c=true→Q (.Tuple a b c)):Q x:=@Expr.casesOn (λx=>Zfi k x=true→Q x) x mm3 mm3 mm4 mm3 mm4 mm4 mm3 mm3 mm4 mm4 mm5 mm4 mm2 mm2 mm2 mm4 mm4 mm4 mm2 mm3 mm3 mm3 mm2 mm2 mm2 (λa b c h=>f a b c h) mm4 h
noncomputable def Zpn(k:(Option Expr)→(Option Expr)→(Option Expr)→Pos→Bool)(x:Expr):Bool:=@Expr.casesOn (λZ=>Bool) x nn3 nn3 nn4 nn3 nn4 nn4 nn3 nn3 nn4 nn4 nn5 nn4 nn2 nn2 nn2 nn4 nn4 nn4 nn2 nn3 nn3 nn3 nn2 nn2 nn2 nn3 (λa b c d=>k a b c d)
@[elab_as_elim]theorem Zpm{k:(Option Expr)→(Option Expr)→(Option Expr)→Pos→Bool}{Q:Expr→Prop}{x:Expr}(h:Zpn k x=true)(f:∀a b c d,k a b c d=true→Q (.Slice a b c d)):Q x:=@Expr.casesOn (λx=>Zpn k x=true→Q x) x mm3 mm3 mm4 mm3 mm4 mm4 mm3 mm3 mm4 mm4 mm5 mm4 mm2 mm2 mm2 mm4 mm4 mm4 mm2 mm3 mm3 mm3 mm2 mm2 mm2 mm3 (λa b c d h=>f a b c d h) h
noncomputable def Zif(k:(Option Expr)→Pos→Bool)(x:Stmt):Bool:=@Stmt.casesOn (λZ=>Bool) x Xj Xj KJ (λa b=>k a b) nn2 nn3 nn7 nn4 nn5 nn5 nn5 nn4 nn4 nn3 nn3 nn3 nn3 nn5 nn5 nn3 nn2 nn4 nn2 nn2 nn2 nn1 nn1 nn1
@[elab_as_elim]theorem Ju{k:(Option Expr)→Pos→Bool}{Q:Stmt→Prop}{x:Stmt}(h:Zif k x=true)(f:∀a b,k a b=true→Q (.Return a b)):Q x:=@Stmt.casesOn (λx=>Zif k x=true→Q x) x Xk Xk KO (λa b h=>f a b h) mm2 mm3 mm7 mm4 mm5 mm5 mm5 mm4 mm4 mm3 mm3 mm3 mm3 mm5 mm5 mm3 mm2 mm4 mm2 mm2 mm2 mm1 mm1 mm1 h
noncomputable def Zac(k:(List Expr)→Expr→Pos→Bool)(x:Stmt):Bool:=@Stmt.casesOn (λZ=>Bool) x Xj Xj KJ nn2 nn2 (λa b c=>k a b c) nn7 nn4 nn5 nn5 nn5 nn4 nn4 nn3 nn3 nn3 nn3 nn5 nn5 nn3 nn2 nn4 nn2 nn2 nn2 nn1 nn1 nn1
@[elab_as_elim]theorem Yh{k:(List Expr)→Expr→Pos→Bool}{Q:Stmt→Prop}{x:Stmt}(h:Zac k x=true)(f:∀a b c,k a b c=true→Q (.Assign a b c)):Q x:=@Stmt.casesOn (λx=>Zac k x=true→Q x) x Xk Xk KO mm2 mm2 (λa b c h=>f a b c h) mm7 mm4 mm5 mm5 mm5 mm4 mm4 mm3 mm3 mm3 mm3 mm5 mm5 mm3 mm2 mm4 mm2 mm2 mm2 mm1 mm1 mm1 h
noncomputable def Zwr(k:Expr→Expr→(List Stmt)→(List Stmt)→Pos→Bool)(x:Stmt):Bool:=@Stmt.casesOn (λZ=>Bool) x Xj Xj KJ nn2 nn2 nn3 nn7 nn4 nn5 (λa b c d e=>k a b c d e) nn5 nn4 nn4 nn3 nn3 nn3 nn3 nn5 nn5 nn3 nn2 nn4 nn2 nn2 nn2 nn1 nn1 nn1
@[elab_as_elim]theorem Zka{k:Expr→Expr→(List Stmt)→(List Stmt)→Pos→Bool}{Q:Stmt→Prop}{x:Stmt}(h:Zwr k x=true)(f:∀a b c d e,k a b c d e=true→Q (.For a b c d e)):Q x:=@Stmt.casesOn (λx=>Zwr k x=true→Q x) x Xk Xk KO mm2 mm2 mm3 mm7 mm4 mm5 (λa b c d e h=>f a b c d e h) mm5 mm4 mm4 mm3 mm3 mm3 mm3 mm5 mm5 mm3 mm2 mm4 mm2 mm2 mm2 mm1 mm1 mm1 h
noncomputable def Zlz(k:Expr→(List Stmt)→(List Stmt)→Pos→Bool)(x:Stmt):Bool:=@Stmt.casesOn (λZ=>Bool) x Xj Xj KJ nn2 nn2 nn3 nn7 nn4 nn5 nn5 nn5 (λa b c d=>k a b c d) nn4 nn3 nn3 nn3 nn3 nn5 nn5 nn3 nn2 nn4 nn2 nn2 nn2 nn1 nn1 nn1
@[elab_as_elim]theorem Zoa{k:Expr→(List Stmt)→(List Stmt)→Pos→Bool}{Q:Stmt→Prop}{x:Stmt}(h:Zlz k x=true)(f:∀a b c d,k a b c d=true→Q (.While a b c d)):Q x:=@Stmt.casesOn (λx=>Zlz k x=true→Q x) x Xk Xk KO mm2 mm2 mm3 mm7 mm4 mm5 mm5 mm5 (λa b c d h=>f a b c d h) mm4 mm3 mm3 mm3 mm3 mm5 mm5 mm3 mm2 mm4 mm2 mm2 mm2 mm1 mm1 mm1 h
noncomputable def Z22(k:Expr→(List Stmt)→(List Stmt)→Pos→Bool)(x:Stmt):Bool:=@Stmt.casesOn (λZ=>Bool) x Xj Xj KJ nn2 nn2 nn3 nn7 nn4 nn5 nn5 nn5 nn4 (λa b c d=>k a b c d) nn3 nn3 nn3 nn3 nn5 nn5 nn3 nn2 nn4 nn2 nn2 nn2 nn1 nn1 nn1
@[elab_as_elim]theorem Zev{k:Expr→(List Stmt)→(List Stmt)→Pos→Bool}{Q:Stmt→Prop}{x:Stmt}(h:Z22 k x=true)(f:∀a b c d,k a b c d=true→Q (.If a b c d)):Q x:=@Stmt.casesOn (λx=>Z22 k x=true→Q x) x Xk Xk KO mm2 mm2 mm3 mm7 mm4 mm5 mm5 mm5 mm4 (λa b c d h=>f a b c d h) mm3 mm3 mm3 mm3 mm5 mm5 mm3 mm2 mm4 mm2 mm2 mm2 mm1 mm1 mm1 h
noncomputable def Zl0(k:(Option Expr)→(Option Expr)→Pos→Bool)(x:Stmt):Bool:=@Stmt.casesOn (λZ=>Bool) x Xj Xj KJ nn2 nn2 nn3 nn7 nn4 nn5 nn5 nn5 nn4 nn4 nn3 nn3 nn3 (λa b c=>k a b c) nn5 nn5 nn3 nn2 nn4 nn2 nn2 nn2 nn1 nn1 nn1
@[elab_as_elim]theorem Zf3{k:(Option Expr)→(Option Expr)→Pos→Bool}{Q:Stmt→Prop}{x:Stmt}(h:Zl0 k x=true)(f:∀a b c,k a b c=true→Q (.Raise a b c)):Q x:=@Stmt.casesOn (λx=>Zl0 k x=true→Q x) x Xk Xk KO mm2 mm2 mm3 mm7 mm4 mm5 mm5 mm5 mm4 mm4 mm3 mm3 mm3 (λa b c h=>f a b c h) mm5 mm5 mm3 mm2 mm4 mm2 mm2 mm2 mm1 mm1 mm1 h
noncomputable def Zwq(k:(List Stmt)→(List ExceptHandler)→(List Stmt)→(List Stmt)→Pos→Bool)(x:Stmt):Bool:=@Stmt.casesOn (λZ=>Bool) x Xj Xj KJ nn2 nn2 nn3 nn7 nn4 nn5 nn5 nn5 nn4 nn4 nn3 nn3 nn3 nn3 (λa b c d e=>k a b c d e) nn5 nn3 nn2 nn4 nn2 nn2 nn2 nn1 nn1 nn1
@[elab_as_elim]theorem Zs9{k:(List Stmt)→(List ExceptHandler)→(List Stmt)→(List Stmt)→Pos→Bool}{Q:Stmt→Prop}{x:Stmt}(h:Zwq k x=true)(f:∀a b c d e,k a b c d e=true→Q (.Try a b c d e)):Q x:=@Stmt.casesOn (λx=>Zwq k x=true→Q x) x Xk Xk KO mm2 mm2 mm3 mm7 mm4 mm5 mm5 mm5 mm4 mm4 mm3 mm3 mm3 mm3 (λa b c d e h=>f a b c d e h) mm5 mm3 mm2 mm4 mm2 mm2 mm2 mm1 mm1 mm1 h
noncomputable def Zpo(k:Expr→Pos→Bool)(x:Stmt):Bool:=@Stmt.casesOn (λZ=>Bool) x Xj Xj KJ nn2 nn2 nn3 nn7 nn4 nn5 nn5 nn5 nn4 nn4 nn3 nn3 nn3 nn3 nn5 nn5 nn3 nn2 nn4 nn2 nn2 (λa b=>k a b) nn1 nn1 nn1
@[elab_as_elim]theorem Zds{k:Expr→Pos→Bool}{Q:Stmt→Prop}{x:Stmt}(h:Zpo k x=true)(f:∀a b,k a b=true→Q (.Expr a b)):Q x:=@Stmt.casesOn (λx=>Zpo k x=true→Q x) x Xk Xk KO mm2 mm2 mm3 mm7 mm4 mm5 mm5 mm5 mm4 mm4 mm3 mm3 mm3 mm3 mm5 mm5 mm3 mm2 mm4 mm2 mm2 (λa b h=>f a b h) mm1 mm1 mm1 h
section
variable{α:Type}
noncomputable def is0(xs:List α):Bool:=@List.casesOn α (λZ=>Bool) xs true (λZ Z=>false)
noncomputable def isC(k:α→List α→Bool)(xs:List α):Bool:=@List.casesOn α (λZ=>Bool) xs false (λx r=>k x r)
theorem Z8{xs:List α}(h:is0 xs=true):xs=[]:=@List.casesOn α (λxs=>is0 xs=true→xs=[]) xs (λZ=>rfl) (λZ Z h=>no h) h
theorem Z2{k:α→List α→Bool}{Q:List α→Prop}{xs:List α}(h:isC k xs=true)(f:∀x r,k x r=true→Q (x::r)):Q xs:=@List.casesOn α (λxs=>isC k xs=true→Q xs) xs (λh=>no h) (λx r h=>f x r h) h
noncomputable def is1(k:α→Bool):List α→Bool:=isC λx r=>is0 r&&k x
noncomputable def is2(k:α→α→Bool):List α→Bool:=isC λx r=>is1 (k x) r
noncomputable def is3(k:α→α→α→Bool):List α→Bool:=isC λx r=>is2 (k x) r
theorem Qf{k:α→Bool}{Q:List α→Prop}{xs:List α}(h:is1 k xs=true)(f:∀x,k x=true→Q [x]):Q xs:=Z2 h λx r h=>Z8 (ZC h).1▸f x (ZC h).2
theorem Zdl{k:α→α→Bool}{Q:List α→Prop}{xs:List α}(h:is2 k xs=true)(f:∀x y,k x y=true→Q [x,y]):Q xs:=Z2 h λx r h=>Qf (Q:=λr=>Q (x::r)) h λy h=>f x y h
theorem Z2b{k:α→α→α→Bool}{Q:List α→Prop}{xs:List α}(h:is3 k xs=true)(f:∀x y z,k x y z=true→Q [x,y,z]):Q xs:=Z2 h λx r h=>Zdl (Q:=λr=>Q (x::r)) h λy z h=>f x y z h
noncomputable def Qk(b:Bool)(k:α→Bool)(o:Option α):Bool:=@Option.casesOn α (λZ=>Bool) o b (λx=>k x)
theorem Zj{b:Bool}{k:α→Bool}{Q:Option α→Prop}{o:Option α}(h:Qk b k o=true)(f:b=true→Q none)(g:∀x,k x=true→Q (some x)):Q o:=@Option.casesOn α (λo=>Qk b k o=true→Q o) o (λh=>f h) (λx h=>g x h) h
end
noncomputable def Zdz:Expr→Bool
 | .Call (.Name _ _) [] [] _=>false
 |_=>true
noncomputable def Zqf:Expr→Bool
 | .Slice ..=>false
 |_=>true
noncomputable def Zfs:Expr→Bool
 | .Set ..=>false
 |_=>true
noncomputable def J1:Expr→Bool
 | .Starred ..=>false
 |_=>true
noncomputable def Zox:Expr→Bool
 | .ListComp ..=>false
 | .SetComp ..=>false
 | .DictComp ..=>false
 |_=>true
noncomputable def kdB(k:NameKind→Bool)(sc:Scope)(n:Str):Bool:=Qk false k (sc.names.lookup n)
noncomputable def vis(sc:Scope)(n:Str):Bool:=kdB (λk=>k==.local || (k==.cell || k==.free)) sc n&&(n != ("__debug__":Str)&&n != ("__classdict__":Str))
noncomputable def Kj(sc:Scope)(n:Str):Bool:=kdB (λk=>k==.globalImplicit) sc n&&n != ("__debug__":Str)
noncomputable def Zgu(sc:Scope)(n:Str):Bool:=kdB (λk=>k==.local || k==.cell) sc n
noncomputable def Ki(scope sc:Scope):Scope:=
 {scope with names:=scope.names.map λ(n,k)=>if(k==.free&&sc.kind==.function&&sc.names.lookup n==some .cell)then(n,.cell)else(n,k) }
noncomputable def Zwc(v:ZA)(c:Const):Bool:=match c with
 | .none=>@ZA.casesOn (λZ=>Bool) v true (λZ=>false) (λZ=>false) (λZ=>false) (λZ=>false) (λZ=>false) (λZ=>false)
 | .bool b=>@ZA.casesOn (λZ=>Bool) v false (λa=>a==b) (λZ=>false) (λZ=>false) (λZ=>false) (λZ=>false) (λZ=>false)
 | .int j=>@ZA.casesOn (λZ=>Bool) v false (λZ=>false) (λi=>i==j) (λZ=>false) (λZ=>false) (λZ=>false) (λZ=>false)
 | .str t=>@ZA.casesOn (λZ=>Bool) v false (λZ=>false) (λZ=>false) (λc=>t==⟨c.toArray⟩) (λZ=>false) (λZ=>false) (λZ=>false)
 |_=>false
noncomputable def PE:Type:=Scope→Expr→Bool
noncomputable def PS:Type:=Scope→Stmt→Bool
noncomputable def Q9(sc:Scope):List PE→List Expr→Bool
 | []=>is0
 |e::es=>isC λx xs=>J1 x&&(e sc x&&Q9 sc es xs)
noncomputable def Zpe:List String→List Expr→Bool
 | []=>is0
 |x::xs=>isC λe es=>Zbq (λn Z=>n==Str.ofString x) e&&Zpe xs es
noncomputable def Zix(xs:List String)(k:Nat)(e:Expr):Bool:=((k==0 || k==2)&&is1 (λx=>Zbq (λn Z=>n==Str.ofString x) e) xs) || ((k==1 || (k==3 || k==4))&&Zfi (λes Z Z=>Zpe xs es&&Nat.ble 2 xs.length) e)
noncomputable def Zms(xs:List String)(scope sc:Scope):Bool:=
 scope.kind==.function&&(scope.names.all (λy=>y.2 != .cell)&&(scope.names.all (λy=>y.2 != .local || scope.names.lookup y.1==some .local)&&
 (scope.names.all (λy=>y.2 != .free || (sc.names.lookup y.1==some .cell || sc.names.lookup y.1==some .free))&&
 (scope.names.all (λy=>y.2 != .local || (y.1==Str.ofString ".0" || xs.any λx=>y.1==Str.ofString x))&&xs.all (λx=>scope.names.lookup (Str.ofString x)==some .local)))))
noncomputable def Rg(k:Nat):String:=if k=2 then "range" else if k=3 then "enumerate" else "zip"
noncomputable def Zjq(sc:Scope)(k:Nat)(src:List PE)(it:Expr):Bool:=
 Zfs it&&(if k=0∨k=1 then Q9 sc src [it]else Zf4 (λf ys kw Z=>Zbq (λn Z=>n==Str.ofString (Rg k)&&Kj sc n) f&&(is0 kw&&Q9 sc src ys)) it)
namespace PE
noncomputable def cst(v:ZA):PE:=λZ=>Zc2 λc Z Z=>Zwc v c
noncomputable def neg(e:PE):PE:=λsc=>Zeu λo y Z=>o==.USub&&e sc y
noncomputable def not(e:PE):PE:=λsc=>Zeu λo y Z=>o==.Not&&e sc y
noncomputable def loc(n:String):PE:=λsc=>Zbq λm Z=>m==Str.ofString n&&vis sc m
noncomputable def bin(op:Operator)(a b:PE):PE:=λsc=>Zpq λl o r Z=>o==op&&(a sc l&&b sc r)
noncomputable def cat(a b:PE):PE:=bin .Add a b
noncomputable def cmp(op:CmpOp)(a b:PE):PE:=λsc=>Zew λl os rs Z=>is1 (λo=>o==op) os&&(a sc l&&is1 (λr=>b sc r&&Zfs r) rs)
noncomputable def KS(a:PE)(o1:CmpOp)(b:PE)(o2:CmpOp)(c:PE):PE:=λsc=>Zew λl os rs Z=>is2 (λp q=>p==o1&&q==o2) os&&(a sc l&&is2 (λr t=>b sc r&&(c sc t&&Zfs t)) rs)
noncomputable def and(a b:PE):PE:=λsc=>Zex λo vs Z=>o==.And&&is2 (λl r=>a sc l&&b sc r) vs
noncomputable def or(a b:PE):PE:=λsc=>Zex λo vs Z=>o==.Or&&is2 (λl r=>a sc l&&b sc r) vs
noncomputable def or3(a b c:PE):PE:=λsc=>Zex λo vs Z=>o==.Or&&is3 (λl r t=>a sc l&&(b sc r&&c sc t)) vs
noncomputable def cond(t a b:PE):PE:=λsc=>Zpp λu l r Z=>t sc u&&(a sc l&&b sc r)
noncomputable def idx(a i:PE):PE:=λsc=>Zab λv s Z=>a sc v&&(i sc s&&Zqf s)
noncomputable def opt(e:PE)(sc:Scope)(o:Option Expr):Bool:=Qk (e sc (.Constant .none 0 default)) (e sc) o
noncomputable def slc(a lo hi st:PE):PE:=λsc=>Zab λv s Z=>a sc v&&Zpn (λl u t Z=>opt lo sc l&&(opt hi sc u&&opt st sc t)) s
noncomputable def att(a:PE)(n:String):PE:=λsc=>Je λv m Z=>m==Str.ofString n&&(Zdz v&&a sc v)
noncomputable def tup(es:List PE):PE:=λsc=>Zfi λxs Z Z=>Q9 sc es xs&&Nat.blt es.length 100
noncomputable def lst(es:List PE):PE:=λsc=>Zws λxs Z=>Q9 sc es xs&&Nat.blt es.length 100
noncomputable def new(es:List PE):PE:=lst es
noncomputable def Zvr:List ZA→List (Option Expr)→Bool
 | []=>is0
 |v::vs=>isC λo os=>Qk false (λx=>Zc2 (λc Z Z=>(ZA.flat v&&Zwc v c)) x) o&&Zvr vs os
noncomputable def dct(ks:List ZA)(vs:List PE):PE:=λsc=>Zwt λkeys vals Z=>Zvr ks keys&&(Q9 sc vs vals&&Nat.blt vs.length 15)
noncomputable def fld(e:PE):PE:=λsc=>Jl λy cv o Z=>cv==(-1)&&(Qk true (λZ=>false) o&&e sc y)
noncomputable def V3(sc:Scope):List PE→List Expr→Bool
 | []=>is0
 |e::es=>isC λx xs=>e sc x&&V3 sc es xs
noncomputable def fst(es:List PE):PE:=λsc=>Zdt λxs Z=>V3 sc es xs&&Nat.ble 2 es.length
noncomputable def byN(f:String)(es:List PE):PE:=λsc=>Zf4 λg xs kw Z=>Zbq (λn Z=>n==Str.ofString f&&Kj sc n) g&&(is0 kw&&Q9 sc es xs)
noncomputable def blt(f:String)(es:List PE):PE:=byN f es
noncomputable def sset(e:PE):PE:=byN "sorted" [byN "set" [e]]
noncomputable def fn(f:String)(es:List PE):PE:=byN f es
noncomputable def cls(c:String)(es:List PE):PE:=byN c es
noncomputable def mth(o:PE)(m:String)(es:List PE):PE:=λsc=>Zf4 λg xs kw p=>Je (λv n ap=>n==Str.ofString m&&(Zdz v&&(ap.endLine==p.line&&o sc v))) g&&(is0 kw&&(Q9 sc es xs&&Nat.blt es.length 20))
noncomputable def comp(elt:PE)(xs:List String)(k:Nat)(src:List PE)(ifs:List PE):PE:=λsc=>Zc0 λe gs scope Z=>is1 (λg=>g.is_async==0&&(Zms xs scope sc&&(Zix xs k g.target&&(Zjq sc k src g.iter&&Q9 (Ki scope sc) ifs g.ifs)))) gs&&elt (Ki scope sc) e
noncomputable def sup(q m:String)(es:List PE):PE:=λsc=>Zf4 λg xs kw p=>
 Je (λv m' ap=>m'==Str.ofString m&&(m' != ("__class__":Str)&&(ap.endLine==p.line&&Zf4 (λh ys kw' Z=>Zbq (λn Z=>n==("super":Str)) h&&(is0 ys&&is0 kw')) v))) g&&
 (is0 kw&&(Q9 sc es xs&&(Nat.blt es.length 20&&(kdB (λk=>k==.globalImplicit) sc ("super":Str)&&kdB (λk=>k==.free) sc ("__class__":Str)))))
end PE
noncomputable def Dn(v:Expr):Bool:=match v with
 | .Tuple vs _ _=>vs.any λe=>!constantsAlone 8 e
 |_=>true
noncomputable def Ru(sc:Scope)(x:String)(np:Pos)(sp:Pos)(v:Expr):Bool:=Zc0 (λZ Z scope p=>sc.names.lookup (Str.ofString x)==some .local&&(np.line==p.line&&!(scope.names.any λ(n,k)=>n==Str.ofString x&&(k==.local || k==.cell)))) v
noncomputable def JJ(sc:Scope):List PS→List Stmt→Bool
 | []=>is0
 |p::ps=>isC λt ts=>p sc t&&JJ sc ps ts
namespace PS
noncomputable def any:PS:=λZ Z=>true
noncomputable def asg(x:String)(e:PE):PS:=λsc=>Zac λts v Z=>is1 (λt=>Zbq (λn Z=>n==Str.ofString x&&Zgu sc n) t) ts&&(Zox v&&e sc v)
noncomputable def UZ(x:String)(e:PE):PS:=λsc=>Zac λts v sp=>is1 (λt=>Zbq (λn np=>n==Str.ofString x&&Ru sc x np sp v) t) ts&&e sc v
noncomputable def unp(xs:List String)(e:PE):PS:=λsc=>Zac λts v Z=>is1 (λt=>Zfi (λes Z Z=>Zpe xs es) t) ts&&(xs.all (λx=>Zgu sc (Str.ofString x))&&(decide xs.Nodup&&(e sc v&&(Zox v&&Dn v))))
noncomputable def sat(o:PE)(n:String)(e:PE):PS:=λsc=>Zac λts x Z=>is1 (λt=>Je (λv m Z=>m==Str.ofString n&&o sc v) t) ts&&(e sc x&&Zox x)
noncomputable def six(o i e:PE):PS:=λsc=>Zac λts x Z=>is1 (λt=>Zab (λv y Z=>o sc v&&(i sc y&&Zqf y)) t) ts&&(e sc x&&Zox x)
noncomputable def ret(e:PE):PS:=λsc=>Zif λo Z=>Qk false (e sc) o
noncomputable def exp(e:PE):PS:=λsc=>Zpo λx Z=>e sc x&&Zox x
noncomputable def ifs(c:PE)(b o:List PS):PS:=λsc=>Z22 λx bs os Z=>c sc x&&(JJ sc b bs&&JJ sc o os)
noncomputable def whl(c:PE)(b:List PS):PS:=λsc=>Zlz λx bs os Z=>c sc x&&(is0 os&&JJ sc b bs)
noncomputable def «for»(xs:List String)(k:Nat)(src:List PE)(b:List PS):PS:=λsc=>Zwr λtg it bs os Z=>Zix xs k tg&&(xs.all (λx=>Zgu sc (Str.ofString x))&&(Zjq sc k src it&&(is0 os&&JJ sc b bs)))
noncomputable def rai(e:PE):PS:=λsc=>Zl0 λx c Z=>Qk false (λx=>e sc x&&Zox x) x&&Qk true (λZ=>false) c
noncomputable def We(k:Option Expr→Option Str→List Stmt→Pos→Bool)(x:ExceptHandler):Bool:=@ExceptHandler.casesOn (λZ=>Bool) x λa b c d=>k a b c d
noncomputable def Vd(b:List PS)(cn nm:String)(hb:List PS):PS:=λsc=>Zwq λbs hs os fs Z=>is1 (We λty n hbs Z=>Qk false (λx=>Zbq (λm Z=>m==Str.ofString cn&&Kj sc m) x) ty&&(Qk false (λm=>m==Str.ofString nm&&(sc.names.lookup m==some .local)) n&&JJ sc hb hbs)) hs&&(is0 os&&(is0 fs&&JJ sc b bs))
end PS
structure Fn where
 params:List String
 body:List PS
end
end PL
end
section
namespace PL
noncomputable abbrev QQ0:PE:=.loc "self"
noncomputable abbrev XO:PE:=.cst (.str [115,101,116,116,108,101])
noncomputable abbrev Xb:PE:=.loc "place"
noncomputable abbrev QQ3:PE:=.cst (.int 1)
noncomputable abbrev QQ5:PE:=.cst .none
noncomputable abbrev QQ1:PE:=.cond (.and (.cmp .Eq (.loc "bent") XO) (.cmp .Eq (.slc (.loc "rows") Xb (.bin .Add Xb QQ3) QQ5) (.lst [XO]))) (.bin .Add Xb QQ3) Xb
noncomputable abbrev QQ8:PE:=.loc "row"
noncomputable abbrev QQ2:PE:=.cmp .Eq (.slc QQ8 QQ5 (.cst (.int 4)) QQ5) (.cst (.str [97,100,100,32]))
noncomputable abbrev YG:PE:=.loc "a"
noncomputable abbrev QQ7:PE:=.loc "homes"
noncomputable abbrev QQ4:PE:=.and (.cmp .Eq (.idx (.loc "keys") YG) (.idx (.loc "keys") (.loc "b"))) (.cmp .NotEq (.idx QQ7 YG) (.idx QQ7 (.loc "b")))
noncomputable abbrev QQ6:PE:=.cst (.int 0)
noncomputable abbrev QQ9:PE:=.blt "len" [.loc "nodes"]
noncomputable abbrev YA:PE:=.loc "words"
noncomputable abbrev Xa:PE:=.loc "kid"
noncomputable abbrev Vu:PE:=.slc (.loc "node") QQ3 QQ5 QQ5
noncomputable abbrev IL:PE:=.bin .Add (.tup [.idx (.loc "node") QQ6]) (.blt "tuple" [.comp (.idx QQ7 Xa) ["kid"] 0 [Vu] []])
noncomputable abbrev YD:PE:=.loc "n"
noncomputable abbrev Ge:PE:=.cmp .In (.loc "gone") (.comp (.idx QQ7 Xa) ["kid"] 0 [.slc (.idx (.loc "nodes") YD) QQ3 QQ5 QQ5] [])
noncomputable abbrev Xz:PE:=.loc "which"
noncomputable abbrev Gd:PS:=.asg "bent" (.fn "_law_bent" [Xz,.blt "len" [.comp QQ3 ["row"] 0 [.loc "ahead"] [QQ2]],.loc "ahead"])
noncomputable abbrev Di:PE:=.not (.fn "_law_is_refused" [.fn "_law_text" [.bin .Add (.bin .Add (.loc "ahead") (.lst [.loc "bent"])) (.slc (.loc "rows") Xb QQ5 QQ5)],.loc "late"])
noncomputable abbrev JE:PE:=.cst (.int 2)
noncomputable abbrev Vv:PE:=.fn "_law_dip" [.loc "feed",QQ9]
noncomputable abbrev IK:PS:=.ifs (.cmp .Eq (.fn "_law_dip" [.loc "feed",JE]) QQ6) [.asg "words" (.bin .Add YA (.lst [.cst (.str [116,111,108,100]),.cst (.str [115])]))] [.asg "words" (.bin .Add YA (.lst [.cst (.str [114,117,108,101]),.cst (.str [114]),.cst (.str [63,120]),.blt "str" [Vv]]))]
noncomputable abbrev IJ:PE:=.or3 (.not (.fn "is_variable" [.tup [.loc "name"]])) (.not (.fn "is_op" [.loc "name"])) (.not (.KS QQ6 .LtE YD .Lt (.loc "many")))
noncomputable abbrev II:PS:=.ifs (.and (.cmp .Gt QQ9 QQ3) (.cmp .Eq (.fn "_law_dip" [.loc "feed",.cst (.int 3)]) QQ6)) [.asg "rows" (.bin .Add (.loc "rows") (.fn "_law_merged" [.loc "feed",.loc "nodes",QQ7]))] [.asg "rows" (.bin .Add (.loc "rows") (.fn "_law_added" [.loc "feed",.loc "nodes",QQ7]))]
noncomputable abbrev U2:PE:=.cmp .NotIn (.loc "sign") (.cst (.str [48,49,50,51,52,53,54,55,56,57]))
noncomputable abbrev Gb:PE:=.bin .Add (.bin .Add (.cst (.str [114,111,119,32])) (.blt "str" [QQ8])) (.cst (.str [58,32]))
noncomputable abbrev JT:PE:=.att QQ0 "above"
noncomputable abbrev XN:PE:=.cst (.str [97,100,100])
noncomputable abbrev VM:PS:=.exp (.fn "_law_meet" [QQ7,YG,.loc "b"])
noncomputable abbrev VK:PE:=.blt "len" [.att QQ0 "nodes"]
noncomputable abbrev IH:PS:=.ifs (.not (.KS QQ6 .LtE Xa .Lt VK)) [.rai (.cls "TermFault" [.fst [.cst (.str [110,111,32,116,101,114,109,32,104,97,115,32,116,104,101,32,110,117,109,98,101,114,32]),.fld Xa]])] []
noncomputable abbrev Dh:PS:=.ret (.cmp .Eq (.mth (.fn "read_story" [.fn "_law_text" [.loc "ahead"]]) "text" []) (.fn "_law_text" [.loc "ahead"]))
noncomputable abbrev Xe:PE:=.loc "reason"
noncomputable abbrev Ke:PE:=.cst (.str [32])
noncomputable abbrev IG:PS:=.asg "places" (.cond (.cmp .Eq (.idx Xe QQ6) (.cst (.str [114,117,108,101]))) (.comp (.fst [.fld (.loc "name"),Ke,.fld YD]) ["name","n"] 1 [.idx Xe JE] []) (.lst []))
noncomputable abbrev JM:PE:=.loc "text"
noncomputable abbrev IF:PE:=.or3 (.cmp .NotEq (.mth (.loc "story") "text" []) JM) (.cmp .NotEq (.blt "len" [.mth (.loc "story") "rows" []]) (.blt "len" [.loc "rows"])) (.cmp .NotEq (.mth (.att (.loc "story") "heap") "size" []) QQ9)
noncomputable abbrev Dg:PE:=.or (.mth (.loc "sign") "isspace" []) (.cmp .In (.loc "sign") (.cst (.str [40,41,91,93,123,125,44,58])))
noncomputable abbrev IE:PS:=.asg "op" (.idx (.lst [.cst (.str [97]),.cst (.str [98]),.cst (.str [102]),.cst (.str [103])]) (.fn "_law_dip" [.loc "feed",.cond (.cmp .NotEq (.loc "nodes") (.lst [])) (.cst (.int 4)) JE]))
noncomputable abbrev Xf:PE:=.loc "word"
noncomputable abbrev KW:PE:=.cst (.str [115,97,109,101])
noncomputable abbrev Ga:PS:=.asg "ahead" (.slc (.loc "rows") QQ5 Xb QQ5)
noncomputable abbrev ID:PS:=.ifs (.cmp .Eq Xz (.cst (.int 22))) [.ret (.fn "_law_is_refused" [.slc JM QQ5 (.neg QQ3) QQ5,.bin .Sub (.blt "len" [.loc "rows"]) QQ3])] []
noncomputable abbrev IB:PS:=.unp ["place","which"] (.tup [.fn "_law_dip" [.loc "feed",.bin .Add (.blt "len" [.loc "rows"]) QQ3],.fn "_law_dip" [.loc "feed",.cst (.int 23)]])
noncomputable abbrev Iz:PS:=.rai (.cls "TermFault" [.cst (.str [97,32,110,117,109,98,101,114,32,116,104,97,116,32,105,115,32,110,111,110,101,32,105,115,32,109,101,114,103,101,100])])
noncomputable abbrev Df:PE:=.cond (.cmp .Eq (.idx QQ7 YD) (.loc "high")) (.loc "low") (.idx QQ7 YD)
noncomputable abbrev U1:PE:=.blt "str" [.loc "many"]
noncomputable abbrev Iy:PS:=.ifs IJ [.rai (.cls "TermFault" [.fst [.fld (.loc "name"),.cst (.str [32,104,97,115,32,110,111,32,110,117,109,98,101,114])]])] []
noncomputable abbrev Iw:PS:=.unp ["gone","is_one"] (.tup [.blt "max" [.idx QQ7 YG,.idx QQ7 (.loc "b")],.cmp .Eq (.idx QQ7 YG) (.idx QQ7 (.loc "b"))])
noncomputable abbrev De:PE:=.slc (.mth JM "split" [.cst (.str [10])]) QQ5 (.neg QQ3) QQ5
noncomputable abbrev VL:PE:=.fn "number_of" [Xf,QQ8]
noncomputable abbrev Iv:PS:=.rai (.cls "StoryFault" [.fst [.fld Xf,.cst (.str [32,105,115,32,110,111,32,110,117,109,98,101,114])],QQ8])
noncomputable abbrev Iu:PE:=.mth Ke "join" [.bin .Add (.lst [XN,.loc "op"]) (.comp (.blt "str" [Xa]) ["kid"] 0 [Vu] [])]
noncomputable abbrev KV:PE:=.blt "len" [YA]
noncomputable abbrev Dd:PS:=.UZ "keys" (.comp IL ["node"] 0 [.loc "nodes"] [])
noncomputable abbrev It:PS:=.asg "many" (.idx (.dct [.str [97],.str [98],.str [102],.str [103]] [QQ6,QQ6,QQ3,JE]) (.loc "op"))
noncomputable abbrev Ir:PS:=.unp ["feed","nodes","homes","rows"] (.tup [.fn "_law_feed" [.loc "script"],.new [],.new [],.lst []])
noncomputable abbrev Iq:PE:=.bin .Add (.bin .Add (.cst (.str [115,97,109,101,32,48,32])) U1) (.cst (.str [32,116,111,108,100,32,115]))
noncomputable abbrev Ip:PS:=.unp ["kept","gone"] (.blt "sorted" [.lst [.mth QQ0 "find" [YG],.mth QQ0 "find" [.loc "b"]]])
noncomputable abbrev Io:PS:=.asg "node" (.bin .Add (.tup [.loc "op"]) (.blt "tuple" [.comp Vv ["turn"] 2 [.loc "many"] []]))
noncomputable abbrev Vt:PE:=.att QQ0 "waiting"
noncomputable abbrev Vs:PE:=.mth QQ0 "size" []
noncomputable abbrev Im:PE:=.cond (.and (.not (.loc "is_one")) (.cmp .NotEq (.loc "users") (.lst []))) (.lst [XO]) (.lst [])
noncomputable abbrev K6:PE:=.cst (.str [])
noncomputable abbrev Il:PE:=.cst (.str [115,97,109,101,32,48,32,48,32,114,117,108,101,32,114,32,63,121,32,48,32,63,120,32,48])
noncomputable abbrev Ik:PE:=.bin .Add (.cst (.str [115,97,109,101,32,48,32,48,32,114,117,108,101,32,114,32,63,120,32])) U1
noncomputable def Zvu:Fn:=⟨["text"],
 [(.ret (.and (.cmp .NotEq JM K6) (.cmp .Eq (.comp (.loc "sign") ["sign"] 0 [JM] [Dg]) (.lst []))))]⟩
noncomputable def Zee:Fn:=⟨["t"],
 [(.ret (.and (.cmp .Eq (.blt "len" [(.loc "t")]) QQ3) (.cmp .Eq (.slc (.idx (.loc "t") QQ6) QQ5 QQ3 QQ5) (.cst (.str [63])))))]⟩
noncomputable def Zh4:Fn:=⟨["self"],
 [.sat QQ0 "nodes" (.new []),
  (.sat QQ0 "numbers" (.dct [] [])),
  (.sat QQ0 "weights" (.new [])),
  (.sat QQ0 "depths" (.new []))]⟩
noncomputable def Zh2:Fn:=⟨["self"],
 [(.ret VK)]⟩
noncomputable def Zh1:Fn:=⟨["self","op","kids"],
 [.asg "node" (.bin .Add (.tup [.loc "op"]) (.blt "tuple" [.loc "kids"])),
  (.ifs (.cmp .In (.loc "node") (.att QQ0 "numbers")) [.ret (.idx (.att QQ0 "numbers") (.loc "node"))] []),
  (.exp (.mth QQ0 "require" [.loc "op"])),
  (.for ["kid"] 0 [Vu] [IH]),
  (.six (.att QQ0 "numbers") (.loc "node") VK),
  (.exp (.mth (.att QQ0 "nodes") "append" [.loc "node"])),
  (.exp (.mth (.att QQ0 "weights") "append" [.bin .Add QQ3 (.blt "sum" [.comp (.idx (.att QQ0 "weights") Xa) ["kid"] 0 [Vu] []])])),
  (.exp (.mth (.att QQ0 "depths") "append" [.bin .Add QQ3 (.blt "max" [.bin .Add (.comp (.idx (.att QQ0 "depths") Xa) ["kid"] 0 [Vu] []) (.lst [QQ6])])])),
  (.ret (.bin .Sub VK QQ3))]⟩
noncomputable def Zdi:Fn:=⟨["self","op"],
 [(.ifs (.or (.not (.fn "is_op" [(.loc "op")])) (.cmp .Eq (.idx (.loc "op") QQ6) (.cst (.str [63])))) [(.rai (.cls "TermFault" [(.fst [(.fld (.loc "op")),(.cst (.str [32,105,115,32,110,111,32,111,112,32,111,102,32,97,32,103,114,111,117,110,100,32,116,101,114,109]))])]))] [])]⟩
noncomputable def Znv:Fn:=⟨["self","n"],
 [(.ret (.idx (.idx (.att QQ0 "nodes") YD) QQ6))]⟩
noncomputable def Zh3:Fn:=⟨["self","n"],
 [(.ret (.slc (.idx (.att QQ0 "nodes") YD) QQ3 QQ5 QQ5))]⟩
noncomputable def Zej:Fn:=⟨["self"],
 [.sat QQ0 "above" (.new []),
  (.sat QQ0 "lots" (.new [])),
  (.sat QQ0 "merged" (.new []))]⟩
noncomputable def Zei:Fn:=⟨["self"],
 [.exp (.mth JT "append" [.blt "len" [JT]]),
  (.exp (.mth (.att QQ0 "lots") "append" [.new [.blt "len" [.att QQ0 "lots"]]])),
  (.ret (.bin .Sub (.blt "len" [JT]) QQ3))]⟩
noncomputable def Zeh:Fn:=⟨["self"],
 [(.ret (.blt "len" [JT]))]⟩
noncomputable def Zek:Fn:=⟨["self","a"],
 [.whl (.cmp .NotEq (.idx JT YG) YG) [.asg "a" (.idx JT YG)],
  (.ret YG)]⟩
noncomputable def Zdg:Fn:=⟨["self","a","b"],
 [Ip,
  (.ifs (.cmp .Eq (.loc "kept") (.loc "gone")) [.ret QQ5] []),
  (.six JT (.loc "gone") (.loc "kept")),
  (.exp (.mth (.idx (.att QQ0 "lots") (.loc "kept")) "extend" [.idx (.att QQ0 "lots") (.loc "gone")])),
  (.exp (.mth (.att QQ0 "merged") "append" [.tup [.loc "kept",.loc "gone"]])),
  (.ret (.tup [(.loc "kept"),(.loc "gone")]))]⟩
noncomputable def Zhz:Fn:=⟨["self"],
 [.sat QQ0 "bank" (.cls "Bank" []),
  (.sat QQ0 "unions" (.cls "Unions" [])),
  (.sat QQ0 "edges" (.new [])),
  (.sat QQ0 "forest" (.new [])),
  (.sat QQ0 "known" (.dct [] [])),
  (.sat QQ0 "above" (.dct [] [])),
  (.sat QQ0 "waiting" (.new []))]⟩
noncomputable def Zhw:Fn:=⟨["self"],
 [(.ret (.mth (.att QQ0 "bank") "size" []))]⟩
noncomputable def Zhx:Fn:=⟨["self","n"],
 [(.ret (.bin .Add (.tup [(.mth (.att QQ0 "bank") "op" [YD])]) (.blt "tuple" [(.comp (.mth QQ0 "find" [Xa]) ["kid"] 0 [(.mth (.att QQ0 "bank") "kids" [YD])] [])])))]⟩
noncomputable def Zjv:Fn:=⟨["self","op","numbers"],
 [.asg "n" (.mth (.att QQ0 "bank") "take" [.loc "op",.loc "numbers"]),
  (.ifs (.cmp .Lt YD (.mth (.att QQ0 "unions") "size" [])) [.ret YD] []),
  (.exp (.mth (.att QQ0 "unions") "make" [])),
  (.six JT YD (.new [])),
  (.for ["c"] 0 [.sset (.comp (.mth QQ0 "find" [Xa]) ["kid"] 0 [.loc "numbers"] [])] [.exp (.mth (.idx JT (.loc "c")) "append" [YD])]),
  (.exp (.mth QQ0 "look_at" [YD])),
  (.ret YD)]⟩
noncomputable def Zdh:Fn:=⟨["self","n"],
 [.asg "other" (.mth (.att QQ0 "known") "setdefault" [.mth QQ0 "node" [YD],YD]),
  (.ifs (.cmp .NotEq (.mth QQ0 "find" [(.loc "other")]) (.mth QQ0 "find" [YD])) [(.exp (.mth QQ0 "join" [(.loc "other"),YD,(.tup [(.cst (.str [108,105,107,101]))])]))] [])]⟩
noncomputable def Zh0:Fn:=⟨["self","n"],
 [(.ret (.mth (.att QQ0 "unions") "find" [YD]))]⟩
noncomputable def Zf1:Fn:=⟨["self","a","b","reason"],
 [(.ret (.mth QQ0 "join" [YG,(.loc "b"),Xe]))]⟩
noncomputable def Zhy:Fn:=⟨["self","a","b","reason"],
 [.exp (.mth (.att QQ0 "edges") "append" [.tup [YG,.loc "b",Xe]]),
  (.asg "merged" (.mth (.att QQ0 "unions") "merge" [YG,.loc "b"])),
  (.ifs (.cmp .Is (.loc "merged") QQ5) [.ret (.cst (.bool false))] []),
  (.unp ["kept","gone"] (.loc "merged")),
  (.exp (.mth (.att QQ0 "forest") "append" [.bin .Sub (.blt "len" [.att QQ0 "edges"]) QQ3])),
  (.exp (.mth Vt "extend" [.idx JT (.loc "gone")])),
  (.six JT (.loc "kept") (.cat (.idx JT (.loc "kept")) (.mth JT "pop" [.loc "gone"]))),
  (.ret (.cst (.bool true)))]⟩
noncomputable def Zel:Fn:=⟨["self"],
 [(.whl (.cmp .Gt (.blt "len" [Vt]) QQ6) [(.exp (.mth QQ0 "look_at" [(.mth Vt "pop" [])]))])]⟩
noncomputable def Za6:Fn:=⟨["self"],
 [(.ret (.cmp .Eq (.blt "len" [Vt]) QQ6))]⟩
noncomputable def Zde:Fn:=⟨["reason","many"],
 [.ifs (.not (.fn "is_op" [.idx Xe QQ3])) [.rai (.cls "TermFault" [.cst (.str [97,32,108,97,98,101,108,44,32,111,114,32,116,104,101,32,110,97,109,101,32,111,102,32,97,32,114,117,108,101,44,32,105,115,32,111,110,101,32,119,111,114,100])])] [],
  (.for ["name","n"] 1 [(.cond (.cmp .Eq (.idx Xe QQ6) (.cst (.str [114,117,108,101]))) (.idx Xe JE) (.tup []))] [Iy])]⟩
noncomputable def Zdf:Fn:=⟨["self"],
 [.exp (.sup "Heap.__init__" "__init__" []),
  (.sat QQ0 "rows" (.new []))]⟩
noncomputable def Zeg:Fn:=⟨["self","op","numbers"],
 [.asg "many" Vs,
  (.asg "n" (.sup "Heap.add" "add" [.loc "op",.loc "numbers"])),
  (.ifs (.cmp .Gt Vs (.loc "many")) [.exp (.mth (.att QQ0 "rows") "append" [.tup [XN,.loc "op",.blt "tuple" [.loc "numbers"]]])] []),
  (.ret YD)]⟩
noncomputable def Zcc:Fn:=⟨["self","a","b","reason"],
 [.exp (.fn "check_reason" [Xe,Vs]),
  (.ifs (.or (.not (.KS QQ6 .LtE YG .Lt Vs)) (.not (.KS QQ6 .LtE (.loc "b") .Lt Vs))) [Iz] []),
  (.exp (.mth (.att QQ0 "rows") "append" [.tup [KW,YG,.loc "b",Xe]])),
  (.ret (.sup "Heap.merge" "merge" [YG,(.loc "b"),Xe]))]⟩
noncomputable def Zbn:Fn:=⟨["self"],
 [.ifs (.not (.mth QQ0 "is_settled" [])) [.exp (.mth (.att QQ0 "rows") "append" [.tup [XO]])] [],
  (.exp (.sup "Heap.settle" "settle" []))]⟩
noncomputable def Zjs:Fn:=⟨["row"],
 [.ifs (.cmp .Eq (.idx QQ8 QQ6) XN) [.ret (.mth Ke "join" [.bin .Add (.lst [XN,.idx QQ8 QQ3]) (.comp (.blt "str" [YD]) ["n"] 0 [.idx QQ8 JE] [])])] [],
  (.ifs (.cmp .Eq (.idx QQ8 QQ6) XO) [.ret XO] []),
  (.asg "reason" (.idx QQ8 (.cst (.int 3)))),
  IG,
  (.ret (.mth Ke "join" [(.bin .Add (.lst [KW,(.blt "str" [(.idx QQ8 QQ3)]),(.blt "str" [(.idx QQ8 JE)]),(.idx Xe QQ6),(.idx Xe QQ3)]) (.loc "places"))]))]⟩
noncomputable def Zhr:Fn:=⟨["word","row"],
 [.ifs (.or3 (.cmp .Gt (.blt "len" [Xf]) (.cst (.int 9))) (.cmp .Eq Xf K6) (.cmp .NotEq (.comp (.loc "sign") ["sign"] 0 [Xf] [U2]) (.lst []))) [Iv] [],
  (.ifs (.and (.cmp .Eq (.idx Xf QQ6) (.cst (.str [48]))) (.cmp .NotEq Xf (.cst (.str [48])))) [Iv] []),
  (.ret (.blt "int" [Xf]))]⟩
noncomputable def Znu:Fn:=⟨["words","row"],
 [.ifs (.or3 (.cmp .Lt KV (.cst (.int 5))) (.cmp .Eq (.bin .Mod KV JE) QQ6) (.and (.cmp .NotEq (.idx YA (.cst (.int 3))) (.cst (.str [114,117,108,101]))) (.or (.cmp .NotEq (.idx YA (.cst (.int 3))) (.cst (.str [116,111,108,100]))) (.cmp .Gt KV (.cst (.int 5)))))) [.rai (.cls "StoryFault" [.cst (.str [116,119,111,32,110,117,109,98,101,114,115,32,97,110,100,32,97,32,114,101,97,115,111,110,32,97,114,101,32,119,97,110,116,101,100]),QQ8])] [],
  (.asg "reason" (.tup [.idx YA (.cst (.int 3)),.idx YA (.cst (.int 4))])),
  (.ifs (.cmp .Eq (.idx YA (.cst (.int 3))) (.cst (.str [114,117,108,101]))) [.asg "names" (.slc YA (.cst (.int 5)) QQ5 JE),.ifs (.cmp .NotEq (.loc "names") (.sset (.loc "names"))) [.rai (.cls "StoryFault" [.cst (.str [116,104,101,32,118,97,114,105,97,98,108,101,115,32,111,102,32,97,32,114,117,108,101,32,97,115,99,101,110,100]),QQ8])] [],.asg "reason" (.bin .Add Xe (.tup [.blt "tuple" [.comp (.tup [.loc "name",VL]) ["name","word"] 4 [.loc "names",.slc YA (.cst (.int 6)) QQ5 JE] []]]))] []),
  (.ret (.tup [KW,(.fn "number_of" [(.idx YA QQ3),QQ8]),(.fn "number_of" [(.idx YA JE),QQ8]),Xe]))]⟩
noncomputable def Zq4:Fn:=⟨["text","row"],
 [.asg "words" (.mth JM "split" [Ke]),
  (.ifs (.and (.cmp .Eq (.idx YA QQ6) XN) (.cmp .Gt KV QQ3)) [.ret (.tup [XN,.idx YA QQ3,.blt "tuple" [.comp VL ["word"] 0 [.slc YA JE QQ5 QQ5] []]])] []),
  (.ifs (.cmp .Eq (.idx YA QQ6) KW) [.ret (.fn "same_of" [YA,QQ8])] []),
  (.ifs (.cmp .NotEq YA (.lst [XO])) [.rai (.cls "StoryFault" [.cst (.str [110,111,32,114,111,119,32,105,115,32,119,114,105,116,116,101,110,32,115,111]),QQ8])] []),
  (.ret (.tup [XO]))]⟩
noncomputable def Zf0:Fn:=⟨["self"],
 [(.sat QQ0 "heap" (.cls "Written" []))]⟩
noncomputable def Zfz:Fn:=⟨["self"],
 [(.ret (.blt "list" [(.att (.att QQ0 "heap") "rows")]))]⟩
noncomputable def Zfy:Fn:=⟨["self"],
 [(.ret (.mth K6 "join" [(.comp (.bin .Add (.fn "row_text" [QQ8]) (.cst (.str [10]))) ["row"] 0 [(.att (.att QQ0 "heap") "rows")] [])]))]⟩
noncomputable def Zju:Fn:=⟨["self","row"],
 [(.ifs (.cmp .Eq (.idx QQ8 QQ6) XN) [(.exp (.mth (.att QQ0 "heap") "add" [(.idx QQ8 QQ3),(.idx QQ8 JE)]))] [(.ifs (.cmp .Eq (.idx QQ8 QQ6) KW) [(.exp (.mth (.att QQ0 "heap") "merge" [(.idx QQ8 QQ3),(.idx QQ8 JE),(.idx QQ8 (.cst (.int 3)))]))] [(.exp (.mth (.att QQ0 "heap") "settle" []))])])]⟩
noncomputable def Zfv:Fn:=⟨["text"],
 [.asg "story" (.cls "Story" []),
  (.ifs (.and (.cmp .NotEq JM K6) (.cmp .NotEq (.idx JM (.neg QQ3)) (.cst (.str [10])))) [.rai (.cls "StoryFault" [.cst (.str [116,104,101,32,108,97,115,116,32,114,111,119,32,104,97,115,32,110,111,32,101,110,100]),.mth JM "count" [.cst (.str [10])]])] []),
  (.for ["k","line"] 3 [De] [.asg "row" (.fn "row_of" [.loc "line",.loc "k"]),.Vd [.exp (.mth (.loc "story") "do" [QQ8])] "HeapError" "fault" [.rai (.cls "StoryFault" [.att (.loc "fault") "what",.loc "k"])],.ifs (.cmp .NotEq (.blt "len" [.att (.att (.loc "story") "heap") "rows"]) (.bin .Add (.loc "k") QQ3)) [.rai (.cls "StoryFault" [.cst (.str [97,32,114,111,119,32,100,111,101,115,32,110,111,116,104,105,110,103]),.loc "k"])] []]),
  (.ret (.loc "story"))]⟩
noncomputable def Zbo:Fn:=⟨["self","what"],
 [.exp (.sup "BaseException.__init__" "__init__" [.loc "what"]),
  (.sat QQ0 "what" (.loc "what"))]⟩
noncomputable def Za5:Fn:=⟨["self","what","row"],
 [.exp (.sup "HeapError.__init__" "__init__" [.loc "what"]),
  (.sat QQ0 "row" QQ8)]⟩
noncomputable def Za4:Fn:=⟨["self"],
 [(.ret (.fst [(.cst (.str [114,111,119,32])),(.fld (.att QQ0 "row")),(.cst (.str [58,32])),(.fld (.att QQ0 "what"))]))]⟩
noncomputable def Zhu:Fn:=⟨["script"],
 [(.ret (.new [(.comp (.bin .Mod (.blt "int" [(.loc "cell")]) (.cst (.int 10039))) ["cell"] 0 [(.slc (.loc "script") QQ5 (.cst (.int 40)) QQ5)] []),QQ6]))]⟩
noncomputable def Zjt:Fn:=⟨["feed","top"],
 [.unp ["cells","place"] (.loc "feed"),
  (.six (.loc "feed") QQ3 (.bin .Add Xb QQ3)),
  (.ifs (.cmp .Lt Xb (.blt "len" [.loc "cells"])) [.ret (.bin .Mod (.idx (.loc "cells") Xb) (.loc "top"))] []),
  (.ret (.bin .Mod (.bin .Mod (.bin .Add (.bin .Add (.bin .Add (.bin .Mult (.bin .Mult (.cst (.int 4)) Xb) Xb) (.bin .Mult (.cst (.int 3)) Xb)) (.blt "len" [(.loc "cells")])) (.cst (.int 6))) (.cst (.int 53))) (.loc "top")))]⟩
noncomputable def Zfw:Fn:=⟨["nodes","homes"],
 [.asg "is_turned" (.cst (.bool true)),
  (.whl (.loc "is_turned") [(.asg "is_turned" (.cst (.bool false))),Dd,(.for ["a"] 2 [QQ9] [(.for ["b"] 2 [YG] [(.ifs QQ4 [VM,(.asg "is_turned" (.cst (.bool true)))] [])])])])]⟩
noncomputable def Zht:Fn:=⟨["homes","a","b"],
 [.unp ["low","high"] (.blt "sorted" [.lst [.idx QQ7 YG,.idx QQ7 (.loc "b")]]),
  (.for ["n"] 2 [(.blt "len" [QQ7])] [(.six QQ7 YD Df)])]⟩
noncomputable def Zfx:Fn:=⟨["feed","nodes","homes"],
 [IE,
  It,
  Io,
  (.ifs (.cmp .In (.loc "node") (.loc "nodes")) [.ret (.lst [])] []),
  (.exp (.mth (.loc "nodes") "append" [.loc "node"])),
  (.exp (.mth QQ7 "append" [.blt "len" [QQ7]])),
  (.exp (.fn "_law_close" [.loc "nodes",QQ7])),
  (.ret (.lst [Iu]))]⟩
noncomputable def Zef:Fn:=⟨["feed","nodes","homes"],
 [.unp ["a","b"] (.tup [Vv,Vv]),
  (.asg "words" (.lst [KW,.blt "str" [YG],.blt "str" [.loc "b"]])),
  IK,
  Iw,
  (.UZ "users" (.comp YD ["n"] 2 [QQ9] [Ge])),
  VM,
  (.exp (.fn "_law_close" [.loc "nodes",QQ7])),
  (.ret (.bin .Add (.lst [(.mth Ke "join" [YA])]) Im))]⟩
noncomputable def Zhv:Fn:=⟨["which","many","ahead"],
 [.ifs (.cmp .Lt Xz (.cst (.int 5))) [.ret (.idx (.lst [XN,.cst (.str [112,117,116,32,97]),K6,.cst (.str [97,100,100,32,97,32,48,48]),.cst (.str [97,100,100,32,102,32,48,120])]) Xz)] [],
  (.ifs (.cmp .Lt Xz (.cst (.int 10))) [.ret (.idx (.lst [.cst (.str [97,100,100,32,102,32,32,48]),.cst (.str [97,100,100,32,40,97]),.cst (.str [97,100,100,32,63,120]),.bin .Add (.cst (.str [97,100,100,32,102,32])) U1,.cst (.str [115,101,116,116,108,101,32,110,111,119])]) (.bin .Sub Xz (.cst (.int 5))))] []),
  (.ifs (.cmp .Lt Xz (.cst (.int 14))) [.ret (.idx (.lst [.cst (.str [115,97,109,101,32,48]),.cst (.str [115,97,109,101,32,48,32,48,32,116,111,108,100]),.cst (.str [115,97,109,101,32,48,32,48,32,116,111,108,100,32,115,32,116,32,117]),Iq]) (.bin .Sub Xz (.cst (.int 10))))] []),
  (.ifs (.cmp .Lt Xz (.cst (.int 17))) [.ret (.idx (.lst [Il,.cst (.str [115,97,109,101,32,48,32,48,32,114,117,108,101,32,114,32,120,32,48]),Ik]) (.bin .Sub Xz (.cst (.int 14))))] []),
  (.ifs (.cmp .Lt Xz (.cst (.int 21))) [.ret (.idx (.lst [.cst (.str [115,97,109,101,32,48,32,48,32,98,101,99,97,117,115,101,32,115]),.cst (.str [115,97,109,101,32,48,32,48,32,114,117,108,101,32,114,32,63,120]),.cst (.str [97,100,100,32,102,32,49,48,48,48,48,48,48,48,48,48]),XO]) (.bin .Sub Xz (.cst (.int 17))))] []),
  (.ret (.idx (.bin .Add (.comp QQ8 ["row"] 0 [(.loc "ahead")] [QQ2]) (.lst [XN])) QQ6))]⟩
noncomputable def Zhs:Fn:=⟨["rows"],
 [(.ret (.mth K6 "join" [(.comp (.bin .Add QQ8 (.cst (.str [10]))) ["row"] 0 [(.loc "rows")] [])]))]⟩
noncomputable def Za3:Fn:=⟨["text","row"],
 [.Vd [.exp (.fn "read_story" [JM])] "StoryFault" "fault" [.ret (.and (.cmp .Eq (.att (.loc "fault") "row") QQ8) (.cmp .Eq (.slc (.mth (.loc "fault") "told" []) QQ5 (.blt "len" [Gb]) QQ5) Gb))],
  (.ret (.cst (.bool false)))]⟩
noncomputable def Z5q:Fn:=⟨["script"],
 [Ir,
  (.for ["lap"] 2 [.bin .Add JE (.fn "_law_dip" [.loc "feed",.cst (.int 5)])] [II]),
  (.asg "text" (.fn "_law_text" [.loc "rows"])),
  (.asg "story" (.fn "read_story" [JM])),
  (.ifs IF [.ret (.cst (.bool false))] []),
  IB,
  ID,
  Ga,
  Gd,
  (.asg "late" QQ1),
  (.ifs Di [.ret (.cst (.bool false))] []),
  Dh]⟩
noncomputable def Zba:List ((String×String)×String):=[(("Bank","kids"),"Bank.kids"),
 (("Bank","op"),"Bank.op"),
 (("Bank","require"),"Bank.require"),
 (("Bank","size"),"Bank.size"),
 (("Bank","take"),"Bank.take"),
 (("Unions","find"),"Unions.find"),
 (("Unions","make"),"Unions.make"),
 (("Unions","merge"),"Unions.merge"),
 (("Unions","size"),"Unions.size"),
 (("Heap","add"),"Heap.add"),
 (("Heap","find"),"Heap.find"),
 (("Heap","is_settled"),"Heap.is_settled"),
 (("Heap","join"),"Heap.join"),
 (("Heap","look_at"),"Heap.look_at"),
 (("Heap","merge"),"Heap.merge"),
 (("Heap","node"),"Heap.node"),
 (("Heap","settle"),"Heap.settle"),
 (("Heap","size"),"Heap.size"),
 (("Written","add"),"Written.add"),
 (("Written","find"),"Heap.find"),
 (("Written","is_settled"),"Heap.is_settled"),
 (("Written","join"),"Heap.join"),
 (("Written","look_at"),"Heap.look_at"),
 (("Written","merge"),"Written.merge"),
 (("Written","node"),"Heap.node"),
 (("Written","settle"),"Written.settle"),
 (("Written","size"),"Heap.size"),
 (("Story","do"),"Story.do"),
 (("Story","rows"),"Story.rows"),
 (("Story","text"),"Story.text")]
noncomputable def Zhg:List (String×Option String):=[("Bank",some "Bank.__init__"),("Unions",some "Unions.__init__"),("Heap",some "Heap.__init__"),("Written",some "Written.__init__"),("Story",some "Story.__init__")]
end PL
end
section
open PySem PySem.W PyProof.Rows
set_option maxRecDepth 1000000
set_option maxHeartbeats 0
namespace PL
noncomputable def Zgs(ok:Thread→Bool)(st:SharedT→Thread→Option (SharedT×Thread)):Nat→SharedT→Thread→Option SharedT
 |0,_,_=>none
 |n+1,s,t=>match through t with
  |true=>some s
  |false=>match ok t with
   |false=>none
   |true=>match st s t with
    |some (s',t')=>Zgs ok st n s' t'
    |none=>none
theorem Zi3{p:Program}{w:World}{n₀:Nat}{ann:Option Value}:∀{n:Nat}{s s':SharedT}{t:Thread},Zgs (stepOk n₀ ann) (stepT (denote treeTable) p w) n s t=some s'→topRun treeTable p w n₀ ann n s.abs t=some s'.abs
 |0,_,_,_,h=>by cases h
 |n+1,s,s',t,h=>by
  unfold Zgs at h
  unfold topRun
  cases he:through t with
  |true=>rw[he]at h;cases h;rfl
  |false=>
   rw[he]at h
   cases hk:stepOk n₀ ann t with
   |false=>rw[hk]at h;cases h
   |true=>
    rw[hk]at h
    cases hs:stepT (denote treeTable) p w s t with
    |none=>rw[hs]at h;cases h
    |some r=>obtain⟨s₂,t₂⟩:=r;rw[hs]at h;dsimp only;rw[stepT_spec hs];exact Zi3 h
noncomputable def Ze1(p:Program)(w:World)(n₀:Nat)(ann:Option Value):Nat→SharedT→Thread→Option SharedT:=
 Zgs (Fast.tw6613529449190102663 n₀ ann) (Fast.tw10156331382660048174 (Fast.tw11892475500146522536 Fast.tw14364793385576792824) p w)
theorem Zro(p:Program)(w:World)(n₀:Nat)(ann:Option Value):Ze1 p w n₀ ann=Zgs (stepOk n₀ ann) (stepT (denote treeTable) p w):=by
 unfold Ze1
 rw[Fast.te6613529449190102663,Fast.te10156331382660048174,Fast.te11892475500146522536,Fast.te14364793385576792824]
noncomputable def Z0b:BT→Nat→List Obj→BT
 |t,_,[]=>t
 |t,i,o::r=>Z0b (t.ins i o) (i+1) r
noncomputable def Zrf(P:Params):BT:=Z0b .nil 0 (boot_heap P).objs.toList
theorem Zn8(P:Params):absHeap (Zrf P) 11 (boot_heap P).life=boot_heap P:=by kernel_rfl
noncomputable def Zwi(w:World)(os:OsState):SharedT:=⟨Zrf w.params,11,(boot_heap w.params).life,#[],boot_drawn,boot_toks,os⟩
noncomputable def Zqk{α:Type}(p q:Program)(loose:List Str)(Xt:Shared→Bool)(Yf:Shared→α)(H0:Heap)(s:Shared):=
 ((staticsOk (importedModules p.main.body) H0 s.heap&&namesBound p s.heap&&gensDone s&&laidKept H0 s.heap),Fast.tw4187177175401517315 q loose (importedModules p.main.body) Xt true s,Yf s)
theorem Zm6{p q:Program}{loose:List Str}{Xt:Shared→Bool}{α:Type}{Yf:Shared→α}{Ya:World→α}{N:Nat}
  (e:opening p=plainProg p.main.scope.names) (hN:Nat.ble 600 N=true) (f:∀s,fenceModules? p s=some s)
  (size:∀P:Params,((boot_heap P).isNs mainGlobals,(boot_heap P).objs.size,(boot_heap P).nsMap mainGlobals "__annotations__")=(true,11,some (.ref 6)))
  (run:∀w os,∃s,Ze1 p w 11 (some (.ref 6)) N (Zwi w os) (topStub p)=some s∧Zqk p q loose Xt (λZ=>()) (boot_heap w.params) s.abs=(true,openGood q loose,())∧Yf s.abs=Ya w):LeftO p q loose Xt Yf Ya N:=λw=>by
 obtain⟨⟨h,gs,d,k,os⟩,e,e'⟩:=Z8r.mp (boot_open e hN f w)
 obtain⟨rfl,rfl,rfl,rfl⟩:h=boot_heap w.params∧gs=#[]∧d=boot_drawn∧k=boot_toks:=by simpa using e'
 obtain⟨z1,z2,z3⟩:_∧_∧_:=by simpa only[Prod.mk.injEq]using size w.params
 obtain⟨s₁,r,l,l3⟩:=run w os
 obtain⟨l1,l2,_⟩:_∧_∧_:=by simpa only[Zqk,Prod.mk.injEq]using l
 rw[Zro]at r
 have r:=Zi3 r
 rw[←Fast.te4187177175401517315]at l2
 have t:topFrom treeTable p w N ⟨boot_heap w.params,#[],boot_drawn,boot_toks,os⟩=some s₁.abs:=by
  unfold topFrom
  dsimp only
  rw[z1,z2,z3]
  have r':topRun treeTable p w 11 (some (.ref 6)) N ⟨boot_heap w.params,#[],boot_drawn,boot_toks,os⟩ (topStub p)=some s₁.abs:=by
   rw[←r]
   unfold Zwi SharedT.abs
   rw[Zn8]
  rw[r']
  show(match staticsOk (importedModules p.main.body) (boot_heap w.params) s₁.abs.heap&&namesBound p s₁.abs.heap&&gensDone s₁.abs&&laidKept (boot_heap w.params) s₁.abs.heap with | true=>_ | false=>_)=_
  rw[l1]
 unfold openEnds
 rw[e]
 show(topFrom treeTable p w N _).map _=_
 rw[t]
 exact Z81 some (Prod.ext l2 l3)
end PL
end
section
open PySem PySem.W PyProof.Rows
open scoped Classical
set_option maxRecDepth 100000
namespace PL
noncomputable abbrev pp:Program:=PySem.Challenge.rw_pq0086_02.row.prog
noncomputable def Zbp:List (String×Addr):=[("Bank",209),("Unions",291),("Heap",423),("Written",477),("Story",570)]
noncomputable def Q4:List (String×Addr):=[("HeapError",47),("TermFault",60),("StoryFault",88)]
noncomputable def Rc:List (String×Addr×Fn):=[("is_op",95,Zvu),("is_variable",102,Zee),("Bank.__init__",121,Zh4),("Bank.size",128,Zh2),("Bank.take",133,Zh1),("Bank.require",140,Zdi)]
noncomputable def Rb:List (String×Addr×Fn):=[("Bank.op",166,Znv),("Bank.kids",173,Zh3),("Unions.__init__",227,Zej),("Unions.make",234,Zei),("Unions.size",241,Zeh),("Unions.find",248,Zek)]
noncomputable def Ra:List (String×Addr×Fn):=[("Unions.merge",255,Zdg),("Heap.__init__",309,Zhz),("Heap.size",316,Zhw),("Heap.node",321,Zhx),("Heap.add",326,Zjv),("Heap.look_at",338,Zdh)]
noncomputable def IZ:List (String×Addr×Fn):=[("Heap.find",345,Zh0),("Heap.merge",359,Zf1),("Heap.join",366,Zhy),("Heap.settle",373,Zel),("Heap.is_settled",380,Za6),("check_reason",434,Zde)]
noncomputable def IY:List (String×Addr×Fn):=[("Written.__init__",450,Zdf),("Written.add",458,Zeg),("Written.merge",466,Zcc),("Written.settle",474,Zbn),("row_text",484,Zjs),("number_of",489,Zhr)]
noncomputable def IX:List (String×Addr×Fn):=[("same_of",494,Znu),("row_of",499,Zq4),("Story.__init__",513,Zf0),("Story.rows",541,Zfz),("Story.text",546,Zfy),("Story.do",560,Zju)]
noncomputable def IW:List (String×Addr×Fn):=[("read_story",581,Zfv),("HeapError.__init__",37,Zbo),("StoryFault.__init__",78,Za5),("StoryFault.told",85,Za4),("_law_feed",586,Zhu),("_law_dip",593,Zjt)]
noncomputable def IV:List (String×Addr×Fn):=[("_law_close",598,Zfw),("_law_meet",605,Zht),("_law_added",610,Zfx),("_law_merged",615,Zef),("_law_bent",620,Zhv),("_law_text",625,Zhs)]
noncomputable def IU:List (String×Addr×Fn):=[("_law_is_refused",632,Za3),("law",637,Z5q)]
noncomputable def Zwz:List (String×Addr×Fn):=Rc++(Rb++(Ra++(IZ++(IY++(IX++(IW++(IV++(IU))))))))
noncomputable def Zff:List String:=["is_op","is_variable","check_reason","row_text","number_of","same_of","row_of","read_story","_law_feed","_law_dip","_law_close","_law_meet","_law_added","_law_merged","_law_bent","_law_text","_law_is_refused","law"]
noncomputable def J9:List (String×String):=[("Bank","nodes"),("Bank","numbers"),("Bank","weights"),("Bank","depths"),("Unions","above"),("Unions","lots"),("Unions","merged"),("Heap","bank"),("Heap","unions"),("Heap","edges"),("Heap","forest"),("Heap","known"),("Heap","above"),("Heap","waiting"),("Written","bank"),("Written","unions"),("Written","edges"),("Written","forest"),("Written","known"),("Written","above"),("Written","waiting"),("Written","rows"),("Story","heap")]
noncomputable def Ja:List (String×String):=[("HeapError","what"),("TermFault","what"),("StoryFault","what"),("StoryFault","row")]
noncomputable def Zcs:List ((String×String)×String):=[(("StoryFault","told"),"StoryFault.told")]
noncomputable def Zct:List (String×String):=[("TermFault","HeapError.__init__"),("StoryFault","StoryFault.__init__")]
noncomputable def Zbv:List (String×Addr×Addr):=[("Written",438,477),("HeapError",25,47),("StoryFault",66,88)]
noncomputable def Zda:List (String×String):=[("Written.__init__","Written"),("Written.add","Written"),("Written.merge","Written"),("Written.settle","Written"),("HeapError.__init__","HeapError"),("StoryFault.__init__","StoryFault")]
noncomputable def Zmd:List (String×String×String):=[("Written","Heap.__init__","__init__"),("Written","Heap.add","add"),("Written","Heap.merge","merge"),("Written","Heap.settle","settle")]
noncomputable def Zh5:List (String×String):=[("StoryFault","HeapError.__init__")]
noncomputable def Zcu:List String:=["TermFault","StoryFault"]
noncomputable def Zlw:List String:=["len","tuple","list","sum","max","min","sorted","int","str","range","enumerate","zip","set","super"]
noncomputable def asL:List Nat:=[2,3,15,17,18,20,21,22,25,30,31,33,34,36,37,38,40,41,43,44,45,46,47,48,51,58,59,60,63,66,71,72,74,75,77,78,79,81,82,84,85,86,87,88,91,94,95,96,98,99,101,102,103,106,107,115,117,118,120,121,122,124,125,127,128,129,132,133,134,136,137,139,140,141,143,144,146,147,148,151,152,153,155,156,158,159,160,162,163,165,166,167,169,170,172,173,174,176,177,179,180,181,184,185,186,188,189,191,192,193,195,196,198,199,200,202,203,205,206,207,208,209,210,211,221,223,224,226,227,228,230,231,233,234,235,237,238,240,241,242,244,245,247,248,249,251,252,254,255,256,258,259,261,262,263,266,267,268,270,271,273,274,275,277,278,280,281,282,284,285,287,288,289,290,291,292,293,303,305,306,308,309,310,312,313,315,316,317,320,321,322,325,326,327,330,331,332,334,335,337,338,339,341,342,344,345,346,348,349,351,352,353,355,356,358,359,360,362,363,365,366,367,369,370,372,373,374,376,377,379,380,381,383,384,386,387,388,390,391,393,394,395,397,398,400,401,402,404,405,407,408,409,412,413,414,416,417,419,420,421,422,423,424,425,428,430,431,433,434,435,438,443,444,446,447,449,450,451,452,454,455,457,458,459,460,462,463,465,466,467,468,470,471,473,474,475,476,477,480,483,484,485,488,489,490,493,494,495,498,499,507,509,510,512,513,514,516,517,519,520,521,523,524,526,527,528,530,531,533,534,535,537,538,540,541,542,545,546,547,549,550,552,553,554,556,557,559,560,561,563,564,566,567,568,569,570,571,572,575,577,578,580,581,582,585,586,587,589,590,592,593,594,597,598,599,601,602,604,605,606,609,610,611,614,615,616,619,620,621,624,625,626,628,629,631,632,633,636,637]
noncomputable def fnA(q:String):Option Addr:=(Zwz.lookup q).map (·.1)
noncomputable def X9(K:Frag)(a:Addr):FuncData:=match K.lookup a with | some ⟨_,_,.func fd,_⟩=>fd | _=>default
noncomputable def XK(fd:FuncData):List Stmt:=match fd.body with | .stmts b=>b | _=>[]
noncomputable def G9:FuncBody→Bool | .stmts _=>true | _=>false
theorem Z2h{K:Frag}{a:Addr}(h:fnIn K a=true):∃oc od osl,K.lookup a=some ⟨oc,od,.func (X9 K a),osl⟩:=by
 unfold fnIn at h
 unfold X9
 split at h
 ·rename_i c d f sl e
  exact⟨_,_,_,by rw[e]⟩
 ·cases h
theorem Z20{fd:FuncData}(h:G9 fd.body=true):fd.body=.stmts (XK fd):=by
 unfold G9 at h
 split at h
 ·rename_i b e;unfold XK;rw[e]
 ·cases h
noncomputable def isV(v:Option (Option Value))(u:Value):Bool:=Qk false (Qk false λx=>x==u) v
theorem Zbm{v:Option (Option Value)}{u:Value}(h:isV v u=true):v=some (some u):=Zj (Q:=λv=>v=some (some u)) h (λh=>no h) λo h=>Zj (Q:=λo=>some o=some (some u)) h (λh=>no h) λx h=>Z81 (λx=>some (some x)) (Z84 h)
noncomputable def V8(v:Option (Option Value)):Bool:=Qk false (Qk true λZ=>false) v
theorem Zhf{v:Option (Option Value)}(h:V8 v=true):v=some none:=Zj (Q:=λv=>v=some none) h (λh=>no h) λo h=>Zj (Q:=λo=>some o=some none) h (λZ=>rfl) λx h=>no h
noncomputable def UI(v:Option Value)(u:Value):Bool:=Qk false (λx=>x==u) v
theorem Zo7{v:Option Value}{u:Value}(h:UI v u=true):v=some u:=Zj (Q:=λv=>v=some u) h (λh=>no h) λx h=>Z81 some (Z84 h)
noncomputable def isT(v:Option Bool):Bool:=Qk false id v
theorem Zqs{v:Option Bool}(h:isT v=true):v=some true:=Zj (Q:=λv=>v=some true) h (λh=>no h) λx h=>Z81 some h
theorem Yq{α:Type}{p:α→Bool}{xs:List α}(h:xs.all p=true){x:α}(hx:x∈xs):p x=true:=List.all_eq_true.mp h x hx
theorem J2{α β:Type}[BEq α][LawfulBEq α]:∀{l:List (α×β)} {k:α} {v:β},l.lookup k=some v→(k,v)∈l
 | [],_,_,h=>nomatch h
 | (a,b)::l,k,v,h=>by
  rw[List.lookup_cons]at h
  split at h
  ·rename_i e;cases h;rw[Z84 e];exact Z8g
  ·exact Z8h _ (J2 h)
structure IQ(K:Frag)(C:Addr):Prop where
 keep:keepIn K (.ref C)=true
 get:plainGet K C Str.empty=true
 dict:hasDictIn K C=true
 set:findIn K (.ref C) "__setattr__"=some (some (.builtin "object.__setattr__"))
 over:plainOver K C=true
 makes:makesIn K C=true
noncomputable def Ic(K:Frag)(C:Addr):Bool:=keepIn K (.ref C)&&(plainGet K C Str.empty&&(hasDictIn K C&&(isV (findIn K (.ref C) "__setattr__") (.builtin "object.__setattr__")&&(plainOver K C&&makesIn K C))))
theorem Z2r{K:Frag}{C:Addr}(h:Ic K C=true):IQ K C:=
 have⟨h1,h⟩:=ZC h
 have⟨h2,h⟩:=ZC h
 have⟨h3,h⟩:=ZC h
 have⟨h4,h⟩:=ZC h
 ⟨h1,h2,h3,Zbm h4,(ZC h).1,(ZC h).2⟩
noncomputable def Rn(K:Frag)(fd:FuncData)(F:Fn):Bool:=!fd.scope.isCoroutine&&(!fd.scope.isGenerator&&((fd.scope.kind==.function)&&(codeIn K fd.code fd.qualname&&(G9 fd.body&&((fd.globals==mainGlobals)&&((fd.builtins==builtinsNs)&&
 (F.params.all (λx=>Zgu fd.scope (Str.ofString x))&&(decide F.params.Nodup&&JJ fd.scope F.body (XK fd)))))))))
noncomputable def Zz6(fd:FuncData)(F:Fn):Bool:=fd.params.posonlyargs.isEmpty&&(fd.params.args.map (·.arg)==F.params.map Str.ofString&&(fd.params.vararg.isNone&&(fd.params.kwonlyargs.isEmpty&&(fd.params.kwarg.isNone&&fd.defaults==.none))))
noncomputable def Zud(fd:FuncData):Bool:=fd.closure.isEmpty&&fd.scope.names.all (λy=>y.2 != .free)
noncomputable def Zog(K:Frag)(fd:FuncData):Bool:=match fd.code with
 | .ref cda=>(match K.lookup cda with
  |some ⟨_,_,.fields vs,_⟩=>(match(vs:Array Value)[2]? with | some (Value.str file _)=>(pp.main.file:Str)==file | _=>false)
  |_=>false)
 |_=>false
noncomputable def Qn(dn:String):Addr×Addr:=(Zbv.lookup dn).getD (0,0)
noncomputable def Z1o(K:Frag)(fd:FuncData)(dn:String):Bool:=fd.closure==[(("__class__":Str),(Qn dn).1)]&&(fd.scope.names.all (λy=>y.2 != .cell)&&(fd.scope.names.all (λy=>y.2 != .free || y.1==("__class__":Str))&&
 (Qk false (λar=>ar.arg==Str.ofString "self") (fd.params.posonlyargs++fd.params.args).head?&&((fd.scope.names.lookup (Str.ofString "self")==some .local)&&Zog K fd))))
noncomputable def Z1q(K:Frag)(e:String×Addr×Fn):Bool:=fnIn K e.2.1&&(keepIn K (.ref e.2.1)&&(Rn K (X9 K e.2.1) e.2.2&&(Zz6 (X9 K e.2.1) e.2.2&&(Zud (X9 K e.2.1) || Qk false (Z1o K (X9 K e.2.1)) (Zda.lookup e.1)))))
noncomputable def isM(v:Option (Option Value))(K:Frag)(q:String):Bool:=Qk false (λf=>isV v (.ref f)&&UI (typeIn K (.ref f)) (.type "function")) (fnA q)
noncomputable def Z4f(K:Frag):Bool:=Zba.all λe=>Qk false (λa=>isM (findIn K (.ref a) (Str.ofString e.1.2)) K e.2) (Zbp.lookup e.1.1)
noncomputable def Z4g(K:Frag):Bool:=Zhg.all λe=>Qk false (λq=>Qk false (λa=>isM (findIn K (.ref a) "__init__") K q) (Zbp.lookup e.1)) e.2
noncomputable def Z4o(K:Frag):Bool:=J9.all λe=>Qk false (λa=>V8 (findIn K (.ref a) (Str.ofString e.2))) (Zbp.lookup e.1)
noncomputable def Rm(K:Frag):Bool:=Zff.all λf=>Qk false (λa=>isV (nsIn K mainGlobals (Str.ofString f)) (.ref a)) (fnA f)
noncomputable def Z4b(K:Frag):Bool:=Zmd.all λe=>Qk false (λc=>Qk false (λf=>isV (ks_superIn K c (Qn "Written").2 (Str.ofString e.2.2)) (.ref f)&&(UI (typeIn K (.ref f)) (.type "function")&&(isT (mroIn K c (.ref (Qn "Written").2))&&fnIn K f))) (fnA e.2.1)) (Zbp.lookup e.1)
noncomputable def Zz5(K:Frag)(dn:String):Bool:=(clsIn K (Qn dn).2).isSome&&match K.lookup (Qn dn).1 with | some ⟨_,_,.cell (some (.ref d)),_⟩=>d==(Qn dn).2 | _=>false
noncomputable def Jo(C:Addr):List Value:=(if C=47 then[]else[Value.ref C])++[.ref 47,.type "Exception",.type "BaseException",.type "object"]
noncomputable def Zvx(K:Frag)(C:Addr):Bool:=match K.lookup C with
 |some ⟨oc,_,.cls cd,sl⟩=>(oc==.type "type"&&!cd.abstract)&&((!cd.hasDel&&cd.hasDict)&&((sl.toList[4]? == some (some (.builtin "Exception.__new__")))&&(cd.mro==Jo C)))
 |_=>false
structure XC(K:Frag)(C:Addr):Prop where
 obj:∃od cd sl,K.lookup C=some ⟨.type "type",od,.cls cd,sl⟩∧(cd.abstract=false∧cd.hasDel=false)∧(cd.hasDict=true∧sl.toList[4]? = some (some (.builtin "Exception.__new__")))∧cd.mro=Jo C
 keep:keepIn K (.ref C)=true
 get:findIn K (.ref C) "__getattribute__"=some (some (.builtin "BaseException.__getattribute__"))
 ga:findIn K (.ref C) "__getattr__"=some none
 set:findIn K (.ref C) "__setattr__"=some (some (.builtin "object.__setattr__"))
 call:specialIn K (.ref C) "__call__"=some (some (.builtin "type.__call__"))
 typ:instIn K (.ref C) (.type "type")=some true
theorem Zvw{K:Frag}{C:Addr}(h:Zvx K C=true):∃od cd sl,K.lookup C=some ⟨.type "type",od,.cls cd,sl⟩∧(cd.abstract=false∧cd.hasDel=false)∧(cd.hasDict=true∧sl.toList[4]? = some (some (.builtin "Exception.__new__")))∧cd.mro=Jo C:=by
 unfold Zvx at h
 split at h
 ·rename_i oc od cd sl e
  have⟨h1,h⟩:=ZC h
  have⟨h2,h⟩:=ZC h
  have⟨a1,a2⟩:=ZC h1
  have⟨a3,a4⟩:=ZC h2
  have⟨a5,a6⟩:=ZC h
  rw[Z84 a1]at e
  exact⟨od,cd,sl,e,⟨(Bool.not_eq_true' _).mp a2,(Bool.not_eq_true' _).mp a3⟩,⟨a4,Z84 a5⟩,Z84 a6⟩
 ·cases h
noncomputable def UT(K:Frag)(C:Addr):Bool:=Zvx K C&&(keepIn K (.ref C)&&(isV (findIn K (.ref C) "__getattribute__") (.builtin "BaseException.__getattribute__")&&(V8 (findIn K (.ref C) "__getattr__")&&(isV (findIn K (.ref C) "__setattr__") (.builtin "object.__setattr__")&&
 (isV (specialIn K (.ref C) "__call__") (.builtin "type.__call__")&&isT (instIn K (.ref C) (.type "type")))))))
theorem Z2k{K:Frag}{C:Addr}(h:UT K C=true):XC K C:=
 have⟨h1,h⟩:=ZC h
 have⟨h2,h⟩:=ZC h
 have⟨h3,h⟩:=ZC h
 have⟨h4,h⟩:=ZC h
 have⟨h5,h⟩:=ZC h
 ⟨Zvw h1,h2,Zbm h3,Zhf h4,Zbm h5,Zbm (ZC h).1,Zqs (ZC h).2⟩
noncomputable def Z4k(K:Frag):Bool:=Q4.all λe=>UT K e.2&&isV (nsIn K mainGlobals (Str.ofString e.1)) (.ref e.2)
noncomputable def Z4m(K:Frag):Bool:=Ja.all λe=>Qk false (λa=>V8 (findIn K (.ref a) (Str.ofString e.2))) (Q4.lookup e.1)
noncomputable def Z4i(K:Frag):Bool:=Zcs.all λe=>Qk false (λa=>isM (findIn K (.ref a) (Str.ofString e.1.2)) K e.2) (Q4.lookup e.1.1)
noncomputable def Z4j(K:Frag):Bool:=Zct.all λe=>Qk false (λa=>isM (findIn K (.ref a) "__init__") K e.2) (Q4.lookup e.1)
noncomputable def Z4h(K:Frag):Bool:=Zh5.all λe=>Qk false (λc=>Qk false (λf=>isV (ks_superIn K c (Qn "StoryFault").2 "__init__") (.ref f)&&(UI (typeIn K (.ref f)) (.type "function")&&(isT (mroIn K c (.ref (Qn "StoryFault").2))&&fnIn K f))) (fnA e.2)) (Q4.lookup e.1)
noncomputable def Z4l(K:Frag):Bool:=Zcu.all λe=>Qk false (λc=>isV (ks_superIn K c (Qn "HeapError").2 "__init__") (.builtin "Exception.__init__")&&isT (mroIn K c (.ref (Qn "HeapError").2))) (Q4.lookup e)
noncomputable def Z4n(K:Frag):Bool:=Z4k K&&(Z4m K&&(Z4i K&&(Z4j K&&(Z4h K&&Z4l K))))
noncomputable def Z61(K:Frag):Bool:=Zbp.all λe=>Ic K e.2&&isV (nsIn K mainGlobals (Str.ofString e.1)) (.ref e.2)
noncomputable def Z62(K:Frag):Bool:=Zlw.all λf=>V8 (nsIn K mainGlobals (Str.ofString f))
noncomputable def Zz3(K:Frag):Bool:=V8 (nsIn K cStatics "thirdparty.any")&&(Zbv.all (λe=>Zz5 K e.1)&&Z4n K)
noncomputable def Z4e(K:Frag):Bool:=Z61 K&&(Z4b K&&(Z62 K&&Zz3 K))
noncomputable def Zz4(K:Frag):Bool:=Rm K&&(Z4f K&&(Z4g K&&(Z4o K&&Z4e K)))
noncomputable def Z4c(K:Frag):Bool:=Zda.all λq=>Qk false (λa=>Z1o K (X9 K a) q.2) (fnA q.1)
noncomputable def KOK(K:Frag):Bool:=Zwz.all (Z1q K)&&(Zz4 K&&Z4c K)
section
@[elab_as_elim]theorem eqE{β:Sort _}{motive:β→Prop}{a b:β}(e:a=b)(h:motive b):motive a:=e▸h
@[elab_as_elim]theorem V7{α:Sort _}{motive:α→Prop}{c:Prop}[Decidable c]{a b:α}(h1:c→motive a)(h2:¬c→motive b):motive (if c then a else b):=by
 by_cases h:c
 ·rw[if_pos h];exact h1 h
 ·rw[if_neg h];exact h2 h
theorem Zta{α β:Type}[BEq α][LawfulBEq α]:∀{xs:List α}{ys:List β}{x:α},xs.length=ys.length→x∈xs→((xs.zip ys).lookup x).isSome=true
 | [],_,_,_,h=>nomatch h
 |x::xs,[],_,h,_=>nomatch h
 |x::xs,y::ys,z,h,hz=>by
  rw[List.zip_cons_cons,List.lookup_cons]
  by_cases e:z=x
  ·rw[e,Z87];rfl
  ·rw[Z85.mpr e]
   exact Zta (Nat.succ.inj h) ((Z8k.mp hz).resolve_left e)
theorem Zq2{α β:Type}{f g:α→Option β}:∀{l:List α},(∀x∈l,f x=g x)→l.filterMap f=l.filterMap g
 | [],_=>rfl
 |x::l,h=>by
  rw[List.filterMap_cons,List.filterMap_cons,h x Z8g,Zq2 λy hy=>h y (Z8h _ hy)]
theorem Zps{α β:Type}[BEq α][LawfulBEq α]:∀{xs:List α}{ys:List β},xs.Nodup→xs.length=ys.length→xs.filterMap (λn=>((xs.zip ys).lookup n).map (n,·))=xs.zip ys
 | [],_,_,_=>rfl
 |x::xs,[],_,h=>nomatch h
 |x::xs,y::ys,hn,h=>by
  rw[Z88]at hn
  rw[List.zip_cons_cons,List.filterMap_cons,List.lookup_cons,Z87]
  refine Z81 ((x,y)::·) ((Zq2 λz hz=>?_).trans (Zps hn.2 (Nat.succ.inj h)))
  rw[List.lookup_cons,Z85.mpr λe:z=x=>hn.1 (e▸hz)]
theorem Zs6{fd:FuncData}{F:Fn}(h:Zz6 fd F=true)(hn:(F.params.map Str.ofString).Nodup){vals:List Value}(hl:vals.length=F.params.length):bindArgs fd ⟨vals,[]⟩=pure ((F.params.map Str.ofString).zip vals):=by
 have⟨h1,h⟩:=ZC h
 have⟨h2,h⟩:=ZC h
 have⟨h3,h⟩:=ZC h
 have⟨h4,h⟩:=ZC h
 have⟨h5,h7⟩:=ZC h
 have e1:=List.isEmpty_iff.mp h1
 have e2:=Z84 h2
 have e3:=Option.isNone_iff_eq_none.mp h3
 have e4:=List.isEmpty_iff.mp h4
 have e5:=Option.isNone_iff_eq_none.mp h5
 have e7:=Z84 h7
 clear h h1 h2 h3 h4 h5 h7
 have hl':(F.params.map Str.ofString).length=vals.length:=by rw[Z8i,hl]
 rw[←e2]at hl' hn ⊢
 clear e2
 obtain⟨Z,Z,⟨Z,as,Z,Z,Z,Z,Z⟩,Z,Z,Z,Z,Z,Z,Z,Z,Z,Z,Z,Z⟩:=fd
 dsimp only at e1 e3 e4 e5 e7 hl' hn ⊢
 subst e1 e3 e4 e5 e7
 have hm:∀k,((as.map (·.arg)).take k).filter (λn=>(((as.map (·.arg)).zip vals).lookup n).isNone)=[]:=λk=>List.filter_eq_nil_iff.mpr λx hx=>by
  obtain⟨v,hv⟩:=Option.isSome_iff_exists.mp (Zta hl' (List.mem_of_mem_take hx))
  rw[hv];exact Z86
 have hg:¬((decide (vals.length > (as.map (·.arg)).length)&&true)=true):=by rw[hl',Z83 (Nat.lt_irrefl _)];exact Z86
 show(if(decide (vals.length > (as.map (·.arg)).length)&&true)=true then _ else _)=_
 refine(if_neg hg).trans ?_
 show(if(!(((as.map (·.arg)).take _).filter λn=>(((as.map (·.arg)).zip vals).lookup n).isNone).isEmpty)=true then _ else _)=_
 refine(if_neg (by rw[hm];exact Z86)).trans ?_
 dsimp only
 simp only[List.map_nil,List.drop_nil,List.zip_nil_right,List.forIn_nil,pure_bind,List.append_nil,List.nil_append,List.isEmpty_nil,Bool.not_true,Bool.false_eq_true,if_false,Zps hn hl',Option.getD_none]
structure Vo(K:Frag)(fd:FuncData)(dn:String):Prop where
 clo:fd.closure=[(("__class__":Str),(Qn dn).1)]
 QP:∀y∈fd.scope.names,y.2≠.cell
 free:∀y∈fd.scope.names,y.2=.free→y.1=("__class__":Str)
 par:∃ar,(fd.params.posonlyargs++fd.params.args).head? = some ar∧ar.arg=Str.ofString "self"
 self:fd.scope.names.lookup (Str.ofString "self")=some .local
 code:∃cda ccl cdd vs ccs file tf,fd.code=.ref cda∧K.lookup cda=some ⟨ccl,cdd,.fields vs,ccs⟩∧vs[2]? = some (.str file tf)∧((pp.main.file:Str)==file)=true
theorem Ze3{q dn:String}(h:Zda.lookup q=some dn):∃e∈Zbv,e.1=dn:=by
 have hm:=J2 h
 have:∀p∈Zda,(Zbv.any λe=>e.1==p.2)=true:=by decide +kernel
 obtain⟨e,he,q⟩:=List.any_eq_true.mp (this _ hm)
 exact⟨e,he,Z84 q⟩
structure FnK(K:Frag)(Fd:Fn)(f:Addr)(fd:FuncData):Prop where
 obj:∃oc od osl,K.lookup f=some ⟨oc,od,.func fd,osl⟩
 fn:fnIn K f=true
 keep:keepIn K (.ref f)=true
 co:fd.scope.isCoroutine=false
 gen:fd.scope.isGenerator=false
 kind:fd.scope.kind=.function
 code:codeIn K fd.code fd.qualname=true
 body:fd.body=.stmts (XK fd)
 glob:fd.globals=mainGlobals
 blt:fd.builtins=builtinsNs
 bind:∀vals:List Value,vals.length=Fd.params.length→bindArgs fd ⟨vals,[]⟩=pure ((Fd.params.map Str.ofString).zip vals)
 U8:∀x∈Fd.params,Zgu fd.scope (Str.ofString x)=true
 fit:JJ fd.scope Fd.body (XK fd)=true
 rest:(fd.closure=[]∧∀y∈fd.scope.names,y.2≠.free)∨∃dn,(∃e∈Zbv,e.1=dn)∧Vo K fd dn
theorem Yo{x y:String}(h:Str.ofString x=Str.ofString y):x=y:=by
 rw[Str.ofString_eq_toList,Str.ofString_eq_toList]at h
 injection h with h
 have h:x.toList.map Char.toNat=y.toList.map Char.toNat:=by simpa using Array.toList_inj.mpr h
 exact String.toList_inj.mp (List.map_inj_right (λa b e=>Char.ext (UInt32.toNat_inj.mp e)) |>.mp h)
theorem Zmu:∀{xs:List String},xs.Nodup→(xs.map Str.ofString).Nodup
 | [],_=>.nil
 |x::xs,h=>by
  have h:=Z88.mp h
  exact Z88.mpr ⟨λq=>by obtain⟨y,hy,e⟩:=Z8l.mp q;exact h.1 (Yo e▸hy),Zmu h.2⟩
theorem Zrr{K:Frag}{fd:FuncData}(h:Zog K fd=true):∃cda ccl cdd vs ccs file tf,fd.code=.ref cda∧K.lookup cda=some ⟨ccl,cdd,.fields vs,ccs⟩∧vs[2]? = some (.str file tf)∧((pp.main.file:Str)==file)=true:=by
 unfold Zog at h
 split at h
 ·rename_i cda e1
  split at h
  ·rename_i c d vs sl e2
   split at h
   ·rename_i file t e3
    exact⟨_,_,_,_,_,_,_,e1,e2,e3,h⟩
   ·cases h
  ·cases h
 ·cases h
theorem Ztj{K:Frag}{fd:FuncData}{dn:String}(h:Z1o K fd dn=true):Vo K fd dn:=
 have⟨h1,h⟩:=ZC h
 have⟨h2,h⟩:=ZC h
 have⟨h3,h⟩:=ZC h
 have⟨h4,h⟩:=ZC h
 have⟨h5,h⟩:=ZC h
 ⟨Z84 h1,λy hy=>bne_iff_ne.mp (Yq h2 hy),λy hy e=>(Bool.or_eq_true_iff.mp (Yq h3 hy)).elim (λq=>absurd e (bne_iff_ne.mp q)) Z84,
  Zj (Q:=λo=>∃ar,o=some ar∧ar.arg=Str.ofString "self") h4 (λq=>no q) (λar q=>⟨ar,rfl,Z84 q⟩),Z84 h5,Zrr h⟩
theorem Zx0{fd:FuncData}(h:Zud fd=true):fd.closure=[]∧∀y∈fd.scope.names,y.2≠.free:=⟨List.isEmpty_iff.mp (ZC h).1,λy hy=>bne_iff_ne.mp (Yq (ZC h).2 hy)⟩
structure YZ(s1:Shared)(K:Frag)(mg mb:Str→Option Value):Prop where
 inK:K.In s1.heap
 kok:KOK K=true
 gns:s1.heap.Ns mainGlobals mg
 bns:s1.heap.Ns builtinsNs mb
 lim:s1.heap.NoLimit
 sys:∃a o,sysModules≤a∧s1.heap.get? a=some o
 blt:∀x:Str,x≠"__name__"→mb x=bootBuiltins x
theorem Du{s1:Shared}{K:Frag}{mg mb:Str→Option Value}{pv:Program}{loose:List Str}{Gw:ExcName→Option Value}(hk:KOK K=true)(KX:K.In s1.heap)(T0:Top pv loose Gw mg mb s1.heap):YZ s1 K mg mb:=
 ⟨KX,hk,T0.g,T0.b,T0.nolimit,let⟨m,⟨o,_,_,ho,_⟩,_⟩:=T0.nolimit;⟨_,o,by decide,ho⟩,T0.builtins⟩
noncomputable abbrev fnOf(q:String):Option (Addr×Fn):=Zwz.lookup q
theorem Zjp{q:String}{e:Addr×Fn}(h:fnOf q=some e):fnA q=some e.1:=Z8r.mpr ⟨e,h,rfl⟩
theorem Zq1{q:String}{a:Addr}(h:fnA q=some a):∃F,fnOf q=some (a,F):=let⟨e,he,q⟩:=Z8r.mp h;⟨e.2,he.trans (Z81 some (Prod.ext q rfl))⟩
section
variable{s1:Shared}{K:Frag}{mg mb:Str→Option Value}(G:YZ s1 K mg mb)
include G
theorem YZ.fnK{q₀:String}{e:Addr×Fn}(h:fnOf q₀=some e):FnK K e.2 e.1 (X9 K e.1):=
 have⟨g1,h⟩:=ZC (Yq (ZC G.kok).1 (J2 h))
 have⟨g2,h⟩:=ZC h
 have⟨f,h⟩:=ZC h
 have⟨b,h⟩:=ZC h
 have⟨f1,f⟩:=ZC f
 have⟨f2,f⟩:=ZC f
 have⟨f3,f⟩:=ZC f
 have⟨f4,f⟩:=ZC f
 have⟨f5,f⟩:=ZC f
 have⟨f6,f⟩:=ZC f
 have⟨f7,f⟩:=ZC f
 have⟨f8,f⟩:=ZC f
 have⟨f9,f⟩:=ZC f
 {obj:=Z2h g1,fn:=g1,keep:=g2,co:=Bool.not_eq_true' _ |>.mp f1,gen:=Bool.not_eq_true' _ |>.mp f2,kind:=Z84 f3,code:=f4,body:=Z20 f5,glob:=Z84 f6,blt:=Z84 f7,
  bind:=λvals hl=>Zs6 b (Zmu (of_decide_eq_true f9)) hl,U8:=λx hx=>Yq f8 hx,fit:=f,
  rest:=(Bool.or_eq_true_iff.mp h).imp Zx0 λq=>Zj (Q:=λo=>Zda.lookup q₀=o→∃dn,(∃e∈Zbv,e.1=dn)∧Vo K (X9 K e.1) dn) q (λq=>no q) (λdn q hl=>⟨dn,Ze3 hl,Ztj q⟩) rfl }
theorem YZ.rest:Zz4 K=true:=(ZC (ZC G.kok).2).1
theorem YZ.Dp{q dn:String}(h:Zda.lookup q=some dn):∃a,fnA q=some a∧Vo K (X9 K a) dn:=
 Zj (Q:=λo=>∃a,o=some a∧Vo K (X9 K a) dn) (Yq (ZC (ZC G.kok).2).2 (J2 h)) (λq=>no q) λa q=>⟨a,rfl,Ztj q⟩
theorem YZ.gf{f:String}(h:Zff.contains f=true):∃a,fnA f=some a∧mg (Str.ofString f)=some (.ref a):=
 Zj (Q:=λo=>∃a,o=some a∧mg (Str.ofString f)=some (.ref a)) (Yq (ZC G.rest).1 (List.contains_iff_mem.mp h)) (λq=>no q) λa q=>⟨a,rfl,mg_of G.inK G.gns (Zbm q)⟩
structure Kn(K:Frag)(v:Option (Option Value))(f:Addr):Prop where
 find:v=some (some (.ref f))
 ty:typeIn K (.ref f)=some (.type "function")
omit G in
theorem Zqt{v:Option (Option Value)}{q:String}(h:isM v K q=true):∃f,fnA q=some f∧Kn K v f:=
 Zj (Q:=λo=>∃f,o=some f∧Kn K v f) h (λq=>no q) λf h=>⟨f,rfl,Zbm (ZC h).1,Zo7 (ZC h).2⟩
theorem YZ.Rq{c m q:String}(h:Zba.lookup (c,m)=some q):∃a f,Zbp.lookup c=some a∧fnA q=some f∧Kn K (findIn K (.ref a) (Str.ofString m)) f:=
 Zj (Q:=λo=>∃a f,o=some a∧fnA q=some f∧Kn K (findIn K (.ref a) (Str.ofString m)) f) (Yq (ZC (ZC G.rest).2).1 (J2 h)) (λq=>no q) λa h=>let⟨f,h1,h2⟩:=Zqt h;⟨a,f,rfl,h1,h2⟩
theorem YZ.init{c q:String}(h:Zhg.lookup c=some (some q)):∃a f,Zbp.lookup c=some a∧fnA q=some f∧Kn K (findIn K (.ref a) "__init__") f:=
 Zj (Q:=λo=>∃a f,o=some a∧fnA q=some f∧Kn K (findIn K (.ref a) "__init__") f) (Yq (ZC (ZC (ZC G.rest).2).2).1 (J2 h)) (λq=>no q) λa h=>let⟨f,h1,h2⟩:=Zqt h;⟨a,f,rfl,h1,h2⟩
theorem YZ.attr{c n:String}(h:J9.contains (c,n)=true):∃a,Zbp.lookup c=some a∧findIn K (.ref a) (Str.ofString n)=some none:=
 Zj (Q:=λo=>∃a,o=some a∧findIn K (.ref a) (Str.ofString n)=some none) (Yq (ZC (ZC (ZC (ZC G.rest).2).2).2).1 (List.contains_iff_mem.mp h)) (λq=>no q) λa h=>⟨a,rfl,Zhf h⟩
theorem YZ.mid:Z4e K=true:=(ZC (ZC (ZC (ZC G.rest).2).2).2).2
theorem YZ.cls{c:String}{a:Addr}(h:Zbp.lookup c=some a):IQ K a∧mg (Str.ofString c)=some (.ref a):=
 have:=ZC (Yq (ZC G.mid).1 (J2 h))
 ⟨Z2r this.1,mg_of G.inK G.gns (Zbm this.2)⟩
theorem YZ.bl{f:String}{v:Value}(h:Zlw.contains f=true)(hb:bootBuiltins (Str.ofString f)=some v)(hn:Str.ofString f≠"__name__"):mg (Str.ofString f)=none∧mb (Str.ofString f)=some v:=
 ⟨mg_none_of G.inK G.gns (Zhf (Yq (ZC (ZC (ZC G.mid).2).2).1 (List.contains_iff_mem.mp h))),(G.blt _ hn).trans hb⟩
theorem YZ.tail:Zz3 K=true:=(ZC (ZC (ZC G.mid).2).2).2
theorem YZ.opq:nsIn K cStatics "thirdparty.any"=some none:=Zhf (ZC G.tail).1
theorem YZ.okc{dn:String}(h:∃e∈Zbv,e.1=dn):Zz5 K dn=true:=let⟨_,he,q⟩:=h;q▸Yq (ZC (ZC G.tail).2).1 he
theorem YZ.top{dn:String}(h:∃e∈Zbv,e.1=dn):∃cd,clsIn K (Qn dn).2=some cd:=Option.isSome_iff_exists.mp (ZC (G.okc h)).1
theorem YZ.cell{dn:String}(h:∃e∈Zbv,e.1=dn):∃cl cld csl,K.lookup (Qn dn).1=some ⟨cl,cld,.cell (some (.ref (Qn dn).2)),csl⟩:=by
 have h:=(ZC (G.okc h)).2
 split at h
 ·rename_i e;rw[Z84 h]at e;exact⟨_,_,_,e⟩
 ·cases h
structure Vp(K:Frag)(D:Addr)(m:String)(c f:Addr):Prop where
 find:ks_superIn K c D (Str.ofString m)=some (some (.ref f))
 ty:typeIn K (.ref f)=some (.type "function")
 mro:mroIn K c (.ref D)=some true
 fn:fnIn K f=true
theorem YZ.sup{c q m:String}(h:Zmd.contains (c,q,m)=true):∃a f,Zbp.lookup c=some a∧fnA q=some f∧Vp K (Qn "Written").2 m a f:=
 Zj (Q:=λo=>∃a f,o=some a∧fnA q=some f∧Vp K (Qn "Written").2 m a f) (Yq (ZC (ZC G.mid).2).1 (List.contains_iff_mem.mp h)) (λq=>no q) λa h=>
  Zj (Q:=λo=>∃a' f,some a=some a'∧o=some f∧Vp K (Qn "Written").2 m a' f) h (λq=>no q) λf h=>⟨a,f,rfl,rfl,Zbm (ZC h).1,Zo7 (ZC (ZC h).2).1,Zqs (ZC (ZC (ZC h).2).2).1,(ZC (ZC (ZC h).2).2).2⟩
theorem YZ.VD:Z4n K=true:=(ZC (ZC G.tail).2).2
theorem YZ.exc{c:String}{a:Addr}(h:Q4.lookup c=some a):XC K a∧mg (Str.ofString c)=some (.ref a):=
 have:=ZC (Yq (ZC G.VD).1 (J2 h))
 ⟨Z2k this.1,mg_of G.inK G.gns (Zbm this.2)⟩
theorem YZ.QF{c n:String}(h:Ja.contains (c,n)=true):∃a,Q4.lookup c=some a∧findIn K (.ref a) (Str.ofString n)=some none:=
 Zj (Q:=λo=>∃a,o=some a∧findIn K (.ref a) (Str.ofString n)=some none) (Yq (ZC (ZC G.VD).2).1 (List.contains_iff_mem.mp h)) (λq=>no q) λa h=>⟨a,rfl,Zhf h⟩
theorem YZ.RZ{c m q:String}(h:Zcs.lookup (c,m)=some q):∃a f,Q4.lookup c=some a∧fnA q=some f∧Kn K (findIn K (.ref a) (Str.ofString m)) f:=
 Zj (Q:=λo=>∃a f,o=some a∧fnA q=some f∧Kn K (findIn K (.ref a) (Str.ofString m)) f) (Yq (ZC (ZC (ZC G.VD).2).2).1 (J2 h)) (λq=>no q) λa h=>let⟨f,h1,h2⟩:=Zqt h;⟨a,f,rfl,h1,h2⟩
theorem YZ.DZ{c q:String}(h:Zct.lookup c=some q):∃a f,Q4.lookup c=some a∧fnA q=some f∧Kn K (findIn K (.ref a) "__init__") f:=
 Zj (Q:=λo=>∃a f,o=some a∧fnA q=some f∧Kn K (findIn K (.ref a) "__init__") f) (Yq (ZC (ZC (ZC (ZC G.VD).2).2).2).1 (J2 h)) (λq=>no q) λa h=>let⟨f,h1,h2⟩:=Zqt h;⟨a,f,rfl,h1,h2⟩
theorem YZ.RY{c q:String}(h:Zh5.lookup c=some q):∃a f,Q4.lookup c=some a∧fnA q=some f∧Vp K (Qn "StoryFault").2 "__init__" a f:=
 Zj (Q:=λo=>∃a f,o=some a∧fnA q=some f∧Vp K (Qn "StoryFault").2 "__init__" a f) (Yq (ZC (ZC (ZC (ZC (ZC G.VD).2).2).2).2).1 (J2 h)) (λq=>no q) λa h=>
  Zj (Q:=λo=>∃a' f,some a=some a'∧o=some f∧Vp K (Qn "StoryFault").2 "__init__" a' f) h (λq=>no q) λf h=>⟨a,f,rfl,rfl,Zbm (ZC h).1,Zo7 (ZC (ZC h).2).1,Zqs (ZC (ZC (ZC h).2).2).1,(ZC (ZC (ZC h).2).2).2⟩
theorem YZ.UT{c:String}(h:Zcu.contains c=true):∃a,Q4.lookup c=some a∧ks_superIn K a (Qn "HeapError").2 "__init__"=some (some (.builtin "Exception.__init__"))∧mroIn K a (.ref (Qn "HeapError").2)=some true:=
 Zj (Q:=λo=>∃a,o=some a∧ks_superIn K a (Qn "HeapError").2 "__init__"=some (some (.builtin "Exception.__init__"))∧mroIn K a (.ref (Qn "HeapError").2)=some true) (Yq (ZC (ZC (ZC (ZC (ZC G.VD).2).2).2).2).2 (List.contains_iff_mem.mp h)) (λq=>no q) λa h=>⟨a,rfl,Zbm (ZC h).1,Zqs (ZC h).2⟩
end
end
end PL
end
section
open PySem PySem.W PyProof.Rows
open scoped Classical
namespace PL
section
section
variable{α β:Type}
def F2(R:α→β→Prop)(as:List α)(bs:List β):Prop:=@List.rec β (λZ=>List α→Prop) (λas=>@List.casesOn α (λZ=>Prop) as True λZ Z=>False) (λb Z ih as=>@List.casesOn α (λZ=>Prop) as False λa as=>R a b∧ih as) bs as
variable{R R':α→β→Prop}{P:List α→List β→Prop}
theorem F2.ind(h0:P [] [])(h1:∀a as b bs,R a b→F2 R as bs→P as bs→P (a::as) (b::bs)){as:List α}{bs:List β}(x:F2 R as bs):P as bs:=
 @List.rec β (λbs=>∀as,F2 R as bs→P as bs) (λas=>@List.casesOn α (λas=>F2 R as []→P as []) as (λZ=>h0) λZ Z h=>h.elim)
  (λb bs ih as=>@List.casesOn α (λas=>F2 R as (b::bs)→P as (b::bs)) as (λh=>h.elim) λa as h=>h1 a as b bs h.1 h.2 (ih as h.2)) bs as x
namespace F2
theorem mono(h:∀a b,R a b→R' a b){as:List α}{bs:List β}(x:F2 R as bs):F2 R' as bs:=ind (P:=F2 R') trivial (λa Z b Z r Z i=>⟨h a b r,i⟩) x
theorem length{as:List α}{bs:List β}(x:F2 R as bs):as.length=bs.length:=@ind α β R (λas bs=>as.length=bs.length) rfl (λZ Z Z Z Z Z i=>Z81 Nat.succ i) as bs x
theorem append{as as':List α}{bs bs':List β}(x:F2 R as bs)(y:F2 R as' bs'):F2 R (as++as') (bs++bs'):=@ind α β R (λas bs=>F2 R (as++as') (bs++bs')) y (λZ Z Z Z r Z i=>⟨r,i⟩) as bs x
theorem get{as:List α}{bs:List β}(x:F2 R as bs):∀{i:Nat}{b:β},bs[i]? = some b→∃a,as[i]? = some a∧R a b:=
 @ind α β R (λas bs=>∀{i:Nat}{b:β},bs[i]? = some b→∃a,as[i]? = some a∧R a b) (λe=>nomatch e) (λa Z b Z r Z ih i=>@Nat.casesOn (λi=>∀{c},(b::_)[i]? = some c→∃d,(a::_)[i]? = some d∧R d c) i (λe=>⟨a,rfl,Z8q e▸r⟩) λi Z e=>ih e) as bs x
theorem get'{as:List α}{bs:List β}(x:F2 R as bs):∀{i:Nat}{a:α},as[i]? = some a→∃b,bs[i]? = some b∧R a b:=
 @ind α β R (λas bs=>∀{i:Nat}{a:α},as[i]? = some a→∃b,bs[i]? = some b∧R a b) (λe=>nomatch e) (λa Z b Z r Z ih i=>@Nat.casesOn (λi=>∀{c},(a::_)[i]? = some c→∃d,(b::_)[i]? = some d∧R c d) i (λe=>⟨b,rfl,Z8q e▸r⟩) λi Z e=>ih e) as bs x
theorem drop(n:Nat){as:List α}{bs:List β}(x:F2 R as bs):F2 R (as.drop n) (bs.drop n):=
 @ind α β R (λas bs=>∀n,F2 R (as.drop n) (bs.drop n)) (λn=>by rw[List.drop_nil,List.drop_nil];trivial) (λa as b bs r x ih n=>@Nat.casesOn (λn=>F2 R ((a::as).drop n) ((b::bs).drop n)) n ⟨r,x⟩ ih) as bs x n
theorem set(n:Nat){as:List α}{bs:List β}{a:α}{b:β}(x:F2 R as bs)(r:R a b):F2 R (as.set n a) (bs.set n b):=
 @ind α β R (λas bs=>∀n,F2 R (as.set n a) (bs.set n b)) (λZ=>trivial) (λa' as b' bs r' x ih n=>@Nat.casesOn (λn=>F2 R ((a'::as).set n a) ((b'::bs).set n b)) n ⟨r,x⟩ λn=>⟨r',ih n⟩) as bs x n
theorem reverse{as:List α}{bs:List β}(x:F2 R as bs):F2 R as.reverse bs.reverse:=
 ind (P:=λas bs=>F2 R as.reverse bs.reverse) trivial (λa as b bs r Z ih=>by rw[List.reverse_cons,List.reverse_cons];exact ih.append ⟨r,trivial⟩) x
theorem QL{as:List α}(x:F2 R as []):as=[]:=List.eq_nil_of_length_eq_zero x.length
theorem cons_right{as:List α}{b:β}{bs:List β}(x:F2 R as (b::bs)):∃a as',as=a::as'∧R a b∧F2 R as' bs:=
 @List.casesOn α (λas=>F2 R as (b::bs)→∃a as',as=a::as'∧R a b∧F2 R as' bs) as (λx=>x.elim) (λa as x=>⟨a,as,rfl,x.1,x.2⟩) x
theorem Xd{as:List α}{bs:List β}(x:F2 R as bs){a:α}(ha:a∈as):∃b∈bs,R a b:=
 let⟨_,hi⟩:=List.mem_iff_getElem?.mp ha
 let⟨b,h1,h2⟩:=x.get' hi
 ⟨b,Z89 h1,h2⟩
theorem X8{as:List α}{bs:List β}(x:F2 R as bs){b:β}(hb:b∈bs):∃a∈as,R a b:=
 let⟨_,hi⟩:=List.mem_iff_getElem?.mp hb
 let⟨a,h1,h2⟩:=x.get hi
 ⟨a,Z89 h1,h2⟩
theorem one{a:α}{b:β}(r:R a b):F2 R [a] [b]:=⟨r,trivial⟩
theorem size{as:Array α}{bs:List β}(x:F2 R as.toList bs):as.size=bs.length:=Z8u.symm.trans x.length
end F2
end
inductive Tag where
 |free | imm (o:Obj) (v:Option ZA) | own (id:Nat) | dic (id:Nat)
noncomputable abbrev Wd:=Addr→Tag
noncomputable def Tag.key(t:Tag):Option (Bool×Nat):=@Tag.casesOn (λZ=>Option (Bool×Nat)) t none (λZ Z=>none) (λi=>some (true,i)) (λi=>some (false,i))
noncomputable def st(c:CS):Str:=⟨c.toArray⟩
theorem Zp1{a b:CS}(h:st a=st b):a=b:=Z81 Array.toList (Z81 Str.cps h)
theorem Yn(c:CS):(st c).length=c.length:=rfl
theorem Zmg(a b:CS):st a++st b=st (a++b):=Z81 Str.mk (List.append_toArray a b)
def ZE(W:Wd)(v:Value)(x:ZA):Prop:=@ZA.casesOn (λZ=>Prop) x (v=.none) (λb=>v=.bool b) (λi=>∃t,v=.int i t) (λc=>∃t,v=.str (st c) t)
 (λxs=>∃a,v=.ref a∧∃o,W a=.imm o (some (.tup xs))) (λxs=>∃a,v=.ref a∧∃o,W a=.imm o (some (.lst xs))) (λid=>∃a,v=.ref a∧W a=.own id)
section
variable{W W':Wd}
theorem ZE.none{v:Value}(h:ZE W v .none):v=.none:=h
theorem ZE.bool{v:Value}{b:Bool}(h:ZE W v (.bool b)):v=.bool b:=h
@[elab_as_elim]theorem ZE.YF{P:Value→Prop}{v:Value}{i:Int}(h:ZE W v (.int i))(f:∀t,P (.int i t)):P v:=let⟨t,e⟩:=h;e▸f t
@[elab_as_elim]theorem ZE.QM{P:Value→Prop}{v:Value}{c:CS}(h:ZE W v (.str c))(f:∀t,P (.str (st c) t)):P v:=let⟨t,e⟩:=h;e▸f t
@[elab_as_elim]theorem ZE.XW{P:Value→Prop}{v:Value}(h:ZE W v .none)(f:P .none):P v:=h.symm▸f
@[elab_as_elim]theorem ZE.YO{P:Value→Prop}{v:Value}{b:Bool}(h:ZE W v (.bool b))(f:P (.bool b)):P v:=h.symm▸f
theorem ZE.bools(b:Bool):ZE W (.bool b) (.bool b):=rfl
theorem ZE.ints(i:Int)(t:Tok):ZE W (.int i t) (.int i):=⟨t,rfl⟩
theorem ZE.strs(c:CS)(t:Tok):ZE W (.str (st c) t) (.str c):=⟨t,rfl⟩
theorem ZE.Dl{a:Addr}{o:Obj}{xs:List ZA}(h:W a=.imm o (some (.tup xs))):ZE W (.ref a) (.tup xs):=⟨a,rfl,o,h⟩
theorem ZE.Gy{a:Addr}{o:Obj}{xs:List ZA}(h:W a=.imm o (some (.lst xs))):ZE W (.ref a) (.lst xs):=⟨a,rfl,o,h⟩
theorem ZE.refs{a:Addr}{id:Nat}(h:W a=.own id):ZE W (.ref a) (.ref id):=⟨a,rfl,h⟩
theorem Zb0{a b:Addr}(e:Value.ref a=.ref b):a=b:=by injection e
def LeX(X:List Addr)(W W':Wd):Prop:=∀a,a∉X→W a≠.free→W' a=W a
abbrev Le(W W':Wd):Prop:=LeX [] W W'
theorem LeX.refl(X:List Addr)(W:Wd):LeX X W W:=λZ Z Z=>rfl
theorem LeX.trans{X:List Addr}{W W' W'':Wd}(h:LeX X W W')(h':LeX X W' W''):LeX X W W'':=λa ha hf=>(h' a ha (h a ha hf▸hf)).trans (h a ha hf)
theorem Le.X{X:List Addr}(h:Le W W'):LeX X W W':=λa Z hf=>h a List.not_mem_nil hf
theorem LeX.mono{X Y:List Addr}(h:LeX X W W')(hs:∀a∈X,a∈Y):LeX Y W W':=λa ha hf=>h a (λhx=>ha (hs a hx)) hf
theorem LeX.le{X:List Addr}(h:LeX X W W')(hX:∀a∈X,W a=.free):Le W W':=λa Z hf=>h a (λhx=>hf (hX a hx)) hf
def ZG(W:Wd)(X:List Addr):Prop:=∀a∈X,W a=.free∨∃o,W a=.imm o Option.none
theorem ZG.nil:ZG W []:=λZ h=>nomatch h
theorem ZG.one{a:Addr}{o:Obj}(h:W a=.imm o Option.none):ZG W [a]:=λb hb=>.inr ⟨o,Z8m.mp hb▸h⟩
theorem Znd{a:Addr}{o:Obj}{v:Option ZA}(e:W a=.imm o v):W a≠.free:=λh=>nomatch e.symm.trans h
theorem Zmr{a:Addr}{id:Nat}(e:W a=.own id):W a≠.free:=λh=>nomatch e.symm.trans h
theorem Znz{a:Addr}{id:Nat}(e:W a=.dic id):W a≠.free:=λh=>nomatch e.symm.trans h
theorem LeX.at{X:List Addr}(hl:LeX X W W')(hX:ZG W X){a:Addr}{t:Tag}(e:W a=t)(h1:t≠.free)(h2:∀o,t≠.imm o Option.none):W' a=t:=
 (hl a (λhm=>(hX a hm).elim (λq=>h1 (e.symm.trans q)) λ⟨o,q⟩=>h2 o (e.symm.trans q)) (e▸h1)).trans e
theorem Qg{a:Addr}{o:Obj}{v}(h:W a=.imm o v)(l:Le W W'):W' a=.imm o v:=(l a List.not_mem_nil (Znd h)).trans h
theorem ZE.ZM{X:List Addr}{v:Value}{x:ZA}(h:ZE W v x)(hl:LeX X W W')(hX:ZG W X):ZE W' v x:=
 @ZA.casesOn (λx=>ZE W v x→ZE W' v x) x id (λZ=>id) (λZ=>id) (λZ=>id)
  (λxs h=>let⟨a,e,o,q⟩:=h;⟨a,e,o,hl.at hX q (λh=>nomatch h) λZ h=>nomatch h⟩) (λxs h=>let⟨a,e,o,q⟩:=h;⟨a,e,o,hl.at hX q (λh=>nomatch h) λZ h=>nomatch h⟩)
  (λid h=>let⟨a,e,q⟩:=h;⟨a,e,hl.at hX q (λh=>nomatch h) λZ h=>nomatch h⟩) h
theorem ZE.mono{v:Value}{x:ZA}(h:ZE W v x)(hl:Le W W'):ZE W' v x:=h.ZM hl ZG.nil
noncomputable abbrev ZF(W:Wd):=F2 (ZE W)
theorem ZF.mono{vs:List Value}{xs:List ZA}(h:ZF W vs xs)(hl:Le W W'):ZF W' vs xs:=F2.mono (λZ Z x=>x.mono hl) h
theorem ZF.ZM{X:List Addr}{vs:List Value}{xs:List ZA}(h:ZF W vs xs)(hl:LeX X W W')(hX:ZG W X):ZF W' vs xs:=F2.mono (λZ Z x=>x.ZM hl hX) h
end
def Kf(h:Heap)(a:Addr)(items:Array Value):Prop:=∃n,h.get? a=some { cls:=.type "tuple",data:=.seq items n }
theorem Kf.QI{h:Heap}{a:Addr}{items:Array Value}(x:Kf h a items):h.IsTuple a items:=let⟨n,e⟩:=x;⟨_,e,rfl,n,rfl⟩
def Ij(W:Wd)(o:Obj)(ty:String)(xs:List ZA):Prop:=∃vs n,o={ cls:=.type ty,data:=.seq vs n }∧ZF W vs.toList xs
def Xh(W:Wd)(o:Obj)(v:Option ZA):Prop:=@Option.casesOn _ (λZ=>Prop) v True λv=>@ZA.casesOn (λZ=>Prop) v False (λZ=>False) (λZ=>False) (λZ=>False) (λxs=>Ij W o "tuple" xs) (λxs=>Ij W o "list" xs) (λZ=>False)
noncomputable def Zf8(w:World)(k:ZA):Int:=@ZA.casesOn (λZ=>Int) k 0 (λZ=>0) (λi=>hashInt i) (λc=>hashStr w (st c)) (λZ=>0) (λZ=>0) (λZ=>0)
noncomputable def Zd5(w:World)(k:ZA):Int:=@ZA.casesOn (λZ=>Int) k (Zf8 w k) (λZ=>Zf8 w k) (λZ=>Zf8 w k) (λZ=>Zf8 w k) (λxs=>reduceHash (Builtin.Tuple.tupleHashOf (xs.map (Zf8 w)))) (λZ=>Zf8 w k) (λZ=>Zf8 w k)
structure Cx where
 w:World
 s1:Shared
 K:Frag
 mg:Str→Option Value
 mb:Str→Option Value
 ok:YZ s1 K mg mb
noncomputable def JQ(c:String):Addr:=(Zbp.lookup c).getD 0
noncomputable def QF(c:String):Addr:=(Q4.lookup c).getD 0
variable(X:Cx)
structure IP(W:Wd)(e:DictEntry)(p:ZA×ZA):Prop where
 key:ZE W e.key p.1
 val:ZE W e.val p.2
 hash:e.hash=Zd5 X.w p.1
structure XQ(W:Wd)(h:Heap)(a:Addr)(es:List (ZA×ZA)):Prop where
 obj:∃o des ep,h.get? a=some o∧o.ExactDict∧o.data=.dict des ep∧F2 (IP X W) des.toList es
 nodup:(es.map (·.1)).Nodup
 keys:∀p∈es,p.1.isKey=true
 sys:a≠sysModules
def MvR(W:Wd)(v:Option ZA)(mv:Option Value):Prop:=@Option.casesOn _ (λZ=>Prop) v (mv=none) λv=>∃cv,mv=some cv∧ZE W cv v
structure VP(W:Wd)(h:Heap)(d:Addr)(k:Nat)(m:Fm):Prop where
 ns:∃mm,h.Ns d mm∧∀x:String,MvR W (m x) (mm (Str.ofString x))
 sz:∃o,h.get? d=some o∧o.ExactDict∧∃es ep,o.data=.dict es ep∧es.size≤k
def U4(W:Wd)(h:Heap)(id k:Nat)(m:Fm)(od:Option Addr):Prop:=@Option.casesOn _ (λZ=>Prop) od (k=0∧∀x,m x=none) λd=>0<k∧W d=.dic id∧VP W h d k m
def K8(W:Wd)(h:Heap)(a:Addr)(id:Nat)(c:String)(k:Nat)(cx:Bool×Bool)(m:Fm):Prop:=∃od vs,h.get? a=some { cls:=.ref (QF c),dict:=od,data:=.fields vs }∧(vs.size=6∧(cx.1=true→vs[2]? = some .none)∧(cx.2=true→vs[1]? = some .none))∧U4 W h id k m od
def XP(W:Wd)(h:Heap)(a:Addr)(id:Nat)(o:ZK):Prop:=@ZK.casesOn (λZ=>Prop) o (λxs=>∃vs,h.PlainList a vs∧ZF W vs.toList xs) (λes=>XQ X W h a es)
 (λc k m=>∃d,h.get? a=some { cls:=.ref (JQ c),dict:=some d,data:=.plain }∧W d=.dic id∧VP W h d k m)
 (λc k cx m=>K8 W h a id c k cx m)
noncomputable def Zyv:Array (Option Value):=#[none,none,none,none,none,none,none,none,some .none]
structure Lax(a:Addr)(o:Obj)(v:Option ZA):Prop where
 mark:o.slots=Zyv
 val:v=none
 old:X.s1.heap.get? a=none
 dict:∃es ep,o.data=.dict es ep
def Pin(h:Heap)(a:Addr)(o:Obj)(v:Option ZA):Prop:=h.get? a=some o∨(Lax X a o v∧∃sl,h.get? a=some { o with slots:=sl })
def KI(o:Option ZK):Prop:=∀c cx m,o≠some (.exc c 0 cx m)
def TOK(W:Wd)(σ:St)(h:Heap)(a:Addr)(t:Tag):Prop:=@Tag.casesOn (λZ=>Prop) t True (λo v=>Pin X h a o v∧Xh W o v) (λid=>∃o,σ.f id=some o∧XP X W h a id o) (λid=>id<σ.n∧(∃o,h.get? a=some o)∧KI (σ.f id))
def Uq(W:Wd):Prop:=∀a b k,(W a).key=some k→(W b).key=some k→a=b
structure Inv(W:Wd)(σ:St)(s:Shared):Prop where
 base:∃h tk d,s={ X.s1 with heap:=h,toks:=tk,drawn:=d }
 keep:∀a o,X.s1.heap.get? a=some o→∃v,W a=.imm o v
 tag:∀a,TOK X W σ s.heap a (W a)
 uq:Uq W
 fid:∀id,σ.f id≠none→id<σ.n
variable{X}{W W':Wd}{σ σ':St}{s s':Shared}
theorem Xh.ZM{Y:List Addr}{o:Obj}{v:Option ZA}(h:Xh W o v)(hl:LeX Y W W')(hY:ZG W Y):Xh W' o v:=
 @Option.casesOn _ (λv=>Xh W o v→Xh W' o v) v id (λv=>@ZA.casesOn (λv=>Xh W o (some v)→Xh W' o (some v)) v id (λZ=>id) (λZ=>id) (λZ=>id)
  (λxs h=>let⟨vs,n,e,r⟩:=h;⟨vs,n,e,r.ZM hl hY⟩) (λxs h=>let⟨vs,n,e,r⟩:=h;⟨vs,n,e,r.ZM hl hY⟩) (λZ=>id)) h
theorem MvR.ZM{Y:List Addr}{v:Option ZA}{mv:Option Value}(h:MvR W v mv)(hl:LeX Y W W')(hY:ZG W Y):MvR W' v mv:=
 @Option.casesOn _ (λv=>MvR W v mv→MvR W' v mv) v id (λv h=>let⟨cv,e,r⟩:=h;⟨cv,e,r.ZM hl hY⟩) h
theorem VP.YI{Y:List Addr}{h h':Heap}{d:Addr}{k:Nat}{m:Fm}(x:VP W h d k m)(hl:LeX Y W W')(hY:ZG W Y)(hd:∀o,h.get? d=some o→h'.get? d=some o):VP W' h' d k m:=
 ⟨let⟨mm,n,r⟩:=x.ns;⟨mm,n.at hd,λy=>(r y).ZM hl hY⟩,let⟨o,e,r⟩:=x.sz;⟨o,hd o e,r⟩⟩
theorem Pin.at{h h':Heap}{a:Addr}{o:Obj}{v:Option ZA}(x:Pin X h a o v)(hb:∀o,h.get? a=some o→h'.get? a=some o):Pin X h' a o v:=x.imp (hb o) λq=>⟨q.1,q.2.imp λZ e=>hb _ e⟩
theorem Pin.has{h:Heap}{a:Addr}{o:Obj}{v:Option ZA}(x:Pin X h a o v):∃o,h.get? a=some o:=x.elim (λe=>⟨_,e⟩) λq=>q.2.elim λZ e=>⟨_,e⟩
theorem K8.YI{Y:List Addr}{h h':Heap}{a:Addr}{id k:Nat}{c:String}{cx:Bool×Bool}{m:Fm}(x:K8 W h a id c k cx m)(hl:LeX Y W W')(hY:ZG W Y)
  (ha:∀o,h.get? a=some o→h'.get? a=some o) (hd:∀d,W d=.dic id→∀o,h.get? d=some o→h'.get? d=some o):K8 W' h' a id c k cx m:=
 let⟨od,vs,e,v,r⟩:=x
 ⟨od,vs,ha _ e,v,@Option.casesOn _ (λod=>U4 W h id k m od→U4 W' h' id k m od) od (λq=>q) (λd q=>⟨q.1,hl.at hY q.2.1 (λh=>nomatch h) (λZ h=>nomatch h),q.2.2.YI hl hY (hd d q.2.1)⟩) r⟩
theorem XP.YI{Y:List Addr}{h h':Heap}{a:Addr}{id:Nat}{o:ZK}(x:XP X W h a id o)(hl:LeX Y W W')(hY:ZG W Y)
  (ha:∀o,h.get? a=some o→h'.get? a=some o) (hd:∀d,W d=.dic id→∀o,h.get? d=some o→h'.get? d=some o):XP X W' h' a id o:=
 @ZK.casesOn (λo=>XP X W h a id o→XP X W' h' a id o) o (λxs x=>let⟨vs,⟨n,e⟩,r⟩:=x;⟨vs,⟨n,ha _ e⟩,r.ZM hl hY⟩)
  (λes x=>⟨let⟨o,des,ep,e,q,d,r⟩:=x.obj;⟨o,des,ep,ha o e,q,d,F2.mono (λZ Z z=>⟨z.key.ZM hl hY,z.val.ZM hl hY,z.hash⟩) r⟩,x.nodup,x.keys,x.sys⟩)
  (λc k m x=>let⟨d,e,q,r⟩:=x;⟨d,ha _ e,hl.at hY q (λh=>nomatch h) (λZ h=>nomatch h),r.YI hl hY (hd d q)⟩) (λc k cx m x=>K8.YI x hl hY ha hd) x
theorem TOK.YI{Y:List Addr}{h h':Heap}{b:Addr}{t:Tag}(x:TOK X W σ h b t)(hl:LeX Y W W')(hY:ZG W Y)(hb:∀o,h.get? b=some o→h'.get? b=some o)
  (hd:∀id,t=.own id→∀d,W d=.dic id→∀o,h.get? d=some o→h'.get? d=some o) (hσ:∀id,t=.own id→∀o,σ.f id=some o→σ'.f id=some o) (hn:σ.n≤σ'.n) (hz:∀id,t=.dic id→id<σ.n→KI (σ.f id)→KI (σ'.f id)):TOK X W' σ' h' b t:=
 @Tag.casesOn (λt=>TOK X W σ h b t→(∀id,t=.own id→∀d,W d=.dic id→∀o,h.get? d=some o→h'.get? d=some o)→(∀id,t=.own id→∀o,σ.f id=some o→σ'.f id=some o)→(∀id,t=.dic id→id<σ.n→KI (σ.f id)→KI (σ'.f id))→TOK X W' σ' h' b t) t (λZ Z Z Z=>trivial)
  (λo v x Z Z Z=>⟨x.1.at hb,x.2.ZM hl hY⟩) (λid x hd hσ Z=>let⟨o,e,r⟩:=x;⟨o,hσ id rfl o e,r.YI hl hY hb (hd id rfl)⟩) (λid x Z Z hz=>⟨Z73 x.1 hn,let⟨o,e⟩:=x.2.1;⟨o,hb o e⟩,hz id rfl x.1 x.2.2⟩) x hd hσ hz
theorem Inv.reb(I:Inv X W σ s)(h:Heap)(tk:Nat):∃h' tk' d',({ s with heap:=h,toks:=tk }:Shared)={ X.s1 with heap:=h',toks:=tk',drawn:=d' }:=let⟨_,_,d,e⟩:=I.base;⟨h,tk,d,e▸rfl⟩
theorem Inv.drew(I:Inv X W σ s)(d:Drawn):Inv X W σ { s with drawn:=d }:=⟨let⟨h,tk,_,e⟩:=I.base;⟨h,tk,d,e▸rfl⟩,I.keep,I.tag,I.uq,I.fid⟩
theorem Inv.imp(I:Inv X W σ s){a:Addr}{o:Obj}{v:Option ZA}(e:W a=.imm o v):Pin X s.heap a o v∧Xh W o v:=(e▸I.tag a:TOK X W σ s.heap a (.imm o v))
theorem Inv.imm(I:Inv X W σ s){a:Addr}{o:Obj}{v:Option ZA}(e:W a=.imm o v)(hx:¬Lax X a o v):s.heap.get? a=some o∧Xh W o v:=⟨(I.imp e).1.resolve_right λq=>hx q.1,(I.imp e).2⟩
theorem Inv.Vj(I:Inv X W σ s){a:Addr}{o:Obj}{v:ZA}(e:W a=.imm o (some v)):s.heap.get? a=some o∧Xh W o (some v):=I.imm e λq=>nomatch q.val
theorem Q2{a:Addr}{o:Obj}{v:Option ZA}(h:∀es ep,o.data≠.dict es ep):¬Lax X a o v:=λq=>q.dict.elim λes z=>z.elim λep z=>h es ep z
theorem Z4r{a:Addr}{o:Obj}{v:Option ZA}(h:o.slots=#[]):¬Lax X a o v:=λq=>nomatch (h.symm.trans q.mark)
theorem Inv.own(I:Inv X W σ s){a:Addr}{id:Nat}(e:W a=.own id):∃o,σ.f id=some o∧XP X W s.heap a id o:=(e▸I.tag a:TOK X W σ s.heap a (.own id))
theorem Inv.dob(I:Inv X W σ s){a:Addr}{id:Nat}(e:W a=.dic id):id<σ.n∧(∃o,s.heap.get? a=some o)∧KI (σ.f id):=(e▸I.tag a:TOK X W σ s.heap a (.dic id))
theorem Zo4{a:Addr}{id:Nat}(e:W a=.own id):(W a).key=some (true,id):=Z81 Tag.key e
theorem Z19{a:Addr}{id:Nat}(e:W a=.dic id):(W a).key=some (false,id):=Z81 Tag.key e
theorem Inv.uniq(I:Inv X W σ s){a b:Addr}{id:Nat}(ha:W a=.own id)(hb:W b=.own id):a=b:=I.uq a b _ (Zo4 ha) (Zo4 hb)
theorem Inv.grow(I:Inv X W σ s){h':Heap}{tk:Nat}(hk:∀a o,W a≠.free→s.heap.get? a=some o→h'.get? a=some o):Inv X W σ { s with heap:=h',toks:=tk } where
 base:=I.reb h' tk
 keep:=I.keep
 tag:=λa=>Classical.byCases (λe:W a=.free=>e.symm▸trivial) λe=>(I.tag a).YI (LeX.refl [] W) ZG.nil (λo=>hk a o e) (λZ Z d hd o=>hk d o (Znz hd)) (λZ Z Z e=>e) (Z70 _) (λZ Z Z z=>z)
 uq:=I.uq
 fid:=I.fid
theorem Inv.toks(I:Inv X W σ s)(tk:Nat):Inv X W σ { s with toks:=tk }:=I.grow (h':=s.heap) (λZ Z Z e=>e)
theorem Inv.has(I:Inv X W σ s)(a:Addr)(ha:W a≠.free):∃o,s.heap.get? a=some o:=
 @Tag.casesOn (λt=>TOK X W σ s.heap a t→t≠.free→∃o,s.heap.get? a=some o) (W a) (λZ h=>absurd rfl h) (λo Z x Z=>x.1.has)
  (λid x Z=>let⟨o,_,r⟩:=x;@ZK.casesOn (λo=>XP X W s.heap a id o→∃o,s.heap.get? a=some o) o (λZ r=>let⟨_,⟨_,e⟩,_⟩:=r;⟨_,e⟩) (λZ r=>let⟨o,_,_,e,_⟩:=r.obj;⟨o,e⟩) (λZ Z Z r=>let⟨_,e,_⟩:=r;⟨_,e⟩) (λZ Z Z Z r=>let⟨_,_,e,_⟩:=r;⟨_,e⟩) r)
  (λZ x Z=>x.2.1) (I.tag a) ha
theorem Inv.fr(I:Inv X W σ s)(a:Addr)(ha:W a≠.free):a<s.heap.objs.size:=let⟨_,e⟩:=I.has a ha;Heap.lt_size e
theorem Inv.keeps(I:Inv X W σ s){h':Heap}{tk:Nat}(hk:∀a o,s.heap.get? a=some o→h'.get? a=some o):Inv X W σ { s with heap:=h',toks:=tk }:=I.grow (λa o Z=>hk a o)
noncomputable def ZN(W:Wd)(a:Addr)(t:Tag):Wd:=λb=>if b=a then t else W b
theorem Zi(W:Wd)(a:Addr)(t:Tag):ZN W a t a=t:=if_pos rfl
theorem Qa{W:Wd}{a b:Addr}{t:Tag}(h:b≠a):ZN W a t b=W b:=if_neg h
theorem Q0{P:Addr→Tag→Prop}{a:Addr}{t:Tag}(h1:P a t)(h2:∀b,b≠a→P b (W b))(b:Addr):P b (ZN W a t b):=
 Classical.byCases (λe:b=a=>by subst e;rw[Zi];exact h1) λe=>by rw[Qa e];exact h2 b e
theorem Yr{a:Addr}{t:Tag}(h:W a=.free):Le W (ZN W a t):=λb Z hb=>Qa λe=>hb (e▸h)
theorem Zz{a:Addr}{t:Tag}:LeX [a] W (ZN W a t):=λb hb Z=>Qa λe=>hb (Z8m.mpr e)
theorem Uq.set(u:Uq W){a:Addr}{t:Tag}(h:∀k,t.key=some k→∀b,b≠a→(W b).key≠some k):Uq (ZN W a t):=λb c k=>
 Q0 (P:=λb tb=>tb.key=some k→(ZN W a t c).key=some k→b=c) (λe=>Q0 (P:=λc tc=>tc.key=some k→a=c) (λZ=>rfl) (λc hc e'=>absurd e' (h k e c hc)) c)
  (λb hb e=>Q0 (P:=λc tc=>tc.key=some k→b=c) (λe'=>absurd e (h k e' b hb)) (λc Z e'=>u b c k e e') c) b
theorem Inv.Vz(I:Inv X W σ s)(l:Le W W'):∀a o,X.s1.heap.get? a=some o→∃v,W' a=.imm o v:=λa o h=>let⟨v,e⟩:=I.keep a o h;⟨v,Qg e l⟩
theorem Inv.Gk(I:Inv X W σ s){a:Addr}{t:Tag}(hold:X.s1.heap.get? a=none):∀b o,X.s1.heap.get? b=some o→∃v,ZN W a t b=.imm o v:=λb o h=>
 let⟨v,e⟩:=I.keep b o h;⟨v,(Qa λq:b=a=>by rw[q,hold]at h;exact nomatch h).trans e⟩
theorem Inv.U7(I:Inv X W σ s){a:Addr}{o:Obj}{v:Option ZA}(hf:W a=.free)(ho:Pin X s.heap a o v)(hv:Xh W o v):Inv X (ZN W a (.imm o v)) σ s:=
 have hl:Le W (ZN W a (.imm o v)):=Yr hf
 {base:=I.base,keep:=I.Vz hl,uq:=I.uq.set (λZ e=>nomatch e),fid:=I.fid
  tag:=Q0 (P:=TOK X (ZN W a (.imm o v)) σ s.heap) ⟨ho,hv.ZM hl ZG.nil⟩ λb Z=>(I.tag b).YI hl ZG.nil (λZ e=>e) (λZ Z Z Z Z e=>e) (λZ Z Z e=>e) (Z70 _) (λZ Z Z z=>z) }
theorem Inv.pin(I:Inv X W σ s){a:Addr}{o:Obj}{v:Option ZA}(hf:W a=.free)(ho:s.heap.get? a=some o)(hv:Xh W o v):Inv X (ZN W a (.imm o v)) σ s:=I.U7 hf (.inl ho) hv
theorem Inv.reset(I:Inv X W σ s){a:Addr}{o:Obj}{t:Tag}{h':Heap}{tk:Nat}(hW:W a=.imm o none)(hold:X.s1.heap.get? a=none)(hsb:Heap.SameBut a s.heap h')(ht:t.key=none)(ho:TOK X (ZN W a t) σ h' a t):Inv X (ZN W a t) σ { s with heap:=h',toks:=tk }:=
 have ne:∀d id,W d=.dic id→d≠a:=λd id e q=>nomatch (q▸e:W a=.dic id).symm.trans hW
 {base:=I.reb h' tk,keep:=I.Gk hold,uq:=I.uq.set (λZ e=>nomatch ht.symm.trans e),fid:=I.fid
  tag:=Q0 (P:=TOK X (ZN W a t) σ h') ho λb hb=>(I.tag b).YI Zz (ZG.one hW) (λo e=>(hsb.2 b hb).trans e) (λZ Z d hd o e=>(hsb.2 d (ne d _ hd)).trans e) (λZ Z Z e=>e) (Z70 _) (λZ Z Z z=>z) }
theorem Inv.VY(I:Inv X W σ s){a:Addr}{o o':Obj}{h':Heap}{tk:Nat}(hW:W a=.imm o none)(hold:X.s1.heap.get? a=none)(hsb:Heap.SameBut a s.heap h')(ho:h'.get? a=some o'):
  Inv X (ZN W a (.imm o' none)) σ { s with heap:=h',toks:=tk }:=I.reset hW hold hsb rfl ⟨.inl ho,trivial⟩
theorem Inv.forget(I:Inv X W σ s){a:Addr}{o:Obj}{h':Heap}{tk:Nat}(hW:W a=.imm o none)(hold:X.s1.heap.get? a=none)(hsb:Heap.SameBut a s.heap h'):Inv X (ZN W a .free) σ { s with heap:=h',toks:=tk }:=I.reset hW hold hsb rfl trivial
theorem Inv.fn(I:Inv X W σ s):σ.f σ.n=none:=Classical.byContradiction λh=>Nat.lt_irrefl _ (I.fid σ.n h)
theorem Inv.nid(I:Inv X W σ s){b:Addr}{id:Nat}(hb:W b=.own id):id≠σ.n:=λe=>let⟨_,h,_⟩:=I.own hb;by rw[e,I.fn]at h;exact nomatch h
theorem Inv.ndc(I:Inv X W σ s){b:Addr}{id:Nat}(hb:W b=.dic id):id≠σ.n:=λe=>Nat.lt_irrefl _ (e▸(I.dob hb).1)
theorem Inv.ZV(I:Inv X W σ s)(b:Addr){p:Bool}:(W b).key≠some (p,σ.n):=λh=>
 @Tag.casesOn (λt=>W b=t→t.key=some (p,σ.n)→False) (W b) (λZ h=>nomatch h) (λZ Z Z h=>nomatch h) (λid e h=>I.nid e (Z81 Prod.snd (Z8q h))) (λid e h=>I.ndc e (Z81 Prod.snd (Z8q h))) rfl h
theorem Yp(σ:St)(o:ZK):(σ.new o).f σ.n=some o:=if_pos rfl
theorem Zmx{σ:St}{o:ZK}{j:Nat}(h:j≠σ.n):(σ.new o).f j=σ.f j:=if_neg h
theorem Zs(σ:St)(id:Nat)(o:ZK):(σ.put id o).f id=some o:=if_pos rfl
theorem Z0{σ:St}{id j:Nat}{o:ZK}(h:j≠id):(σ.put id o).f j=σ.f j:=if_neg h
theorem Inv.Ub(I:Inv X W σ s)(o:ZK):∀id,(σ.new o).f id≠none→id<σ.n+1:=λid h=>Classical.byCases (λe:id=σ.n=>e▸Z79 _) λe=>Nat.lt_succ_of_lt (I.fid id (Zmx e▸h))
theorem Inv.newObj(I:Inv X W σ s){a:Addr}{o:ZK}(hf:W a=.free)(ho:XP X W s.heap a σ.n o):Inv X (ZN W a (.own σ.n)) (σ.new o) s:=
 have hl:Le W (ZN W a (.own σ.n)):=Yr hf
 {base:=I.base,keep:=I.Vz hl,uq:=I.uq.set λk e b Z=>Z8q e▸I.ZV b,fid:=I.Ub o
  tag:=Q0 (P:=TOK X (ZN W a (.own σ.n)) (σ.new o) s.heap) ⟨o,Yp σ o,ho.YI hl ZG.nil (λZ e=>e) λZ Z Z e=>e⟩ λb Z=>(I.tag b).YI hl ZG.nil (λZ e=>e) (λZ Z Z Z Z e=>e) (λi hi o h=>(Zmx (I.nid hi)).trans h) (Nat.le_succ _) (λi Z hl z=>(Zmx (Nat.ne_of_lt hl)).symm▸z) }
theorem Inv.upd(I:Inv X W σ s){a b:Addr}{id:Nat}{o:ZK}{h':Heap}{tk:Nat}(hW:W a=.own id)(hb:W b=.own id∨W b=.dic id)(hsb:Heap.SameBut b s.heap h')(hx:∃ob,h'.get? b=some ob)
  (ho:XP X W h' a id o) (hne:KI (some o):=by exact λZ Z Z h=>nomatch h):Inv X W (σ.put id o) { s with heap:=h',toks:=tk }:=
 have hbf:W b≠.free:=hb.elim Zmr Znz
 have ne:∀c,W c≠W b→c≠b:=λc hc e=>hc (e▸rfl)
 have nk:∀c p i,(W c).key=some (p,i)→i≠id→c≠b:=λc p i e hi=>ne c λq=>hi (hb.elim (λhb=>Z81 Prod.snd (Z8q (e.symm.trans (Z81 Tag.key (q.trans hb))))) λhb=>Z81 Prod.snd (Z8q (e.symm.trans (Z81 Tag.key (q.trans hb)))))
 {base:=I.reb h' tk,keep:=I.keep,uq:=I.uq
  fid:=λic hic=>Classical.byCases (λe:ic=id=>let⟨_,h,_⟩:=I.own hW;I.fid ic (e▸λq=>nomatch h.symm.trans q)) λe=>I.fid ic (Z0 e▸hic)
  tag:=λc=>@Tag.casesOn (λt=>W c=t→TOK X W σ s.heap c t→TOK X W (σ.put id o) h' c t) (W c) (λZ Z=>trivial)
   (λoc vc e x=>⟨x.1.at λo' e'=>(hsb.2 c (ne c λq=>hb.elim (λhb=>nomatch (e.symm.trans q).trans hb) λhb=>nomatch (e.symm.trans q).trans hb)).trans e',x.2⟩)
   (λic e x=>Classical.byCases (λq:ic=id=>⟨o,q▸Zs σ id o,q▸I.uniq hW (q▸e)▸ho⟩) λq=>let⟨oc,h1,h2⟩:=x
    ⟨oc,(Z0 q).trans h1,h2.YI (LeX.refl [] W) ZG.nil (λo' e'=>(hsb.2 c (nk c _ ic (Zo4 e) q)).trans e') λd hd o' e'=>(hsb.2 d (nk d _ ic (Z19 hd) q)).trans e'⟩)
   (λic e x=>⟨x.1,Classical.byCases (λq:c=b=>q▸hx) λq=>let⟨o',e'⟩:=x.2.1;⟨o',(hsb.2 c q).trans e'⟩,Classical.byCases (λq:ic=id=>by rw[q,Zs];exact hne) λq=>(Z0 q).symm▸x.2.2⟩) rfl (I.tag c) }
theorem Inv.free(I:Inv X W σ s){a:Addr}(h:s.heap.objs.size≤a):W a=.free:=Classical.byContradiction λe=>Nat.not_lt.mpr h (I.fr a e)
theorem Inv.KR(I:Inv X W σ s){a:Addr}(h:s.heap.get? a=none):W a=.free:=Classical.byContradiction λe=>let⟨_,ho⟩:=I.has a e;nomatch h.symm.trans ho
theorem Inv.alloc(I:Inv X W σ s){o:Obj}{v:Option ZA}(tk:Nat)(hfr:o.isFreed=false)(hv:Xh W o v):
  Inv X (ZN W s.heap.objs.size (.imm o v)) σ { s with heap:=s.heap.push o,toks:=tk }∧Le W (ZN W s.heap.objs.size (.imm o v)):=
 have hf:=I.free (a:=s.heap.objs.size) (Z70 _)
 ⟨(I.keeps (tk:=tk) λa ob e=>Z8x _ e).pin hf (Z8y _ hfr) hv,Yr hf⟩
theorem Inv.adopt(I:Inv X W σ s){h':Heap}{tk:Nat}(hk:∀a o,s.heap.get? a=some o→h'.get? a=some o){a:Addr}(ha:s.heap.get? a=none){o:Obj}{v:Option ZA}(ho:h'.get? a=some o)(hv:Xh W o v):
  Inv X (ZN W a (.imm o v)) σ { s with heap:=h',toks:=tk }∧Le W (ZN W a (.imm o v)):=⟨(I.keeps hk).pin (I.KR ha) ho hv,Yr (I.KR ha)⟩
theorem Inv.tup(I:Inv X W σ s){v:Value}{xs:List ZA}(h:ZE W v (.tup xs)):∃a,v=.ref a∧∃vs,Kf s.heap a vs∧ZF W vs.toList xs:=
 let⟨a,e,o,q⟩:=h;let⟨ho,vs,n,eo,r⟩:=I.Vj q;⟨a,e,vs,⟨n,eo▸ho⟩,r⟩
theorem Inv.lst(I:Inv X W σ s){v:Value}{xs:List ZA}(h:ZE W v (.lst xs)):∃a,v=.ref a∧∃vs,s.heap.PlainList a vs∧ZF W vs.toList xs:=
 let⟨a,e,o,q⟩:=h;let⟨ho,vs,n,eo,r⟩:=I.Vj q;⟨a,e,vs,⟨n,eo▸ho⟩,r⟩
theorem Inv.obj(I:Inv X W σ s){v:Value}{id:Nat}{o:ZK}(h:ZE W v (.ref id))(ho:σ.f id=some o):∃a,v=.ref a∧W a=.own id∧XP X W s.heap a id o:=
 let⟨a,e,q⟩:=h;let⟨o',h1,h2⟩:=I.own q;⟨a,e,q,Z8q (h1.symm.trans ho)▸h2⟩
theorem Inv.listOf(I:Inv X W σ s){v:Value}{x:ZA}{xs:List ZA}(h:ZE W v x)(hx:LOf σ x xs):∃a,v=.ref a∧∃vs,s.heap.PlainList a vs∧ZF W vs.toList xs:=by
 cases hx with
 |lst=>exact I.lst h
 |ref e=>exact let⟨a,e',_,vs,hl,hr⟩:=I.obj h e;⟨a,e',vs,hl,hr⟩
def Pst(X:Cx)(W:Wd)(σ':St)(r:ZA)(Q:Value→Shared→Prop):Prop:=∀W' v s',Le W W'→Inv X W' σ' s'→ZE W' v r→Q v s'
section
variable{Q:Value→Shared→Prop}
theorem Pst.mk(I:Inv X W σ s){v:Value}{r:ZA}(hv:ZE W v r)(h:Pst X W σ r Q):Q v s:=h W v s (LeX.refl [] W) I hv
theorem Pst.mkt(I:Inv X W σ s){v:Value}{r:ZA}{tk:Nat}(hv:ZE W v r)(h:Pst X W σ r Q):Q v { s with toks:=tk }:=h W v _ (LeX.refl [] W) (I.toks tk) hv
theorem Pst.QD{i:Int}{t:Tok}{tk:Nat}(I:Inv X W σ s)(h:Pst X W σ (.int i) Q):Q (.int i t) { s with toks:=tk }:=h.mkt I (.ints i t)
theorem Pst.ZW{b:Bool}(I:Inv X W σ s)(h:Pst X W σ (.bool b) Q):Q (.bool b) s:=h.mk I (.bools b)
theorem Pst.Ud{b:Bool}{tk:Nat}(I:Inv X W σ s)(h:Pst X W σ (.bool b) Q):Q (.bool b) { s with toks:=tk }:=h.mkt I (.bools b)
theorem Pst.YR{c:CS}{t:Tok}{tk:Nat}(I:Inv X W σ s)(h:Pst X W σ (.str c) Q):Q (.str (st c) t) { s with toks:=tk }:=h.mkt I (.strs c t)
theorem Pst.X2{xs:List ZA}{vs:Array Value}{a:Addr}{h':Heap}{tk:Nat}(I:Inv X W σ s)(h:Pst X W σ (.lst xs) Q)
  (hk:∀a o,s.heap.get? a=some o→h'.get? a=some o) (ha:s.heap.get? a=none) (hl:h'.PlainList a vs) (hr:ZF W vs.toList xs):Q (.ref a) { s with heap:=h',toks:=tk }:=
 let⟨n,ho⟩:=hl;let⟨I',le⟩:=I.adopt (tk:=tk) hk ha ho (v:=some (.lst xs)) ⟨vs,n,rfl,hr⟩;h _ _ _ le I' (.Gy (Zi ..))
theorem Pst.KP{xs:List ZA}{vs:Array Value}{a:Addr}{h':Heap}{tk:Nat}(I:Inv X W σ s)(h:Pst X W σ (.tup xs) Q)
  (hk:∀a o,s.heap.get? a=some o→h'.get? a=some o) (ha:s.heap.get? a=none) (hl:Kf h' a vs) (hr:ZF W vs.toList xs):Q (.ref a) { s with heap:=h',toks:=tk }:=
 let⟨n,ho⟩:=hl;let⟨I',le⟩:=I.adopt (tk:=tk) hk ha ho (v:=some (.tup xs)) ⟨vs,n,rfl,hr⟩;h _ _ _ le I' (.Dl (Zi ..))
theorem Z5(h:Heap):h.get? h.objs.size=none:=Option.eq_none_iff_forall_ne_some.mpr λZ e=>Nat.lt_irrefl _ (Heap.lt_size e)
theorem Pst.X7{xs:List ZA}{vs:Array Value}(I:Inv X W σ s)(h:Pst X W σ (.lst xs) Q)(hr:ZF W vs.toList xs):Q (.ref s.heap.objs.size) { s with heap:=s.heap.push { cls:=.type "list",data:=.seq vs } }:=
 Pst.X2 (tk:=s.toks) I h (λZ Z e=>Z8x _ e) (Z5 _) ⟨0,Z8y _ rfl⟩ hr
theorem Pst.Xu{xs:List ZA}{vs:Array Value}(I:Inv X W σ s)(h:Pst X W σ (.tup xs) Q)(hr:ZF W vs.toList xs):Q (.ref s.heap.objs.size) { s with heap:=s.heap.push { cls:=.type "tuple",data:=.seq vs } }:=
 Pst.KP (tk:=s.toks) I h (λZ Z e=>Z8x _ e) (Z5 _) ⟨0,Z8y _ rfl⟩ hr
theorem Pst.KL{xs:List ZA}{vs:Array Value}(I:Inv X W σ s)(h:Pst X W (σ.new (.list xs)) (.ref σ.n) Q){h':Heap}{tk:Nat}{a:Addr}
  (hk:∀a o,s.heap.get? a=some o→h'.get? a=some o) (ha:s.heap.get? a=none) (hl:h'.PlainList a vs) (hr:ZF W vs.toList xs):Q (.ref a) { s with heap:=h',toks:=tk }:=
 have hf:=I.KR ha
 h _ _ _ (Yr hf) ((I.keeps (tk:=tk) hk).newObj (o:=.list xs) hf ⟨vs,hl,hr⟩) (.refs (Zi ..))
end
end
end PL
end
section
open PySem PySem.W PyProof.Rows PySem.SeqAt
open scoped Classical
namespace PL
section
variable{X:Cx}{W:Wd}{σ:St}{s:Shared}{A:Around}{E:Value→Shared→Prop}{Q:Value→Shared→Prop}
theorem Z1{n:Nat}(h:n≤16000):n≤sizeLine:=by rw[sizeLine_eq];exact Z7z h (Z78 rfl)
theorem Z1y{i:Int}(h:-1000000000<i∧i<1000000000):i.natAbs<2 ^ 30:=by omega
theorem Zlc{i:Int}(h:-1000000000<i∧i<1000000000):Builtin.Int.intBits i≤64:=by
 unfold Builtin.Int.intBits
 split
 ·exact Z8d _
 ·rename_i h0
  exact Z7z ((Nat.log2_lt λe=>h0 (by rw[Int.natAbs_eq_zero.mp e];rfl)).mpr (Z1y h)) (Z78 rfl)
inductive KA(σ:St):Operator→ZA→ZA→ZA→Prop
 |Kc (i j:Int):KA σ .Add (.int i) (.int j) (.int (i+j))
 |VQ (i j:Int):KA σ .Sub (.int i) (.int j) (.int (i-j))
 |Dy (i j:Int) (h:-1000000000<i∧i<1000000000):KA σ .Mult (.int i) (.int j) (.int (i*j))
 |KN (i j:Int) (h:0<j):KA σ .Mod (.int i) (.int j) (.int (i % j))
 |K2 {x y:CS} (h:x.length+y.length≤16000):KA σ .Add (.str x) (.str y) (.str (x++y))
 |VI {x y:List ZA} (h:x.length+y.length≤16000):KA σ .Add (.tup x) (.tup y) (.tup (x++y))
 |XA {a b:ZA} {x y:List ZA} (ha:LOf σ a x) (hb:LOf σ b y) (h:x.length+y.length≤16000):KA σ .Add a b (.lst (x++y))
theorem Z24{v u:Value}{x y:List ZA}(hl:x.length+y.length≤16000)(I:Inv X W σ s)(hv:ZE W v (.tup x))(hu:ZE W u (.tup y))(h:Pst X W σ (.tup (x++y)) Q):wpAny (model pp X.w) A (binaryOp .Add v u) Q E s:=by
 obtain⟨a,e,vs,⟨n,ha⟩,hr⟩:=I.tup hv
 obtain⟨b,e',us,⟨m,hb⟩,hr'⟩:=I.tup hu
 rw[e]at hv ⊢;rw[e']at hu ⊢
 by_cases h1:vs.isEmpty=true
 ·rw[Array.isEmpty_iff.mp h1]at hr
  rw[List.eq_nil_of_length_eq_zero hr.length.symm,List.nil_append]at h
  exact concat_meets ⟨_,ha,rfl⟩ ⟨_,hb,rfl⟩ noFill_tuple_add seq_tuple_add PySem.F.slot_tuple_add PySem.F.entry_tuple_add (PySem.F.args_tuple_add_2 _ _) (PyProof.Rows.tuple_addW0 a b vs us n m _ _ _ _ h1) ⟨ha,hb,h.mk I hu⟩
 ·by_cases h2:us.isEmpty=true
  ·rw[Array.isEmpty_iff.mp h2]at hr'
   rw[List.eq_nil_of_length_eq_zero hr'.length.symm,List.append_nil]at h
   exact concat_meets ⟨_,ha,rfl⟩ ⟨_,hb,rfl⟩ noFill_tuple_add seq_tuple_add PySem.F.slot_tuple_add PySem.F.entry_tuple_add (PySem.F.args_tuple_add_2 _ _) (PyProof.Rows.tuple_addW1 a b vs us n m _ _ _ _ h1 h2) ⟨ha,hb,h.mk I hv⟩
  ·exact P.add_tuple ha hb h1 h2 (Pst.Xu I h (by rw[Array.toList_append];exact hr.append hr')) (by rw[hr.size,hr'.size];exact Z1 hl)
theorem Zw1{v u:Value}{x y:ZA}{xs ys:List ZA}(hx:LOf σ x xs)(hy:LOf σ y ys)(hl:xs.length+ys.length≤16000)(I:Inv X W σ s)(hv:ZE W v x)(hu:ZE W u y)
  (h:∀{vs:Array Value},ZF W vs.toList (xs++ys)→Q (.ref s.heap.objs.size) { s with heap:=s.heap.push { cls:=.type "list",data:=.seq vs } }):wpAny (model pp X.w) A (binaryOp .Add v u) Q E s:=by
 obtain⟨a,e,vs,⟨n,ha⟩,hr⟩:=I.listOf hv hx
 obtain⟨b,e',us,⟨m,hb⟩,hr'⟩:=I.listOf hu hy
 rw[e,e']
 exact P.add_list ha hb (h (by rw[Array.toList_append];exact hr.append hr')) (by rw[hr.size,hr'.size];exact Z1 hl)
theorem Z55{op:Operator}{x y r:ZA}(e:KA σ op x y r)(I:Inv X W σ s){v u:Value}(hv:ZE W v x)(hu:ZE W u y)(h:Pst X W σ r Q):wpAny (model pp X.w) A (binaryOp op v u) Q E s:=by
 induction e with
 |Kc=>exact hv.YF λt=>hu.YF λt'=>P.add_int (Pst.QD I h)
 |VQ=>exact hv.YF λt=>hu.YF λt'=>P.sub_int (Pst.QD I h)
 |Dy i j hb=>exact hv.YF λt=>hu.YF λt'=>P.mul_int (Pst.QD I h) (IntMulOk.of_left (Zlc hb))
 |KN i j hj=>exact hv.YF λt=>hu.YF λt'=>PyProof.Rows.mod_int' (Int.ne_of_gt hj) (by rw[Int.fmod_eq_emod_of_nonneg _ (Int.le_of_lt hj)];exact Pst.QD I h)
 |K2 hl=>exact hv.QM λt=>hu.QM λt'=>PyProof.Rows.add_str (λt' tk=>by rw[Zmg];exact Pst.YR I h) (by rw[Yn,Yn];exact Z1 hl)
 |VI hl=>exact Z24 hl I hv hu h
 |XA hx hy hl=>exact Zw1 hx hy hl I hv hu λhr=>Pst.X7 I h hr
inductive QX:Nat→ZA→ZA→Prop
 |int (n:Nat) (a b:Int):QX n (.int a) (.int b)
 |str (n:Nat) (a b:CS):QX n (.str a) (.str b)
 |tup {n:Nat} {xs ys:List ZA} (h:∀(i:Nat) a b,xs[i]? = some a→ys[i]? = some b→QX n a b):QX (n+1) (.tup xs) (.tup ys)
theorem Zeo{p q:Prop}[Decidable p][Decidable q](h:p↔q):decide p=decide q:=by
 by_cases hp:p
 ·rw[Z82 hp,Z82 (h.mp hp)]
 ·rw[Z83 hp,Z83 λq=>hp (h.mpr q)]
noncomputable def pw2(xs ys:List ZA)(j:Nat):Bool:=decide (xs[j]? = ys[j]?)
theorem Zow{xs ys:List ZA}(h:xs.length=ys.length):(List.range ys.length).all (pw2 xs ys)=decide (xs=ys):=by
 rw[Bool.eq_iff_iff,List.all_eq_true,decide_eq_true_iff]
 refine⟨λq=>List.ext_getElem? λi=>?_,λe j Z=>e▸Z82 rfl⟩
 by_cases hi:i<ys.length
 ·exact of_decide_eq_true (q i (List.mem_range.mpr hi))
 ·rw[List.getElem?_eq_none (h▸Nat.not_lt.mp hi),List.getElem?_eq_none (Nat.not_lt.mp hi)]
theorem Z1k{xs ys:List ZA}:((List.range (min xs.length ys.length)).all (pw2 xs ys)&&xs.length==ys.length)=decide (xs=ys):=by
 by_cases h:xs.length=ys.length
 ·rw[h,Nat.min_self,Z87,Bool.and_true,Zow h]
 ·rw[Z85.mpr h,Bool.and_false,Z83 λe=>h (Z81 _ e)]
structure U5(s:Shared)(A:Around)(v u:Value)(b:Bool):Prop where
 rc:RcAt A s v u b
 ne:RcNeAt A s v u (!b)
 eq:EqAt A s v u b
theorem Zwb{a b:CS}{x y:ZA}(hx:x=.str a)(hy:y=.str b):(st a==st b)=decide (x=y):=by
 rw[hx,hy]
 by_cases h:a=b
 ·rw[h,Z87,Z82 rfl]
 ·rw[Z85.mpr λe=>h (Zp1 e),Z83 λe=>h (by injection e)]
theorem Zve{a:Addr}{xs ys:List ZA}{o o':Obj}(h:W a=.imm o (some (.tup xs)))(h':W a=.imm o' (some (.tup ys))):xs=ys:=by
 have e:=h.symm.trans h'
 injection e with _ e;injection e with e;injection e
theorem Z7h{a:Addr}{xs ys:List ZA}{o o':Obj}(h:W a=.imm o (some (.lst xs)))(h':W a=.imm o' (some (.lst ys))):xs=ys:=by
 have e:=h.symm.trans h'
 injection e with _ e;injection e with e;injection e
theorem Zib{a c:Addr}{b:Bool}(h:RcAt A s (.ref a) (.ref c) b)(h2:RcNeAt A s (.ref a) (.ref c) (!b))(hac:a=c→b=true):U5 s A (.ref a) (.ref c) b:=
 ⟨h,h2,Classical.byCases (λe:a=c=>hac e▸e▸EqAt.same _) λe=>EqAt.of_refs e h⟩
section
variable{a c:Addr}{vs us:Array Value}{xs ys:List ZA}
theorem Zv0{n:Nat}(ih:∀(i:Nat) x y,xs[i]? = some x→ys[i]? = some y→∀{A:Around}{v u:Value},ZE W v x→ZE W u y→A.units+n<cLine→U5 s A v u (decide (x=y)))(hr:ZF W vs.toList xs)(hr':ZF W us.toList ys)(hA:A.in1.units+n<cLine)(j:Nat)(h1:j<vs.size)(h2:j<us.size):
  EqAt A.in1 s vs[j] us[j] (pw2 xs ys j):=by
 obtain⟨x,hx,hvx⟩:=hr.get' (i:=j) (a:=vs[j]) (by rw[Z8s,Z8t h1])
 obtain⟨y,hy,huy⟩:=hr'.get' (i:=j) (a:=us[j]) (by rw[Z8s,Z8t h2])
 have e:pw2 xs ys j=decide (x=y):=Zeo (by rw[hx,hy];exact⟨Z8q,Z81 some⟩)
 rw[e];exact(ih j x y hx hy hvx huy hA).eq
theorem Zwe(ha:Kf s.heap a vs)(hc:Kf s.heap c us)(hr:ZF W vs.toList xs)(hr':ZF W us.toList ys)(hA:A.units<cLine)(he:∀j (h1:j<vs.size) (h2:j<us.size),EqAt A.in1 s vs[j] us[j] (pw2 xs ys j))(hac:a=c→xs=ys):U5 s A (.ref a) (.ref c) (decide (xs=ys)):=by
 have:=Z1k (xs:=xs) (ys:=ys)
 rw[←hr.size,←hr'.size]at this
 exact Zib (this▸RcAt.tuples ha.QI hc.QI hA he) (this▸RcNeAt.tuples ha.QI hc.QI hA he) λe=>Z82 (hac e)
theorem Z51(ha:s.heap.PlainList a vs)(hc:s.heap.PlainList c us)(hr:ZF W vs.toList xs)(hr':ZF W us.toList ys)(hA:A.units<cLine)(he:xs.length=ys.length→∀j (h1:j<vs.size) (h2:j<us.size),EqAt A.in1 s vs[j] us[j] (pw2 xs ys j))(hac:a=c→xs=ys):U5 s A (.ref a) (.ref c) (decide (xs=ys)):=by
 by_cases hl:xs.length=ys.length
 ·have h2:vs.size=us.size:=hr.size.trans (hl.trans hr'.size.symm)
  have:=Zow hl
  rw[←hr'.size,←h2]at this
  exact Zib (this▸RcAt.lists ha.isList hc.isList h2 hA (he hl)) (this▸RcNeAt.lists ha.isList hc.isList h2 hA (he hl)) λe=>Z82 (hac e)
 ·have:(vs.size != us.size)=true:=bne_iff_ne.mpr (by rw[hr.size,hr'.size];exact hl)
  rw[Z83 λe=>hl (Z81 _ e)]
  exact Zib (RcAt.lists_lengths ha.isList hc.isList this hA) (RcNeAt.lists_lengths ha.isList hc.isList this hA) λe=>absurd (Z81 _ (hac e)) hl
end
theorem Zwa{xs ys:List ZA}:decide (ZA.tup xs=.tup ys)=decide (xs=ys):=Zeo ⟨λe=>by injection e,Z81 _⟩
theorem Z7n{xs ys:List ZA}:decide (ZA.lst xs=.lst ys)=decide (xs=ys):=Zeo ⟨λe=>by injection e,Z81 _⟩
theorem KU{A:Around}{n k:Nat}(h:A.units+(n+1)<k):A.units<k∧A.in1.units+n<k:=by rw[Around.in1_units];lia
theorem UY(I:Inv X W σ s){n:Nat}{x y:ZA}(e:QX n x y):∀{A:Around}{v u:Value},ZE W v x→ZE W u y→A.units+n<cLine→U5 s A v u (decide (x=y)):=by
 induction e with
 |int n a b=>
  intro A v u hv hu Z
  have:(a==b)=decide (ZA.int a=.int b):=Bool.eq_iff_iff.mpr (beq_iff_eq.trans (⟨Z81 _,λe=>by injection e⟩:a=b↔ZA.int a=.int b) |>.trans decide_eq_true_iff.symm)
  rw[←this];exact hv.YF λt=>hu.YF λt'=>⟨.int_int _ _ _ _,.int_int _ _ _ _,.int_int _ _ _ _⟩
 |str n a b=>
  intro A v u hv hu Z
  rw[←Zwb rfl rfl];exact hv.QM λt=>hu.QM λt'=>⟨.str_str _ _ _ _,.str_str _ _ _ _,.str_str _ _ _ _⟩
 |tup h ih=>
  intro A v u hv hu hA
  obtain⟨a,rfl,o,ha⟩:=id hv
  obtain⟨c,rfl,o',hc⟩:=id hu
  obtain⟨Z,q,vs,h1,hr⟩:=I.tup hv
  obtain⟨Z,q',us,h2,hr'⟩:=I.tup hu
  rw[←Zb0 q]at h1;rw[←Zb0 q']at h2
  rw[Zwa]
  exact Zwe h1 h2 hr hr' (KU hA).1 (Zv0 ih hr hr' (KU hA).2) λe=>Zve ha (e▸hc)
theorem Zrd(I:Inv X W σ s){x y:ZA}{xs ys:List ZA}(hx:LOf σ x xs)(hy:LOf σ y ys){n:Nat}(h:xs.length=ys.length→∀(i:Nat) a b,xs[i]? = some a→ys[i]? = some b→QX n a b){v u:Value}(hv:ZE W v x)(hu:ZE W u y)(hA:A.units+(n+1)<cLine):
  RcAt A s v u (decide (xs=ys))∧RcNeAt A s v u (!decide (xs=ys)):=by
 obtain⟨a,rfl,vs,h1,hr⟩:=I.listOf hv hx
 obtain⟨c,rfl,us,h2,hr'⟩:=I.listOf hu hy
 have he:=λhl=>Zv0 (A:=A) (n:=n) (λi a b ha hb=>UY I (h hl i a b ha hb)) hr hr' (KU hA).2
 by_cases hl:xs.length=ys.length
 ·have h3:vs.size=us.size:=hr.size.trans (hl.trans hr'.size.symm)
  have:=Zow hl
  rw[←hr'.size,←h3]at this
  rw[←this]
  exact⟨RcAt.lists h1.isList h2.isList h3 (KU hA).1 (he hl),RcNeAt.lists h1.isList h2.isList h3 (KU hA).1 (he hl)⟩
 ·have:(vs.size != us.size)=true:=bne_iff_ne.mpr (by rw[hr.size,hr'.size];exact hl)
  rw[Z83 λe=>hl (Z81 _ e)]
  exact⟨RcAt.lists_lengths h1.isList h2.isList this (KU hA).1,RcNeAt.lists_lengths h1.isList h2.isList this (KU hA).1⟩
end
section
section
variable{α β γ δ:Type}{R:α→β→Prop}{as:List α}{bs:List β}
theorem F2.both{T:β→Prop}(x:F2 R as bs)(h:∀b∈bs,T b):F2 (λa b=>R a b∧T b) as bs:=
 @F2.ind α β R (λas bs=>(∀b∈bs,T b)→F2 (λa b=>R a b∧T b) as bs) (λZ=>trivial) (λa as b bs r Z ih h=>⟨⟨r,h b Z8g⟩,ih λc hc=>h c (Z8h _ hc)⟩) as bs x h
theorem F2.left{T:α→Prop}(x:F2 R as bs)(h:∀a∈as,T a):F2 (λa b=>T a∧R a b) as bs:=
 @F2.ind α β R (λas bs=>(∀b∈as,T b)→F2 (λa b=>T a∧R a b) as bs) (λZ=>trivial) (λa as b bs r Z ih h=>⟨⟨h a Z8g,r⟩,ih λc hc=>h c (Z8h _ hc)⟩) as bs x h
theorem F2.comp{S:β→γ→Prop}(x:F2 R as bs):∀{cs:List γ},F2 S bs cs→F2 (λa c=>∃b,R a b∧S b c) as cs:=
 @F2.ind α β R (λas bs=>∀{cs:List γ},F2 S bs cs→F2 (λa c=>∃b,R a b∧S b c) as cs) (λ{cs}=>@List.casesOn γ (λcs=>F2 S [] cs→F2 (λa c=>∃b,R a b∧S b c) [] cs) cs (λZ=>trivial) λZ Z h=>h.elim)
  (λa as b bs r _ ih {cs}=>@List.casesOn γ (λcs=>F2 S (b::bs) cs→F2 (λa c=>∃b,R a b∧S b c) (a::as) cs) cs (λh=>h.elim) λc cs h=>⟨⟨b,r,h.1⟩,ih h.2⟩) as bs x
theorem F2.map{S:γ→δ→Prop}{f:α→γ}{g:β→δ}(h:∀a b,R a b→S (f a) (g b))(x:F2 R as bs):F2 S (as.map f) (bs.map g):=@F2.ind α β R (λas bs=>F2 S (as.map f) (bs.map g)) trivial (λa Z b Z r Z ih=>⟨h a b r,ih⟩) as bs x
theorem F2.Ue{f:α→γ}{g:β→γ}(h:∀a b,R a b→f a=g b)(x:F2 R as bs):as.map f=bs.map g:=@F2.ind α β R (λas bs=>as.map f=bs.map g) rfl (λa as b bs r Z ih=>by rw[Z8o,Z8o,h a b r,ih]) as bs x
theorem F2.filter{p:α→Bool}{q:β→Bool}(h:∀a b,R a b→p a=q b)(x:F2 R as bs):F2 R (as.filter p) (bs.filter q):=
 @F2.ind α β R (λas bs=>F2 R (as.filter p) (bs.filter q)) trivial (λa as b bs r Z ih=>by
  rw[List.filter_cons,List.filter_cons,h a b r]
  cases q b
  ·exact ih
  ·exact⟨r,ih⟩) as bs x
def OR(R:α→β→Prop)(o:Option α)(o':Option β):Prop:=@Option.casesOn β (λZ=>Prop) o' (o=none) λb=>∃a,o=some a∧R a b
theorem OR.get{o:Option α}{o':Option β}(x:OR R o o'){b:β}(e:o'=some b):∃a,o=some a∧R a b:=(e▸x:OR R o (some b))
theorem OR.no{o:Option α}{o':Option β}(x:OR R o o')(e:o'=none):o=none:=(e▸x:OR R o none)
theorem OR.some{o:Option α}{o':Option β}(x:OR R o o'):o.isSome=o'.isSome:=@Option.casesOn β (λo'=>OR R o o'→o.isSome=o'.isSome) o' (λh=>Z81 Option.isSome h) (λb ⟨a,h,_⟩=>Z81 Option.isSome h) x
theorem OR.map{S:γ→δ→Prop}{f:α→γ}{g:β→δ}{o:Option α}{o':Option β}(h:∀a b,R a b→S (f a) (g b))(x:OR R o o'):OR S (o.map f) (o'.map g):=
 @Option.casesOn β (λo'=>OR R o o'→OR S (o.map f) (o'.map g)) o' (λ(e:o=none)=>e▸rfl) (λb (e:∃a,o=Option.some a∧R a b)=>e.elim λa e=>⟨f a,Z81 (Option.map f) e.1,h a b e.2⟩) x
theorem F2.find{p:α→Bool}{q:β→Bool}(h:∀a b,R a b→p a=q b)(x:F2 R as bs):OR R (as.find? p) (bs.find? q):=
 @F2.ind α β R (λas bs=>OR R (as.find? p) (bs.find? q)) rfl (λa as b bs r Z ih=>by
  rw[List.find?_cons,List.find?_cons,h a b r]
  cases q b
  ·exact ih
  ·exact⟨a,rfl,r⟩) as bs x
theorem F2.any{p:α→Bool}{q:β→Bool}(h:∀a b,R a b→p a=q b)(x:F2 R as bs):as.any p=bs.any q:=@F2.ind α β R (λas bs=>as.any p=bs.any q) rfl (λa as b bs r Z ih=>by rw[List.any_cons,List.any_cons,h a b r,ih]) as bs x
end
def ZS(k:ZA)(v:Value):Prop:=@ZA.casesOn (λZ=>Prop) k False (λZ=>False) (λi=>∃t,v=.int i t) (λc=>∃t,v=.str (st c) t) (λZ=>False) (λZ=>False) (λZ=>False)
noncomputable def Zho(k:ZA)(v:Value):Bool:=@decide (ZS k v) (Classical.propDecidable _)
theorem Yj{k:ZA}{v:Value}(h:Zho k v=true):ZS k v:=@of_decide_eq_true _ (Classical.propDecidable _) h
theorem ZS.is{k:ZA}{v:Value}(h:ZS k v):Zho k v=true:=@decide_eq_true _ (Classical.propDecidable _) h
theorem ZS.cases{k:ZA}{v:Value}{C:ZA→Value→Prop}(h:ZS k v)(h1:∀i t,C (.int i) (.int i t))(h2:∀c t,C (.str c) (.str (st c) t)):C k v:=
 @ZA.casesOn (λk=>ZS k v→C k v) k (λh=>h.elim) (λZ h=>h.elim) (λi h=>h.elim λt e=>e▸h1 i t) (λc h=>h.elim λt e=>e▸h2 c t) (λZ h=>h.elim) (λZ h=>h.elim) (λZ h=>h.elim) h
theorem Zva{i j:Int}{t u:Tok}(e:Value.int i t=.int j u):i=j:=by injection e
theorem Zoi{i j:Str}{t u:Tok}(e:Value.str i t=.str j u):i=j:=by injection e
theorem Zq3{v:Value}{a b:ZA}(ha:ZS a v):ZS b v→a=b:=
 ZS.cases (C:=λa v=>ZS b v→a=b) ha
  (λi t=>@ZA.casesOn (λb=>ZS b (.int i t)→ZA.int i=b) b (λh=>h.elim) (λZ h=>h.elim) (λj h=>h.elim λu e=>Z81 _ (Zva e)) (λc h=>h.elim λu e=>nomatch e) (λZ h=>h.elim) (λZ h=>h.elim) λZ h=>h.elim)
  (λc t=>@ZA.casesOn (λb=>ZS b (.str (st c) t)→ZA.str c=b) b (λh=>h.elim) (λZ h=>h.elim) (λj h=>h.elim λu e=>nomatch e) (λd h=>h.elim λu e=>Z81 _ (Zp1 (Zoi e))) (λZ h=>h.elim) (λZ h=>h.elim) λZ h=>h.elim)
theorem Z2g{A:Around}{s:Shared}{u v:Value}{a b:ZA}(ha:ZS a u)(hb:ZS b v):EqAt A s u v (decide (a=b)):=
 ZS.cases (C:=λa u=>EqAt A s u v (decide (a=b))) ha
  (λi t=>ZS.cases (C:=λb v=>EqAt A s (.int i t) v (decide (.int i=b))) hb
   (λj t'=>(Bool.eq_iff_iff.mpr (beq_iff_eq.trans (⟨Z81 _,λe=>by injection e⟩:i=j↔ZA.int i=.int j) |>.trans decide_eq_true_iff.symm):(i==j)=_)▸EqAt.int_int _ _ _ _)
   (λc t'=>Z83 (p:=ZA.int i=.str c) (λe=>nomatch e)▸EqAt.int_str _ _ _ _))
  (λc t=>ZS.cases (C:=λb v=>EqAt A s (.str (st c) t) v (decide (.str c=b))) hb
   (λj t'=>Z83 (p:=ZA.str c=.int j) (λe=>nomatch e)▸EqAt.str_int _ _ _ _)
   (λd t'=>Zwb rfl rfl▸EqAt.str_str _ _ _ _))
theorem Zvo(k:ZA)(x:Str)(t:Tok)(v:Value)(h:Zho k (.str x t)=true):Zho k v=v.isStr x:=by
 have key:∃c,k=.str c∧x=st c:=@ZA.casesOn (λk=>ZS k (.str x t)→∃c,k=.str c∧x=st c) k (λh=>h.elim) (λZ h=>h.elim) (λi h=>h.elim λt e=>nomatch e) (λc h=>h.elim λt e=>⟨c,rfl,Zoi e⟩) (λZ h=>h.elim) (λZ h=>h.elim) (λZ h=>h.elim) (Yj h)
 obtain⟨c,rfl,rfl⟩:=key
 refine Bool.eq_iff_iff.mpr ⟨λq=>(Yj q:∃t,v=.str (st c) t).elim λu e=>e▸Z87 (st c),λq=>ZS.is ?_⟩
 show ∃t,v=.str (st c) t
 cases v with
 |str y u=>exact⟨u,Z81 (Value.str · u) (Z84 q)⟩
 |_=>exact nomatch q
noncomputable def Zed(prog:Program)(w:World):KeyKind prog w ZA where
 is:=Zho
 hash:=Zf8 w
 inj:=λv a b ha hb=>Zq3 (Yj ha) (Yj hb)
 byValue:=λk v h=>ZS.cases (C:=λZ v=>carriedByValue v=true) (Yj h) (λZ Z=>rfl) λZ Z=>rfl
 pyHash:=λ{A E s k v Q} h hq=>ZS.cases (C:=λk v=>Q (Zf8 w k) { s with toks:=s.toks+1 }→wpAny (model prog w) A (PySem.pyHash v) Q E s) (Yj h) (λi t hq=>(intKind prog w).pyHash (k:=i) (by rw[intKind];exact Z87 i) hq) (λc t hq=>wpAny_pyHash_str hq) hq
 eqBool:=λ{A E s a b u v Q} ha hb hq=>Z2g (Yj ha) (Yj hb) prog w E Q hq
 «strs»:=Zvo
variable{X:Cx}{W:Wd}{σ:St}{s:Shared}{A:Around}{E:Value→Shared→Prop}{Q:Value→Shared→Prop}
theorem Zyw{v:Value}{k:ZA}(h:ZS k v):ZE W v k:=ZS.cases (C:=λk v=>ZE W v k) h ZE.ints ZE.strs
theorem Jj{v:Value}{k:ZA}(h:ZE W v k)(hk:k.flat=true):Zho k v=true:=
 @ZA.casesOn (λk=>ZE W v k→k.flat=true→Zho k v=true) k (λZ h=>nomatch h) (λZ Z h=>nomatch h) (λi h Z=>ZS.is (k:=.int i) h) (λc h Z=>ZS.is (k:=.str c) h) (λZ Z h=>nomatch h) (λZ Z h=>nomatch h) (λZ Z h=>nomatch h) h hk
theorem Zvp{v:Value}{k:ZA}(h:ZS k v):k.flat=true:=ZS.cases (C:=λk Z=>k.flat=true) h (λZ Z=>rfl) λZ Z=>rfl
theorem Zec{v:Value}{k:ZA}{w:World}(h:ZS k v):Zf8 w k=Zd5 w k:=ZS.cases (C:=λk Z=>Zf8 w k=Zd5 w k) h (λZ Z=>rfl) λZ Z=>rfl
theorem Zsr{prog:Program}{w:World}{vs:List Value}{ks:List ZA}(h:ZF W vs ks)(hk:ks.all ZA.flat=true):ItemsAre (Zed prog w) ks vs:=
 F2.ind (P:=λvs ks=>ItemsAre (Zed prog w) ks vs) .nil (λv vs k ks r Z ih=>.cons (Jj r.1 r.2) ih) (F2.both h (List.all_eq_true.mp hk))
theorem Zsk{prog:Program}{w:World}{ks:List ZA}{vs:List Value}(h:ItemsAre (Zed prog w) ks vs):ks.all ZA.flat=true:=by
 induction h with
 |nil=>rfl
 |cons h1 _ ih=>rw[List.all_cons,ih,Zvp (Yj h1)];rfl
noncomputable abbrev tupK(X:Cx):HeapKind pp X.w (List ZA):=tupleKind (Zed pp X.w)
noncomputable abbrev flK(X:Cx):KeyKind pp X.w ZA:=Zed pp X.w
theorem Zmb(I:Inv X W σ s){v:Value}{ks:List ZA}(h:ZE W v (.tup ks))(hk:ks.all ZA.flat=true):∃a,v=.ref a∧(tupK X).is s.heap ks a:=by
 obtain⟨a,e,vs,⟨n,ha⟩,hr⟩:=I.tup h
 exact⟨a,e,_,vs,n,ha,rfl,rfl,Zsr hr hk⟩
theorem Zcp{k:ZA}(h:k.isKey=true)(ht:k.isTup=false):k.flat=true:=
 @ZA.casesOn (λk=>k.isKey=true→k.isTup=false→k.flat=true) k (λh=>nomatch h) (λZ h=>nomatch h) (λZ Z Z=>rfl) (λZ Z Z=>rfl) (λZ Z h=>nomatch h) (λZ h=>nomatch h) (λZ h=>nomatch h) h ht
theorem Zb6{k:ZA}(h:k.isKey=true)(ht:k.isTup=true):∃ks,k=.tup ks∧ks.all ZA.flat=true:=
 @ZA.casesOn (λk=>k.isKey=true→k.isTup=true→∃ks,k=.tup ks∧ks.all ZA.flat=true) k (λZ h=>nomatch h) (λZ Z h=>nomatch h) (λZ Z h=>nomatch h) (λZ Z h=>nomatch h) (λks h Z=>⟨ks,rfl,h⟩) (λZ Z h=>nomatch h) (λZ Z h=>nomatch h) h ht
structure RF(W:Wd)(kv:ZA×Value)(p:ZA×ZA):Prop where
 key:kv.1=p.1
 val:ZE W kv.2 p.2
theorem Z0g{a b c:ZA}(h:a=b):decide (a=c)=decide (b=c):=by rw[h]
theorem RF.get{kvs:List (ZA×Value)}{es:List (ZA×ZA)}(h:F2 (RF W) kvs es)(k:ZA):OR (ZE W) (valueAt kvs k) (YW es k):=(F2.find (λa b (r:RF W a b)=>Z0g (c:=k) r.key) h).map λa b r=>r.val
theorem Zyj(es:List (ZA×ZA))(k:ZA):(YW es k).isSome=es.any λe=>decide (e.1=k):=by
 unfold YW;rw[Option.isSome_map,List.isSome_find?]
theorem RF.stored{kvs:List (ZA×Value)}{es:List (ZA×ZA)}(h:F2 (RF W) kvs es)(k:ZA){u:Value}{v:ZA}(hv:ZE W u v):F2 (RF W) (stored kvs k u) (Xx es k v):=by
 unfold PySem.stored Xx
 rw[Zyj,F2.any (λa b (r:RF W a b)=>Z0g (c:=k) r.key) h]
 split
 ·refine F2.map (λa b r=>?_) h
  rw[r.key]
  split
  ·exact⟨rfl,hv⟩
  ·exact r
 ·exact h.append ⟨⟨rfl,hv⟩,trivial⟩
theorem RF.without{kvs:List (ZA×Value)}{es:List (ZA×ZA)}(k:ZA)(h:F2 (RF W) kvs es):F2 (RF W) (without kvs k) (Vh es k):=
 F2.filter (λa b r=>by rw[r.key,decide_not]) h
theorem Z2q{a:Addr}{es:List (ZA×ZA)}{h:Heap}(O:XQ X W h a es)(hk:∀p∈es,p.1.isTup=false):∃kvs,h.DictOf (flK X) a kvs∧F2 (RF W) kvs es:=by
 obtain⟨o,des,ep,ho,hx,hd,hr⟩:=O.obj
 obtain⟨kvs,i1,i2,i3⟩:=F2.ind (P:=λds es=>∃kvs,Pairs (flK X) ds kvs∧F2 (RF W) kvs es∧∀e∈ds,∃k,(flK X).is k e.key=true∧e.hash=(flK X).hash k) ⟨[],.nil,trivial,λZ h=>nomatch h⟩
  (λe ds p es r Z ih=>by
   obtain⟨kvs,i1,i2,i3⟩:=ih
   have hi:=Jj r.1.key r.2
   exact⟨(p.1,e.val)::kvs,.cons hi rfl i1,⟨⟨rfl,r.1.val⟩,i2⟩,λe' he'=>(Z8k.mp he').elim (λq=>⟨p.1,q▸hi,q▸r.1.hash.trans (Zec (Yj hi)).symm⟩) (i3 e')⟩)
  (F2.both hr λp hp=>Zcp (O.keys p hp) (hk p hp))
 exact⟨kvs,⟨o,des,ep,ho,hx,hd,λe he=>i3 e (Array.mem_toList_iff.mpr he),i1,by rw[F2.Ue (λa b (r:RF W a b)=>r.key) i2];exact O.nodup⟩,i2⟩
theorem Zx3{knd:KeyKind pp X.w ZA}{ds:List DictEntry}{kvs:List (ZA×Value)}(h:Pairs knd ds kvs):F2 (λe kv=>knd.is kv.1 e.key=true∧e.val=kv.2) ds kvs:=by
 induction h with
 |nil=>trivial
 |cons h1 h2 _ ih=>exact⟨⟨h1,h2⟩,ih⟩
theorem ofF{a:Addr}{es:List (ZA×ZA)}{h:Heap}{kvs:List (ZA×Value)}(D:h.DictOf (flK X) a kvs)(R:F2 (RF W) kvs es)(ha:a≠sysModules):XQ X W h a es:=by
 obtain⟨o,des,ep,ho,hx,hd,hk,hp,hn⟩:=D
 have key:=F2.comp (F2.left (Zx3 hp) λe he=>hk e (Array.mem_toList_iff.mp he)) R
 refine⟨⟨o,des,ep,ho,hx,hd,F2.mono (λe p r=>?_) key⟩,by rw[←F2.Ue (λa b (r:RF W a b)=>r.key) R];exact hn,λp hp=>?_,ha⟩
 ·obtain⟨kv,⟨⟨k,k1,k2⟩,h1,h2⟩,r⟩:=r
  have e1:=(flK X).inj _ _ _ k1 h1
  exact⟨r.key▸Zyw (Yj h1),h2▸r.val,by rw[k2,e1,←r.key];exact Zec (Yj h1)⟩
 ·obtain⟨e,Z,kv,⟨Z,h1,Z⟩,r⟩:=key.X8 hp
  rw[←r.key]
  exact ZS.cases (C:=λk Z=>k.isKey=true) (Yj h1) (λZ Z=>rfl) λZ Z=>rfl
structure RH(W:Wd)(x:List ZA×Addr×Value)(p:ZA×ZA):Prop where
 key:p.1=.tup x.1
 adr:ZE W (.ref x.2.1) p.1
 val:ZE W x.2.2 p.2
theorem Zmt:∀{l:List (List ZA)},(l.map ZA.tup).Nodup→l.Nodup
 | [],_=>.nil
 |a::l,h=>Z88.mpr ⟨λq=>(Z88.mp h).1 (Z8l.mpr ⟨a,q,rfl⟩),Zmt (Z88.mp h).2⟩
theorem Zma:∀{l:List (List ZA)},l.Nodup→(l.map ZA.tup).Nodup
 | [],_=>.nil
 |a::l,h=>Z88.mpr ⟨λq=>(Z8l.mp q).elim λb e=>(Z88.mp h).1 ((by injection e.2:b=a)▸e.1),Zma (Z88.mp h).2⟩
theorem RH.keys{xs:List (List ZA×Addr×Value)}{es:List (ZA×ZA)}(h:F2 (RH W) xs es):(xs.map (·.1)).map ZA.tup=es.map (·.1):=by rw[List.map_map];exact F2.Ue (λa b r=>r.key.symm) h
theorem Zy5(I:Inv X W σ s){a:Addr}{es:List (ZA×ZA)}(O:XQ X W s.heap a es)(hk:∀p∈es,p.1.isTup=true):∃xs,s.heap.DictOfH (tupK X) a xs∧F2 (RH W) xs es:=by
 obtain⟨o,des,ep,ho,hx,hd,hr⟩:=O.obj
 obtain⟨xs,i1,i2,i3⟩:=F2.ind (P:=λds es=>∃xs:List (List ZA×Addr×Value),ds=xs.map (entryOfKey (tupK X))∧F2 (RH W) xs es∧∀x∈xs,(tupK X).is s.heap x.1 x.2.1) ⟨[],rfl,trivial,λZ h=>nomatch h⟩
  (λe ds p es r Z ih=>by
   obtain⟨xs,i1,i2,i3⟩:=ih
   obtain⟨ks,hp,hf⟩:=r.2
   obtain⟨b,hb,hbi⟩:=Zmb I (hp▸r.1.key) hf
   refine⟨(ks,b,e.val)::xs,?_,⟨⟨hp,hb▸r.1.key,r.1.val⟩,i2⟩,λx hx=>(Z8k.mp hx).elim (λq=>q▸hbi) (i3 x)⟩
   have hh:e.hash=(tupK X).hash ks:=r.1.hash.trans (hp▸rfl)
   rw[Z8o,i1]
   exact Z81 (·::_) (show e=⟨(tupK X).hash ks,.ref b,e.val⟩from hh▸hb▸rfl))
  (F2.both hr λp hp=>Zb6 (O.keys p hp) (hk p hp))
 exact⟨xs,⟨o,des,ep,ho,hx,hd,i1,i3,Zmt (RH.keys i2▸O.nodup)⟩,i2⟩
theorem ofH{a:Addr}{es:List (ZA×ZA)}{h:Heap}{xs:List (List ZA×Addr×Value)}(D:h.DictOfH (tupK X) a xs)(R:F2 (RH W) xs es)(ha:a≠sysModules):XQ X W h a es:=by
 obtain⟨o,des,ep,ho,hx,hd,he,his,hn⟩:=D
 refine⟨⟨o,des,ep,ho,hx,hd,he▸?_⟩,RH.keys R▸Zma hn,λp hp=>?_,ha⟩
 ·have:=F2.map (S:=IP X W) (f:=entryOfKey (tupK X)) (g:=id) (λx p r=>⟨r.adr,r.val,by rw[id,r.key];rfl⟩) R
  rwa[List.map_id]at this
 ·obtain⟨x,hx1,r⟩:=R.X8 hp
  obtain⟨Z,items,n,Z,Z,Z,hit⟩:=his x hx1
  rw[r.key]
  exact Zsk hit
theorem Z0r{a b:ZA}{ks k':List ZA}(h:a=.tup ks):decide (ks=k')=decide (a=.tup k'):=by rw[h,Zwa]
theorem RH.get{xs:List (List ZA×Addr×Value)}{es:List (ZA×ZA)}(h:F2 (RH W) xs es)(ks:List ZA):OR (λu v=>ZE W u.2 v) (atKey xs ks) (YW es (.tup ks)):=
 (F2.find (λa b (r:RH W a b)=>Z0r (b:=b.1) (k':=ks) r.key) h).map λa b r=>r.val
theorem RH.stored{xs:List (List ZA×Addr×Value)}{es:List (ZA×ZA)}(h:F2 (RH W) xs es)(ks:List ZA){b:Addr}(hb:ZE W (.ref b) (.tup ks)){u:Value}{v:ZA}(hv:ZE W u v):
  F2 (RH W) (storedH xs ks b u) (Xx es (.tup ks) v):=by
 unfold storedH Xx
 rw[(RH.get h ks).some]
 split
 ·refine F2.map (λa b r=>?_) h
  unfold putAt
  by_cases hk:a.1=ks
  ·rw[if_pos hk,if_pos (r.key.trans (Z81 _ hk))];exact⟨r.key,r.adr,hv⟩
  ·rw[if_neg hk,if_neg λq=>hk (by have e:=r.key.symm.trans q;injection e)];exact r
 ·exact h.append ⟨⟨rfl,hb,hv⟩,trivial⟩
theorem un1{A:Around}{n k:Nat}(h:A.units+(n+1)<k):A.units+1<k:=by lia
theorem XQ.upd(I:Inv X W σ s){a:Addr}{id:Nat}(hW:W a=.own id){h':Heap}{tk:Nat}{es:List (ZA×ZA)}(hsb:Heap.SameBut a s.heap h')(O:XQ X W h' a es):Inv X W (σ.put id (.dict es)) { s with heap:=h',toks:=tk }:=
 I.upd hW (.inl hW) hsb (O.obj.elim λo h=>h.elim λZ h=>h.elim λZ h=>⟨o,h.1⟩) O
section
variable{u v c:Value}{id:Nat}{es:List (ZA×ZA)}{k r:ZA}
theorem Z2p(I:Inv X W σ s)(hu:ZE W u (.ref id))(he:σ.f id=some (.dict es))(hv:ZE W v k)(hk:Zfd es k)(ht:k.isTup=true)(hA:A.units+30<cLine)
  (h:Pst X W σ (.bool (YW es k).isSome) Q):wpAny (model pp X.w) A (compareOp .In v u) Q E s:=by
 obtain⟨a,rfl,hW,O⟩:=I.obj hu he
 obtain⟨ks,rfl,hf⟩:=Zb6 hk.key ht
 obtain⟨xs,D,R⟩:=Zy5 I O λp hp=>(hk.all p hp).trans ht
 obtain⟨b,rfl,hb⟩:=Zmb I hv hf
 refine wpAny_in_heap (un1 hA) hb (Z85.mpr O.sys) D ?_
 rw[(RH.get R ks).some];exact Pst.Ud I h
theorem Zy4(I:Inv X W σ s)(hu:ZE W u (.ref id))(he:σ.f id=some (.dict es))(hv:ZE W v k)(hk:Zfd es k)(hr:YW es k=some r)(hA:A.units+30<cLine)
  (h:Pst X W σ r Q):wpAny (model pp X.w) A (getItem u v) Q E s:=by
 obtain⟨a,rfl,hW,O⟩:=I.obj hu he
 cases ht:k.isTup with
 |true=>
  obtain⟨ks,rfl,hf⟩:=Zb6 hk.key ht
  obtain⟨xs,D,R⟩:=Zy5 I O λp hp=>(hk.all p hp).trans ht
  obtain⟨b,rfl,hb⟩:=Zmb I hv hf
  obtain⟨p,hp,hpv⟩:=(RH.get R ks).get hr
  exact wpAny_getItem_heap (un1 hA) hb D hp (h.mkt I hpv)
 |false=>
  obtain⟨kvs,D,R⟩:=Z2q O λp hp=>(hk.all p hp).trans ht
  obtain⟨p,hp,hpv⟩:=(RF.get R k).get hr
  exact wpAny_getItem_of (knd:=flK X) (Jj hv (Zcp hk.key ht)) D.mapOf hp (h.mkt I hpv)
theorem Zy2{QU:Unit→Shared→Prop}(I:Inv X W σ s)(hu:ZE W u (.ref id))(he:σ.f id=some (.dict es))(hv:ZE W v k)(hc:ZE W c r)(hk:Zfd es k)(hsz:es.length≤16000)(hA:A.units+30<cLine)
  (h:∀s',Inv X W (σ.put id (.dict (Xx es k r))) s'→QU () s'):wpAny (model pp X.w) A (setItem u v c) QU E s:=by
 obtain⟨a,rfl,hW,O⟩:=I.obj hu he
 cases ht:k.isTup with
 |true=>
  obtain⟨ks,rfl,hf⟩:=Zb6 hk.key ht
  obtain⟨xs,D,R⟩:=Zy5 I O λp hp=>(hk.all p hp).trans ht
  obtain⟨b,rfl,hb⟩:=Zmb I hv hf
  exact wpAny_setItem_heap (hsz:=R.length▸Z1 hsz) (un1 hA) hb D λh' D' hsb=>h _ (XQ.upd I hW hsb (ofH D' (RH.stored R ks hv hc) O.sys))
 |false=>
  obtain⟨kvs,D,R⟩:=Z2q O λp hp=>(hk.all p hp).trans ht
  exact wpAny_setItem_pairs (knd:=flK X) (hsz:=R.length▸Z1 hsz) (Jj hv (Zcp hk.key ht)) D λh' D' hsb=>h _ (XQ.upd I hW hsb (ofF D' (RF.stored R k hc) O.sys))
theorem Zy3(I:Inv X W σ s)(hu:ZE W u (.ref id))(he:σ.f id=some (.dict es))(hv:ZE W v k)(hk:Zfd es k)(ht:k.isTup=false)(hr:YW es k=some r)(hsz:es.length≤16000)
  (h:Pst X W (σ.put id (.dict (Vh es k))) r Q):wpAny (model pp X.w) A (call (.builtin "dict.pop") [u,v]) Q E s:=by
 obtain⟨a,rfl,hW,O⟩:=I.obj hu he
 obtain⟨kvs,D,R⟩:=Z2q O λp hp=>(hk.all p hp).trans ht
 have hi:=Jj hv (Zcp hk.key ht)
 obtain⟨p,hp,hpv⟩:=(RF.get R k).get hr
 exact call_meetsIn F.slot_dict_pop D.typeIs F.entry_dict_pop (F.args_dict_pop_2 _ _) (meets_dict_pop_there (flK X) a hi [] (.inl rfl) (ZS.cases (C:=λZ v=>(keyPart v).isSome=true) (Yj hi) (λZ Z=>rfl) λZ Z=>rfl))
  ⟨kvs,p,D,R.length▸Z1 hsz,hp,λh' D' hsb=>h W _ _ (LeX.refl [] W) (XQ.upd I hW hsb (ofF D' (RF.without k R) O.sys)) hpv⟩
end
theorem Zuh{K V:Type}{xs:List (K×V)}{k:K}{v:V}(hn:(xs.map (·.1)).Nodup)(h:k∉xs.map (·.1)):((xs++[(k,v)]).map (·.1)).Nodup:=by
 rw[List.map_append,List.nodup_append]
 exact⟨hn,Z88.mpr ⟨List.not_mem_nil,.nil⟩,λx hx y hy e=>h ((Z8m.mp hy:y=k)▸e▸hx)⟩
theorem Zdo{prog:Program}{w:World}{K:Type}[DecidableEq K]{knd:HeapKind prog w K}{d a:Addr}{xs:List (K×Addr×Value)}{k:K}{v:Value}{Q:Value→Shared→Prop}(hu:knd.room A)(UO:knd.is s.heap k a)(hm:s.heap.DictOfH knd d xs)
  (h1:∀p,atKey xs k=some p→Q p.2 { s with toks:=s.toks+knd.draws k })
  (h2:atKey xs k=none→∀h',h'.DictOfH knd d (storedH xs k a v)→Heap.SameBut d s.heap h'→Q v { s with heap:=h',toks:=s.toks+knd.draws k })
  (hsz:xs.length≤sizeLine):wpAny (model prog w) A (dictSetDefault d (.ref a) v) Q E s:=by
 obtain⟨o,es,ep,ho,hc,hd,he,his,hn⟩:=hm
 unfold dictSetDefault
 refine wpAny_holding (Z8z (knd.pyHash hu UO (Z8z (wpAny_dictFind_heap (s:={ s with toks:=s.toks+knd.draws k }) hu UO ho hd he his hn ?_ ?_))))
 ·intro hno
  have V1:=atKey_none_of_get hno
  have Kx:k∉xs.map (·.1):=not_mem_keys_of_get hno
  refine Z8z (wpAny_rule (Z8z (wpAny_updateDictKeys (hz:=by rw[size_of_entries he];exact hsz) (s:={ s with toks:=s.toks+knd.draws k }) ho hd (Z80 (h2 V1 _ ⟨_,_,ep+1,Heap.get?_update_self _ ho (Obj.isFreed_of_dict (Obj.data_mapDictKeys hd _)),
   hc.mapDictKeys _,Obj.data_mapDictKeys hd _,?_,?_,?_⟩ (Heap.SameBut.update ..))))))
  ·rw[storedH_new V1,Array.toList_push,he,List.map_append];rfl
  ·rw[storedH_new V1]
   exact λx hx=>(List.mem_append.mp hx).elim (λhx=>knd.keeps (his x hx) ho hd (Heap.SameBut.update ..)) λhx=>Z8m.mp hx▸knd.keeps UO ho hd (Heap.SameBut.update ..)
  ·rw[storedH_new V1]
   exact Zuh hn Kx
 ·intro j p hj
  refine Z8z (wpAny_dictEntries (s:={ s with toks:=s.toks+knd.draws k }) ho hd ?_)
  rw[entry_at he j,hj]
  exact Z8z (wpAny_rule (Z80 (h1 p (atKey_of_get hn hj))))
theorem Zcd(I:Inv X W σ s){u v c:Value}{id:Nat}{es:List (ZA×ZA)}{k r:ZA}(hu:ZE W u (.ref id))(he:σ.f id=some (.dict es))(hv:ZE W v k)(hc:ZE W c r)(hk:Zfd es k)(ht:k.isTup=true)(hsz:es.length≤16000)(hA:A.units+30<cLine)
  (h1:∀q,YW es k=some q→Pst X W σ q Q) (h2:YW es k=none→Pst X W (σ.put id (.dict (Xx es k r))) r Q):wpAny (model pp X.w) A (call (.builtin "dict.setdefault") [u,v,c]) Q E s:=by
 obtain⟨a,rfl,hW,O⟩:=I.obj hu he
 obtain⟨ks,rfl,hf⟩:=Zb6 hk.key ht
 obtain⟨xs,D,R⟩:=Zy5 I O λp hp=>(hk.all p hp).trans ht
 obtain⟨b,rfl,hb⟩:=Zmb I hv hf
 have hg:=RH.get R ks
 refine wpAny_call_entry F.slot_dict_setdefault D.typeIs F.entry_dict_setdefault (show wpAny (model pp X.w) A.in1 (Builtin.«dict.setdefault» ⟨[.ref a,.ref b,c],[]⟩) _ E s from ?_) (F.args_dict_setdefault_3 _ _ _)
 unfold Builtin.«dict.setdefault»
 refine Z8z ?_
 unfold Builtin.Dict.keyAndDefault
 refine Z8z (wpAny_notOrdered_dict D.typeIs ?_)
 show wpAny _ _ (pure (a,Value.ref b,Option.some c):Sem (Addr×Value×Option Value)) _ _ s
 refine Z80 ?_
 show wpAny _ _ (if(a==sysModules)=true then _ else(dictSetDefault a (.ref b) c >>= _)) _ _ s
 rw[if_neg λe=>O.sys (Z84 e)]
 refine Z8z (Zdo (knd:=tupK X) (un1 hA) hb D (λp hp=>Z80 ⟨p.2,rfl,?_⟩) (λhn h' D' hsb=>Z80 ⟨c,rfl,?_⟩) (R.length▸Z1 hsz))
 ·cases hk2:YW es (.tup ks)with
  |none=>exact nomatch (hg.no hk2).symm.trans hp
  |some q=>exact(hg.get hk2).elim λp' h=>h1 q hk2 W _ _ (LeX.refl [] W) (I.toks _) ((Z8q (h.1.symm.trans hp))▸h.2)
 ·cases hk2:YW es (.tup ks)with
  |some q=>exact(hg.get hk2).elim λp' h=>nomatch hn.symm.trans h.1
  |none=>exact h2 hk2 W _ _ (LeX.refl [] W) (XQ.upd I hW hsb (ofH D' (RH.stored R ks hv hc) O.sys)) hc
end
section
variable{X:Cx}{W:Wd}{σ:St}{s:Shared}{A:Around}{E:Value→Shared→Prop}{Q:Value→Shared→Prop}
theorem QX.inj{n:Nat}{x k:ZA}{v:Value}(e:QX n x k)(h:ZE W v x)(h':ZE W v k):x=k:=by
 induction e with
 |int n a b=>exact h.elim λt e=>h'.elim λu e'=>Z81 _ (Zva (e.symm.trans e'))
 |str n a b=>exact h.elim λt e=>h'.elim λu e'=>Z81 _ (Zp1 (Zoi (e.symm.trans e')))
 |tup=>obtain⟨a,e,o,q⟩:=h;obtain⟨a',e',o',q'⟩:=h';rw[Zb0 (e.symm.trans e')]at q;rw[Zve q q']
noncomputable def eqK(W:Wd)(k:ZA)(y:Value):Bool:=@decide (ZE W y k) (Classical.propDecidable _)
theorem Z0c{n:Nat}{x k:ZA}{y:Value}(c:QX n x k)(h:ZE W y x):eqK W k y=decide (x=k):=
 Classical.byCases (λe:x=k=>(@decide_eq_true _ (Classical.propDecidable _) (e▸h)).trans (Z82 e).symm) λe=>(@decide_eq_false _ (Classical.propDecidable _) λq=>e (c.inj h q)).trans (Z83 e).symm
theorem Z5u(I:Inv X W σ s){n:Nat}{vs:Array Value}{xs:List ZA}{u:Value}{k:ZA}(hr:ZF W vs.toList xs)(hu:ZE W u k)(hx:∀x∈xs,QX n x k)(hA:A.units+(n+1)<cLine):∀y,y∈vs→EqAt A.in1 s y u (eqK W k y):=λy hy=>by
 obtain⟨x,h1,h2⟩:=hr.Xd (Array.mem_toList_iff.mpr hy)
 rw[Z0c (hx x h1) h2]
 exact(UY I (hx x h1) h2 hu (KU hA).2).eq
theorem Z2l{n:Nat}{vs:Array Value}{xs:List ZA}{k:ZA}(hr:ZF W vs.toList xs)(hx:∀x∈xs,QX n x k):vs.any (eqK W k)=decide (k∈xs):=by
 rw[←Array.any_toList,F2.any (q:=λx=>decide (x=k)) (λa b r=>Z0c r.2 r.1) (F2.both hr hx),Bool.eq_iff_iff,List.any_eq_true,decide_eq_true_iff]
 exact⟨λ⟨x,h,e⟩=>of_decide_eq_true e▸h,λh=>⟨k,h,Z82 rfl⟩⟩
inductive ZR(σ:St):CmpOp→ZA→ZA→Bool→Prop
 |eq {n:Nat} {x y:ZA} (h:QX n x y) (hn:n≤20):ZR σ .Eq x y (decide (x=y))
 |ne {n:Nat} {x y:ZA} (h:QX n x y) (hn:n≤20):ZR σ .NotEq x y (!decide (x=y))
 |eqL {n:Nat} {x y:ZA} {xs ys:List ZA} (hx:LOf σ x xs) (hy:LOf σ y ys) (h:xs.length=ys.length→∀(i:Nat) a b,xs[i]? = some a→ys[i]? = some b→QX n a b) (hn:n≤20):ZR σ .Eq x y (decide (xs=ys))
 |neL {n:Nat} {x y:ZA} {xs ys:List ZA} (hx:LOf σ x xs) (hy:LOf σ y ys) (h:xs.length=ys.length→∀(i:Nat) a b,xs[i]? = some a→ys[i]? = some b→QX n a b) (hn:n≤20):ZR σ .NotEq x y (!decide (xs=ys))
 |lt (i j:Int):ZR σ .Lt (.int i) (.int j) (decide (i<j))
 |le (i j:Int):ZR σ .LtE (.int i) (.int j) (decide (i≤j))
 |gt (i j:Int):ZR σ .Gt (.int i) (.int j) (decide (i > j))
 |isN:ZR σ .Is .none .none true
 |isT (xs:List ZA):ZR σ .Is (.tup xs) .none false
 |inS (c:Nat) (t:CS):ZR σ .In (.str [c]) (.str t) (t.contains c)
 |Gu (c:Nat) (t:CS):ZR σ .NotIn (.str [c]) (.str t) (!t.contains c)
 |inD {id:Nat} {es:List (ZA×ZA)} {k:ZA} (he:σ.f id=some (.dict es)) (hk:Zfd es k) (ht:k.isTup=true):ZR σ .In k (.ref id) (YW es k).isSome
 |inL {n id:Nat} {xs:List ZA} {k y:ZA} (he:LOf σ y xs) (h:∀x∈xs,QX n x k) (hn:n≤20):ZR σ .In k y (decide (k∈xs))
theorem Zg3{A:Around}{n k m:Nat}(hA:A.units+30<k)(hn:n≤20):A.units+(n+1)<k∧A.units+n<k:=⟨by lia,by lia⟩
theorem Zqx(t:CS)(c:Nat):decide (c∈(st t).cps.toList)=t.contains c:=Bool.eq_iff_iff.mpr (decide_eq_true_iff.trans List.contains_iff_mem.symm)
theorem Zj3{op:CmpOp}{x y:ZA}{b:Bool}(e:ZR σ op x y b)(I:Inv X W σ s){v u:Value}(hv:ZE W v x)(hu:ZE W u y)(hA:A.units+30<cLine)(h:Pst X W σ (.bool b) Q):wpAny (model pp X.w) A (compareOp op v u) Q E s:=by
 induction e with
 |eq c hn=>exact(UY I c hv hu (Zg3 (m:=0) hA hn).2).rc pp X.w E Q (Pst.ZW I h)
 |ne c hn=>exact(UY I c hv hu (Zg3 (m:=0) hA hn).2).ne pp X.w E Q (Pst.ZW I h)
 |eqL hx hy c hn=>exact(Zrd I hx hy c hv hu (Zg3 (m:=0) hA hn).1).1 pp X.w E Q (Pst.ZW I h)
 |neL hx hy c hn=>exact(Zrd I hx hy c hv hu (Zg3 (m:=0) hA hn).1).2 pp X.w E Q (Pst.ZW I h)
 |lt=>exact hv.YF λt=>hu.YF λt'=>PyProof.Rows.lt_int (Pst.ZW I h)
 |le=>exact hv.YF λt=>hu.YF λt'=>PyProof.Rows.le_int (Pst.ZW I h)
 |gt=>exact hv.YF λt=>hu.YF λt'=>PyProof.Rows.gt_int (Pst.ZW I h)
 |isN=>exact hv.XW (hu.XW (PySem.is_none (Pst.ZW I h)))
 |isT xs=>obtain⟨a,rfl,Z⟩:=hv;exact hu.XW (PySem.is_none (Pst.ZW I h))
 |inS c t=>exact hv.QM λt1=>hu.QM λt2=>P.in_str (by rw[show st [c]=(⟨#[c]⟩:Str)from rfl,StrLaws.found_one (st t) c,Zqx];exact Pst.ZW I h)
 |Gu c t=>exact hv.QM λt1=>hu.QM λt2=>P.notIn_str (by rw[show st [c]=(⟨#[c]⟩:Str)from rfl,StrLaws.found_one (st t) c,Zqx];exact Pst.ZW I h)
 |inD he hk ht=>exact Z2p I hu he hv hk ht hA h
 |inL he c hn=>
  obtain⟨a,rfl,vs,hl,hr⟩:=I.listOf hu he
  exact in_listAt _ hl.isList (Z5u I hr hv c (Zg3 (m:=0) hA hn).1) (by rw[Z2l hr c];exact Pst.ZW I h)
inductive Va(σ:St):ZA→ZA→ZA→Prop
 |tup {xs:List ZA} {k:Nat} {r:ZA} (h:xs[k]? = some r) (hl:xs.length≤16000):Va σ (.tup xs) (.int k) r
 |lst {x:ZA} {xs:List ZA} {k:Nat} {r:ZA} (hx:LOf σ x xs) (h:xs[k]? = some r) (hl:xs.length≤16000):Va σ x (.int k) r
 |str {t:CS} {k:Nat} {c:Nat} (h:t[k]? = some c) (hl:t.length≤16000):Va σ (.str t) (.int k) (.str [c])
 |last {t:CS} {c:Nat} (hl:t.length≤16000):Va σ (.str (t++[c])) (.int (-1)) (.str [c])
 |dict {id:Nat} {es:List (ZA×ZA)} {k r:ZA} (he:σ.f id=some (.dict es)) (hk:Zfd es k) (h:YW es k=some r):Va σ (.ref id) k r
def Zri(s:Shared)(v:Value):Prop:=∃Ty id,s.TypeIs v Ty∧typeLookup (.type Ty) "__getitem__"=pure (some (.builtin id))
theorem Ztl{value slice:Expr}{o i:Value}(hT:Zri s o)(h:wpAny (model pp X.w) A (getItem o i) Q E s):
  wpAny (model pp X.w) A (do let r ←subscripted slice (←getitemInPython o) o i;letTemporaryGo value o r;pure r) Q E s:=by
 obtain⟨Ty,id,hT,hl⟩:=hT
 refine Z8z ?_
 rw[getitemInPython_of_ne hT.not_modules]
 refine Z8z (wpAny_specialOf hT hl (Z80 (Z8z ?_)))
 have fin:∀vs,wpAny (model pp X.w) A (operate vs (getItem o i)) (λr s₃=>wpAny (model pp X.w) A (letTemporaryGo value o r >>= λZ=>pure r) Q E s₃) E s:=λvs=>
  wpAny_operating (wpAny_mono h (λr s₃ h₃=>Z8z (wpAny_letTemporaryGo (Z80 h₃))) λZ Z x=>x)
 cases slice with
 |Slice a b c p=>cases c with | none=>exact fin _ | some _=>exact fin _
 |_=>exact fin _
theorem Z4u{k n:Nat}(h:k<n)(hn:n≤16000):(decide ((k:Int) < -2 ^ 63) || decide ((k:Int) ≥ 2 ^ 63))=false:=by
 rw[Bool.or_eq_false_iff];exact⟨Z83 (by lia),Z83 (by lia)⟩
theorem Z1x{k n:Nat}(h:k<n)(hn:n≤16000):(k:Int)<2 ^ 63∧-2 ^ 63≤(k:Int)∧(0:Int)≤k:=by lia
theorem Zfp{k n:Nat}(h:k<n):seqIndex? (k:Int) n=some k:=by
 unfold seqIndex?
 rw[if_neg (Int.not_lt.mpr (Int.natCast_nonneg k)),if_pos (by rw[Bool.and_eq_true];exact⟨Z82 (Int.natCast_nonneg k),Z82 (Int.ofNat_lt.mpr h)⟩),Int.toNat_natCast]
theorem Zks{n:Nat}:seqIndex? (-1) (n+1)=some n:=by
 unfold seqIndex?
 have e:(-1:Int)+((n+1:Nat):Int)=n:=by lia
 rw[if_pos (show(-1:Int)<0 by decide),e,if_pos (by rw[Bool.and_eq_true];exact⟨Z82 (Int.natCast_nonneg n),Z82 (Int.ofNat_lt.mpr (Z79 n))⟩),Int.toNat_natCast]
theorem Zvj(I:Inv X W σ s){x r:ZA}{xs:List ZA}{k:Nat}(hx:LOf σ x xs)(h:xs[k]? = some r)(hl:xs.length≤16000){v:Value}{t:Tok}(hv:ZE W v x)(hq:Pst X W σ r Q):Zri s v∧wpAny (model pp X.w) A (getItem v (.int k t)) Q E s:=by
 obtain⟨a,rfl,vs,ha,hr⟩:=I.listOf hv hx
 obtain⟨w',hw,hwr⟩:=hr.get h
 have b:=Z1x (Z8w.mp h).1 hl
 exact⟨⟨"list",_,ha.isList.typeIs,F.slot_list_getitem.lookup⟩,wpAny_getItem_list ha.isList b.2.2 b.1 (by rw[←Z8s];exact hw) (hq.mk I hwr)⟩
theorem Zi7{t:CS}{j:Nat}:(st t).cps[j]? = t[j]?:=List.getElem?_toArray
theorem Z5h{x i r:ZA}(e:Va σ x i r)(I:Inv X W σ s){v u:Value}(hv:ZE W v x)(hu:ZE W u i)(hA:A.units+30<cLine)(h:Pst X W σ r Q):Zri s v∧wpAny (model pp X.w) A (getItem v u) Q E s:=by
 induction e with
 |tup e hl=>
  obtain⟨a,rfl,vs,ha,hr⟩:=I.tup hv
  obtain⟨t,rfl⟩:=hu
  obtain⟨w',hw,hwr⟩:=hr.get e
  have hk:=(Z8w.mp e).1
  have b:=Z1x hk hl
  obtain⟨n,ha'⟩:=ha
  exact⟨⟨"tuple",_,⟨_,ha',rfl⟩,F.slot_tuple_getitem.lookup⟩,P.getItem_tuple ha' b.2.1 b.1 (by rw[hr.size];exact Zfp hk) (by rw[←Z8s];exact hw) (h.mk I hwr)⟩
 |lst hx e hl=>obtain⟨t,rfl⟩:=hu;exact Zvj I hx e hl hv h
 |str e hl=>
  obtain⟨t,rfl⟩:=hv;obtain⟨t',rfl⟩:=hu
  exact⟨⟨"str",_,typeIs_str _ _ _,F.slot_str_getitem.lookup⟩,P.getItem_str (Z4u (Z8w.mp e).1 hl) (by rw[Yn,Zfp (Z8w.mp e).1];exact Zi7.trans e) (Pst.YR (c:=[_]) I h)⟩
 |@last t0 c hl=>
  obtain⟨t,rfl⟩:=hv;obtain⟨t',rfl⟩:=hu
  exact⟨⟨"str",_,typeIs_str _ _ _,F.slot_str_getitem.lookup⟩,P.getItem_str (by decide) (by rw[Yn,Z8j];exact(Z81 (Option.bind · _) (Zks (n:=t0.length))).trans (Zi7.trans List.getElem?_concat_length)) (Pst.YR (c:=[c]) I h)⟩
 |dict he hk e=>
  refine⟨?_,Zy4 I hv he hu hk e hA h⟩
  obtain⟨a,rfl,hW,O⟩:=I.obj hv he
  obtain⟨o,Z,Z,ho,hx,Z⟩:=O.obj
  exact⟨"dict",_,⟨o,ho,hx.1⟩,F.slot_dict_getitem.lookup⟩
end
section
variable{X:Cx}{W:Wd}{σ:St}{s:Shared}{A:Around}{E:Value→Shared→Prop}{Q:Value→Shared→Prop}
noncomputable def Kr(n:Nat)(lo hi st:Option Int):List Nat:=sliceRange (sliceBounds lo hi st n).1 (sliceBounds lo hi st n).2.1 (sliceBounds lo hi st n).2.2
noncomputable def Ua(o:Option Int):ZA:=@Option.casesOn _ (λZ=>ZA) o .none λi=>.int i
inductive JR(σ:St):ZA→ZA→ZA→ZA→ZA→Prop
 |str {t:CS} {i:Nat} (hi:i≤t.length) (hl:t.length≤16000):JR σ (.str t) .none (.int i) .none (.str (t.take i))
 |but {t:CS} {c:Nat} (hl:t.length<16000):JR σ (.str (t++[c])) .none (.int (-1)) .none (.str t)
 |tup {xs:List ZA} {i:Nat} (h1:1≤i) (hi:i≤xs.length) (hl:xs.length≤16000):JR σ (.tup xs) (.int i) .none .none (.tup (xs.drop i))
 |lst {x:ZA} {xs:List ZA} (hx:LOf σ x xs) (l h t:Option Int) (h0:t≠some 0) (hl:xs.length≤16000):JR σ x (Ua l) (Ua h) (Ua t) (.lst ((Kr xs.length l h t).filterMap (xs[·]?)))
theorem IsPart.of{v:Value}{o:Option Int}:ZE W v (Ua o)→IsPart v o:=
 @Option.casesOn _ (λo=>ZE W v (Ua o)→IsPart v o) o (λh=>h.XW (P:=λv=>IsPart v none) .none) λi h=>ZE.YF (P:=λv=>IsPart v (some i)) h λt=>.int i t
theorem F2.pick{R:Value→ZA→Prop}{vs:Array Value}{xs:List ZA}(h:F2 R vs.toList xs):∀(is:List Nat),F2 R (is.filterMap (vs[·]?)) (is.filterMap (xs[·]?))
 | []=>trivial
 |i::is=>by
  have ih:=F2.pick h is
  rw[List.filterMap_cons,List.filterMap_cons]
  cases hx:xs[i]? with
  |none=>rw[Array.getElem?_eq_none (by rw[h.size];exact List.getElem?_eq_none_iff.mp hx)];exact ih
  |some x=>
   obtain⟨v,hv,hr⟩:=h.get hx
   rw[Z8s]at hv
   rw[hv];exact⟨hr,ih⟩
theorem Ze8(l:List Nat):∀{n:Nat},n≤l.length→(List.range n).filterMap (l[·]?)=l.take n
 |0,_=>rfl
 |n+1,h=>by
  rw[List.range_succ,List.filterMap_append,Ze8 l (Z8b h),List.take_add_one,List.filterMap_cons,Z8v h];rfl
theorem Zp0{t:CS}{i:Nat}{tk:Tok}(hi:i≤t.length):slicePicked (st t) none (some ((i:Int),tk)) none=List.range i:=by
 show Builtin.Str.strSliceIndices (some ((0:Nat):Int)) (some (i:Int)) 1 t.length=_
 rw[StrLaws.strSliceIndices_plain (a:=0) (b:=i) (len:=t.length) (Z8d _) hi]
 simp only[Nat.sub_zero,Nat.zero_add,List.map_id']
theorem Z0s{t:CS}{c:Nat}{tk:Tok}:slicePicked (st (t++[c])) none (some (-1,tk)) none=List.range t.length:=by
 have e:slicePicked (st (t++[c])) none (some (-1,tk)) none=slicePicked (st (t++[c])) none (some ((t.length:Int),tk)) none:=by
  unfold slicePicked Builtin.Str.strSliceIndices
  have hl:(st (t++[c])).length=t.length+1:=by rw[Yn,Z8j];rfl
  simp only[Option.map_some,hl]
  congr 1
  simp only[show((none:Option (Int×Tok)).map (·.1)).getD (1:Int)=1 from rfl,if_pos (show(1:Int) > 0 from by decide),if_pos (show(-1:Int)<0 from by decide),if_neg (show ¬((t.length:Int)<0)from Int.not_lt.mpr (Int.natCast_nonneg _))]
  congr 2
  omega
 rw[e]
 exact Zp0 (by rw[Z8j];exact Z71 _ _)
theorem Z3v{x l u t r:ZA}(e:JR σ x l u t r)(I:Inv X W σ s){v vl vu vt:Value}{sl:Addr}(hv:ZE W v x)(hl:ZE W vl l)(hu:ZE W vu u)(ht:ZE W vt t)(hs:s.heap.IsSliceOf sl vl vu vt)(h:Pst X W σ r Q):
  Zri s v∧wpAny (model pp X.w) A (getItem v (.ref sl)) Q E s:=by
 induction e with
 |@str t i hi hz=>
  obtain⟨tk,rfl⟩:=hv
  refine⟨⟨"str",_,typeIs_str _ _ _,F.slot_str_getitem.lookup⟩,?_⟩
  rw[hl.none,ht.none]at hs
  obtain⟨tk2,rfl⟩:=hu
  refine wpAny_getItem_str_slice (l:=none) (u:=some (i,tk2)) (st:=none) hs rfl ?_
  unfold sliceMade
  rw[Zp0 hi]
  have hp:(List.range i).filterMap ((PL.st t).cps[·]?)=t.take i:=(Z81 (List.filterMap · _) (funext λj=>Zi7)).trans (Ze8 t hi)
  split
  ·rename_i hb
   have hb:(List.range i).length=t.length:=Z84 (Bool.and_eq_true_iff.mp hb).2
   rw[List.length_range]at hb
   rw[hb,List.take_length]at h
   exact Pst.YR (s:=s) (tk:=s.toks) I h
  ·show(Made.str _).post Q s
   rw[hp]
   exact⟨by show(PL.st _).length≤_;rw[Yn,List.length_take];exact Z1 (Z7z (Nat.min_le_right _ _) hz),Pst.YR I h⟩
 |@but t c hz=>
  obtain⟨tk,rfl⟩:=hv
  refine⟨⟨"str",_,typeIs_str _ _ _,F.slot_str_getitem.lookup⟩,?_⟩
  rw[hl.none,ht.none]at hs
  obtain⟨tk2,rfl⟩:=hu
  refine wpAny_getItem_str_slice (l:=none) (u:=some (-1,tk2)) (st:=none) hs rfl ?_
  unfold sliceMade
  rw[Z0s]
  have hp:(List.range t.length).filterMap ((PL.st (t++[c])).cps[·]?)=t:=(Z81 (List.filterMap · _) (funext λj=>Zi7)).trans ((Ze8 (t++[c]) (by rw[Z8j];exact Z71 _ _)).trans List.take_left)
  split
  ·rename_i hb
   have hb:(List.range t.length).length=(t++[c]).length:=Z84 (Bool.and_eq_true_iff.mp hb).2
   rw[List.length_range,Z8j]at hb
   exact absurd hb (Nat.ne_of_lt (Z79 _))
  ·show(Made.str _).post Q s
   rw[hp]
   exact⟨by show(PL.st _).length≤_;rw[Yn];exact Z1 (Z8e hz),Pst.YR I h⟩
 |@tup xs i h1 hi hz=>
  obtain⟨a,rfl,vs,ha,hr⟩:=I.tup hv
  refine⟨⟨"tuple",_,ha.QI.typeIs,F.slot_tuple_getitem.lookup⟩,?_⟩
  rw[hu.none,ht.none]at hs
  obtain⟨tk2,rfl⟩:=hl
  exact PyProof.Rows.getItem_tuple_from (a:=i) ha.QI hs h1 (by rw[hr.size];exact hi) (Pst.Xu I h (hr.drop i)) (by rw[hr.size];exact Z1 hz)
 |lst hx o1 o2 o3 h0 hz=>
  obtain⟨a,rfl,vs,ha,hr⟩:=I.listOf hv hx
  refine⟨⟨"list",_,ha.isList.typeIs,F.slot_list_getitem.lookup⟩,wpAny_getItem_list_slice ha.isList hs (IsPart.of hl) (IsPart.of hu) (IsPart.of ht) h0 (Pst.X7 I h ?_) (by rw[hr.size];exact Z1 hz)⟩
  have:=F2.pick hr (Kr vs.size o1 o2 o3)
  rw[hr.size]at this
  unfold slicePick
  rw[List.toList_toArray,hr.size]
  exact this
end
end PL
end
section
open PySem PySem.W PyProof.Rows
open scoped Classical
namespace PL
def Z6g(ns r:List Int):Prop:=∀{prog:Program}{w:World}{A:Around}{E:Value→Shared→Prop}{s:Shared}{l:Addr}{vs:List Value}{Q:Value→Shared→Prop},s.heap.IsList l vs.toArray→IntsAre vs ns→
 (∀out:Array Value,IntsAre out.toList r→Q (.ref (s.heap.objs.size+1)) { s with heap:=sortedAll s.heap vs out })→wpAny (model prog w) A (call (.builtin "sorted") [.ref l]) Q E s
theorem Zok{ns:List Int}(h:ns.length<64):Z6g ns (ns.mergeSort λa b=>decide (a≤b)):=by
 intro prog w A E s l vs Q hl hI hQ
 refine sorted_ints hl hI (by rw[hI.length];exact h) λout ns' h1 h2 h3=>hQ out ?_
 have hp:=List.pairwise_mergeSort (le:=λa b:Int=>decide (a≤b)) (λa b c h1 h2=>Z82 (Int.le_trans (of_decide_eq_true h1) (of_decide_eq_true h2))) (λa b=>by simp[Int.le_total]) ns
 have e:ns'=ns.mergeSort λa b=>decide (a≤b):=List.Perm.eq_of_pairwise (le:=(·≤·)) (λa b Z Z h1 h2=>Int.le_antisymm h1 h2) h3 (hp.imp λh=>of_decide_eq_true h) (h2.trans (List.mergeSort_perm ns _).symm)
 rwa[←e]
noncomputable def VS(ns:List Int):List Int:=ns.mergeSort (λa b=>decide (a≤b))
theorem Z0t{ns:List Int}(hz:ns.length<64):Z6g ns (VS ns):=λ{_ _ _ _ _ _ _ _} a b c=>Zok hz a b c
theorem Zxf(a b:Int):VS [a,b]=if a≤b then[a,b]else[b,a]:=by
 have hm:=List.mergeSort_perm [a,b] λa b=>decide (a≤b)
 have hp:=List.pairwise_mergeSort (le:=λa b:Int=>decide (a≤b)) (λa b c h1 h2=>Z82 (Int.le_trans (of_decide_eq_true h1) (of_decide_eq_true h2))) (λa b=>by simp[Int.le_total]) [a,b]
 unfold VS
 refine List.Perm.eq_of_pairwise (le:=(·≤·)) (λa b Z Z h1 h2=>Int.le_antisymm h1 h2) (hp.imp λh=>of_decide_eq_true h) ?_ (hm.trans ?_)
 ·split
  ·rename_i h;simpa using h
  ·rename_i h;simpa using Int.le_of_not_le h
 ·split
  ·exact .refl _
  ·exact .swap ..
theorem Zu9{W:Wd}:∀{is:List Int}{us:List Value},ZF W us (is.map .int)→IntsAre us is
 | [],us,h=>by rw[F2.QL h];exact .nil
 |i::is,us,h=>by
  obtain⟨u,us,rfl,⟨t,rfl⟩,h2⟩:=F2.cons_right h
  exact .cons _ _ (Zu9 h2)
theorem Zsl{W:Wd}{us:List Value}{is:List Int}(h:IntsAre us is):ZF W us (is.map .int):=by
 induction h with
 |nil=>trivial
 |cons n t _ ih=>exact⟨ZE.ints n t,ih⟩
theorem Zvl(h:Heap):h.get? (h.objs.size+1)=none:=Option.eq_none_iff_forall_ne_some.mpr λZ e=>Nat.lt_irrefl _ (Nat.lt_trans (Z79 _) (Heap.lt_size e))
theorem Z00{X:Cx}{W:Wd}{σ:St}{s:Shared}{A:Around}{E:Value→Shared→Prop}{Q:Value→Shared→Prop}{l:Addr}{us:Array Value}{is:List Int}(I:Inv X W σ s)(hl:s.heap.IsList l us)(hr:ZF W us.toList (is.map .int))(hz:is.length<64)
  (h:Pst X W σ (.lst ((VS is).map .int)) Q):wpAny (model pp X.w) A (call (.builtin "sorted") [.ref l]) Q E s:=by
 refine Z0t hz (vs:=us.toList) (by rw[Array.toArray_toList];exact hl) (Zu9 hr) λout ho=>?_
 obtain⟨e,he⟩:=sortedAll_at s.heap us.toList out
 exact Pst.X2 (tk:=s.toks) I h (λZ Z=>sortedAll_old) (Zvl _) ⟨e,he⟩ (Zsl ho)
end PL
end
section
open PySem PySem.W PyProof.Rows PySem.SeqAt
open scoped Classical
namespace PL
section
variable{X:Cx}{W:Wd}{σ:St}{s:Shared}{A:Around}{E:Value→Shared→Prop}{Q:Value→Shared→Prop}
section
variable{α β:Type}{R:α→β→Prop}
@[elab_as_elim]theorem F2.e0{P:List α→Prop}{as:List α}(x:F2 R as [])(f:P []):P as:=@List.casesOn α (λas=>F2 R as []→P as) as (λZ=>f) (λZ Z x=>x.elim) x
@[elab_as_elim]theorem F2.e1{P:List α→Prop}{b:β}{as:List α}(x:F2 R as [b])(f:∀a,R a b→P [a]):P as:=
 @List.casesOn α (λas=>F2 R as [b]→P as) as (λx=>x.elim) (λa as x=>@F2.e0 α β R (λas=>P (a::as)) as x.2 (f a x.1)) x
@[elab_as_elim]theorem F2.e2{P:List α→Prop}{b c:β}{as:List α}(x:F2 R as [b,c])(f:∀a a',R a b→R a' c→P [a,a']):P as:=
 @List.casesOn α (λas=>F2 R as [b,c]→P as) as (λx=>x.elim) (λa as x=>@F2.e1 α β R (λas=>P (a::as)) c as x.2 λa' h=>f a a' x.1 h) x
end
theorem ZF.ints{is:List Int}:∀{vs:List Value},ZF W vs (is.map .int)→∃ps:List (Int×Tok),vs=ps.map (λp=>Value.int p.1 p.2)∧ps.map (·.1)=is:=
 @List.rec Int (λis=>∀{vs:List Value},ZF W vs (is.map .int)→∃ps:List (Int×Tok),vs=ps.map (λp=>Value.int p.1 p.2)∧ps.map (·.1)=is) (λh=>F2.e0 h ⟨[],rfl,rfl⟩)
  (λi is ih {vs} h=>by
   obtain⟨v,vs,rfl,⟨t,rfl⟩,h2⟩:=F2.cons_right h
   obtain⟨ps,e1,e2⟩:=ih h2
   exact⟨(i,t)::ps,by rw[Z8o,←e1],by rw[Z8o,e2]⟩) is
theorem ZF.intItems{vs:Array Value}{is:List Int}(h:ZF W vs.toList (is.map .int)):∃ps:Array (Int×Tok),vs=PySem.intItems ps∧ps.toList.map (·.1)=is:=by
 obtain⟨ps,h1,h2⟩:=ZF.ints h
 refine⟨ps.toArray,?_,h2⟩
 unfold PySem.intItems
 rw[←Array.toArray_toList (xs:=vs),h1,List.map_toArray]
theorem Zft{ps:Array (Int×Tok)}{is:List Int}(h:ps.toList.map (·.1)=is){j:Nat}(hj:j<ps.size):is[j]? = some (numAt ps j):=by
 rw[←h,List.getElem?_map,Z8s,Z8t hj]
 unfold numAt
 rw[Z8t hj];rfl
theorem Zdb:∀(is:List Int)(i:Int),(i≤is.foldl max i∧∀j∈is,j≤is.foldl max i)∧(is.foldl max i=i∨is.foldl max i∈is)
 | [],i=>⟨⟨Int.le_refl _,λZ h=>(nomatch h)⟩,.inl rfl⟩
 |j::is,i=>by
  obtain⟨⟨h1,h2⟩,h3⟩:=Zdb is (max i j)
  rw[List.foldl_cons]
  refine⟨⟨Int.le_trans (Int.le_max_left ..) h1,λk hk=>(Z8k.mp hk).elim (λq=>by rw[q];exact Int.le_trans (Int.le_max_right ..) h1) (h2 k)⟩,?_⟩
  rcases h3 with h3 | h3
  ·rcases Int.le_total i j with q | q
   ·right;rw[h3,Int.max_eq_right q];exact Z8g
   ·left;rw[h3,Int.max_eq_left q]
  ·right;exact Z8h _ h3
theorem Zsd{j n:Nat}(h:j≤n-1)(hn:0<n):j<n:=by omega
theorem Z47(hh:A.handled=none)(I:Inv X W σ s){l:Addr}{vs:Array Value}{i:Int}{is:List Int}(hl:s.heap.IsList l vs)(hr:ZF W vs.toList ((i::is).map .int))(h:Pst X W σ (.int (is.foldl max i)) Q):wpAny (model pp X.w) A (call (.builtin "max") [.ref l]) Q E s:=by
 obtain⟨ps,rfl,hp⟩:=ZF.intItems hr
 have hs:ps.size=(i::is).length:=by rw[←hp,Z8i,Z8u]
 have hne:0<ps.size:=hs▸Nat.succ_pos _
 refine max_intList hh hl hne λv h' tk hv hk=>?_
 obtain⟨t,ht⟩:=intItems_at hv
 have hb:=argBest_gt (numAt ps) (ps.size-1)
 have hm:=Z89 (Zft hp (Zsd hb.1 hne))
 obtain⟨⟨m1,m2⟩,m3⟩:=Zdb is i
 obtain⟨j,hj⟩:=List.mem_iff_getElem?.mp (m3.elim (λq=>by rw[q];exact Z8g) (Z8h i))
 have hjs:j<ps.size:=hs▸(Z8w.mp hj).1
 rw[ht,Int.le_antisymm ((Z8k.mp hm).elim (λq=>by rw[q];exact m1) (m2 _)) (Z8q (hj.symm.trans (Zft hp hjs))▸hb.2 j (Nat.le_sub_one_of_lt hjs))]
 exact h W _ _ (LeX.refl [] W) (I.keeps hk) (.ints ..)
theorem Z3k(hh:A.handled=none)(I:Inv X W σ s){l:Addr}{vs:Array Value}{is:List Int}(hl:s.heap.IsList l vs)(hr:ZF W vs.toList (is.map .int))(h:Pst X W σ (.int is.sum) Q):wpAny (model pp X.w) A (call (.builtin "sum") [.ref l]) Q E s:=by
 obtain⟨ps,rfl,hp⟩:=ZF.intItems hr
 have hs:ps.size=is.length:=by rw[←hp,Z8i,Z8u]
 refine sum_intListG hh hl λh' tk t' hk=>?_
 rw[preSum_eq,hp,hs,List.take_length]
 exact h W _ _ (LeX.refl [] W) (I.keeps hk) (.ints ..)
theorem Inv.its(I:Inv X W σ s){v:Value}{x:ZA}{xs:List ZA}(h:ZE W v x)(hx:Its σ x xs):∃a,v=.ref a∧∃vs,ZF W vs.toList xs∧(s.heap.PlainList a vs∨(Kf s.heap a vs∧x=.tup xs)):=by
 cases hx with
 |tup=>obtain⟨a,e,vs,h1,h2⟩:=I.tup h;exact⟨a,e,vs,h2,.inr ⟨h1,rfl⟩⟩
 |lst hl=>obtain⟨a,e,vs,h1,h2⟩:=I.listOf h hl;exact⟨a,e,vs,h2,.inl h1⟩
theorem Zen(n:Nat):Str.ofString (toString (n:Int))=st (ZQ n):=by
 show Str.ofString (Nat.repr n)=_
 rw[Str.ofString_eq_toList]
 unfold ZQ GW
 rw[if_neg (Int.not_lt.mpr (Int.natCast_nonneg n)),Nat.repr,String.toList_ofList];rfl
theorem Zje{n:Nat}(h:n<1000000000):((n:Int).natAbs).log2<1920:=by
 rw[Int.natAbs_natCast]
 by_cases h0:n=0
 ·rw[h0];decide
 ·exact Nat.lt_trans ((Nat.log2_lt (k:=31) h0).mpr (Nat.lt_trans h (by decide))) (by decide)
theorem Zi1:∀(t:CS)(a n:Nat),Zrm t a=some n→(∀c∈t,48≤c∧c≤57)∧n=t.foldl (λacc c=>acc*10+(c-48)) a
 | [],a,n,h=>⟨λZ h=>(nomatch h),(Z8q h).symm⟩
 |c::r,a,n,h=>by
  unfold Zrm at h
  by_cases hc:48≤c∧c≤57
  ·rw[if_pos hc]at h
   obtain⟨h1,h2⟩:=Zi1 r _ _ h
   exact⟨λd hd=>(Z8k.mp hd).elim (λe=>e▸hc) (h1 d),h2⟩
  ·rw[if_neg hc]at h;exact nomatch h
theorem D0{n:Nat}(h:n≤16000):(n:Int)<2 ^ 63:=by omega
inductive Xo(σ:St):String→Value→List ZA→ZA→Prop
 |Ug {t:CS} (hl:t.length≤16000):Xo σ "len" (.builtin "len") [.str t] (.int t.length)
 |len {x:ZA} {xs:List ZA} (h:Its σ x xs) (hl:xs.length≤16000):Xo σ "len" (.builtin "len") [x] (.int xs.length)
 |tuple {x:ZA} {xs:List ZA} (h:Its σ x xs) (hl:xs.length≤16000):Xo σ "tuple" (.type "tuple") [x] (.tup xs)
 |list {x:ZA} {xs:List ZA} (h:LOf σ x xs) (hl:xs.length≤16000):Xo σ "list" (.type "list") [x] (.lst xs)
 |sum {xs:List ZA} {is:List Int} (h:xs=is.map .int):Xo σ "sum" (.builtin "sum") [.lst xs] (.int is.sum)
 |max {xs:List ZA} {i:Int} {is:List Int} (h:xs=(i::is).map .int):Xo σ "max" (.builtin "max") [.lst xs] (.int (is.foldl max i))
 |max2 (i j:Int):Xo σ "max" (.builtin "max") [.int i,.int j] (.int (max i j))
 |sorted {x:ZA} {xs:List ZA} {is:List Int} (hx:LOf σ x xs) (h:xs=is.map .int) (hl:is.length<64):Xo σ "sorted" (.builtin "sorted") [x] (.lst ((VS is).map .int))
 |GD (i:Int):Xo σ "int" (.type "int") [.int i] (.int i)
 |GC {t:CS} {n:Nat} (h:Zrm t 0=some n) (h0:t≠[]) (hl:t.length≤9):Xo σ "int" (.type "int") [.str t] (.int n)
 |V5 {n:Nat} (h:n<1000000000):Xo σ "str" (.type "str") [.int n] (.str (ZQ n))
noncomputable def Zz1(f:String):Bool:=f != "sum"&&(f != "max"&&f != "min")
theorem Z54{f:String}{fv:Value}{xs:List ZA}{r:ZA}(hh:Zz1 f=false→A.handled=none)(e:Xo σ f fv xs r)(I:Inv X W σ s){vs:List Value}(hv:ZF W vs xs)(h:Pst X W σ r Q):wpAny (model pp X.w) A (call fv vs) Q E s:=by
 induction e with
 |Ug hl=>exact hv.e1 λv hv1=>hv1.QM λt=>P.len_str (by rw[Yn];exact Int.not_le.mpr (D0 hl)) (Pst.QD (s:=s) (tk:=s.toks+1+1) I h)
 |len hx hl=>
  refine hv.e1 λv hv1=>?_
  obtain⟨a,rfl,us,hr,hl'⟩:=I.its hv1 hx
  have hz:=D0 hl
  rw[←hr.size]at h hz
  rcases hl' with hl' | ⟨⟨n,hl'⟩,Z⟩
  ·exact Calls.call_len_list hl'.isList hz (Pst.QD (s:=s) (tk:=s.toks+1+1) I h)
  ·exact P.len_tuple hl' (Int.not_le.mpr hz) (Pst.QD (s:=s) (tk:=s.toks+1+1) I h)
 |tuple hx hl=>
  refine hv.e1 λv hv1=>?_
  obtain⟨a,rfl,us,hr,hl'⟩:=I.its hv1 hx
  have hz:=Z1 hl
  rw[←hr.size]at hz
  rcases hl' with hl' | ⟨hl',e⟩
  ·exact call_tuple_list hl'.isList (λh' hk=>Pst.KP (tk:=s.toks) (h':=h'.push _) I h (λb o eo=>Z8x _ (hk b o eo))
    (Option.eq_none_iff_forall_ne_some.mpr λo q=>Nat.lt_irrefl _ (Heap.lt_size (hk _ _ q))) ⟨0,Z8y _ rfl⟩ hr) hz
  ·exact call_tuple_same hl'.QI (h.mk I (e▸hv1))
 |list hx hl=>
  refine hv.e1 λv hv1=>?_
  obtain⟨a,rfl,us,⟨n,hl'⟩,hr⟩:=I.listOf hv1 hx
  exact call_list_seq a (.inl rfl) hl' rfl rfl (λh' c' hk hD=>Pst.X2 (tk:=s.toks) I h hk (Z5 _) ⟨c',hD⟩ hr) (by rw[hr.size];exact Z1 hl)
 |sum e=>
  refine hv.e1 λv hv1=>?_
  obtain⟨a,rfl,us,hl,hr⟩:=I.lst hv1
  exact Z3k (hh rfl) I hl.isList (e▸hr) h
 |max e=>
  refine hv.e1 λv hv1=>?_
  obtain⟨a,rfl,us,hl,hr⟩:=I.lst hv1
  exact Z47 (hh rfl) I hl.isList (e▸hr) h
 |max2 i j=>
  refine hv.e2 λv v' hv1 hv2=>hv1.YF λt=>hv2.YF λt'=>max_two_ints (hh rfl) λh' tk hk=>?_
  by_cases q:j > i
  ·rw[if_pos q];rw[Int.max_eq_right (Int.le_of_lt q)]at h
   exact h W _ _ (LeX.refl [] W) (I.keeps hk) (.ints ..)
  ·rw[if_neg q];rw[Int.max_eq_left (Int.not_lt.mp q)]at h
   exact h W _ _ (LeX.refl [] W) (I.keeps hk) (.ints ..)
 |sorted hx e hl=>
  refine hv.e1 λv hv1=>?_
  obtain⟨a,rfl,us,hl',hr⟩:=I.listOf hv1 hx
  exact Z00 I hl'.isList (e▸hr) hl h
 |GD i=>exact hv.e1 λv hv1=>hv1.YF λt=>call_int_int (Pst.QD (s:=s) (tk:=s.toks) I h)
 |@GC t n hn h0 hl=>
  refine hv.e1 λv hv1=>hv1.QM λtk=>?_
  obtain⟨h1,h2⟩:=Zi1 _ _ _ hn
  refine PySem.W.KIN.call_text (n:=(n:Int)) ?_ (Z7z (show(st t).length≤9 from hl) (Z78 rfl)) (Pst.QD I h)
  rw[PySem.intText_digits (show ∀c∈(st t).cps.toList,_ from h1) (show(st t).cps.toList≠[]from h0) (by rw[Yn];exact Z7z hl (Z78 rfl)),h2];rfl
 |V5 hn=>exact hv.e1 λv hv1=>hv1.YF λt=>P.str_of_int (Zje hn) (by show Q (.str (Str.ofString (toString _)) _) _;rw[Zen];exact Pst.YR I h)
structure BN(f:String)(fv:Value):Prop where
 has:Zlw.contains f=true
 is:bootBuiltins (Str.ofString f)=some fv
 ne:(Str.ofString f=="__name__")=false
 callee:(∃id,fv=.builtin id)∨∃T,fv=.type T
theorem Xo.name{f:String}{fv:Value}{xs:List ZA}{r:ZA}(e:Xo σ f fv xs r):BN f fv:=by
 induction e with
 |Ug=>exact⟨rfl,by kernel_rfl,by kernel_rfl,.inl ⟨_,rfl⟩⟩
 |len=>exact⟨rfl,by kernel_rfl,by kernel_rfl,.inl ⟨_,rfl⟩⟩
 |tuple=>exact⟨rfl,by kernel_rfl,by kernel_rfl,.inr ⟨_,rfl⟩⟩
 |list=>exact⟨rfl,by kernel_rfl,by kernel_rfl,.inr ⟨_,rfl⟩⟩
 |sum=>exact⟨rfl,by kernel_rfl,by kernel_rfl,.inl ⟨_,rfl⟩⟩
 |max=>exact⟨rfl,by kernel_rfl,by kernel_rfl,.inl ⟨_,rfl⟩⟩
 |max2=>exact⟨rfl,by kernel_rfl,by kernel_rfl,.inl ⟨_,rfl⟩⟩
 |sorted=>exact⟨rfl,by kernel_rfl,by kernel_rfl,.inl ⟨_,rfl⟩⟩
 |GD=>exact⟨rfl,by kernel_rfl,by kernel_rfl,.inr ⟨_,rfl⟩⟩
 |GC=>exact⟨rfl,by kernel_rfl,by kernel_rfl,.inr ⟨_,rfl⟩⟩
 |V5=>exact⟨rfl,by kernel_rfl,by kernel_rfl,.inr ⟨_,rfl⟩⟩
end
end PL
end
section
open PySem PySem.W PyProof.Rows PySem.SeqAt
open scoped Classical
open PySem.Builtin.Str (tooLong)
namespace PL
section
variable{X:Cx}{W:Wd}{σ σ':St}{s:Shared}{A:Around}{E:Value→Shared→Prop}{Q:Value→Shared→Prop}
theorem F2.take{α β:Type}{R:α→β→Prop}(n:Nat){as:List α}{bs:List β}(x:F2 R as bs):F2 R (as.take n) (bs.take n):=
 @F2.ind α β R (λas bs=>∀n,F2 R (as.take n) (bs.take n)) (λn=>by rw[List.take_nil,List.take_nil];trivial) (λa as b bs r x ih n=>@Nat.casesOn (λn=>F2 R ((a::as).take n) ((b::bs).take n)) n trivial λn=>⟨r,ih n⟩) as bs x n
theorem Inv.XR(I:Inv X W σ s){a:Addr}{id:Nat}{xs:List ZA}{vs:Array Value}{h':Heap}{tk:Nat}(hW:W a=.own id)(hsb:Heap.SameBut a s.heap h')(hl:h'.PlainList a vs)(hr:ZF W vs.toList xs):
  Inv X W (σ.put id (.list xs)) { s with heap:=h',toks:=tk }:=I.upd hW (.inl hW) hsb (hl.elim λZ e=>⟨_,e⟩) ⟨vs,hl,hr⟩
section
variable{u v:Value}{id:Nat}{xs:List ZA}
theorem Z6d(I:Inv X W σ s){x:ZA}(hu:ZE W u (.ref id))(he:σ.f id=some (.list xs))(hv:ZE W v x)(hl:xs.length≤16000)(h:Pst X W (σ.put id (.list (xs++[x]))) .none Q):wpAny (model pp X.w) A (call (.builtin "list.append") [u,v]) Q E s:=by
 obtain⟨a,rfl,hW,us,hl',hr⟩:=I.obj hu he
 exact wpAny_list_append_plain hl' (λh' hl' hsb=>h W _ _ (LeX.refl [] W) (I.XR (tk:=s.toks) hW hsb hl' (by rw[Array.toList_push];exact hr.append (.one hv))) rfl) (by rw[hr.size];exact Z1 hl)
theorem Z5r(I:Inv X W σ s){j:Nat}{ys:List ZA}(hu:ZE W u (.ref id))(he:σ.f id=some (.list xs))(hv:ZE W v (.ref j))(hj:σ.f j=some (.list ys))(hne:j≠id)(hl:xs.length+ys.length≤16000)(h:Pst X W (σ.put id (.list (xs++ys))) .none Q):
  wpAny (model pp X.w) A (call (.builtin "list.extend") [u,v]) Q E s:=by
 obtain⟨a,rfl,hW,us,⟨n,hla⟩,hr⟩:=I.obj hu he
 obtain⟨b,rfl,hWb,ws,⟨nb,hlb⟩,hrb⟩:=I.obj hv hj
 have z1:us.size≤16000:=by rw[hr.size];exact Z7z (Z71 ..) hl
 have z2:ws.size≤16000:=by rw[hrb.size];exact Z7z (Z72 ..) hl
 refine call_meets F.slot_list_extend ⟨_,hla,rfl⟩ F.entry_list_extend (F.args_list_extend_2 _ _) (AutoSeq1.list_extend_list_list_0 a us n b ws nb (PyProof.Rows.extend_door ?_) ?_ ?_) ⟨hla,hlb,?_⟩
 ·exact Z1 (by rw[hr.size,hrb.size];exact hl)
 ·exact Z1 z1
 ·exact Nat.le_succ_of_le (Z1 (by rw[hr.size,hrb.size];exact hl))
 ·exact h W _ _ (LeX.refl [] W) (I.XR (tk:=s.toks) hW (Heap.SameBut.update ..) ⟨_,PySem.IsL.update hla _⟩ (by rw[Array.toList_append];exact hr.append hrb)) rfl
theorem Zsu{us:Array Value}(h:0<us.size):(us.eraseIdxIfInBounds (us.size-1)).toList=us.toList.take (us.size-1):=by
 have hn:us.size-1<us.size:=Nat.sub_one_lt_of_lt h
 rw[Array.eraseIdxIfInBounds,dif_pos hn,Array.toList_eraseIdx,List.eraseIdx_eq_take_drop_succ,List.drop_eq_nil_iff.mpr (by rw[Z8u,Nat.sub_one_add_one (Nat.ne_of_gt h)];exact Z70 _),List.append_nil]
theorem Z36(I:Inv X W σ s){x:ZA}(hu:ZE W u (.ref id))(he:σ.f id=some (.list (xs++[x])))(hl:xs.length<16000)(h:Pst X W (σ.put id (.list xs)) x Q):wpAny (model pp X.w) A (call (.builtin "list.pop") [u]) Q E s:=by
 obtain⟨a,rfl,hW,us,⟨n,hla⟩,hr⟩:=I.obj hu he
 have hz:us.size=xs.length+1:=by rw[hr.size,Z8j];rfl
 have hn:0<us.size:=hz▸Nat.succ_pos _
 have hp:us.size-1=xs.length:=hz▸rfl
 have DG:us.toList[us.size-1]? = some us[us.size-1]:=by rw[Z8s,Z8t]
 obtain⟨x',hx',DB⟩:=hr.get' DG
 rw[hp,List.getElem?_concat_length]at hx'
 rw[←Z8q hx']at DB
 refine call_meets F.slot_list_pop ⟨_,hla,rfl⟩ F.entry_list_pop (F.args_list_pop_1 _) (PySem.MeetsSeq.list_pop_last a us n us[us.size-1] (Z8t _) (Z1 (by rw[hz];exact hl))) ⟨hla,?_⟩
 refine h W _ _ (LeX.refl [] W) (I.XR (tk:=s.toks) hW (Heap.SameBut.update ..) ⟨_,PySem.IsL.update hla _⟩ ?_) DB
 rw[Zsu hn,hp]
 have:=F2.take xs.length hr
 rwa[show(xs++[x]).take xs.length=xs from List.take_left' rfl]at this
end
theorem Zo8(c:Nat)(hc:c<128):Unicode.isSpace c=Zco c:=
 have:∀c:Fin 128,Unicode.isSpace c.1=Zco c.1:=by decide +kernel
 this ⟨c,hc⟩
theorem Zo6{c:Nat}(h:c<128):Txt.isspace (st [c])=Zco c:=by
 rw[←Zo8 c h]
 simp[Txt.isspace,st,Str.length]
theorem Zdw(c:Nat):∀(p:CS),c∉p→Zp c p=[p]
 | [],_=>rfl
 |x::p,h=>by
  unfold Zp
  rw[if_neg λq=>h (by rw[q];exact Z8g),Zdw c p λq=>h (Z8h _ q)]
theorem Zfm(c:Nat)(r:CS):∀(p:CS),c∉p→Zp c (p++c::r)=p::Zp c r
 | [],_=>by rw[List.nil_append];conv=>lhs;unfold Zp;rw[if_pos rfl]
 |x::p,h=>by
  rw[List.cons_append]
  conv=>lhs;unfold Zp
  rw[if_neg λq=>h (by rw[q];exact Z8g),Zfm c r p λq=>h (Z8h _ q)]
theorem Zdv(c:Nat):∀(ps:List CS),ps≠[]→(∀p∈ps,c∉p)→Zp c (Yg [c] ps)=ps
 | [],h,_=>absurd rfl h
 | [p],_,h=>Zdw c p (h p Z8g)
 |p::q::r,_,h=>by
  show Zp c (p++[c]++Yg [c] (q::r))=_
  rw[Z8n,List.singleton_append,Zfm c _ p (h p Z8g),Zdv c (q::r) (List.cons_ne_nil _ _) λx hx=>h x (Z8h _ hx)]
theorem Zpz:∀l:List Str,∃cs:List CS,l=cs.map st
 | []=>⟨[],rfl⟩
 |x::l=>(Zpz l).elim λcs e=>⟨x.cps.toList::cs,by rw[Z8o,←e];rfl⟩
noncomputable def Zrq(sep:CS)(r:List CS):CS:=(r.map λq=>sep++q).flatten
theorem Zfe(sep:CS):∀(r:List CS)(p:CS),Yg sep (p::r)=p++Zrq sep r
 | [],p=>(List.append_nil p).symm
 |q::r,p=>by
  show p++sep++Yg sep (q::r)=_
  rw[Zfe sep r q,Z8n]
  show _=p++((sep++q)++Zrq sep r)
  rw[Z8n]
theorem Zne(sep:CS):∀(r:List CS)(acc:CS),(r.map st).foldl (λa q=>a++(st sep).cps++q.cps) acc.toArray=(acc++Zrq sep r).toArray
 | [],acc=>by rw[show Zrq sep []=[]from rfl,List.append_nil];rfl
 |q::r,acc=>by
  rw[Z8o,List.foldl_cons,show acc.toArray++(st sep).cps++(st q).cps=(acc++(sep++q)).toArray by rw[show(st sep).cps=sep.toArray from rfl,show(st q).cps=q.toArray from rfl,List.append_toArray,List.append_toArray,Z8n],Zne sep r,Z8n];rfl
theorem Zqv(sep:CS):∀(ps:List CS),Builtin.Str.glued (st sep) (ps.map st)=st (Yg sep ps)
 | []=>rfl
 |p::r=>by
  unfold Builtin.Str.glued
  rw[Zfe]
  exact Z81 Str.mk (Zne sep r p)
theorem Zxh(x:CS)(c:Nat):(Txt.split (st x) ⟨#[c]⟩)=(Zp c x).map st:=by
 obtain⟨cs,hcs⟩:=Zpz (Txt.split (st x) ⟨#[c]⟩)
 have h1:=StrLaws.join_split (st x) ⟨#[c]⟩
 have h2:=StrLaws.split_free (st x) c
 rw[hcs]at h1 h2
 rw[show Str.join ⟨#[c]⟩ (cs.map st)=st (Yg [c] cs)from(StrLaws.glued_eq_join ..).symm.trans (Zqv [c] cs)]at h1
 have h1:=Zp1 h1
 have hne:cs≠[]:=by
  rintro rfl
  rw[show x=[]from h1.symm]at hcs
  have e:Txt.split (st []) ⟨#[c]⟩=[st []]:=by unfold Txt.split;rfl
  exact nomatch e.symm.trans hcs
 rw[hcs,←h1,Zdv c cs hne λp hp hc=>h2 (st p) (List.mem_map_of_mem hp) hc]
theorem ZF.strs:∀{ys:List CS}{vs:List Value},ZF W vs (ys.map .str)→∃l:List (Str×Tok),vs=strValues l∧l.map (·.1)=ys.map st
 | [],_,h=>F2.e0 h ⟨[],rfl,rfl⟩
 |y::ys,_,h=>by
  obtain⟨v,vs,rfl,⟨t,rfl⟩,h2⟩:=F2.cons_right h
  obtain⟨ps,e1,e2⟩:=ZF.strs h2
  exact⟨(st y,t)::ps,by rw[e1];rfl,by rw[Z8o,Z8o,e2]⟩
theorem ZF.ofStrs:∀{l:List (Str×Tok)} {ys:List CS},l.map (·.1)=ys.map st→ZF W (strValues l) (ys.map .str)
 | [],[],_=>trivial
 |p::l,y::ys,h=>⟨⟨p.2,by rw[←(List.cons.inj h).1]⟩,ZF.ofStrs (List.cons.inj h).2⟩
 | [],_::_,h=>nomatch h
 |_::_,[],h=>nomatch h
theorem Zmc(sep:CS):∀r:List CS,(Zrq sep r).length=r.length*sep.length+(r.map List.length).sum
 | []=>by rw[List.length_nil,Nat.zero_mul];rfl
 |q::r=>by
  show((sep++q)++Zrq sep r).length=_
  rw[Z8j,Z8j,Zmc sep r,Z8o,List.sum_cons,Z8p,Nat.succ_mul]
  lia
theorem Zu7(sep:CS):∀ps:List CS,(ps.map List.length).sum≤(Yg sep ps).length
 | []=>Z8d _
 |p::r=>by rw[Zfe,Z8j,Zmc,Z8o,List.sum_cons];lia
theorem Zqz(sep:CS):∀(ps:List CS)(n:Nat),(ps.map st).foldl (λa p=>a+p.length+(st sep).length) n=n+(ps.map List.length).sum+ps.length*sep.length
 | [],n=>by rw[List.length_nil,Nat.zero_mul];rfl
 |p::ps,n=>by
  rw[Z8o,List.foldl_cons,Zqz sep ps,Yn,Yn,Z8o,List.sum_cons,Z8p,Nat.succ_mul]
  lia
theorem Z3r{x y:Str}{t u:Tok}(hy:(y.length==0)=false)(h:∀l k,l.map (·.1)=Txt.split x y→Q (.ref s.heap.objs.size) { s with heap:=s.heap.push { cls:=.type "list",data:=.seq (strValues l).toArray },toks:=k })
  (hsz:x.length+2≤sizeLine):wpAny (model pp X.w) A (call (.builtin "str.split") [.str x t,.str y u]) Q E s:=by
 have hn:(Builtin.Str.partsBetween x (Builtin.Str.occurrences x y 0 x.length (x.length+1)) y.length).length≤sizeLine:=by
  have e1:=StrLaws.occ_length_le x y 0 x.length (x.length+1)
  rw[PyProof.Rows.len_partsBetween];lia
 cases h1:(decide (x.length<y.length) || decide (Builtin.Str.strKind x<Builtin.Str.strKind y))
 ·cases hf:(Builtin.Str.occurrences x y 0 x.length (x.length+1)).isEmpty
  ·refine call_meets F.slot_str_split (typeIs_str _ _ _) F.entry_str_split (F.args_str_split_2 _ _) (meets_str_split_sep x y t u h1 hy hf (Z8b (Z8b hsz)) hn) ?_
   show wants Q E _ { s with toks:=_,heap:=s.heap.push { cls:=.type "list",data:=.seq (strsFrom s.toks (Builtin.Str.partsBetween x (Builtin.Str.occurrences x y 0 x.length (x.length+1)) y.length)).toArray } }
   rw[strsFrom_eq]
   exact h (numbered s.toks _) _ ((numbered_texts _ _).trans ((if_neg (ne_true_of_eq_false h1)).trans (if_neg (ne_true_of_eq_false hf))).symm)
  ·exact call_meets F.slot_str_split (typeIs_str _ _ _) F.entry_str_split (F.args_str_split_2 _ _) (meets_str_split_not_found x y t u h1 hy hf)
    (h [(x,t)] s.toks ((if_neg (ne_true_of_eq_false h1)).trans (if_pos hf)).symm)
 ·exact call_meets F.slot_str_split (typeIs_str _ _ _) F.entry_str_split (F.args_str_split_2 _ _) (meets_str_split_cannot_occur x y t u h1)
   (h [(x,t)] s.toks (if_pos h1).symm)
theorem Zxg(I:Inv X W σ s){t:CS}{c:Nat}{u v:Value}(hu:ZE W u (.str t))(hv:ZE W v (.str [c]))(hl:t.length≤16000)(h:Pst X W σ (.lst ((Zp c t).map .str)) Q):wpAny (model pp X.w) A (call (.builtin "str.split") [u,v]) Q E s:=by
 obtain⟨tk,rfl⟩:=hu
 obtain⟨tk',rfl⟩:=hv
 exact Z3r (y:=st [c]) rfl (λl k hl=>Pst.X2 (tk:=k) I h (λZ Z e=>Z8x _ e) (Z5 _) ⟨0,Z8y _ rfl⟩ (ZF.ofStrs (hl.trans (Zxh t c))))
  (Z7z (Z77 (show(st t).length≤16000 from hl) 2) (by rw[sizeLine_eq];exact Z78 rfl))
theorem Z2a(I:Inv X W σ s){t:CS}{ys:List CS}{xs:List ZA}{u v:Value}(hu:ZE W u (.str t))(hv:ZE W v (.lst xs))(hx:xs=ys.map .str)(h1:(Yg t ys).length≤16000)(h2:ys.length≤16000)(h3:t.length≤1)(h:Pst X W σ (.str (Yg t ys)) Q):
  wpAny (model pp X.w) A (call (.builtin "str.join") [u,v]) Q E s:=by
 obtain⟨tk,rfl⟩:=hu
 obtain⟨a,rfl,us,hl,hr⟩:=I.lst hv
 obtain⟨l,e1,e2⟩:=ZF.strs (hx▸hr)
 have hus:us=(strValues l).toArray:=by rw[←e1,Array.toArray_toList]
 subst hus
 have hg:Builtin.Str.glued (st t) (l.map (·.1))=st (Yg t ys):=by rw[e2];exact Zqv t ys
 have htl:Builtin.Str.tooLong ((l.map (·.1)).toArray.foldl (·+·.length+(st t).length) 0)=false:=by
  rw[List.foldl_toArray,e2,Zqz]
  have hj:=Zu7 t ys
  have hm:ys.length*t.length≤ys.length*1:=Nat.mul_le_mul_left _ h3
  refine Z83 (Nat.not_lt.mpr ?_)
  rw[sizeLine_eq];lia
 refine call_meets F.slot_str_join (typeIs_str _ _ _) F.entry_str_join (F.args_str_join_2 _ _) (meets_str_join_list (st t) tk a l htl) ⟨hl.isList,?_⟩
 unfold joinMade
 split
 ·rename_i p
  have e:p.1=st (Yg t ys):=hg
  show Q (.str p.1 p.2) s
  rw[e]
  exact Pst.YR (s:=s) (tk:=s.toks) I h
 ·exact⟨by rw[hg];exact Z1 h1,by show Q (.str (Builtin.Str.glued (st t) (l.map (·.1))) _) _;rw[hg];exact Pst.YR I h⟩
end
end PL
end
section
open PySem PySem.W PyProof.Rows PySem.SeqAt
open scoped Classical
namespace PL
section
variable{X:Cx}{W W':Wd}{σ σ':St}{s s':Shared}{A:Around}{E:Value→Shared→Prop}{Q:Value→Shared→Prop}
theorem Inv.old(I:Inv X W σ s)(a:Addr)(o:Obj)(e:X.s1.heap.get? a=some o):s.heap.get? a=some o:=(I.keep a o e).elim λv hv=>(I.imm hv λq=>nomatch e.symm.trans q.old).1
theorem Inv.kin(I:Inv X W σ s):X.K.In s.heap:=λa o e=>I.old a o (X.ok.inK a o e)
theorem Inv.ns(I:Inv X W σ s){a:Addr}{m}(h:X.s1.heap.Ns a m):s.heap.Ns a m:=h.keeps I.old
theorem Zu1{o:Obj}{es:Array DictEntry}{ep:Nat}{n:Str}(hd:o.data=.dict es ep)(hk:StrKeys es):lookIn n o=some (nsFind es n):=by
 unfold lookIn
 rw[hd]
 unfold nsFind findBy
 rw[←Array.find?_toList]
 dsimp only
 cases h:es.toList.find? (·.key.isStr n)with
 |some e=>rfl
 |none=>
  have:es.toList.any (·.refKey)=false:=List.any_eq_false.mpr λe he q=>by
   obtain⟨x,t,hx⟩:=hk e (Array.mem_toList_iff.mp he)
   unfold DictEntry.refKey at q;rw[hx]at q;exact nomatch q
  rw[this];rfl
theorem Zd1{h:Heap}{d:Addr}{mm:Str→Option Value}{o:Obj}{n:Str}(hns:h.Ns d mm)(ho:h.get? d=some o):lookIn n o=some (mm n):=by
 obtain⟨o',es,ep,h1,h2,h3,h4⟩:=hns
 rw[←Z8q (ho.symm.trans h1)]at h2
 rw[Zu1 h2 h3,h4]
theorem ZE.handed{v:Value}{x:ZA}(h:ZE W v x):handedIn v=true:=
 @ZA.casesOn (λx=>ZE W v x→handedIn v=true) x (λh=>h.XW rfl) (λb h=>h.YO rfl) (λi h=>h.YF λZ=>rfl) (λc h=>h.QM λZ=>rfl) (λZ h=>h.elim λa e=>e.1▸rfl) (λZ h=>h.elim λa e=>e.1▸rfl) (λZ h=>h.elim λa e=>e.1▸rfl) h
theorem Zdp{c:String}{C:Addr}(h:Zbp.lookup c=some C):JQ c=C:=Z81 (Option.getD · 0) h
structure Z7w(X:Cx)(W:Wd)(h:Heap)(a d:Addr)(id:Nat)(c:String)(k:Nat)(m:Fm):Prop where
 adr:W a=.own id
 dad:W d=.dic id
 obj:h.get? a=some { cls:=.ref (JQ c),dict:=some d,data:=.plain }
 dic:VP W h d k m
theorem Inv.inst(I:Inv X W σ s){v:Value}{id:Nat}{c:String}{k:Nat}{m:Fm}(h:ZE W v (.ref id))(ho:σ.f id=some (.inst c k m)):∃a,v=.ref a∧∃d,Z7w X W s.heap a d id c k m:=
 (I.obj h ho).elim λa h=>⟨a,h.1,h.2.2.elim λd q=>⟨d,h.2.1,q.2.1,q.1,q.2.2⟩⟩
theorem Z6b{id k:Nat}{c n:String}{m:Fm}{r:ZA}(he:σ.f id=some (.inst c k m))(hm:m n=some r)(hat:J9.contains (c,n)=true)(I:Inv X W σ s){v:Value}(hv:ZE W v (.ref id))(h:Pst X W σ r Q)(ex:Bool):wpAny (model pp X.w) A (getAttr v (Str.ofString n) ex) Q E s:=by
 obtain⟨a,rfl,d,R⟩:=I.inst hv he
 obtain⟨C,hC,hf⟩:=X.ok.attr hat
 obtain⟨ck,hg⟩:=X.ok.cls hC
 rw[←Zdp hC]at hf ck
 obtain⟨mm,hns,hmm⟩:=R.dic.ns
 obtain⟨od,hod,Z⟩:=R.dic.sz
 obtain⟨cv,h1,h2⟩:=(hm▸hmm n:MvR W (some r) _)
 have L:=Zd1 (n:=Str.ofString n) hns hod
 rw[h1]at L
 exact get_value I.kin (C:=JQ c) (ox:={ cls:=.ref (JQ c),dict:=some d,data:=.plain }) (od:=some od) ⟨R.obj,rfl,rfl,hod⟩ (plainGet_of ck.get).1 (findObj_own ck.dict hf rfl L) h2.handed (h.mkt I h2)
theorem Zuf{M:Model}{d:Addr}{o:Obj}{es:Array DictEntry}{ep:Nat}{mm:Str→Option Value}{name:Str}{v:Value}{QU:Unit→Shared→Prop}(ho:s.heap.get? d=some o)(hx:o.ExactDict)(hd:o.data=.dict es ep)(hns:s.heap.Ns d mm)
  (h:∀h' o' es' ep',h'.get? d=some o'→o'.ExactDict→o'.data=.dict es' ep'→es'.size≤es.size+1→h'.Ns d (λy=>if y=name then some v else mm y)→Heap.SameBut d s.heap h'→QU () { s with heap:=h',toks:=s.toks+1 }):
  wpAny M A (nsSet d name v) QU E s:=by
 have Kw:=hns
 obtain⟨o',es',ep',h1,h2,h3,h4⟩:=hns
 rw[ho]at h1;cases h1
 rw[hd]at h2;cases h2
 have DV:es.any (·.refKey)=false:=by
  rw[Array.any_eq_false'];intro e he;obtain⟨n,t,h⟩:=h3 e he;simp[DictEntry.refKey,h]
 intro Γ p hΓ
 have A1:=Sem.wp_nsSet M Γ (λe Z s'=>E e s') p s Kw name v
 simp only[nsSet,strHash,Sem.wp_bind',Sem.wp_cmd_ask,Sem.wp_pure',Sem.wp_cmd_mkText]at A1 ⊢
 rw[Sem.wp_loadPart_of M Γ _ p { s with toks:=s.toks+1 } (o:=o) _ ho]
 simp only[hd,aRefKeyMayBeTheName_eq,aRefKeyMayBeTheNameByArray,DV,Bool.and_false,Bool.false_eq_true,if_false,Sem.wp_cmd_updatePart]
 obtain⟨c,dd,dt,sl⟩:=o
 subst hd
 refine⟨by rw[ho];rfl,?_⟩
 have B:=A1 (λZ Z s''=>s''.heap.Ns d λy=>if y=name then some v else mm y) (λh' hn Z=>hn)
 rw[Sem.wp_loadPart_of M Γ _ p { s with toks:=s.toks+1 } (o:=⟨c,dd,.dict es ep,sl⟩) _ ho]at B
 simp only[aRefKeyMayBeTheName_eq,aRefKeyMayBeTheNameByArray,DV,Bool.and_false,Bool.false_eq_true,if_false,Sem.wp_cmd_updatePart]at B
 have hn:=B.2
 cases hi:es.findIdx? (·.key.isStr name)with
 |some i=>
  refine h _ _ _ _ (Heap.get?_update_self _ ho (by simp only[Obj.putName_eq,Obj.putNameByArray,hi];rfl)) ?_ (by simp only[Obj.putName_eq,Obj.putNameByArray,hi];rfl) ?_ hn (Heap.SameBut.update ..)
  ·simp only[Obj.putName_eq,Obj.putNameByArray,hi];exact hx
  ·simp
 |none=>
  refine h _ _ _ _ (Heap.get?_update_self _ ho (by simp only[Obj.putName_eq,Obj.putNameByArray,hi];rfl)) ?_ (by simp only[Obj.putName_eq,Obj.putNameByArray,hi];rfl) ?_ hn (Heap.SameBut.update ..)
  ·simp only[Obj.putName_eq,Obj.putNameByArray,hi];exact hx
  ·simp
theorem MvR.upd{m:Fm}{mm:Str→Option Value}{n:String}{v:Value}{r:ZA}(h:∀x:String,MvR W (m x) (mm (Str.ofString x)))(hv:ZE W v r)(y:String):MvR W (upd m n r y) (if Str.ofString y=Str.ofString n then some v else mm (Str.ofString y)):=by
 unfold PL.upd
 by_cases q:y=n
 ·rw[if_pos q,if_pos (Z81 _ q)];exact⟨v,rfl,hv⟩
 ·rw[if_neg q,if_neg λz=>q (Yo z)];exact h y
theorem Zlr{n k:Nat}(h:n≤k+1)(hk:k<100):n≤sizeLine:=Z1 (by lia)
theorem Z3x{id k:Nat}{c n:String}{m:Fm}{r:ZA}(he:σ.f id=some (.inst c k m))(hat:J9.contains (c,n)=true)(hk:k<100)(I:Inv X W σ s){u v:Value}(hu:ZE W u (.ref id))(hv:ZE W v r)
  {QU:Unit→Shared→Prop} (h:∀s',Inv X W (σ.put id (.inst c (k+1) (upd m n r))) s'→QU () s'):wpAny (model pp X.w) A (setAttr u (Str.ofString n) v) QU E s:=by
 obtain⟨a,rfl,d,R⟩:=I.inst hu he
 obtain⟨C,hC,hf⟩:=X.ok.attr hat
 obtain⟨ck,hg⟩:=X.ok.cls hC
 rw[←Zdp hC]at hf ck
 obtain⟨mm,hns,hmm⟩:=R.dic.ns
 obtain⟨od,hod,hex,es,ep,hd,hsz⟩:=R.dic.sz
 have IA:InstAt s.heap a { cls:=.ref (JQ c),dict:=some d,data:=.plain } (JQ c) (some od):=⟨R.obj,rfl,rfl,hod⟩
 refine set_plain I.kin IA ck.set ?_
 refine osa_open (s:={ s with toks:=s.toks+1 }) (r:=none) I.kin IA ck.over (by unfold takerIn;rw[hf];rfl) λb=>?_
 obtain⟨cd,hc,hd'⟩:=any_some ck.dict
 refine Z8z (Z80 (Z8z (Z8z (wpAny_loadPart (s:={ s with toks:=s.toks+1 }) R.obj (Z8z (Looks.here (s:={ s with toks:=s.toks+1 }) (looks_clsIn (M:=model pp X.w) I.kin hc) ?_))))))
 rw[hd']
 refine Z80 (a:=some d) (Z8z (Z80 (Z8z ?_)))
 refine Zuf (s:={ s with toks:=s.toks+1 }) hod hex hd hns λh' o' es' ep' ho' Ut KQ V9 Kw hsb=>?_
 have hz:=Z7z V9 (Z77 hsz 1)
 refine Z8z (wpAny_lookBehind (s:={ s with heap:=h',toks:=s.toks+1+1 }) ho' (by rw[KQ];exact pastItsLine_dict (Nat.le_succ_of_le (Zlr hz hk))) (Z80 ?_))
 show QU () _
 have hda:a≠d:=λq=>nomatch (q▸R.adr:W d=.own id).symm.trans R.dad
 exact h _ (I.upd (b:=d) (tk:=s.toks+1+1) R.adr (.inr R.dad) hsb ⟨_,ho'⟩ ⟨d,(hsb.2 a hda).trans R.obj,R.dad,⟨_,Kw,MvR.upd hmm hv⟩,⟨o',ho',Ut,es',ep',KQ,hz⟩⟩)
inductive MV(σ:St):ZA→String→Value→Prop
 |append {id:Nat} {xs:List ZA} (h:σ.f id=some (.list xs)):MV σ (.ref id) "append" (.builtin "list.append")
 |extend {id:Nat} {xs:List ZA} (h:σ.f id=some (.list xs)):MV σ (.ref id) "extend" (.builtin "list.extend")
 |pop {id:Nat} {xs:List ZA} (h:σ.f id=some (.list xs)):MV σ (.ref id) "pop" (.builtin "list.pop")
 |Xs {id:Nat} {es:List (ZA×ZA)} (h:σ.f id=some (.dict es)):MV σ (.ref id) "setdefault" (.builtin "dict.setdefault")
 |Uy {id:Nat} {es:List (ZA×ZA)} (h:σ.f id=some (.dict es)):MV σ (.ref id) "pop" (.builtin "dict.pop")
 |isspace (t:CS):MV σ (.str t) "isspace" (.builtin "str.isspace")
 |split (t:CS):MV σ (.str t) "split" (.builtin "str.split")
 |count (t:CS):MV σ (.str t) "count" (.builtin "str.count")
 |join (t:CS):MV σ (.str t) "join" (.builtin "str.join")
 |own {id k:Nat} {c m q:String} {mm:Fm} {f:Addr} (h:σ.f id=some (.inst c k mm)) (hm:mm m=none) (hq:Zba.lookup (c,m)=some q) (hf:fnA q=some f):MV σ (.ref id) m (.ref f)
section
variable{Q:Value×List Value→Shared→Prop}{pl:Sem Bool}
theorem Zhj{a:Addr}{vs:Array Value}{m:String}(ha:s.heap.PlainList a vs)(h:∀{n},s.heap.get? a=some { cls:=.type "list",data:=.seq vs n }→(∀b,Value.ref a=.ref b→∃ob,s.heap.get? b=some ob∧ob.dict=none)→wpAny (model pp X.w) A (getMethod (.ref a) (Str.ofString m) pl) Q E s):wpAny (model pp X.w) A (getMethod (.ref a) (Str.ofString m) pl) Q E s:=
 ha.elim λn e=>h e λb q=>⟨_,Zb0 q▸e,rfl⟩
theorem Znf{a:Addr}{es:List (ZA×ZA)}{m:String}(O:XQ X W s.heap a es)(h:∀{o},s.heap.get? a=some o→o.cls=.type "dict"→(∀b,Value.ref a=.ref b→∃ob,s.heap.get? b=some ob∧ob.dict=none)→wpAny (model pp X.w) A (getMethod (.ref a) (Str.ofString m) pl) Q E s):wpAny (model pp X.w) A (getMethod (.ref a) (Str.ofString m) pl) Q E s:=by
 obtain⟨o,Z,Z,ho,hx,Z⟩:=O.obj
 exact h ho hx.1 λb q=>⟨_,Zb0 q▸ho,hx.2.1⟩
theorem Z15{x:ZA}{m:String}{fv:Value}(e:MV σ x m fv)(I:Inv X W σ s){v:Value}(hv:ZE W v x)(h:Q (fv,[v]) s):wpAny (model pp X.w) A (getMethod v (Str.ofString m) pl) Q E s:=by
 induction e with
 |append he=>obtain⟨a,rfl,Z,vs,ha,Z⟩:=I.obj hv he;exact Zhj ha λe hd=>getMethod_builtin ⟨_,e,rfl⟩ PySem.F.plainAttrs_list PySem.F.slot_list_append PySem.F.type_list_append hd h
 |extend he=>obtain⟨a,rfl,Z,vs,ha,Z⟩:=I.obj hv he;exact Zhj ha λe hd=>getMethod_builtin ⟨_,e,rfl⟩ PySem.F.plainAttrs_list PySem.F.slot_list_extend PySem.F.type_list_extend hd h
 |pop he=>obtain⟨a,rfl,Z,vs,ha,Z⟩:=I.obj hv he;exact Zhj ha λe hd=>getMethod_builtin ⟨_,e,rfl⟩ PySem.F.plainAttrs_list PySem.F.slot_list_pop PySem.F.type_list_pop hd h
 |Xs he=>obtain⟨a,rfl,Z,O⟩:=I.obj hv he;exact Znf O λe hc hd=>getMethod_builtin ⟨_,e,hc⟩ PySem.F.plainAttrs_dict PySem.F.slot_dict_setdefault PySem.F.type_dict_setdefault hd h
 |Uy he=>obtain⟨a,rfl,Z,O⟩:=I.obj hv he;exact Znf O λe hc hd=>getMethod_builtin ⟨_,e,hc⟩ PySem.F.plainAttrs_dict PySem.F.slot_dict_pop PySem.F.type_dict_pop hd h
 |isspace t=>obtain⟨tk,rfl⟩:=hv;(with_reducible refine GM.isspace ?_);exact h
 |split t=>obtain⟨tk,rfl⟩:=hv;(with_reducible refine GM.split ?_);exact h
 |count t=>obtain⟨tk,rfl⟩:=hv;(with_reducible refine GM.count ?_);exact h
 |join t=>obtain⟨tk,rfl⟩:=hv;(with_reducible refine GM.join ?_);exact h
 |@own id k c m q mm f he hm hq hf=>
  obtain⟨a,rfl,d,R⟩:=I.inst hv he
  obtain⟨C,f',hC,hf',mk⟩:=X.ok.Rq hq
  obtain⟨ck,hg⟩:=X.ok.cls hC
  rw[←Zdp hC]at mk ck
  rw[←Z8q (hf.symm.trans hf')]at mk
  obtain⟨ms,hns,hmm⟩:=R.dic.ns
  obtain⟨od,hod,Z⟩:=R.dic.sz
  have L:=Zd1 (n:=Str.ofString m) hns hod
  have e0:ms (Str.ofString m)=none:=(hm▸hmm m:MvR W none (ms (Str.ofString m)))
  rw[e0]at L
  exact method_fn I.kin (C:=JQ c) (ox:={ cls:=.ref (JQ c),dict:=some d,data:=.plain }) (od:=some od) ⟨R.obj,rfl,rfl,hod⟩ (plainGet_of ck.get).1 (plainGet_of ck.get).2 mk.find mk.ty (by show(lookIn _ od).map _=_;rw[L];rfl) h
end
theorem Zn3(c:Nat):∀t:CS,cnt c t=(t.count c:Int)
 | []=>rfl
 |d::t=>by
  rw[cnt_cons,Zn3 c t,List.count_cons]
  by_cases h:d=c
  ·rw[if_pos h,if_pos (beq_iff_eq.mpr h)];omega
  ·rw[if_neg h,if_neg λq=>h (Z84 q)];omega
theorem Zy8(t:CS)(c:Nat):Txt.count (st t) (st [c])=(t.count c:Int):=(count_cnt (st t) c).trans (Zn3 c t)
inductive MC(σ:St):ZA→Value→List ZA→ZA→St→Prop
 |append {id:Nat} {xs:List ZA} {x:ZA} (h:σ.f id=some (.list xs)) (hl:xs.length≤16000):MC σ (.ref id) (.builtin "list.append") [x] .none (σ.put id (.list (xs++[x])))
 |extend {id j:Nat} {xs ys:List ZA} (h:σ.f id=some (.list xs)) (hj:σ.f j=some (.list ys)) (hne:j≠id) (hl:xs.length+ys.length≤16000):MC σ (.ref id) (.builtin "list.extend") [.ref j] .none (σ.put id (.list (xs++ys)))
 |pop {id:Nat} {xs:List ZA} {x:ZA} (h:σ.f id=some (.list (xs++[x]))) (hl:xs.length<16000):MC σ (.ref id) (.builtin "list.pop") [] x (σ.put id (.list xs))
 |VT {id:Nat} {es:List (ZA×ZA)} {k v q:ZA} (h:σ.f id=some (.dict es)) (hk:Zfd es k) (ht:k.isTup=true) (hl:es.length≤16000) (hq:YW es k=some q):MC σ (.ref id) (.builtin "dict.setdefault") [k,v] q σ
 |VU {id:Nat} {es:List (ZA×ZA)} {k v:ZA} (h:σ.f id=some (.dict es)) (hk:Zfd es k) (ht:k.isTup=true) (hl:es.length≤16000) (hq:YW es k=none):MC σ (.ref id) (.builtin "dict.setdefault") [k,v] v (σ.put id (.dict (Xx es k v)))
 |Uy {id:Nat} {es:List (ZA×ZA)} {k q:ZA} (h:σ.f id=some (.dict es)) (hk:Zfd es k) (ht:k.isTup=false) (hl:es.length≤16000) (hq:YW es k=some q):MC σ (.ref id) (.builtin "dict.pop") [k] q (σ.put id (.dict (Vh es k)))
 |isspace {c:Nat} (h:c<128):MC σ (.str [c]) (.builtin "str.isspace") [] (.bool (Zco c)) σ
 |split {t:CS} {c:Nat} (hl:t.length≤16000):MC σ (.str t) (.builtin "str.split") [.str [c]] (.lst ((Zp c t).map .str)) σ
 |count (t:CS) (c:Nat):MC σ (.str t) (.builtin "str.count") [.str [c]] (.int (t.count c)) σ
 |join {t:CS} {ys:List CS} {xs:List ZA} (hx:xs=ys.map .str) (h1:(Yg t ys).length≤16000) (h2:ys.length≤16000) (h3:t.length≤1):MC σ (.str t) (.builtin "str.join") [.lst xs] (.str (Yg t ys)) σ
theorem Z67{x:ZA}{fv:Value}{ys:List ZA}{r:ZA}(e:MC σ x fv ys r σ')(hA:A.units+30<cLine)(I:Inv X W σ s){u:Value}{vs:List Value}(hu:ZE W u x)(hv:ZF W vs ys)(h:Pst X W σ' r Q):wpAny (model pp X.w) A (call fv (u::vs)) Q E s:=by
 induction e with
 |append he hl=>exact hv.e1 λv hv1=>Z6d I hu he hv1 hl h
 |extend he hj hne hl=>exact hv.e1 λv hv1=>Z5r I hu he hv1 hj hne hl h
 |pop he hl=>exact hv.e0 (Z36 I hu he hl h)
 |VT he hk ht hl hq=>exact hv.e2 λv c hv1 hv2=>Zcd I hu he hv1 hv2 hk ht hl hA (λq e=>Z8q (hq.symm.trans e)▸h) λe=>nomatch hq.symm.trans e
 |VU he hk ht hl hq=>exact hv.e2 λv c hv1 hv2=>Zcd I hu he hv1 hv2 hk ht hl hA (λq e=>nomatch hq.symm.trans e) λe=>h
 |Uy he hk ht hl hq=>exact hv.e1 λv hv1=>Zy3 I hu he hv1 hk ht hq hl h
 |isspace hc=>exact hv.e0 (hu.QM λt=>SC.isspace (by rw[Zo6 hc];exact Pst.ZW I h))
 |split hl=>exact hv.e1 λv hv1=>Zxg I hu hv1 hl h
 |count t c=>exact hv.e1 λv hv1=>hu.QM λtk=>hv1.QM λtk'=>SC.count (by rw[Zy8];exact Pst.QD I h)
 |join hx h1 h2 h3=>exact hv.e1 λv hv1=>Z2a I hu hv1 hx h1 h2 h3 h
end
section
variable{X:Cx}{W W' W'':Wd}{σ σ':St}{s s':Shared}{A:Around}{E:Value→Shared→Prop}{env:Env}{own:List Addr}{ν ν':Fm}{M:Model}
noncomputable def Zc5(W:Wd)(Y:List Addr)(t:Addr→Tag):Wd:=λb=>if b∈Y then t b else W b
theorem Zp9{Y:List Addr}{t:Addr→Tag}{b:Addr}(h:b∈Y):Zc5 W Y t b=t b:=if_pos h
theorem Zgd{Y:List Addr}{t:Addr→Tag}{b:Addr}(h:b∉Y):Zc5 W Y t b=W b:=if_neg h
theorem Zgy{P:Addr→Tag→Prop}{Y:List Addr}{t:Addr→Tag}(h1:∀b∈Y,P b (t b))(h2:∀b,b∉Y→P b (W b))(b:Addr):P b (Zc5 W Y t b):=
 Classical.byCases (λe:b∈Y=>by rw[Zp9 e];exact h1 b e) λe=>by rw[Zgd e];exact h2 b e
theorem Zbw{Y:List Addr}{t:Addr→Tag}:LeX Y W (Zc5 W Y t):=λb hb Z=>Zgd hb
theorem Inv.VX(I:Inv X W σ s){Y:List Addr}{t:Addr→Tag}{h':Heap}{tk:Nat}(hY:∀a∈Y,∃o,W a=.imm o none)(hold:∀a∈Y,X.s1.heap.get? a=none)(hk:∀b o,b∉Y→s.heap.get? b=some o→h'.get? b=some o)
  (ht:∀a,(t a).key=none) (ho:∀a∈Y,TOK X (Zc5 W Y t) σ h' a (t a)):Inv X (Zc5 W Y t) σ { s with heap:=h',toks:=tk }:=
 have hN:ZG W Y:=λa ha=>.inr (hY a ha)
 have ne:∀d id,W d=.dic id→d∉Y:=λd id e q=>(hY d q).elim λo h=>nomatch e.symm.trans h
 {base:=I.reb h' tk
  keep:=λb o h=>(I.keep b o h).elim λv e=>⟨v,(Zgd λq=>nomatch (hold b q).symm.trans h).trans e⟩
  uq:=λb c k=>Zgy (P:=λb tb=>tb.key=some k→(Zc5 W Y t c).key=some k→b=c) (λb Z e=>nomatch (ht b).symm.trans e) (λb hb e=>Zgy (P:=λc tc=>tc.key=some k→b=c) (λc Z e=>nomatch (ht c).symm.trans e) (λc Z e'=>I.uq b c k e e') c) b
  fid:=I.fid
  tag:=Zgy (P:=TOK X (Zc5 W Y t) σ h') ho λb hb=>(I.tag b).YI Zbw hN (hk b · hb) (λZ Z d hd o=>hk d o (ne d _ hd)) (λZ Z Z e=>e) (Z70 _) (λZ Z Z z=>z) }
noncomputable def Kt(h':Heap)(a:Addr):Tag:=.imm ((h'.get? a).getD default) none
theorem Zt8{h':Heap}{a:Addr}{o:Obj}(e:h'.get? a=some o):Kt h' a=.imm o none:=by unfold Kt;rw[e];rfl
theorem Inv.Gp(I:Inv X W σ s){Y:List Addr}{h':Heap}{tk:Nat}(hY:∀a∈Y,∃o,W a=.imm o none)(hold:∀a∈Y,X.s1.heap.get? a=none)(hk:∀b o,b∉Y→s.heap.get? b=some o→h'.get? b=some o)
  (hx:∀a∈Y,∃o,h'.get? a=some o):Inv X (Zc5 W Y (Kt h')) σ { s with heap:=h',toks:=tk }:=
 I.VX hY hold hk (λZ=>rfl) λa ha=>(hx a ha).elim λo e=>by rw[Zt8 e];exact⟨.inl e,trivial⟩
theorem Z38{Y:List Addr}{h':Heap}{a:Addr}{o:Obj}(ha:a∈Y)(e:h'.get? a=some o):Zc5 W Y (Kt h') a=.imm o none:=(Zp9 ha).trans (Zt8 e)
theorem Inv.K1(I:Inv X W σ s){Y:List Addr}{h':Heap}{tk:Nat}(hY:∀a∈Y,∃o,W a=.imm o none)(hold:∀a∈Y,X.s1.heap.get? a=none)(hk:∀b o,b∉Y→s.heap.get? b=some o→h'.get? b=some o):
  Inv X (Zc5 W Y λZ=>.free) σ { s with heap:=h',toks:=tk }:=I.VX hY hold hk (λZ=>rfl) λZ Z=>trivial
theorem QE{P:Addr→Prop}{a:Addr}(h:P a):∀b∈[a],P b:=λb hb=>(Z8m.mp hb)▸h
theorem memC{P:Addr→Prop}{a:Addr}{Y:List Addr}(h:P a)(h2:∀b∈Y,P b):∀b∈a::Y,P b:=λb hb=>(Z8k.mp hb).elim (λe=>e▸h) (h2 b)
theorem XY{P:Addr→Prop}{a b:Addr}(h:P a)(h2:P b):∀c∈[a,b],P c:=memC h (QE h2)
theorem Z1s{a b:Addr}(h:b≠a):b ∉ [a]:=λq=>h (Z8m.mp q)
theorem ZG.QY{J:List Addr}(h:∀a∈J,∃o,W a=.imm o none):ZG W J:=λa ha=>.inr (h a ha)
theorem Inv.QN(I:Inv X W σ s){a:Addr}(h:W a=.free):X.s1.heap.get? a=none:=Option.eq_none_iff_forall_ne_some.mpr λo e=>(I.keep a o e).elim λv hv=>nomatch h.symm.trans hv
theorem Y4{Y:List Addr}{a:Addr}{o:Obj}{v}(h:W a=.imm o v)(l:LeX Y W W')(hY:a∉Y):W' a=.imm o v:=(l a hY (Znd h)).trans h
theorem Zcq{Y:List Addr}{a:Addr}{o:Obj}{v:ZA}(h:W a=.imm o (some v))(l:LeX Y W W')(hN:ZG W Y):W' a=.imm o (some v):=l.at hN h (λq=>nomatch q) λZ q=>nomatch q
theorem Zkz{Y:List Addr}{a:Addr}{id:Nat}(h:W a=.own id)(l:LeX Y W W')(hN:ZG W Y):W' a=.own id:=l.at hN h (λq=>nomatch q) λZ q=>nomatch q
noncomputable abbrev Zb5(vs:Array Value)(n:Nat):Obj:={ cls:=.type "list",data:=.seq vs n }
theorem Inv.Uz(I:Inv X W σ s){D:Addr}{vs:Array Value}{n:Nat}{ys:List ZA}(hD:W D=.imm (Zb5 vs n) none)(hold:X.s1.heap.get? D=none)(hr:ZF W vs.toList ys):
  Inv X (ZN W D (.imm (Zb5 vs n) (some (.lst ys)))) σ s:=
 have hN:=ZG.one hD
 have ho:=(I.imm hD (Q2 λZ Z h=>nomatch h)).1
 have ne:∀d id,W d=.dic id→d≠D:=λd id e q=>nomatch (q▸e:W D=.dic id).symm.trans hD
 {base:=I.base,keep:=I.Gk hold,uq:=I.uq.set (λZ e=>nomatch e),fid:=I.fid
  tag:=Q0 (P:=TOK X (ZN W D (.imm (Zb5 vs n) (some (.lst ys)))) σ s.heap) ⟨.inl ho,vs,n,rfl,hr.ZM Zz hN⟩ λb Z=>(I.tag b).YI Zz hN (λZ e=>e) (λZ Z Z Z Z e=>e) (λZ Z Z e=>e) (Z70 _) (λZ Z Z z=>z) }
def NsO(o:Obj)(m:Str→Option Value):Prop:=∃es ep,o.data=.dict es ep∧StrKeys es∧∀name,nsFind es name=m name
theorem NsO.ns{h:Heap}{a:Addr}{o:Obj}{m}(x:NsO o m)(e:h.get? a=some o):h.Ns a m:=x.elim λes x=>x.elim λep x=>⟨o,es,ep,e,x.1,x.2.1,x.2.2⟩
theorem NsO.nsP{h:Heap}{a:Addr}{o:Obj}{m}{v:Option ZA}(x:NsO o m)(p:Pin X h a o v):h.Ns a m:=p.elim x.ns λq=>q.2.elim λsl e=>x.elim λes x=>x.elim λep x=>⟨_,es,ep,e,x.1,x.2.1,x.2.2⟩
noncomputable def Xl(o:Obj):Obj:={ o with slots:=Zyv }
theorem NsO.lax{o:Obj}{m}(x:NsO o m):NsO (Xl o) m:=x
theorem Zm7{h:Heap}{a:Addr}{o:Obj}{m}(x:NsO o m)(hold:X.s1.heap.get? a=none)(e:h.get? a=some o):Pin X h a (Xl o) none:=.inr ⟨⟨rfl,rfl,hold,x.elim λes x=>x.elim λep x=>⟨es,ep,x.1⟩⟩,o.slots,e⟩
theorem Inv.GX(I:Inv X W σ s){h':Heap}{tk:Nat}(hk:∀a o,s.heap.get? a=some o→h'.get? a=some o){a:Addr}(ha:s.heap.get? a=none){o:Obj}{m}(ho:h'.get? a=some o)(hn:NsO o m):
  Inv X (ZN W a (.imm (Xl o) none)) σ { s with heap:=h',toks:=tk }∧Le W (ZN W a (.imm (Xl o) none)):=
 have hf:=I.KR ha
 ⟨(I.keeps (tk:=tk) hk).U7 hf (Zm7 hn (Option.eq_none_iff_forall_ne_some.mpr λo e=>(I.keep a o e).elim λv hv=>nomatch hf.symm.trans hv) ho) trivial,Yr hf⟩
theorem Zum{a:Addr}{o:Obj}{v:Option ZA}{cv:Option Value}(h:o.data=.cell cv):¬Lax X a o v:=Q2 λes ep q=>nomatch h.symm.trans q
theorem NsO.of{h:Heap}{a:Addr}{m}(x:h.Ns a m):∃o,h.get? a=some o∧NsO o m:=x.elim λo x=>x.elim λes x=>x.elim λep x=>⟨o,x.1,es,ep,x.2⟩
theorem NsO.QP{o:Obj}{m}{cv:Option Value}(x:NsO o m)(h:o.data=.cell cv):False:=x.elim λes x=>x.elim λep x=>nomatch x.1.symm.trans h
def CF(k:NameKind):Prop:=k=.cell∨k=.free
def Kg(W:Wd)(env:Env)(n:Str)(cv:Option Value):Prop:=∃c o,env.cells.lookup n=some c∧W c=.imm o none∧o.data=.cell cv
structure Frm(X:Cx)(W:Wd)(env:Env)(own:List Addr)(ν:Fm):Prop where
 kind:env.scope.kind=.function
 glob:env.globals=mainGlobals
 blt:env.builtins=builtinsNs
 pin:∀a∈own,∃o,W a=.imm o none
 old:∀a∈own,X.s1.heap.get? a=none
 Xc:env.locals∈own
 loc:∃o m,W env.locals=.imm o none∧(NsO o m∧o.slots=Zyv)∧∀x v,env.kindOf (Str.ofString x)=some .local→ν x=some v→∃cv,m (Str.ofString x)=some cv∧ZE W cv v
 cell:∀n k,env.kindOf n=some k→CF k→∃cv,Kg W env n cv
 val:∀x v k,env.kindOf (Str.ofString x)=some k→CF k→ν x=some v→∃cv,Kg W env (Str.ofString x) (some cv)∧ZE W cv v
structure YT(X:Cx)(W:Wd)(env:Env)(own:List Addr)(ν:Fm):Prop extends Frm X W env own ν where
 apart:env.cells.Pairwise λx y=>x.2≠y.2
 XH:∀n c,env.kindOf n=some .cell→env.cells.lookup n=some c→c∈own
theorem Frm.to{Y:List Addr}(F:Frm X W env own ν)(ko:∀a∈own,∀o,W a=.imm o none→W' a=.imm o none)(kc:∀n k c o cv,env.kindOf n=some k→CF k→env.cells.lookup n=some c→W c=.imm o none→o.data=.cell cv→W' c=.imm o none)
  (l:LeX Y W W') (hN:ZG W Y):Frm X W' env own ν where
 kind:=F.kind
 glob:=F.glob
 blt:=F.blt
 pin:=λa ha=>(F.pin a ha).elim λo e=>⟨o,ko a ha o e⟩
 old:=F.old
 Xc:=F.Xc
 loc:=F.loc.elim λo h=>h.elim λm h=>⟨o,m,ko _ F.Xc o h.1,h.2.1,λx v hk hv=>(h.2.2 x v hk hv).elim λcv q=>⟨cv,q.1,q.2.ZM l hN⟩⟩
 cell:=λn k hk hc=>(F.cell n k hk hc).elim λcv h=>h.elim λc h=>h.elim λo h=>⟨cv,⟨c,o,h.1,kc n k c o cv hk hc h.1 h.2.1 h.2.2,h.2.2⟩⟩
 val:=λx v k hk hc hv=>(F.val x v k hk hc hv).elim λcv q=>q.1.elim λc h=>h.elim λo h=>⟨cv,⟨c,o,h.1,kc _ k c o _ hk hc h.1 h.2.1 h.2.2,h.2.2⟩,q.2.ZM l hN⟩
theorem Frm.mono(F:Frm X W env own ν)(l:Le W W'):Frm X W' env own ν:=F.to (λZ Z Z e=>Qg e l) (λZ Z Z Z Z Z Z Z e Z=>Qg e l) l ZG.nil
theorem YT.mono(F:YT X W env own ν)(l:Le W W'):YT X W' env own ν:={ toFrm:=F.toFrm.mono l,apart:=F.apart,XH:=F.XH }
theorem Frm.XD(F:Frm X W env own ν):ZG W own:=.QY F.pin
theorem Frm.sub(F:Frm X W env own ν)(h:∀y k v,env.kindOf (Str.ofString y)=some k→ν' y=some v→ν y=some v):Frm X W env own ν':=
 {F with
  loc:=F.loc.elim λo q=>q.elim λm q=>⟨o,m,q.1,q.2.1,λx v hk hv=>q.2.2 x v hk (h x _ v hk hv)⟩
  val:=λx v k hk hc hv=>F.val x v k hk hc (h x k v hk hv) }
def Off(env:Env)(own J:List Addr):Prop:=∀a∈J,a∉own∧∀p∈env.cells,p.2≠a
theorem Frm.ZM{J:List Addr}(F:Frm X W env own ν)(l:LeX J W W')(hN:ZG W J)(hJ:Off env own J):Frm X W' env own ν:=
 F.to (λa ha o e=>Y4 e l λhm=>(hJ a hm).1 ha) (λn k c o cv Z Z hl e Z=>Y4 e l λhm=>(hJ c hm).2 _ (mem_of_lookup hl) rfl) l hN
theorem YT.UA{J:List Addr}{ν₀:Fm}{W₀:Wd}(F₀:YT X W₀ env own ν₀)(F:YT X W env own ν)(hJ:∀a∈J,W₀ a=.free)(l:LeX J W W')(hN:ZG W J):YT X W' env own ν:=
 {toFrm:=F.toFrm.to (λa ha o e=>Y4 e l λhm=>(F₀.pin a ha).elim λo' e'=>nomatch (hJ a hm).symm.trans e')
   (λn k c o cv hk hc hl e Z=>Y4 e l λhm=>(F₀.cell n k hk hc).elim λZ h=>h.elim λc' h=>h.elim λo' h=>by have q:=h.2.1;rw[Z8q (h.1.symm.trans hl),hJ c hm]at q;exact nomatch q) l hN
  apart:=F.apart,XH:=F.XH }
theorem Frm.load(F:Frm X W env own ν)(I:Inv X W σ s){x:String}{v:ZA}(hv:ν x=some v){k:NameKind}(hk:env.kindOf (Str.ofString x)=some k)(hc:k=.local∨CF k)
  (hd:(Str.ofString x==("__debug__":Str))=false) (hn:(Str.ofString x==("__classdict__":Str))=false) {pos:Pos} {Q:Value→Shared→Prop} (hq:∀cv,ZE W cv v→Q cv s):wpAny M A (eval (.Name (Str.ofString x) pos) env) Q E s:=by
 rcases hc with rfl | hc
 ·obtain⟨o,m,e,n,h⟩:=F.loc
  obtain⟨cv,h1,h2⟩:=h x v hk hv
  exact wpAny_Name (wpAny_loadName_local F.kind hk (n.1.nsP (I.imp e).1) h1 (hq cv h2)) hd
 ·obtain⟨cv,⟨c,o,h1,h2,h3⟩,h4⟩:=F.val x v k hk hc hv
  rcases hc with rfl | rfl
  ·exact wpAny_Name (wpAny_loadName_cell F.kind hk h1 ⟨o,(I.imm h2 (Zum h3)).1,h3⟩ (hq cv h4)) hd
  ·exact wpAny_Name (wpAny_loadName_free F.kind hk h1 ⟨o,(I.imm h2 (Zum h3)).1,h3⟩ (hq cv h4) hn) hd
theorem Zg{β:Type}(f:String→Option β)(x:String)(v:β):upd f x v x=some v:=if_pos rfl
theorem Zfl{β:Type}{f:String→Option β}{x y:String}{v:β}(h:y≠x):upd f x v y=f y:=if_neg h
theorem Zkx{a:Addr}{o:Obj}(F:∀b∈own,∃o,W b=.imm o none):∀b∈own,∃o',ZN W a (.imm o none) b=.imm o' none:=λb hb=>
 Classical.byCases (λe:b=a=>⟨o,e▸Zi ..⟩) λe=>(F b hb).elim λo' h=>⟨o',(Qa e).trans h⟩
theorem Kg.set{a:Addr}{o:Obj}{n:Str}{cv:Option Value}(h:Kg W env n cv)(hne:∀c,env.cells.lookup n=some c→c≠a):Kg (ZN W a (.imm o none)) env n cv:=
 h.elim λc h=>h.elim λoc h=>⟨c,oc,h.1,(Qa (hne c h.1)).trans h.2.1,h.2.2⟩
theorem Kg.ne{a:Addr}{o:Obj}{m}{n:Str}{cv:Option Value}(h:Kg W env n cv)(e:W a=.imm o none)(ho:NsO o m):∀c,env.cells.lookup n=some c→c≠a:=λc hc q=>
 h.elim λc' h=>h.elim λoc h=>by
  rw[h.1]at hc;rw[Z8q hc,q,e]at h
  injection h.2.1 with e1
  exact ho.QP (e1▸h.2.2)
theorem Zae{x y:String}{u v:ZA}(h:upd ν x v y=some u):(y=x∧u=v)∨(y≠x∧ν y=some u):=
 Classical.byCases (λe:y=x=>.inl ⟨e,Z8q (h.symm.trans (if_pos e))⟩) λe=>.inr ⟨e,(Zfl e).symm.trans h⟩
theorem Frm.VR(F:Frm X W env own ν)(I:Inv X W σ s){x:String}{v:ZA}{cv:Value}(hv:ZE W cv v)(hk:env.kindOf (Str.ofString x)=some .local){Q:Unit→Shared→Prop}
  (h:∀W' s',LeX [env.locals] W W'→Inv X W' σ s'→Frm X W' env own (upd ν x v)→Q () s'):wpAny M A (storeName env (Str.ofString x) cv) Q E s:=by
 obtain⟨o,m,e,n,hl⟩:=F.loc
 refine wpAny_storeName_local hk (n.1.nsP (I.imp e).1) (λh' hn' hsb=>?_) (by rw[F.kind];rfl)
 obtain⟨o',ho',n'⟩:=NsO.of hn'
 have hY:=ZG.one e
 refine h _ _ Zz (I.reset (t:=.imm (Xl o') none) (tk:=s.toks+1) e (F.old _ F.Xc) hsb rfl ⟨Zm7 n' (F.old _ F.Xc) ho',trivial⟩) ⟨F.kind,F.glob,F.blt,Zkx F.pin,F.old,F.Xc,⟨Xl o',_,Zi ..,⟨n',rfl⟩,λy u hky hyu=>?_⟩,λn1 k hk' hc'=>?_,λy u k hk' hc' hyu=>?_⟩
 ·rcases Zae hyu with⟨q,q2⟩ | ⟨q,q2⟩
  ·exact⟨cv,if_pos (Z81 _ q),q2▸hv.ZM Zz hY⟩
  ·obtain⟨cu,h1,h2⟩:=hl y u hky q2
   exact⟨cu,(if_neg λz=>q (Yo z)).trans h1,h2.ZM Zz hY⟩
 ·exact(F.cell n1 k hk' hc').elim λcv' h=>⟨cv',h.set (h.ne e n.1)⟩
 ·rcases Zae hyu with⟨q,q2⟩ | ⟨q,q2⟩
  ·rw[q,hk]at hk';exact hc'.elim (λz=>nomatch z▸hk') λz=>nomatch z▸hk'
  ·exact(F.val y u k hk' hc' q2).elim λcv' h=>⟨cv',h.1.set (h.1.ne e n.1),h.2.ZM Zz hY⟩
theorem Zj4(F:YT X W env own ν){n n':Str}{c c':Addr}(h:env.cells.lookup n=some c)(h':env.cells.lookup n'=some c')(hn:n'≠n):c'≠c:=λq=>hn (name_of_addr F.apart (mem_of_lookup h') (q▸mem_of_lookup h))
theorem YT.store(F:YT X W env own ν)(I:Inv X W σ s){x:String}{v:ZA}{cv:Value}(hv:ZE W cv v)(hk:env.kindOf (Str.ofString x)=some .local∨env.kindOf (Str.ofString x)=some .cell){Q:Unit→Shared→Prop}
  (h:∀W' s',LeX own W W'→Inv X W' σ s'→YT X W' env own (upd ν x v)→Q () s'):wpAny M A (storeName env (Str.ofString x) cv) Q E s:=by
 rcases hk with hk | hk
 ·exact F.toFrm.VR I hv hk λW' s' hl I' F'=>h W' s' (hl.mono (QE F.Xc)) I' { toFrm:=F',apart:=F.apart,XH:=F.XH }
 ·obtain⟨cv₀,c,oc,h1,h2,h3⟩:=F.cell _ _ hk (.inl rfl)
  have hco:c∈own:=F.XH _ _ hk h1
  refine wpAny_storeName_cell F.kind hk h1 ⟨oc,(I.imm h2 (Zum h3)).1,h3⟩ λh' hc' hsb=>?_
  obtain⟨o',ho',hd'⟩:=hc'
  have hY:=ZG.one h2
  obtain⟨o,m,e,n,hl⟩:=F.loc
  have hcl:env.locals≠c:=λq=>by
   rw[q,h2]at e;injection e with e1
   exact n.1.QP (e1▸h3)
  refine h _ _ (Zz.mono (QE hco)) (I.VY (tk:=s.toks) h2 (F.old _ hco) hsb ho') { kind:=F.kind,glob:=F.glob,blt:=F.blt,pin:=Zkx F.pin,old:=F.old,Xc:=F.Xc,loc:=⟨o,m,(Qa hcl).trans e,n,λy u hky hyu=>?_⟩,cell:=λn' k hk' hc'=>?_,val:=λy u k hk' hc' hyu=>?_,apart:=F.apart,XH:=F.XH }
  ·rcases Zae hyu with⟨q,q2⟩ | ⟨q,q2⟩
   ·rw[q,hk]at hky;exact nomatch hky
   ·obtain⟨cu,h1,h2⟩:=hl y u hky q2
    exact⟨cu,h1,h2.ZM Zz hY⟩
  ·by_cases q:n'=Str.ofString x
   ·exact⟨some cv,c,o',q▸h1,Zi ..,hd'⟩
   ·exact(F.cell n' k hk' hc').elim λcv' h=>⟨cv',h.set λc' hc=>Zj4 F h1 hc q⟩
  ·rcases Zae hyu with⟨q,q2⟩ | ⟨q,q2⟩
   ·exact⟨cv,⟨c,o',q▸h1,Zi ..,hd'⟩,q2▸hv.ZM Zz hY⟩
   ·exact(F.val y u k hk' hc' q2).elim λcv' h=>⟨cv',h.1.set λc' hc=>Zj4 F h1 hc λz=>q (Yo z),h.2.ZM Zz hY⟩
end
section
variable{X:Cx}{W W':Wd}{σ σ':St}{s s':Shared}{A:Around}{E:Value→Shared→Prop}{Q:Value→Shared→Prop}
def Xq(tup:Bool)(W:Wd)(v:Value)(x:List ZA):Prop:=@Bool.casesOn (λZ=>Prop) tup (∃a,x=[a]∧ZE W v a) (ZE W v (.tup x))
theorem Xq.ZM{tup:Bool}{v:Value}{x:List ZA}{Y:List Addr}(h:Xq tup W v x)(l:LeX Y W W')(hN:ZG W Y):Xq tup W' v x:=
 @Bool.casesOn (λt=>Xq t W v x→Xq t W' v x) tup (λh=>h.elim λa e=>⟨a,e.1,e.2.ZM l hN⟩) (λh=>@ZE.ZM W W' Y v (.tup x) h l hN) h
noncomputable def Yl(e:Expr):Bool:=Zfi (λZ Z Z=>true) e
structure Src(X:Cx)(tg:Expr)(g:Option (Nat×List ZA))(it:Value)(J:List Addr)(turns:List (List ZA)) where
 At:Nat→Wd→Prop
 old:∀a∈J,X.s1.heap.get? a=none
 pin:∀{i W},At i W→∀a∈J,∃o,W a=.imm o none
 mono:∀{i W W' Y},At i W→LeX Y W W'→ZG W Y→(∀a∈J,a∉Y)→At i W'
 item:∀{i:Nat}{x:List ZA}{W:Wd}{σ:St}{s:Shared}{A:Around}{Q:Value→Shared→Prop}{E:Value→Shared→Prop},turns[i]? = some x→At i W→Inv X W σ s→Jy g σ→(∀W' v s',LeX J W W'→Inv X W' σ s'→At (i+1) W'→Xq (Yl tg) W' v x→Q v s')→
  wpAny (model pp X.w) A (pyNext it) (λr s₁=>match r with | none=>False | some v=>wpAny (model pp X.w) A (letOwnedTupleGo tg it v) (λZ s₂=>Q v s₂) E s₁) E s
 self:∀{i:Nat}{W:Wd}{σ:St}{s:Shared}{A:Around}{Q:Value→Shared→Prop}{E:Value→Shared→Prop},At i W→Inv X W σ s→Q it s→wpAny (model pp X.w) A (pyIter it) Q E s
 stop:∀{W:Wd}{σ:St}{s:Shared}{A:Around}{Q:Option Value→Shared→Prop}{E:Value→Shared→Prop},A.handled=none→At turns.length W→Inv X W σ s→Jy g σ→(∀W' s',LeX J W W'→Inv X W' σ s'→Q none s')→wpAny (model pp X.w) A (pyNext it) Q E s
theorem F2.at{R:Value→ZA→Prop}{vs:Array Value}{xs:List ZA}(h:F2 R vs.toList xs){i:Nat}{x:ZA}(e:xs[i]? = some x):∃v,vs[i]? = some v∧R v x:=(h.get e).elim λv q=>⟨v,Z8s.symm.trans q.1,q.2⟩
theorem F2.end{R:Value→ZA→Prop}{vs:Array Value}{xs:List ZA}(h:F2 R vs.toList xs):vs[xs.length]? = none:=Array.getElem?_eq_none (by rw[h.size];exact Z70 _)
noncomputable def Zt7(n:String):Bool:=!["enumerate","zip","dict_itemiterator","dict_reverseitemiterator","odict_iterator","itertools.zip_longest","itertools.pairwise"].contains n
theorem Ziq{tg:Expr}{it:Addr}{v:Value}{o:Obj}{n:String}{QU:Unit→Shared→Prop}(ho:s.heap.get? it=some o)(hc:o.cls=.type n)(hn:Zt7 n=true)(h:QU () s):
  wpAny (model pp X.w) A (letOwnedTupleGo tg (.ref it) v) QU E s:=by
 replace hn:["enumerate","zip","dict_itemiterator","dict_reverseitemiterator","odict_iterator","itertools.zip_longest","itertools.pairwise"].contains n=false:=(Bool.not_eq_true' _).mp hn
 have core:∀{es:List Expr}{k:Nat}{p:Pos},wpAny (model pp X.w) A (letOwnedTupleGo (.Tuple es k p) (.ref it) v) QU E s:=by
  intro es k p
  cases v<;>first | exact Z80 h | skip
  refine Z8z (wpAny_load ho ?_)
  obtain⟨c,d,dt,sl⟩:=o
  dsimp only at hc;subst hc
  cases dt<;>first | exact Z80 h | skip
  exact V7 (motive:=λt=>wpAny _ _ t _ _ _) (λq=>absurd q (by rw[hn];exact Z86)) λZ=>Z80 h
 cases tg with
 |Tuple a b c=>exact core
 |List a b=>exact core (es:=[]) (k:=0) (p:=default)
 |_=>exact Z80 h
structure Vq(X:Cx)(tg:Expr)(g:Option (Nat×List ZA))(it:Addr)(turns:List (List ZA))(IO:Nat→Obj→Prop)(B:Wd→Prop):Prop where
 hold:X.s1.heap.get? it=none
 bm:∀{W W' Y},B W→LeX Y W W'→ZG W Y→B W'
 plain:∀{i o},IO i o→∃n,o.cls=.type n∧Zt7 n=true
 nod:∀{i o},IO i o→∀es ep,o.data≠.dict es ep
 nxt:∀{i:Nat}{x:List ZA}{W:Wd}{σ:St}{s:Shared}{A:Around}{Q:Option Value→Shared→Prop}{E:Value→Shared→Prop}{o:Obj},turns[i]? = some x→s.heap.get? it=some o→IO i o→B W→Inv X W σ s→Jy g σ→
  (∀v h' tk o',h'.get? it=some o'→IO (i+1) o'→Heap.SameBut it s.heap h'→Xq (Yl tg) W v x→Q (some v) { s with heap:=h',toks:=tk })→wpAny (model pp X.w) A (pyNext (.ref it)) Q E s
 slf:∀{i:Nat}{s:Shared}{A:Around}{Q:Value→Shared→Prop}{E:Value→Shared→Prop}{o:Obj},s.heap.get? it=some o→IO i o→Q (.ref it) s→wpAny (model pp X.w) A (pyIter (.ref it)) Q E s
 stp:∀{W:Wd}{σ:St}{s:Shared}{A:Around}{Q:Option Value→Shared→Prop}{E:Value→Shared→Prop}{o:Obj},A.handled=none→s.heap.get? it=some o→IO turns.length o→B W→Inv X W σ s→Jy g σ→
  (∀h',(∀b o,b≠it→s.heap.get? b=some o→h'.get? b=some o)→Q none { s with heap:=h' })→wpAny (model pp X.w) A (pyNext (.ref it)) Q E s
noncomputable def Vq.src{tg:Expr}{g:Option (Nat×List ZA)}{it:Addr}{turns:List (List ZA)}{IO:Nat→Obj→Prop}{B:Wd→Prop}(S:Vq X tg g it turns IO B):Src X tg g (.ref it) [it] turns where
 At i W:=(∃o,W it=.imm o none∧IO i o)∧B W
 old:=QE S.hold
 pin h:=QE (h.1.elim λo e=>⟨o,e.1⟩)
 mono h l hN hJ:=⟨h.1.elim λo e=>⟨o,Y4 e.1 l (hJ it (Z8m.mpr rfl)),e.2⟩,S.bm h.2 l hN⟩
 item:=λ{i x W σ s A Q E} hx hat I hst h=>hat.1.elim λo e=>S.nxt hx (I.imm e.1 (Q2 (S.nod e.2))).1 e.2 hat.2 I hst λv h' tk o' ho' io hsb hv=>
  have⟨n,hc,hn⟩:=S.plain io
  Ziq (s:={ s with heap:=h',toks:=tk }) ho' hc hn (h _ v _ Zz (I.VY (tk:=tk) e.1 S.hold hsb ho') ⟨⟨o',Zi ..,io⟩,S.bm hat.2 Zz (ZG.one e.1)⟩ (hv.ZM Zz (ZG.one e.1)))
 self hat I h:=hat.1.elim λo e=>S.slf (I.imm e.1 (Q2 (S.nod e.2))).1 e.2 h
 stop:=λ{W σ s A Q E} hh hat I hst h=>hat.1.elim λo e=>S.stp hh (I.imm e.1 (Q2 (S.nod e.2))).1 e.2 hat.2 I hst λh' hk=>
  h _ _ Zbw (I.K1 (Y:=[it]) (tk:=s.toks) (QE ⟨o,e.1⟩) (QE S.hold) λb o hb he=>hk b o (λq=>hb (Z8m.mpr q)) he)
noncomputable def Y2(tup:Bool)(x:ZA):List ZA:=@Bool.casesOn (λZ=>List ZA) tup [x] (@ZA.casesOn (λZ=>List ZA) x [] (λZ=>[]) (λZ=>[]) (λZ=>[]) (λxs=>xs) (λZ=>[]) λZ=>[])
theorem Zu8{x:ZA}(h:x.isTup=true):∃xs,x=.tup xs:=
 @ZA.casesOn (λx=>x.isTup=true→∃xs,x=.tup xs) x (λh=>nomatch h) (λZ h=>nomatch h) (λZ h=>nomatch h) (λZ h=>nomatch h) (λxs Z=>⟨xs,rfl⟩) (λZ h=>nomatch h) (λZ h=>nomatch h) h
theorem Zpx{tup:Bool}{v:Value}{x:ZA}(h:ZE W v x)(ht:tup=true→x.isTup=true):Xq tup W v (Y2 tup x):=
 @Bool.casesOn (λt=>(t=true→x.isTup=true)→Xq t W v (Y2 t x)) tup (λZ=>⟨x,rfl,h⟩) (λht=>(Zu8 (ht rfl)).elim λxs e=>by subst e;exact h) ht
def ItO(ty:String)(l:Value)(i:Nat)(o:Obj):Prop:=o.cls=.type ty∧o.data=.fields #[l,.int i 0]
theorem Zbb{ty:String}{l:Value}{i:Nat}{o:Obj}(h:ItO ty l i o)(es:Array DictEntry)(ep:Nat):o.data≠.dict es ep:=λq=>nomatch h.2.symm.trans q
section
variable{tg:Expr}{it l:Addr}{xs:List ZA}
theorem Ztq{g:Option (Nat×List ZA)}{B:Wd→Prop}(hold:X.s1.heap.get? it=none)(bm:∀{W W' Y},B W→LeX Y W W'→ZG W Y→B W')(hB:∀{W σ s},B W→Inv X W σ s→Jy g σ→∃vs,s.heap.PlainList l vs∧ZF W vs.toList xs)
  (GF:Yl tg=true→∀x∈xs,x.isTup=true):Vq X tg g it (xs.map (Y2 (Yl tg))) (ItO "list_iterator" (.ref l)) B where
 hold:=hold
 bm:=bm
 plain h:=⟨_,h.1,rfl⟩
 nod h:=Zbb h
 nxt:=λ{i x W σ s A Q E o} hx ho io b I hst h=>by
  rw[List.getElem?_map]at hx
  obtain⟨y,hy,rfl⟩:=Z8r.mp hx
  obtain⟨vs,hl,hr⟩:=hB b I hst
  obtain⟨v,hv1,hv2⟩:=hr.at hy
  exact wpAny_pyNext_list_item ⟨o,ho,io.1,io.2⟩ hl.isList hv1 λh' hit hsb=>hit.elim λo2 q=>h v h' s.toks o2 q.1 q.2 hsb (Zpx hv2 λq=>GF q y (Z89 hy))
 slf ho io h:=wpAny_pyIter_listiter ⟨_,ho,io.1,io.2⟩ h
 stp hh ho io b I hst h:=by
  obtain⟨vs,hl,hr⟩:=hB b I hst
  have:=io.2
  rw[Z8i]at this
  exact wpAny_pyNext_list_end hh ⟨_,ho,io.1,this⟩ hl.isList hr.end h
theorem Z3n{ol:Obj}(hold:X.s1.heap.get? it=none)(GF:Yl tg=true→∀x∈xs,x.isTup=true):Vq X tg none it (xs.map (Y2 (Yl tg))) (ItO "tuple_iterator" (.ref l)) λW=>W l=.imm ol (some (.tup xs)) where
 hold:=hold
 bm:=Zcq
 plain h:=⟨_,h.1,rfl⟩
 nod h:=Zbb h
 nxt:=λ{i x W σ s A Q E o} hx ho io b I hst h=>by
  rw[List.getElem?_map]at hx
  obtain⟨y,hy,rfl⟩:=Z8r.mp hx
  obtain⟨hl,vs,n,e,hr⟩:=I.Vj b
  obtain⟨v,hv1,hv2⟩:=hr.at hy
  exact wpAny_pyNext_tuple_item ⟨o,ho,io.1,io.2⟩ ⟨_,hl,e▸rfl,n,e▸rfl⟩ hv1 λh' hit hsb=>hit.elim λo2 q=>h v h' s.toks o2 q.1 q.2 hsb (Zpx hv2 λq=>GF q y (Z89 hy))
 slf ho io h:=wpAny_pyIter_tupleiter ⟨_,ho,io.1,io.2⟩ h
 stp hh ho io b I hst h:=by
  obtain⟨hl,vs,n,e,hr⟩:=I.Vj b
  have:=io.2
  rw[Z8i]at this
  exact wpAny_pyNext_tuple_end hh ⟨_,ho,io.1,this⟩ ⟨_,hl,e▸rfl,n,e▸rfl⟩ hr.end h
theorem Z3o{t:CS}{tk:Tok}(hold:X.s1.heap.get? it=none)(htg:Yl tg=false):Vq X tg none it (t.map λc=>[ZA.str [c]]) (ItO "str_ascii_iterator" (.str (st t) tk)) λZ=>True where
 hold:=hold
 bm _ _ _:=trivial
 plain h:=⟨_,h.1,rfl⟩
 nod h:=Zbb h
 nxt:=λ{i x W σ s A Q E o} hx ho io b I hst h=>by
  rw[List.getElem?_map]at hx
  obtain⟨y,hy,rfl⟩:=Z8r.mp hx
  exact wpAny_pyNext_ascii_item ⟨o,ho,io.1,io.2⟩ (c:=y) (Zi7.trans hy) λh' hit hsb=>hit.elim λo2 q=>h _ h' (s.toks+1) o2 q.1 q.2 hsb (htg▸⟨_,rfl,ZE.strs [y] _⟩)
 slf ho io h:=wpAny_pyIter_striter_ascii ⟨_,ho,io.1,io.2⟩ h
 stp hh ho io b I hst h:=by
  have:=io.2
  rw[Z8i]at this
  exact wpAny_pyNext_ascii_end hh ⟨_,ho,io.1,this⟩ (List.getElem?_eq_none (Z70 _) |> Zi7.trans) h
theorem Z1d{n i:Nat}(h:i<n):(0:Int)<(n:Int)-i:=by lia
theorem Zxw{n i:Nat}:(n:Int)-i-1=(n:Int)-((i+1:Nat):Int):=by lia
theorem Z3p{n:Nat}(hold:X.s1.heap.get? it=none)(htg:Yl tg=false):Vq X tg none it ((List.range n).map λ(i:Nat)=>[ZA.int i]) (λi o=>o={ cls:=.type "range_iterator",dict:=none,data:=.fields #[rawInt i,rawInt ((n:Int)-i),rawInt 1],slots:=#[] }) λZ=>True where
 hold:=hold
 bm _ _ _:=trivial
 plain h:=⟨"range_iterator",h▸rfl,rfl⟩
 nod h:=h▸λZ Z h=>nomatch h
 nxt:=λ{i x W σ s A Q E o} hx ho io b I hst h=>by
  rw[List.getElem?_map]at hx
  obtain⟨y,hy,rfl⟩:=Z8r.mp hx
  obtain⟨hlt,hyi⟩:=Z8w.mp hy
  rw[List.getElem_range]at hyi
  subst hyi
  rw[List.length_range]at hlt
  exact wpAny_pyNext_range_item (io▸ho) (Z1d hlt) λh' hit hsb=>h _ h' (s.toks+1) _ (Zxw▸hit) rfl hsb (htg▸⟨_,rfl,ZE.ints _ _⟩)
 slf ho io h:=wpAny_pyIter_rangeiter (io▸ho) h
 stp:=λ{W σ s A Q E o} hh ho io b I hst h=>by
  rw[Z8i,List.length_range]at io
  exact wpAny_pyNext_range_end hh (io▸ho) (by lia) h
end
end
section
variable{X:Cx}{W W':Wd}{σ σ':St}{s s':Shared}{A:Around}{E:Value→Shared→Prop}{Q:Value→Shared→Prop}
noncomputable abbrev Zvy(it:Addr)(i:Int)(old:Value):Obj:={ cls:=.type "enumerate",dict:=none,data:=.fields #[.none,.bool false,.ref it,rawInt i,.none,old],slots:=#[] }
noncomputable abbrev Z3g(TI TO:Addr):Obj:={ cls:=.type "zip",dict:=none,data:=.fields #[.none,.bool false,.bool false,.ref TI,.ref TO],slots:=#[] }
noncomputable abbrev Zky(a b:Value):Obj:={ cls:=.type "tuple",data:=.seq #[a,b] }
theorem Ztf{tg:Expr}(h:Yl tg=true):∃es k p,tg=.Tuple es k p:=Jd (Q:=λtg=>∃es k p,tg=.Tuple es k p) h λa b c Z=>⟨a,b,c,rfl⟩
theorem Inv.Gi(I:Inv X W σ s){Y:List Addr}{h':Heap}{tk:Nat}(hY:∀a∈Y,∃o,W a=.imm o none)(hold:∀a∈Y,X.s1.heap.get? a=none)(hk:∀b o,b∉Y→s.heap.get? b=some o→h'.get? b=some o)(hx:∀a∈Y,∃o,h'.get? a=some o)
  {a b:Value} {x y:ZA} (ha:ZE W a x) (hb:ZE W b y) (hT:h'.get? s.heap.objs.size=some (Zky a b)):
  ∃W2,LeX Y W W2∧Inv X W2 σ { s with heap:=h',toks:=tk }∧ZE W2 (.ref s.heap.objs.size) (.tup [x,y])∧(∀c o,c∈Y→h'.get? c=some o→W2 c=.imm o none)∧∀c o v,W c=.imm o (some v)→W2 c=.imm o (some v):=by
 have hN:=ZG.QY hY
 have hn:s.heap.objs.size∉Y:=λq=>(hY _ q).elim λo e=>Nat.lt_irrefl _ ((I.imp e).1.has.elim λZ z=>Heap.lt_size z)
 have I1:=I.Gp (tk:=tk) hY hold hk hx
 have l1:LeX Y W (Zc5 W Y (Kt h')):=Zbw
 have hf:Zc5 W Y (Kt h') s.heap.objs.size=.free:=(Zgd hn).trans (I.free (Z70 _))
 have l2:Le (Zc5 W Y (Kt h')) (ZN (Zc5 W Y (Kt h')) s.heap.objs.size (.imm (Zky a b) (some (.tup [x,y])))):=Yr hf
 have hp:ZF (Zc5 W Y (Kt h')) [a,b] [x,y]:=⟨ha.ZM l1 hN,hb.ZM l1 hN,trivial⟩
 exact⟨_,l1.trans l2.X,I1.pin hf hT (v:=some (.tup [x,y])) ⟨_,0,rfl,hp⟩,.Dl (Zi ..),
  λc o hc e=>Qg (Z38 hc e) l2,λc o v e=>Qg (Zcq e l1 hN) l2⟩
structure Z7x(W:Wd)(e it l:Addr)(ol:Obj)(xs:List ZA)(i:Nat):Prop where
 en:∃old,W e=.imm (Zvy it i old) none
 itr:∃o,W it=.imm o none∧ItO "list_iterator" (.ref l) i o
 lst:W l=.imm ol (some (.lst xs))
theorem Inv.XU(I:Inv X W σ s){l:Addr}{ol:Obj}{xs:List ZA}(h:W l=.imm ol (some (.lst xs))):∃vs,s.heap.PlainList l vs∧ZF W vs.toList xs:=(I.Vj h).2.elim λvs q=>q.elim λn q=>⟨vs,⟨n,q.1▸(I.Vj h).1⟩,q.2⟩
noncomputable def Z3q{tg:Expr}{e it l:Addr}{ol:Obj}{xs:List ZA}(hold:X.s1.heap.get? it=none)(Ul:X.s1.heap.get? e=none)(hei:e≠it)(htg:Yl tg=true):Src X tg none (.ref e) [e,it] (xs.zipIdx.map λp=>[ZA.int (p.2:Nat),p.1]) where
 At i W:=Z7x W e it l ol xs i
 old:=XY Ul hold
 pin h:=XY (h.en.elim λZ q=>⟨_,q⟩) (h.itr.elim λo q=>⟨o,q.1⟩)
 mono h l hN hJ:=⟨h.en.elim λold q=>⟨old,Y4 q l (hJ e Z8g)⟩,h.itr.elim λo q=>⟨o,Y4 q.1 l (hJ it (Z8h _ Z8g)),q.2⟩,Zcq h.lst l hN⟩
 item:=λ{i x W σ s A Q E} hx hat I hst h=>by
  obtain⟨old,h0⟩:=hat.en
  obtain⟨o,h1,io⟩:=hat.itr
  obtain⟨vs,hl,hr⟩:=I.XU hat.lst
  rw[List.getElem?_map]at hx
  obtain⟨⟨y,j⟩,hy,rfl⟩:=Z8r.mp hx
  rw[List.getElem?_zipIdx]at hy
  obtain⟨y',hy',hyy⟩:=Z8r.mp hy
  injection hyy with e1 e2
  rw[Nat.zero_add]at e2
  subst e1 e2
  obtain⟨v,hv1,hv2⟩:=hr.at hy'
  obtain⟨es,k,p,rfl⟩:=Ztf htg
  refine wpAny_pyNext_enum_item (I.imm h0 (Q2 λZ Z h=>nomatch h)).1 ⟨o,(I.imm h1 (Q2 (Zbb io))).1,io.1,io.2⟩ hl.isList hv1 hei λh' hen hit hT hsz hk=>?_
  refine wpAny_letOwnedTupleGo_enum (s:={ s with heap:=h',toks:=s.toks+1 }) hen λh'' DR hsb=>?_
  obtain⟨o2,ho2,hc2,hd2⟩:=hit
  have DC:h''.get? it=some o2:=(hsb.2 it hei.symm).trans ho2
  obtain⟨W2,l2,I2,hv,hp,hs⟩:=I.Gi (Y:=[e,it]) (h':=h'') (tk:=s.toks+1) (XY ⟨_,h0⟩ ⟨o,h1⟩) (XY Ul hold)
   (λb o hb hh=>have hb1:b≠e:=λq=>hb (q▸Z8g);(hsb.2 b hb1).trans (hk b o hb1 (λq=>hb (Z8h _ (Z8m.mpr q))) hh)) (XY ⟨_,DR⟩ ⟨_,DC⟩)
   (ZE.ints (i:Int) s.toks) hv2 ((hsb.2 _ (Nat.ne_of_gt (Heap.lt_size (I.imm h0 (Q2 λZ Z h=>nomatch h)).1))).trans hT)
  exact h W2 _ _ l2 I2 ⟨⟨v,hp e _ Z8g DR⟩,⟨o2,hp it _ (Z8h _ Z8g) DC,hc2,hd2⟩,hs l _ _ hat.lst⟩ hv
 self hat I h:=hat.en.elim λold h0=>wpAny_pyIter_enum (I.imm h0 (Q2 λZ Z h=>nomatch h)).1 h
 stop:=λ{W σ s A Q E} hh hat I hst h=>by
  obtain⟨old,h0⟩:=hat.en
  obtain⟨o,h1,io⟩:=hat.itr
  obtain⟨vs,hl,hr⟩:=I.XU hat.lst
  rw[Z8i,List.length_zipIdx]at h0 io
  exact wpAny_pyNext_enum_end hh (I.imm h0 (Q2 λZ Z h=>nomatch h)).1 ⟨o,(I.imm h1 (Q2 (Zbb io))).1,io.1,io.2⟩ hl.isList hr.end λh' he=>
   h _ _ Zbw (I.K1 (Y:=[e,it]) (tk:=s.toks) (XY ⟨_,h0⟩ ⟨o,h1⟩) (XY Ul hold) λb o hb e=>he b o (λq=>hb (Z8h _ (Z8m.mpr q))) e)
structure Z7r(W:Wd)(z TI TO i1 i2 l1 l2:Addr)(o1 o2:Obj)(xs ys:List ZA)(i:Nat):Prop where
 zo:W z=.imm (Z3g TI TO) none
 ti:W TI=.imm (Zky (.ref i1) (.ref i2)) none
 to:∃a b,W TO=.imm (Zky a b) none
 a1:∃o,W i1=.imm o none∧ItO "list_iterator" (.ref l1) i o
 a2:∃o,W i2=.imm o none∧ItO "list_iterator" (.ref l2) i o
 b1:W l1=.imm o1 (some (.lst xs))
 b2:W l2=.imm o2 (some (.lst ys))
section
variable{z TI TO i1 i2:Addr}
theorem Ve{P:Addr→Prop}(h1:P z)(h2:P TI)(h3:P TO)(h4:P i1)(h5:P i2):∀b∈[z,TI,TO,i1,i2],P b:=memC h1 (memC h2 (memC h3 (XY h4 h5)))
theorem Z4s{b:Addr}(h:b ∉ [z,TI,TO,i1,i2]):b≠z∧b≠TI∧b≠TO∧b≠i1∧b≠i2:=
 ⟨λq=>h (by rw[q];exact .head _),λq=>h (by rw[q];exact .tail _ (.head _)),λq=>h (by rw[q];exact .tail _ (.tail _ (.head _))),λq=>h (by rw[q];exact .tail _ (.tail _ (.tail _ (.head _)))),λq=>h (by rw[q];exact .tail _ (.tail _ (.tail _ (.tail _ (.head _)))))⟩
end
structure Z7q(z TI TO i1 i2:Addr):Prop where
 zTI:z≠TI
 zTO:z≠TO
 zi1:z≠i1
 zi2:z≠i2
 TITO:TI≠TO
 TIi1:TI≠i1
 TIi2:TI≠i2
noncomputable def Z3m{tg:Expr}{z TI TO i1 i2 l1 l2:Addr}{o1 o2:Obj}{xs ys:List ZA}(D:ZipApart z TI TO i1 i2 l1 l2)(ne:Z7q z TI TO i1 i2)(hold:∀a∈[z,TI,TO,i1,i2],X.s1.heap.get? a=none)(htg:Yl tg=true):
  Src X tg none (.ref z) [z,TI,TO,i1,i2] ((xs.zip ys).map λp=>[p.1,p.2]) where
 At i W:=Z7r W z TI TO i1 i2 l1 l2 o1 o2 xs ys i
 old:=hold
 pin h:=Ve ⟨_,h.zo⟩ ⟨_,h.ti⟩ (h.to.elim λZ q=>q.elim λZ q=>⟨_,q⟩) (h.a1.elim λo q=>⟨o,q.1⟩) (h.a2.elim λo q=>⟨o,q.1⟩)
 mono h l hN hJ:=
  have j:=Ve (z:=z) (TI:=TI) (TO:=TO) (i1:=i1) (i2:=i2) (P:=λa=>a∈[z,TI,TO,i1,i2]) (.head _) (.tail _ (.head _)) (.tail _ (.tail _ (.head _))) (.tail _ (.tail _ (.tail _ (.head _)))) (.tail _ (.tail _ (.tail _ (.tail _ (.head _)))))
  ⟨Y4 h.zo l (hJ _ (.head _)),Y4 h.ti l (hJ _ (.tail _ (.head _))),h.to.elim λa q=>q.elim λb q=>⟨a,b,Y4 q l (hJ _ (.tail _ (.tail _ (.head _))))⟩,h.a1.elim λo q=>⟨o,Y4 q.1 l (hJ _ (.tail _ (.tail _ (.tail _ (.head _))))),q.2⟩,
   h.a2.elim λo q=>⟨o,Y4 q.1 l (hJ _ (.tail _ (.tail _ (.tail _ (.tail _ (.head _)))))),q.2⟩,Zcq h.b1 l hN,Zcq h.b2 l hN⟩
 item:=λ{i x W σ s A Q E} hx hat I hst h=>by
  obtain⟨p,q,h1⟩:=hat.to
  obtain⟨o,h2,io⟩:=hat.a1
  obtain⟨o',h3,io'⟩:=hat.a2
  obtain⟨vs1,hl1,hr1⟩:=I.XU hat.b1
  obtain⟨vs2,hl2,hr2⟩:=I.XU hat.b2
  rw[List.getElem?_map]at hx
  obtain⟨⟨y1,y2⟩,hy,rfl⟩:=Z8r.mp hx
  rw[List.getElem?_zip_eq_some]at hy
  obtain⟨v1,hv1,R7⟩:=hr1.at hy.1
  obtain⟨v2,hv2,R6⟩:=hr2.at hy.2
  obtain⟨es,k,ps,rfl⟩:=Ztf htg
  refine wpAny_pyNext_zip_item D (I.imm hat.zo (Q2 λZ Z h=>nomatch h)).1 (I.imm hat.ti (Q2 λZ Z h=>nomatch h)).1 (I.imm h1 (Q2 λZ Z h=>nomatch h)).1 ⟨o,(I.imm h2 (Q2 (Zbb io))).1,io.1,io.2⟩ ⟨o',(I.imm h3 (Q2 (Zbb io'))).1,io'.1,io'.2⟩ hl1.isList hl2.isList hv1 hv2 λh' hz hTO hi1 hi2 hT hsz hk=>?_
  refine wpAny_letOwnedTupleGo_zip (s:={ s with heap:=h' }) hz λh'' hz' hsb=>?_
  obtain⟨p2,hp2,RD,RC⟩:=hi1
  obtain⟨p3,hp3,RB,RA⟩:=hi2
  have kp:∀b o,b≠z→h'.get? b=some o→h''.get? b=some o:=λb o hb e=>(hsb.2 b hb).trans e
  have eTI:=kp _ _ ne.zTI.symm (hk TI _ ne.zTI.symm ne.TITO ne.TIi1 ne.TIi2 (I.imm hat.ti (Q2 λZ Z h=>nomatch h)).1)
  have eTO:=kp _ _ ne.zTO.symm hTO
  have e1:=kp _ _ ne.zi1.symm hp2
  have e2:=kp _ _ ne.zi2.symm hp3
  obtain⟨W2,lx,I2,hv,hp,hs⟩:=I.Gi (Y:=[z,TI,TO,i1,i2]) (h':=h'') (tk:=s.toks) (Ve ⟨_,hat.zo⟩ ⟨_,hat.ti⟩ ⟨_,h1⟩ ⟨_,h2⟩ ⟨_,h3⟩) hold
   (λb o hb e=>have n:=Z4s hb;kp b o n.1 (hk b o n.1 n.2.2.1 n.2.2.2.1 n.2.2.2.2 e)) (Ve ⟨_,hz'⟩ ⟨_,eTI⟩ ⟨_,eTO⟩ ⟨_,e1⟩ ⟨_,e2⟩) R7 R6 (kp _ _ (Nat.ne_of_gt (Heap.lt_size (I.imm hat.zo (Q2 λZ Z h=>nomatch h)).1)) hT)
  exact h W2 _ _ lx I2 ⟨hp _ _ (.head _) hz',hp _ _ (.tail _ (.head _)) eTI,⟨v1,v2,hp _ _ (.tail _ (.tail _ (.head _))) eTO⟩,⟨p2,hp _ _ (.tail _ (.tail _ (.tail _ (.head _)))) e1,RD,RC⟩,
   ⟨p3,hp _ _ (.tail _ (.tail _ (.tail _ (.tail _ (.head _))))) e2,RB,RA⟩,hs _ _ _ hat.b1,hs _ _ _ hat.b2⟩ hv
 self hat I h:=wpAny_pyIter_zip (I.imm hat.zo (Q2 λZ Z h=>nomatch h)).1 h
 stop:=λ{W σ s A Q E} hh hat I hst h=>by
  obtain⟨p,q,h1⟩:=hat.to
  obtain⟨o,h2,io⟩:=hat.a1
  obtain⟨o',h3,io'⟩:=hat.a2
  obtain⟨vs1,hl1,hr1⟩:=I.XU hat.b1
  obtain⟨vs2,hl2,hr2⟩:=I.XU hat.b2
  rw[Z8i,List.length_zip]at io io'
  refine wpAny_pyNext_zip_end hh D (I.imm hat.zo (Q2 λZ Z h=>nomatch h)).1 (I.imm hat.ti (Q2 λZ Z h=>nomatch h)).1 (I.imm h1 (Q2 λZ Z h=>nomatch h)).1 ⟨o,(I.imm h2 (Q2 (Zbb io))).1,io.1,io.2⟩ ⟨o',(I.imm h3 (Q2 (Zbb io'))).1,io'.1,io'.2⟩ hl1.isList hl2.isList ?_ λh' hk=>
   h _ _ Zbw (I.K1 (Y:=[z,TI,TO,i1,i2]) (tk:=s.toks) (Ve ⟨_,hat.zo⟩ ⟨_,hat.ti⟩ ⟨_,h1⟩ ⟨_,h2⟩ ⟨_,h3⟩) hold λb o hb e=>have n:=Z4s hb;hk b o n.1 n.2.2.1 n.2.2.2.1 n.2.2.2.2 e)
  rcases Nat.le_total xs.length ys.length with q | q
  ·left;rw[Nat.min_eq_left q];exact hr1.end
  ·right;rw[Nat.min_eq_right q];exact hr2.end
end
section
variable{X:Cx}{W W':Wd}{σ σ':St}{s s':Shared}{A:Around}{E:Value→Shared→Prop}{Q:Value→Shared→Prop}
inductive SrcR(σ:St):Nat→List ZA→List (List ZA)→Option (Nat×List ZA)→Prop
 |str {t:CS} (h:∀c∈t,c<128):SrcR σ 0 [.str t] (t.map λc=>[ZA.str [c]]) none
 |ref {id:Nat} {xs:List ZA} (h:σ.f id=some (.list xs)):SrcR σ 0 [.ref id] (xs.map λx=>[x]) (some (id,xs))
 |lst (xs:List ZA):SrcR σ 0 [.lst xs] (xs.map λx=>[x]) none
 |tup (xs:List ZA):SrcR σ 0 [.tup xs] (xs.map λx=>[x]) none
 |Rr {xs:List ZA} (h:∀x∈xs,x.isTup=true):SrcR σ 1 [.lst xs] (xs.map (Y2 true)) none
 |Dm {xs:List ZA} (h:∀x∈xs,x.isTup=true):SrcR σ 1 [.tup xs] (xs.map (Y2 true)) none
 |rng {n:Nat} (h:n≤16000):SrcR σ 2 [.int n] ((List.range n).map λ(i:Nat)=>[ZA.int i]) none
 |enu (xs:List ZA):SrcR σ 3 [.lst xs] (xs.zipIdx.map λp=>[ZA.int (p.2:Nat),p.1]) none
 |zip (xs ys:List ZA):SrcR σ 4 [.lst xs,.lst ys] ((xs.zip ys).map λp=>[p.1,p.2]) none
def Made(X:Cx)(tg:Expr)(g:Option (Nat×List ZA))(turns:List (List ZA))(σ:St)(W:Wd)(it:Value)(s₂:Shared):Prop:=
 ∃J W',∃S:Src X tg g it J turns,Le W W'∧Inv X W' σ s₂∧S.At 0 W'∧∀a∈J,W a=.free
theorem Made.le{tg g turns it}{s₂:Shared}(h:Made X tg g turns σ W' it s₂)(l:Le W W')(hf:∀a,W' a=.free→W a=.free):Made X tg g turns σ W it s₂:=
 h.elim λJ h=>h.elim λW2 h=>h.elim λS h=>⟨J,W2,S,l.trans h.1,h.2.1,h.2.2.1,λa ha=>hf a (h.2.2.2 a ha)⟩
theorem Zt2{a b:Addr}{o:Obj}{v}(h:ZN W a (.imm o v) b=.free):W b=.free:=
 Classical.byCases (λe:b=a=>by rw[e,Zi]at h;exact nomatch h) λe=>(Qa e).symm.trans h
theorem Zu0(I:Inv X W σ s){tg:Expr}{g:Option (Nat×List ZA)}{turns:List (List ZA)}{IO:Nat→Obj→Prop}{B:Wd→Prop}{o:Obj}(hfr:o.isFreed=false)(io:IO 0 o)(b:B W)(S:X.s1.heap.get? s.heap.objs.size=none→Vq X tg g s.heap.objs.size turns IO B):
  Made X tg g turns σ W (.ref s.heap.objs.size) { s with heap:=s.heap.push o }:=by
 have hf:=I.free (a:=s.heap.objs.size) (Z70 _)
 have S:=S (I.QN hf)
 obtain⟨I',l'⟩:=I.alloc (o:=o) (v:=none) s.toks hfr trivial
 exact⟨_,_,S.src,l',I',⟨⟨_,Zi ..,io⟩,S.bm b l' ZG.nil⟩,QE hf⟩
theorem Zk0{tg:Expr}{xs:List ZA}(h:Yl tg=false):xs.map (Y2 (Yl tg))=xs.map λx=>[x]:=by rw[h];rfl
theorem Zpw{tg:Expr}{xs:List ZA}(h:Yl tg=true):xs.map (Y2 (Yl tg))=xs.map (Y2 true):=by rw[h]
theorem Znb{tg:Expr}{xs:List ZA}(I:Inv X W σ s){v:Value}(hv:ZE W v (.lst xs))(Vm:Yl tg=true→∀x∈xs,x.isTup=true)(h:∀it s₂,Made X tg none (xs.map (Y2 (Yl tg))) σ W it s₂→Q it s₂):wpAny (model pp X.w) A (pyIter v) Q E s:=by
 obtain⟨a,rfl,o,ha⟩:=hv
 obtain⟨vs,hl,hr⟩:=I.XU ha
 exact wpAny_pyIter_list hl.isList (h _ _ (Zu0 I (IO:=ItO "list_iterator" (.ref a)) (B:=λW=>W a=.imm o (some (.lst xs))) rfl ⟨rfl,rfl⟩ ha λhold=>Ztq hold Zcq (λb I Z=>I.XU b) Vm))
theorem Zqq{tg:Expr}{xs:List ZA}(I:Inv X W σ s){v:Value}(hv:ZE W v (.tup xs))(Vm:Yl tg=true→∀x∈xs,x.isTup=true)(h:∀it s₂,Made X tg none (xs.map (Y2 (Yl tg))) σ W it s₂→Q it s₂):wpAny (model pp X.w) A (pyIter v) Q E s:=by
 obtain⟨a,rfl,o,ha⟩:=hv
 obtain⟨hl,vs,n,e,hr⟩:=I.Vj ha
 exact wpAny_pyIter_tuple ⟨_,e▸hl,rfl,n,rfl⟩ (h _ _ (Zu0 I (IO:=ItO "tuple_iterator" (.ref a)) (B:=λW=>W a=.imm o (some (.tup xs))) rfl ⟨rfl,rfl⟩ ha λhold=>Z3n hold Vm))
theorem Zwp{t:CS}(h:∀c∈t,c<128):(st t).cps.all (· < 128)=true:=by
 rw[Array.all_eq_true_iff_forall_mem]
 exact λc hc=>Z82 (h c (Array.mem_toList_iff.mpr hc))
theorem Zuk{tg:Expr}{P:Prop}(h:Yl tg=false)(q:Yl tg=true):P:=nomatch h.symm.trans q
theorem Z5g{tg:Expr}{x:ZA}{turns g}(htg:Yl tg=false)(e:SrcR σ 0 [x] turns g)(I:Inv X W σ s){v:Value}(hv:ZE W v x)(h:∀it s₂,Made X tg g turns σ W it s₂→Q it s₂):wpAny (model pp X.w) A (pyIter v) Q E s:=by
 cases e with
 |@str t ha=>
  obtain⟨tk,rfl⟩:=hv
  exact wpAny_pyIter_ascii (Zwp ha) (h _ _ (Zu0 I (IO:=ItO "str_ascii_iterator" (.str (st t) tk)) (B:=λZ=>True) rfl ⟨rfl,rfl⟩ trivial λhold=>Z3o hold htg))
 |@ref id xs he=>
  obtain⟨a,rfl,hW,vs,hl,hr⟩:=I.obj hv he
  refine wpAny_pyIter_list hl.isList (h _ _ (Zu0 I (IO:=ItO "list_iterator" (.ref a)) (B:=λW=>W a=.own id) rfl ⟨rfl,rfl⟩ hW λhold=>Zk0 htg▸Ztq hold Zkz (λ{W σ s} b I hst=>?_) (Zuk htg)))
  obtain⟨o',ho',O⟩:=I.own b
  rw[hst _ rfl]at ho'
  rw[←Z8q ho']at O
  exact O
 |lst xs=>exact Znb I hv (Zuk htg) λit s2 m=>h it s2 (Zk0 htg▸m)
 |tup xs=>exact Zqq I hv (Zuk htg) λit s2 m=>h it s2 (Zk0 htg▸m)
theorem Z7g{tg:Expr}{x:ZA}{turns g}(htg:Yl tg=true)(e:SrcR σ 1 [x] turns g)(I:Inv X W σ s){v:Value}(hv:ZE W v x)(h:∀it s₂,Made X tg g turns σ W it s₂→Q it s₂):wpAny (model pp X.w) A (pyIter v) Q E s:=by
 cases e with
 |Rr ha=>exact Znb I hv (λZ=>ha) λit s2 m=>h it s2 (Zpw htg▸m)
 |Dm ha=>exact Zqq I hv (λZ=>ha) λit s2 m=>h it s2 (Zpw htg▸m)
theorem Zt0{n:Nat}(h:n≤16000):Builtin.Range.small 0 n 1=true∧Builtin.Range.rangeSize 0 n 1=n:=by
 have e:Builtin.Range.rangeSize 0 n 1=n:=by
  unfold Builtin.Range.rangeSize
  simp only[show(1:Int) > 0 by decide,if_true]
  split
  ·lia
  ·lia
 refine⟨?_,e⟩
 unfold Builtin.Range.small
 rw[e]
 unfold Builtin.Range.rangeFitsLong
 simp
 lia
theorem Z7f{tg:Expr}{x:ZA}{turns g}(htg:Yl tg=false)(e:SrcR σ 2 [x] turns g)(I:Inv X W σ s){v:Value}(hv:ZE W v x)(h:∀it s₂,Made X tg g turns σ W it s₂→Q it s₂):
  wpAny (model pp X.w) A (call (.type "range") [v]) (λx s₁=>wpAny (model pp X.w) A (pyIter x) Q E s₁) E s:=by
 cases e with
 |@rng n hn=>
  obtain⟨t,rfl⟩:=hv
  obtain⟨h1,h2⟩:=Zt0 hn
  refine call_range_1 ?_
  obtain⟨I',l'⟩:=I.alloc (o:={ cls:=.type "range",data:=.fields #[.int 0 s.toks,.int n t,.int 1 (s.toks+1)] }) (v:=none) (s.toks+1+1) rfl trivial
  refine wpAny_pyIter_range (s:={ s with heap:=s.heap.push _,toks:=s.toks+1+1 }) (Z8y _ rfl) h1 (h _ _ (Made.le ?_ l' λa=>Zt2))
  rw[h2]
  exact Zu0 I' (B:=λZ=>True) rfl (by rw[show(n:Int)-((0:Nat):Int)=n from Int.sub_zero _];rfl) trivial λhold=>Z3p hold htg
theorem Z7e{tg:Expr}{x:ZA}{turns g}(htg:Yl tg=true)(e:SrcR σ 3 [x] turns g)(I:Inv X W σ s){v:Value}(hv:ZE W v x)(h:∀it s₂,Made X tg g turns σ W it s₂→Q it s₂):
  wpAny (model pp X.w) A (call (.type "enumerate") [v]) (λx s₁=>wpAny (model pp X.w) A (pyIter x) Q E s₁) E s:=by
 cases e with
 |enu xs=>
  obtain⟨a,rfl,o,ha⟩:=hv
  obtain⟨vs,hl,hr⟩:=I.XU ha
  have hf:=I.free (a:=s.heap.objs.size) (Z70 _)
  have hf2:=I.free (a:=s.heap.objs.size+1) (Nat.le_succ _)
  refine call_enumerate_list hl.isList λh' hen hit hsz hk=>wpAny_pyIter_enum (s:={ s with heap:=h' }) hen (h _ _ ?_)
  obtain⟨o2,ho2,hc2,hd2⟩:=hit
  have I2:=(I.keeps (tk:=s.toks) hk).pin (a:=s.heap.objs.size) (v:=none) hf ho2 trivial
  have l1:Le W (ZN W s.heap.objs.size (.imm o2 none)):=Yr hf
  have DO:ZN W s.heap.objs.size (.imm o2 none) (s.heap.objs.size+1)=.free:=(Qa (Nat.succ_ne_self _)).trans hf2
  have l2:=Yr (t:=.imm (Zvy s.heap.objs.size ((0:Nat):Int) .none) none) DO
  exact⟨_,_,Z3q (it:=s.heap.objs.size) (e:=s.heap.objs.size+1) (l:=a) (ol:=o) (I.QN hf) (I.QN hf2) (Nat.succ_ne_self _) htg,l1.trans l2,I2.pin (v:=none) DO hen trivial,⟨⟨.none,Zi ..⟩,⟨o2,Qg (Zi ..) l2,hc2,hd2⟩,Qg ha (l1.trans l2)⟩,XY hf2 hf⟩
theorem Zmy{a b:Addr}(h:@LT.lt Nat _ a b):a≠b:=Nat.ne_of_lt h
theorem JX{N i j:Nat}(h:i≠j):@Ne Addr (N+i) (N+j):=λq=>h (Nat.add_left_cancel q)
theorem Inv.VZ(I:Inv X W σ s){N k:Nat}{o:Obj}(hf:∀j,k≤j→W (N+j)=.free)(ho:s.heap.get? (N+k)=some o):Inv X (ZN W (N+k) (.imm o none)) σ s∧Le W (ZN W (N+k) (.imm o none))∧∀j,k+1≤j→ZN W (N+k) (.imm o none) (N+j)=.free:=
 ⟨I.pin (hf k (Z70 _)) ho trivial,Yr (hf k (Z70 _)),λj hj=>(Qa (JX (Nat.ne_of_gt hj))).trans (hf j (Z8b hj))⟩
theorem Z7d{tg:Expr}{x y:ZA}{turns g}(htg:Yl tg=true)(e:SrcR σ 4 [x,y] turns g)(I:Inv X W σ s){v u:Value}(hv:ZE W v x)(hu:ZE W u y)(h:∀it s₂,Made X tg g turns σ W it s₂→Q it s₂):
  wpAny (model pp X.w) A (call (.type "zip") [v,u]) (λx s₁=>wpAny (model pp X.w) A (pyIter x) Q E s₁) E s:=by
 cases e with
 |zip xs ys=>
  obtain⟨a,rfl,o,ha⟩:=hv
  obtain⟨b,rfl,p,hb⟩:=hu
  obtain⟨vs,hl,hr⟩:=I.XU ha
  obtain⟨us,hl2,hr2⟩:=I.XU hb
  have hla:=I.fr a (Znd ha)
  have hlb:=I.fr b (Znd hb)
  have hfr:∀k,0≤k→W (s.heap.objs.size+k)=.free:=λk Z=>I.free (Z71 _ _)
  refine call_zip_2 hl.isList hl2.isList λh' hz hTI hTO hi1 hi2 hsz hk=>wpAny_pyIter_zip (s:={ s with heap:=h' }) hz (h _ _ ?_)
  have I0:=I.keeps (tk:=s.toks) hk
  obtain⟨o1,ho1,hc1,hd1⟩:=hi1
  obtain⟨o2,ho2,hc2,hd2⟩:=hi2
  generalize s.heap.objs.size=N at*
  obtain⟨I1,l1,f1⟩:=I0.VZ hfr (k:=0) ho1
  obtain⟨I2,l2,f2⟩:=I1.VZ f1 ho2
  obtain⟨I3,l3,f3⟩:=I2.VZ f2 hTI
  obtain⟨I4,l4,f4⟩:=I3.VZ f3 hTO
  obtain⟨I5,l5,f5⟩:=I4.VZ f4 hz
  have na:∀j,a≠N+j:=λj=>Zmy (Z73 hla (Z71 _ _))
  have nb:∀j,b≠N+j:=λj=>Zmy (Z73 hlb (Z71 _ _))
  have D:ZipApart (N+4) (N+2) (N+3) N (N+1) a b:=⟨JX (by decide),JX (by decide),JX (i:=0) (by decide),JX (by decide),JX (by decide),JX (j:=0) (by decide),JX (by decide),JX (j:=0) (by decide),JX (by decide),JX (i:=0) (by decide),na 4,na 3,na 0,na 1,nb 4,nb 3,nb 0,nb 1⟩
  have s:=λk=>I.QN (hfr k (Z8d k))
  have l45:=l4.trans l5
  have D8:=l3.trans l45
  have l25:=l2.trans D8
  have l15:=l1.trans l25
  exact⟨_,_,Z3m (z:=N+4) (TI:=N+2) (TO:=N+3) (i1:=N) (i2:=N+1) (l1:=a) (l2:=b) (o1:=o) (o2:=p) D ⟨JX (by decide),JX (by decide),JX (j:=0) (by decide),JX (by decide),JX (by decide),JX (j:=0) (by decide),JX (by decide)⟩ (Ve (s 4) (s 2) (s 3) (s 0) (s 1)) htg,
   l15,I5,⟨Zi ..,Qg (Zi ..) l45,⟨.none,.none,Qg (Zi ..) l5⟩,⟨o1,Qg (Zi ..) l25,hc1,hd1⟩,⟨o2,Qg (Zi ..) D8,hc2,hd2⟩,Qg ha l15,Qg hb l15⟩,
   Ve (hfr 4 (Z8d _)) (hfr 2 (Z8d _)) (hfr 3 (Z8d _)) (hfr 0 (Z8d _)) (hfr 1 (Z8d _))⟩
end
section
def FrP(X:Cx)(W:Wd)(L:Addr):Prop:=∃o,W L=.imm o none∧Lax X L o none
structure FrE(X:Cx)(W:Wd)(f:Env):Prop where
 kind:f.scope.kind=.function
 at':∃L,f.frame=some L∧FrP X W L
def Stk(X:Cx)(W:Wd)(l:List Env):Prop:=∀f∈l,FrE X W f
structure AOK(X:Cx)(md:Bool)(W:Wd)(k:Nat)(A:Around):Prop where
 hh:md=false→A.handled=none
 dp:A.depth+3*k+3<recursionLimit
 un:A.units+10*k+100<cLine
 stk:∃l,A.frames=some l∧Stk X W l
section
variable{X:Cx}{md:Bool}{j:Nat}{W W':Wd}{env:Env}{own:List Addr}{ν:Fm}{σ σ':St}{A:Around}{s s':Shared}
theorem FrP.le{L:Addr}(h:FrP X W L)(l:Le W W'):FrP X W' L:=h.imp λo q=>⟨Qg q.1 l,q.2⟩
theorem FrE.le{f:Env}(h:FrE X W f)(l:Le W W'):FrE X W' f:=⟨h.kind,h.at'.imp λL q=>⟨q.1,q.2.le l⟩⟩
theorem Stk.le{l:List Env}(h:Stk X W l)(hl:Le W W'):Stk X W' l:=λf hf=>(h f hf).le hl
theorem AOK.mono{k i:Nat}{A:Around}(h:AOK X md W k A)(hj:i≤k):AOK X md W i A:=⟨h.hh,by have:=h.dp;lia,by have:=h.un;lia,h.stk⟩
theorem AOK.le{k:Nat}{A:Around}(h:AOK X md W k A)(l:Le W W'):AOK X md W' k A:=⟨h.hh,h.dp,h.un,h.stk.imp λZ q=>⟨q.1,q.2.le l⟩⟩
theorem AOK.u30{k:Nat}{A:Around}(h:AOK X md W k A):A.units+30<cLine:=by have:=h.un;lia
theorem AOK.h0{k:Nat}{A:Around}(h:AOK X false W k A):A.handled=none:=h.hh rfl
structure Cfg(X:Cx)(md:Bool)(j:Nat)(W:Wd)(env:Env)(own:List Addr)(ν:Fm)(σ:St)(A:Around)(s:Shared):Prop where
 frm:Frm X W env own ν
 room:AOK X md W (2*j+1) A
 inv:Inv X W σ s
 top:∃fe rest,A.frames=some (fe::rest)∧fe.frame=env.frame
theorem Cfg.to(c:Cfg X md j W env own ν σ A s)(l:Le W W')(I:Inv X W' σ' s'):Cfg X md j W' env own ν σ' A s':=⟨c.frm.mono l,c.room.le l,I,c.top⟩
theorem Cfg.un(c:Cfg X md j W env own ν σ A s):A.units+30<cLine:=c.room.u30
def PsT(X:Cx)(W:Wd)(σ':St)(b:Bool)(Q:Bool→Shared→Prop):Prop:=∀W' s',Le W W'→Inv X W' σ' s'→Q b s'
theorem Pst.le{r:ZA}{Q:Value→Shared→Prop}(h:Pst X W σ r Q)(l:Le W W'):Pst X W' σ r Q:=λW2 v s2 l2=>h W2 v s2 (l.trans l2)
theorem PsT.le{b:Bool}{Q:Bool→Shared→Prop}(h:PsT X W σ b Q)(l:Le W W'):PsT X W' σ b Q:=λW2 s2 l2=>h W2 s2 (l.trans l2)
end
def EvV(md:Bool)(j:Nat)(e:PE)(ν:Fm)(σ:St)(r:ZA)(σ':St):Prop:=∀{X:Cx}{x:Expr}{env:Env}{own:List Addr}{W:Wd}{A:Around}{s:Shared}{E:Value→Shared→Prop}{Q:Value→Shared→Prop},
 e env.scope x=true→Cfg X md j W env own ν σ A s→Pst X W σ' r Q→wpAny (model pp X.w) A (eval x env) Q E s
def EvT(md:Bool)(j:Nat)(e:PE)(ν:Fm)(σ:St)(b:Bool)(σ':St):Prop:=∀{X:Cx}{x:Expr}{env:Env}{own:List Addr}{W:Wd}{A:Around}{s:Shared}{E:Value→Shared→Prop}{Q:Bool→Shared→Prop},
 e env.scope x=true→Cfg X md j W env own ν σ A s→PsT X W σ' b Q→wpAny (model pp X.w) A (isTrue x env (eval x env)) Q E s
structure EvM(md:Bool)(j:Nat)(e:PE)(ν:Fm)(σ:St)(r:ZA)(σ':St):Prop where
 val:EvV md j e ν σ r σ'
 tst:∀b,r=.bool b→EvT md j e ν σ b σ'
inductive YK(md:Bool)(j:Nat)(ν:Fm):List PE→St→List ZA→St→Prop
 |nil (σ:St):YK md j ν [] σ [] σ
 |cons {e:PE} {es:List PE} {σ σ1 σ2:St} {v:ZA} {vs:List ZA} (h:EvM md j e ν σ v σ1) (hs:YK md j ν es σ1 vs σ2):YK md j ν (e::es) σ (v::vs) σ2
noncomputable abbrev EvE:=EvM false
noncomputable abbrev JF:=YK false
def Zw4(x:Expr):Prop:=∀(env:Env)(whole:Sem Value),isTrue x env whole=(do let v ←whole;standAt x.pos;holding [v] (truthy v))
section
variable{md:Bool}{j:Nat}{ν ν':Fm}{σ σ1 σ2 σ3 σ4:St}{x y z w v:ZA}{a b c e t o i l h s:PE}{es src ifs:List PE}{us vs ws xs ys:List ZA}{n m f q:String}{r:ZA}{id:Nat}
theorem EvM.plain(hp:∀{sc:Scope}{x:Expr},e sc x=true→Zw4 x)(h:EvV md j e ν σ r σ1):EvM md j e ν σ r σ1:=⟨h,λb hb {X x env own W A s E Q} hf c hq=>by
 rw[hp hf]
 subst hb
 refine Z8z (h hf c λW1 v s1 l1 I1 hv=>Z8z (wpAny_standAt (wpAny_holding ?_)))
 rw[hv.bool]
 exact wpAny_truthy_bool (hq W1 s1 l1 I1)⟩
inductive K9:ZA→Const→Prop
 |none:K9 .none .none
 |bool (b:Bool):K9 (.bool b) (.bool b)
 |int (i:Int):K9 (.int i) (.int i)
 |str (c:CS):K9 (.str c) (.str ⟨c.toArray⟩)
theorem Zn1{v:ZA}{c:Const}(h:Zwc v c=true):K9 v c:=by
 unfold Zwc at h
 cases c with
 |none=>exact@ZA.casesOn (λv=>@ZA.casesOn (λZ=>Bool) v true (λZ=>false) (λZ=>false) (λZ=>false) (λZ=>false) (λZ=>false) (λZ=>false)=true→K9 v .none) v (λZ=>.none) (λZ h=>nomatch h) (λZ h=>nomatch h) (λZ h=>nomatch h) (λZ h=>nomatch h) (λZ h=>nomatch h) (λZ h=>nomatch h) h
 |bool p=>exact@ZA.casesOn (λv=>@ZA.casesOn (λZ=>Bool) v false (λa=>a==p) (λZ=>false) (λZ=>false) (λZ=>false) (λZ=>false) (λZ=>false)=true→K9 v (.bool p)) v (λh=>nomatch h) (λa h=>Z84 h▸.bool a) (λZ h=>nomatch h) (λZ h=>nomatch h) (λZ h=>nomatch h) (λZ h=>nomatch h) (λZ h=>nomatch h) h
 |int k=>exact@ZA.casesOn (λv=>@ZA.casesOn (λZ=>Bool) v false (λZ=>false) (λa=>a==k) (λZ=>false) (λZ=>false) (λZ=>false) (λZ=>false)=true→K9 v (.int k)) v (λh=>nomatch h) (λZ h=>nomatch h) (λa h=>Z84 h▸.int a) (λZ h=>nomatch h) (λZ h=>nomatch h) (λZ h=>nomatch h) (λZ h=>nomatch h) h
 |str t=>exact@ZA.casesOn (λv=>@ZA.casesOn (λZ=>Bool) v false (λZ=>false) (λZ=>false) (λc=>t==⟨c.toArray⟩) (λZ=>false) (λZ=>false) (λZ=>false)=true→K9 v (.str t)) v (λh=>nomatch h) (λZ h=>nomatch h) (λZ h=>nomatch h) (λa h=>Z84 h▸.str a) (λZ h=>nomatch h) (λZ h=>nomatch h) (λZ h=>nomatch h) h
 |_=>exact nomatch h
theorem Zf:EvM md j (.cst v) ν σ v σ:=.plain (λh=>Zar h λZ Z Z Z Z Z=>rfl) λ{X x env own W A s E Q} hf c hq=>Zar hf λk kk p hk=>by
 cases Zn1 hk with
 |none=>exact wpAny_Constant_none (hq.mk c.inv (show ZE W .none .none from rfl))
 |bool b=>exact wpAny_Constant_bool (Pst.ZW c.inv hq)
 |int i=>exact wpAny_Constant_int (Pst.QD c.inv hq)
 |str t=>exact wpAny_Constant_str (Pst.YR c.inv hq)
theorem Zsz{k:Int}(h:EvM md j e ν σ (.int k) σ1):EvM md j (.neg e) ν σ (.int (-k)) σ1:=⟨λ{X x env own W A s E Q} hf c hq=>Zet hf λop y p h2=>by
 have ho:=(ZC h2).1
 have hf:=(ZC h2).2
 obtain rfl:=(Z84 ho).symm
 exact PyProof.Rows.UnaryOp_ (h.val hf c λW1 v s1 l1 I1 hv=>hv.YF λt=>PySem.P.neg_int (Pst.QD I1 (hq.le l1))),λb hb=>nomatch hb⟩
theorem Zxb{sc:Scope}{n:Str}(h:vis sc n=true):(∃kd,sc.names.lookup n=some kd∧(kd=.local∨CF kd))∧(n==("__debug__":Str))=false∧(n==("__classdict__":Str))=false:=by
 have h1:=(ZC h).1
 have h2:=(ZC h).2
 have h3:=(ZC h2).1
 have h4:=(ZC h2).2
 refine⟨Zj (Q:=λo=>∃kd,o=some kd∧(kd=.local∨CF kd)) h1 (λq=>no q) λk hk=>⟨k,rfl,?_⟩,(Bool.not_eq_true' _).mp h3,(Bool.not_eq_true' _).mp h4⟩
 exact((Bool.or_eq_true_iff.mp hk).imp Z84 λq=>(Bool.or_eq_true_iff.mp q).imp Z84 Z84)
theorem Zb(h:ν n=some v):EvM md j (.loc n) ν σ v σ:=.plain (λh=>Ym h λZ Z Z Z Z=>rfl) λ{X x env own W A s E Q} hf c hq=>Ym hf λm p h2=>by
 have ho:=(ZC h2).1
 have hf:=(ZC h2).2
 obtain rfl:=(Z84 ho).symm
 obtain⟨⟨kd,hk,hc⟩,hd,hn⟩:=Zxb hf
 exact c.frm.load c.inv h hk hc hd hn λcv hv=>hq.mk c.inv hv
theorem Yu{op:Operator}(ha:EvM md j a ν σ x σ1)(hb:EvM md j b ν σ1 y σ2)(h:KA σ2 op x y v):EvM md j (.bin op a b) ν σ v σ2:=.plain (λh=>Zbj h λZ Z Z Z Z Z Z=>rfl) λ{X x env own W A s E Q} hf c hq=>Zbj hf λl o r p h2=>by
 have ho:=(ZC h2).1
 have hf:=(ZC h2).2
 obtain rfl:=(Z84 ho).symm
 have hf1:=(ZC hf).1
 have hf2:=(ZC hf).2
 exact wpAny_BinOp (ha.val hf1 c λW1 v s1 l1 I1 hv=>hb.val hf2 (c.to l1 I1) λW2 u s2 l2 I2 hu=>Z55 h I2 (hv.mono l2) hu (hq.le (l1.trans l2)))
theorem Z7l(ha:EvM md j a ν σ x σ1)(hb:EvM md j b ν σ1 y σ2)(hx:LOf σ2 x xs)(hy:LOf σ2 y ys)(hl:xs.length+ys.length≤16000):EvM md j (.cat a b) ν σ (.ref σ2.n) (σ2.new (.list (xs++ys))):=.plain (λh=>Zbj h λZ Z Z Z Z Z Z=>rfl) λ{X x env own W A s E Q} hf c hq=>Zbj hf λl o r p h2=>by
 have ho:=(ZC h2).1
 have hf:=(ZC h2).2
 obtain rfl:=(Z84 ho).symm
 exact wpAny_BinOp (ha.val (ZC hf).1 c λW1 v s1 l1 I1 hv=>hb.val (ZC hf).2 (c.to l1 I1) λW2 u s2 l2 I2 hu=>Zw1 hx hy hl I2 (hv.mono l2) hu λhr=>Pst.KL (tk:=s2.toks) I2 (hq.le (l1.trans l2)) (λZ Z e=>Z8x _ e) (Z5 _) ⟨0,Z8y _ rfl⟩ hr)
theorem Zb1{op:CmpOp}{r:Expr}(h:Zfs r=true):behindInMarks op r=false:=by
 cases r<;>first | rfl | exact nomatch h
theorem Zm{op:CmpOp}{p:Bool}(ha:EvM md j a ν σ x σ1)(hb:EvM md j b ν σ1 y σ2)(h:ZR σ2 op x y p):EvM md j (.cmp op a b) ν σ (.bool p) σ2:=
 ⟨λ{X x env own W A s E Q} hf c hq=>Jv hf λl os rs p h2=>by
  have ho:=(ZC h2).1
  have hf:=(ZC h2).2
  have hf1:=(ZC hf).1
  have hf:=(ZC hf).2
  refine Qf (Q:=λos=>wpAny _ _ (eval (.Compare l os rs p) env) Q E s) ho λo ho=>Qf (Q:=λrs=>wpAny _ _ (eval (.Compare l [o] rs p) env) Q E s) hf λr hf=>?_
  obtain rfl:=(Z84 ho).symm
  exact wpAny_Compare1 (ha.val hf1 c λW1 v s1 l1 I1 hv=>hb.val (ZC hf).1 (c.to l1 I1) λW2 u s2 l2 I2 hu=>Zj3 h I2 (hv.mono l2) hu c.un (hq.le (l1.trans l2))) (Zb1 (ZC hf).2),
 λbb hbb {X x env own W A s E Q} hf c hq=>Jv hf λl os rs p h2=>by
  injection hbb with hbb
  subst hbb
  have ho:=(ZC h2).1
  have hf:=(ZC h2).2
  have hf1:=(ZC hf).1
  have hf:=(ZC hf).2
  refine Qf (Q:=λos=>wpAny _ _ (isTrue (.Compare l os rs p) env (eval (.Compare l os rs p) env)) Q E s) ho λo ho=>Qf (Q:=λrs=>wpAny _ _ (isTrue (.Compare l [o] rs p) env (eval (.Compare l [o] rs p) env)) Q E s) hf λr hf=>?_
  obtain rfl:=(Z84 ho).symm
  exact wpAny_isTrue_Compare1 (ha.val hf1 c λW1 v s1 l1 I1 hv=>hb.val (ZC hf).1 (c.to l1 I1) λW2 u s2 l2 I2 hu=>Zj3 h I2 (hv.mono l2) hu c.un λW3 v s3 l3 I3 hc=>hc.YO (wpAny_truthy_bool (hq W3 s3 ((l1.trans l2).trans l3) I3))) (Zb1 (ZC hf).2)⟩
theorem Zz9{o1 o2:CmpOp}{r1 r2:Expr}(h:Zfs r2=true):lastMarks [o1,o2] [r1,r2]=false:=Zb1 h
theorem Zcv{o1 o2:CmpOp}{p:Bool}(ha:EvM md j a ν σ x σ1)(hb:EvM md j b ν σ1 y σ2)(h:ZR σ2 o1 x y true)(hc:EvM md j c ν σ2 z σ3)(h2:ZR σ3 o2 y z p):EvM md j (.KS a o1 b o2 c) ν σ (.bool p) σ3:=
 ⟨λ{X x env own W A s E Q} hf C hq=>Jv hf λl os rs p hh=>by
  have ho:=(ZC hh).1
  have hf:=(ZC hh).2
  have hf1:=(ZC hf).1
  have hf:=(ZC hf).2
  refine Zdl (Q:=λos=>wpAny _ _ (eval (.Compare l os rs p) env) Q E s) ho λp1 p2 ho=>Zdl (Q:=λrs=>wpAny _ _ (eval (.Compare l [p1,p2] rs p) env) Q E s) hf λr t hf=>?_
  obtain rfl:=(Z84 (ZC ho).1).symm
  obtain rfl:=(Z84 (ZC ho).2).symm
  have hf2:=(ZC hf).1
  have hf:=(ZC hf).2
  exact PyProof.Rows.Compare_chain (ha.val hf1 C λW1 v s1 l1 I1 hv=>PyProof.Rows.chain_link (hb.val hf2 (C.to l1 I1) λW2 u s2 l2 I2 hu=>Zj3 h I2 (hv.mono l2) hu C.un λW3 v s3 l3 I3 hc3=>hc3.YO (wpAny_truthy_bool (PyProof.Rows.chain_last
   (hc.val (ZC hf).1 (C.to ((l1.trans l2).trans l3) I3) λW4 w s4 l4 I4 hw=>Zj3 h2 I4 ((hu.mono l3).mono l4) hw C.un (hq.le (((l1.trans l2).trans l3).trans l4))))))) (Zz9 (ZC hf).2),
 λbb hbb {X x env own W A s E Q} hf C hq=>Jv hf λl os rs p hh=>by
  injection hbb with hbb
  subst hbb
  have ho:=(ZC hh).1
  have hf:=(ZC hh).2
  have hf1:=(ZC hf).1
  have hf:=(ZC hf).2
  refine Zdl (Q:=λos=>wpAny _ _ (isTrue (.Compare l os rs p) env (eval (.Compare l os rs p) env)) Q E s) ho λp1 p2 ho=>Zdl (Q:=λrs=>wpAny _ _ (isTrue (.Compare l [p1,p2] rs p) env (eval (.Compare l [p1,p2] rs p) env)) Q E s) hf λr t hf=>?_
  obtain rfl:=(Z84 (ZC ho).1).symm
  obtain rfl:=(Z84 (ZC ho).2).symm
  have hf2:=(ZC hf).1
  have hf:=(ZC hf).2
  exact PyProof.Rows.isTrue_chain (ha.val hf1 C λW1 v s1 l1 I1 hv=>PyProof.Rows.test_link (hb.val hf2 (C.to l1 I1) λW2 u s2 l2 I2 hu=>Zj3 h I2 (hv.mono l2) hu C.un λW3 v s3 l3 I3 hc3=>hc3.YO (wpAny_truthy_bool (PyProof.Rows.test_last
   (hc.val (ZC hf).1 (C.to ((l1.trans l2).trans l3) I3) λW4 w s4 l4 I4 hw=>Zj3 h2 I4 ((hu.mono l3).mono l4) hw C.un λW5 v s5 l5 I5 hc5=>hc5.YO (wpAny_truthy_bool (hq W5 s5 ((((l1.trans l2).trans l3).trans l4).trans l5) I5))))))) (Zz9 (ZC hf).2)⟩
end
end
section
section
variable{sc:Scope}{x:Expr}{C:Expr→Prop}{a b c:PE}
@[elab_as_elim]theorem Zl1(h:PE.and a b sc x=true)(f:∀l r p,a sc l=true→b sc r=true→C (.BoolOp .And [l,r] p)):C x:=Zci h λo vs p h=>
 Zdl (Q:=λvs=>C (.BoolOp o vs p)) (ZC h).2 λl r hf=>(Z84 (ZC h).1).symm▸f l r p (ZC hf).1 (ZC hf).2
@[elab_as_elim]theorem Zqd(h:PE.or a b sc x=true)(f:∀l r p,a sc l=true→b sc r=true→C (.BoolOp .Or [l,r] p)):C x:=Zci h λo vs p h=>
 Zdl (Q:=λvs=>C (.BoolOp o vs p)) (ZC h).2 λl r hf=>(Z84 (ZC h).1).symm▸f l r p (ZC hf).1 (ZC hf).2
@[elab_as_elim]theorem Ze9(h:PE.or3 a b c sc x=true)(f:∀l r t p,a sc l=true→b sc r=true→c sc t=true→C (.BoolOp .Or [l,r,t] p)):C x:=Zci h λo vs p h=>
 Z2b (Q:=λvs=>C (.BoolOp o vs p)) (ZC h).2 λl r t hf=>(Z84 (ZC h).1).symm▸f l r t p (ZC hf).1 (ZC (ZC hf).2).1 (ZC (ZC hf).2).2
@[elab_as_elim]theorem Zug(h:PE.not a sc x=true)(f:∀y p,a sc y=true→C (.UnaryOp .Not y p)):C x:=Zet h λo y p h=>(Z84 (ZC h).1).symm▸f y p (ZC h).2
end
section
variable{md:Bool}{j:Nat}{ν ν':Fm}{σ σ1 σ2 σ3 σ4:St}{x y z w v:ZA}{a b c e t o i l h s:PE}{es src ifs:List PE}{us vs ws xs ys:List ZA}{n m f q:String}{r:ZA}{id:Nat}
theorem EvT.congr{b b':Bool}(h:EvT md j e ν σ b σ1)(hb:ZA.bool b=.bool b'):EvT md j e ν σ b' σ1:=by injection hb with hb;exact hb▸h
theorem EvM.mkB{p:Bool}(h:EvV md j e ν σ (.bool p) σ1)(ht:EvT md j e ν σ p σ1):EvM md j e ν σ (.bool p) σ1:=⟨h,λZ hb=>ht.congr hb⟩
theorem EvM.te{p:Bool}(h:EvM md j e ν σ (.bool p) σ1):EvT md j e ν σ p σ1:=h.tst p rfl
theorem Jb(ha:EvM md j a ν σ (.bool false) σ1):EvM md j (.and a b) ν σ (.bool false) σ1:=.mkB
 (λ{X x env own W A s E Q} hf c hq=>Zl1 hf λl r p h1 h2=>PyProof.Rows.BoolOp_and (ha.val h1 c λW1 v s1 l1 I1 hv=>hv.YO (wpAny_truthy_bool (Pst.ZW I1 (hq.le l1)))))
 (λ{X x env own W A s E Q} hf c hq=>Zl1 hf λl r p h1 h2=>PyProof.Rows.isTrue_and (ha.te h1 c hq))
theorem Zw{p:Bool}(ha:EvM md j a ν σ (.bool true) σ1)(hb:EvM md j b ν σ1 (.bool p) σ2):EvM md j (.and a b) ν σ (.bool p) σ2:=.mkB
 (λ{X x env own W A s E Q} hf c hq=>Zl1 hf λl r p h1 h2=>PyProof.Rows.BoolOp_and (ha.val h1 c λW1 v s1 l1 I1 hv=>hv.YO (wpAny_truthy_bool (PyProof.Rows.BoolOp_one (hb.val h2 (c.to l1 I1) (hq.le l1))))))
 (λ{X x env own W A s E Q} hf c hq=>Zl1 hf λl r ps h1 h2=>PyProof.Rows.isTrue_and (ha.te h1 c λW1 s1 l1 I1=>PyProof.Rows.isTrue_and (hb.te h2 (c.to l1 I1) λW2 s2 l2 I2=>by
  cases p
  ·exact hq W2 s2 (l1.trans l2) I2
  ·exact PyProof.Rows.isTrue_and_nil (hq W2 s2 (l1.trans l2) I2))))
theorem Zv2(ha:EvM md j a ν σ (.bool true) σ1):EvM md j (.or a b) ν σ (.bool true) σ1:=.mkB
 (λ{X x env own W A s E Q} hf c hq=>Zqd hf λl r p h1 h2=>PyProof.Rows.BoolOp_or (ha.val h1 c λW1 v s1 l1 I1 hv=>hv.YO (wpAny_truthy_bool (Pst.ZW I1 (hq.le l1)))))
 (λ{X x env own W A s E Q} hf c hq=>Zqd hf λl r p h1 h2=>PyProof.Rows.isTrue_or (ha.te h1 c hq))
theorem Zbf{p:Bool}(ha:EvM md j a ν σ (.bool false) σ1)(hb:EvM md j b ν σ1 (.bool p) σ2):EvM md j (.or a b) ν σ (.bool p) σ2:=.mkB
 (λ{X x env own W A s E Q} hf c hq=>Zqd hf λl r p h1 h2=>PyProof.Rows.BoolOp_or (ha.val h1 c λW1 v s1 l1 I1 hv=>hv.YO (wpAny_truthy_bool (PyProof.Rows.BoolOp_one (hb.val h2 (c.to l1 I1) (hq.le l1))))))
 (λ{X x env own W A s E Q} hf c hq=>Zqd hf λl r ps h1 h2=>PyProof.Rows.isTrue_or (ha.te h1 c λW1 s1 l1 I1=>PyProof.Rows.isTrue_or (hb.te h2 (c.to l1 I1) λW2 s2 l2 I2=>by
  cases p
  ·exact PyProof.Rows.isTrue_or_nil (hq W2 s2 (l1.trans l2) I2)
  ·exact hq W2 s2 (l1.trans l2) I2)))
theorem J7{p:Bool}(ha:EvM md j a ν σ (.bool false) σ1)(hb:EvM md j b ν σ1 (.bool false) σ2)(hc:EvM md j c ν σ2 (.bool p) σ3):EvM md j (.or3 a b c) ν σ (.bool p) σ3:=.mkB
 (λ{X x env own W A s E Q} hf C hq=>Ze9 hf λl r t p h1 h2 h3=>PyProof.Rows.BoolOp_or (ha.val h1 C λW1 v s1 l1 I1 hv=>hv.YO (wpAny_truthy_bool (PyProof.Rows.BoolOp_or (hb.val h2 (C.to l1 I1) λW2 v s2 l2 I2 hv=>hv.YO (wpAny_truthy_bool
  (PyProof.Rows.BoolOp_one (hc.val h3 (C.to (l1.trans l2) I2) (hq.le (l1.trans l2))))))))))
 (λ{X x env own W A s E Q} hf C hq=>Ze9 hf λl r t ps h1 h2 h3=>PyProof.Rows.isTrue_or (ha.te h1 C λW1 s1 l1 I1=>PyProof.Rows.isTrue_or (hb.te h2 (C.to l1 I1) λW2 s2 l2 I2=>PyProof.Rows.isTrue_or (hc.te h3 (C.to (l1.trans l2) I2) λW3 s3 l3 I3=>by
  cases p
  ·exact PyProof.Rows.isTrue_or_nil (hq W3 s3 ((l1.trans l2).trans l3) I3)
  ·exact hq W3 s3 ((l1.trans l2).trans l3) I3))))
theorem Zao{p:Bool}(ha:EvM md j a ν σ (.bool p) σ1):EvM md j (.not a) ν σ (.bool !p) σ1:=.mkB
 (λ{X x env own W A s E Q} hf c hq=>Zug hf λy p h1=>PyProof.Rows.UnaryOp_ (ha.val h1 c λW1 v s1 l1 I1 hv=>hv.YO (PyProof.Rows.not_of (wpAny_truthy_bool (Pst.ZW I1 (hq.le l1))))))
 (λ{X x env own W A s E Q} hf c hq=>Zug hf λy p h1=>PyProof.Rows.isTrue_not (ha.te h1 c hq))
theorem Zbg(ht:EvM md j t ν σ (.bool true) σ1)(h:EvM md j a ν σ1 v σ2):EvM md j (.cond t a b) ν σ v σ2:=
 ⟨λ{X x env own W A s E Q} hf c hq=>Zbi hf λu l r p h2=>PyProof.Rows.IfExp_ (ht.te (ZC h2).1 c λW1 s1 l1 I1=>h.val (ZC (ZC h2).2).1 (c.to l1 I1) (hq.le l1)),
 λbb hb {X x env own W A s E Q} hf c hq=>Zbi hf λu l r p h2=>PyProof.Rows.isTrue_IfExp (ht.te (ZC h2).1 c λW1 s1 l1 I1=>h.tst bb hb (ZC (ZC h2).2).1 (c.to l1 I1) (hq.le l1))⟩
theorem Zah(ht:EvM md j t ν σ (.bool false) σ1)(h:EvM md j b ν σ1 v σ2):EvM md j (.cond t a b) ν σ v σ2:=
 ⟨λ{X x env own W A s E Q} hf c hq=>Zbi hf λu l r p h2=>PyProof.Rows.IfExp_ (ht.te (ZC h2).1 c λW1 s1 l1 I1=>h.val (ZC (ZC h2).2).2 (c.to l1 I1) (hq.le l1)),
 λbb hb {X x env own W A s E Q} hf c hq=>Zbi hf λu l r p h2=>PyProof.Rows.isTrue_IfExp (ht.te (ZC h2).1 c λW1 s1 l1 I1=>h.tst bb hb (ZC (ZC h2).2).2 (c.to l1 I1) (hq.le l1))⟩
theorem Yx(ha:EvM md j a ν σ x σ1)(hb:EvM md j i ν σ1 y σ2)(h:Va σ2 x y v):EvM md j (.idx a i) ν σ v σ2:=.plain (λh=>Qi h λZ Z Z Z Z Z=>rfl) λ{X x env own W A s E Q} hf c hq=>Qi hf λu r p h2=>
 PyProof.Rows.Subscript_ (ha.val (ZC h2).1 c λW1 v s1 l1 I1 hv=>hb.val (ZC (ZC h2).2).1 (c.to l1 I1) λW2 u s2 l2 I2 hu=>
  have g:=Z5h (E:=E) (A:=A) h I2 (hv.mono l2) hu c.un (hq.le (l1.trans l2))
  Ztl g.1 g.2)
theorem Zuc(h:EvM md j e ν σ v σ1){X:Cx}{oe:Option Expr}{env:Env}{own:List Addr}{W:Wd}{A:Around}{s:Shared}{E:Value→Shared→Prop}{Q:Value→Shared→Prop}(hf:PE.opt e env.scope oe=true)(hn:oe=none→v=.none∧σ1=σ)(c:Cfg X md j W env own ν σ A s)(hq:Pst X W σ1 v Q):
  wpAny (model pp X.w) A (valueOrNone (evalOpt oe env)) Q E s:=by
 cases oe with
 |some y=>exact h.val hf c hq
 |none=>obtain⟨rfl,rfl⟩:=hn rfl;exact Z80 (hq.mk c.inv (show ZE W .none .none from rfl))
structure Gf(md:Bool)(j:Nat)(e:PE)(ν:Fm)(σ:St)(v:ZA)(σ':St):Prop where
 ev:EvM md j e ν σ v σ'
 no:∀sc,e sc (.Constant .none 0 default)=true→v=.none∧σ'=σ
theorem Zrz:3≤sizeLine+2:=by rw[sizeLine_eq];exact Z78 rfl
theorem Qw(ha:EvM md j a ν σ x σ1)(hl:Gf md j l ν σ1 y σ2)(hh:Gf md j h ν σ2 z σ3)(hs:Gf md j s ν σ3 w σ4)(hv:JR σ4 x y z w v):EvM md j (.slc a l h s) ν σ v σ4:=.plain (λh=>Qi h λZ Z Z Z Z Z=>rfl) λ{X x env own W A st E Q} hf c hq=>Qi hf λu sl p h2=>by
 have hf1:=(ZC h2).1
 have hf:=(ZC h2).2
 refine PyProof.Rows.Subscript_ (ha.val hf1 c λW1 v s1 l1 I1 hv1=>?_)
 refine Zpm hf λlo up stp p2 h3=>?_
 have f1:=(ZC h3).1
 have h3:=(ZC h3).2
 have f2:=(ZC h3).1
 have f3:=(ZC h3).2
 rw[arm_eval_Slice]
 refine Z8z (Zuc hl.ev f1 (λq=>hl.no _ (q▸f1)) (c.to l1 I1) λW2 u2 s2 l2 I2 hu2=>?_)
 refine Z8z (wpAny_holding (Zuc hh.ev f2 (λq=>hh.no _ (q▸f2)) (c.to (l1.trans l2) I2) λW3 u3 s3 l3 I3 hu3=>?_))
 refine Z8z (wpAny_holding (Zuc hs.ev f3 (λq=>hs.no _ (q▸f3)) (c.to ((l1.trans l2).trans l3) I3) λW4 u4 s4 l4 I4 hu4=>?_))
 refine wpAny_newObj_type ?_ Zrz
 obtain⟨I5,l5⟩:=I4.alloc (o:={ cls:=.type "slice",data:=.fields #[u2,u3,u4] }) (v:=none) s4.toks rfl trivial
 have g:=Z3v (E:=E) (A:=A) hv I5 ((((hv1.mono l2).mono l3).mono l4).mono l5) (((hu2.mono l3).mono l4).mono l5) ((hu3.mono l4).mono l5) (hu4.mono l5) (Heap.IsSliceOf.new s4.heap u2 u3 u4) (hq.le ((((l1.trans l2).trans l3).trans l4).trans l5))
 exact Ztl g.1 g.2
theorem Yb:Gf md j (.cst v) ν σ v σ:=⟨Zf,λsc h=>by
 have h:Zwc v .none=true:=h
 cases Zn1 h;exact⟨rfl,rfl⟩⟩
theorem Za9{o:Expr}{n:Str}{env:Env}{whole:Sem Value}(h:Zdz o=true):attributeBase o n env whole=whole:=by
 cases o with
 |Call f args kws pos=>
  cases f with
  |Name m p=>
   cases args with
   |nil=>
    cases kws with
    |nil=>exact nomatch h
    |cons=>rfl
   |cons=>rfl
  |_=>rfl
 |_=>rfl
theorem Z5z{cl:String}{k:Nat}{mm:Fm}(h:EvM md j e ν σ (.ref id) σ1)(hf:σ1.f id=some (.inst cl k mm))(hm:mm n=some v)(ht:J9.contains (cl,n)=true):EvM md j (.att e n) ν σ v σ1:=.plain (λh=>Z9 h λZ Z Z Z Z Z=>rfl) λ{X x env own W A st E Q} hf' c hq=>Z9 hf' λu m p h2=>by
 have ho:=(ZC h2).1
 have h3:=(ZC h2).2
 obtain rfl:=(Z84 ho).symm
 rw[arm_eval_Attribute,Za9 (ZC h3).1]
 refine Z8z (h.val (ZC h3).2 c λW1 v s1 l1 I1 hv=>Z8z (wpAny_standAt (Z8z (wpAny_holding (Z6b hf hm ht I1 hv (λW2 u s2 l2 I2 hu=>?_) _)))))
 exact Z8z (wpAny_letTemporaryGo (Z80 (hq W2 u s2 (l1.trans l2) I2 hu)))
end
end
section
structure QA(md:Bool)(j:Nat)(q:String)(vs:List ZA)(σ:St)(r:ZA)(σ':St):Prop where
 run:∀{X:Cx}{W:Wd}{s:Shared}{A:Around}{cvs:List Value}{f:Addr}{R:Result→Shared→Prop},fnA q=some f→AOK X md W (2*j) A→Inv X W σ s→ZF W cvs vs→
 (∀W' v s',Le W W'→Inv X W' σ' s'→ZE W' v r→R (.ok (.ret v)) s')→codeAny (model pp X.w) A (.call (.ref f) ⟨cvs,[]⟩) R s
noncomputable abbrev Zq:=QA false
section
variable{X:Cx}{W W':Wd}{σ σ':St}{s s':Shared}{A:Around}{E:Value→Shared→Prop}{Q:Value→Shared→Prop}{md:Bool}{j:Nat}{ν:Fm}{es:List PE}{vs:List ZA}{env:Env}{own:List Addr}
theorem QA.call{q:String}{r:ZA}{f:Addr}{cvs:List Value}(h:QA md j q vs σ r σ')(hf:fnA q=some f)(hA:AOK X md W (2*j) A)(I:Inv X W σ s)(hv:ZF W cvs vs)(hq:Pst X W σ' r Q):wpAny (model pp X.w) A (PySem.call (.ref f) cvs) Q E s:=
 wpAny_call (h.run hf hA I hv λW' v s' l I' hv'=>hq W' v s' l I' hv')
theorem Qj{x:Expr}{xs:List Expr}{pos:Pos}(h:J1 x=true):backTo pos (starEach (x::xs) env)=(false,eval x env)::backTo pos (starEach xs env):=by
 cases x<;>first | rfl | exact nomatch h
theorem Zca{sc:Scope}:∀{es:List PE}{xs:List Expr},Q9 sc es xs=true→es.length=xs.length
 | [],xs,h=>by rw[Z8 h];rfl
 |e::es,xs,h=>Z2 (Q:=λxs=>(e::es).length=xs.length) h λx r h=>Z81 Nat.succ (Zca (ZC (ZC h).2).2)
theorem Zo{sc:Scope}:∀{es:List PE}{xs:List Expr},Q9 sc es xs=true→∀x∈xs,J1 x=true
 | [],xs,h,x,hx=>by rw[Z8 h]at hx;exact nomatch hx
 |e::es,xs,h,x,hx=>Z2 (Q:=λxs=>x∈xs→J1 x=true) h (λy r h hx=>(Z8k.mp hx).elim (λq=>q▸(ZC h).1) (Zo (ZC (ZC h).2).2 x)) hx
theorem YK.len(h:YK md j ν es σ vs σ'):es.length=vs.length:=by
 induction h with
 |nil=>rfl
 |cons _ _ ih=>exact Z81 Nat.succ ih
theorem Jm(h:YK md j ν es σ vs σ'):∀{xs:List Expr}{W:Wd}{s:Shared}{pos:Pos}{Q:List Value→Shared→Prop},Q9 env.scope es xs=true→Cfg X md j W env own ν σ A s→(∀W' cvs s',Le W W'→Inv X W' σ' s'→ZF W' cvs vs→Q cvs s')→wpAny (model pp X.w) A (spliced (backTo pos (starEach xs env))) Q E s:=by
 induction h with
 |nil=>intro xs W s pos Q hf c hq;rw[Z8 hf];exact Calls.spliced_nil (hq W [] s (LeX.refl [] W) c.inv trivial)
 |@cons e es σ σ1 σ2 v vs he _ ih=>
  intro xs W s pos Q hf c hq
  refine Z2 (Q:=λxs=>wpAny _ _ (spliced (backTo pos (starEach xs env))) Q E s) hf λx r hf=>?_
  have hn:=(ZC hf).1
  have hf:=(ZC hf).2
  rw[Qj hn]
  exact Calls.spliced_cons (he.val (ZC hf).1 c λW1 v s1 l1 I1 hv=>ih (ZC hf).2 (c.to l1 I1) λW2 vs s2 l2 I2 hvs=>hq W2 _ s2 (l1.trans l2) I2 ⟨hv.mono l2,hvs⟩)
theorem Zgp{n:Nat}{cvs:List Value}(hv:ZF W cvs vs)(h:n=vs.length)(hb:Nat.blt n 100=true):cvs.length≤sizeLine:=by
 rw[hv.length,←h];exact Z1 (Z7z (Z78 hb |> Z8b) (by decide))
theorem Zoy{cvs:List Value}(I:Inv X W σ s)(hr:ZF W cvs vs)(hsz:cvs.length≤sizeLine)(h:Pst X W σ (.tup vs) Q):wpAny (model pp X.w) A (newTuple cvs) Q E s:=
 wpAny_newObj_type (Pst.Xu (vs:=cvs.toArray) I h hr) hsz
theorem Zsa{cvs:List Value}(I:Inv X W σ s)(hr:ZF W cvs vs)(hsz:cvs.length≤sizeLine)(h:Pst X W σ (.lst vs) Q):wpAny (model pp X.w) A (newList cvs) Q E s:=
 wpAny_newObj_type (Pst.X7 (vs:=cvs.toArray) I h hr) hsz
theorem Zup{cvs:List Value}(I:Inv X W σ s)(hr:ZF W cvs vs)(hsz:cvs.length≤sizeLine)(h:Pst X W (σ.new (.list vs)) (.ref σ.n) Q):wpAny (model pp X.w) A (newList cvs) Q E s:=
 wpAny_newObj_type (Pst.KL (vs:=cvs.toArray) (tk:=s.toks) I h (λZ Z e=>Z8x _ e) (Z5 _) ⟨0,Z8y _ rfl⟩ hr) hsz
theorem Zlb{n:Str}(h:Kj env.scope n=true):env.scope.names.lookup n=some .globalImplicit∧(n==("__debug__":Str))=false:=
 ⟨Zj (Q:=λo=>o=some .globalImplicit) (ZC h).1 (λq=>no q) λk hk=>Z81 some (Z84 hk),(Bool.not_eq_true' _).mp (ZC h).2⟩
theorem Zun{n:Str}{fv:Value}{p:Pos}(F:Frm X W env own ν)(I:Inv X W σ s)(hg:Kj env.scope n=true)(hb:X.mg n=some fv)(h:Q fv s):wpAny (model pp X.w) A (eval (.Name n p) env) Q E s:=
 Calls.Name_function_global F.kind (Zlb hg).1 (Calls.loadGlobal_global (by rw[F.glob];exact I.ns X.ok.gns) hb h) (Zlb hg).2
theorem Zmw{f:String}{fv:Value}{p:Pos}(F:Frm X W env own ν)(I:Inv X W σ s)(hg:Kj env.scope (Str.ofString f)=true)(b:BN f fv)(h:Q fv s):wpAny (model pp X.w) A (eval (.Name (Str.ofString f) p) env) Q E s:=
 have hb:=X.ok.bl b.has b.is λq=>nomatch b.ne.symm.trans (beq_iff_eq.mpr q)
 Calls.Name_function_global F.kind (Zlb hg).1 (Calls.loadGlobal_builtin (by rw[F.glob];exact I.ns X.ok.gns) hb.1 (by rw[F.blt];exact I.ns X.ok.bns) hb.2 h) (Zlb hg).2
theorem Zai{pos:Pos}:∀{xs:List Expr},(∀x∈xs,J1 x=true)→(backTo pos (starEach xs env)).any (·.1)=false
 | [],_=>rfl
 |x::xs,h=>by rw[Qj (h x Z8g),List.any_cons,Zai λy hy=>h y (Z8h _ hy)];rfl
def Zw6(K:Frag)(f:Value):Prop:=((∃id,f=.builtin id)∨∃T,f=.type T)∨∃a,f=.ref a∧keepIn K (.ref a)=true
theorem Zbe{M:Model}{args:List Expr}{Kl:Pos}(hn:∀x∈args,J1 x=true){g:Value}{Q':Args→Shared→Prop}(hq:wpAny M A (spliced (backTo Kl (starEach args env))) (λvs s'=>Q' ⟨vs,[]⟩ s') E s):wpAny M A (evalArgs g true (backTo Kl (starEach args env)) []) Q' E s:=by
 cases args with
 |nil=>
  unfold evalArgs
  show wpAny M A (spliced [] >>= _) Q' E s
  refine Z8z (wpAny_mono hq (λvs s' h'=>?_) λZ Z x=>x)
  exact Z8z (Z80 (wpAny_holding (Z8z (Z80 (Z8z (Z80 (Z80 h')))))))
 |cons x xs=>
  rw[Qj (hn x Z8g)]at hq ⊢
  exact Calls.evalArgs_plain hq
theorem Zfh{M:Model}{K:Frag}{f:Value}(hf:Zw6 K f){first:List Value}{args:List Expr}{pos Kl:Pos}(hn:∀x∈args,J1 x=true)
  (h:wpAny M A (spliced (backTo Kl (starEach args env))) (λvs s₁=>K.In s₁.heap∧wpAny M A (PySem.call f (first++vs)) Q E s₁) E s):wpAny M A (callWith pos f first (backTo Kl (starEach args env)) []) Q E s:=by
 have hp2:(backTo Kl (starEach args env)).any (·.1)=false:=Zai hn
 rcases hf with(⟨id,rfl⟩ | ⟨T,rfl⟩) | ⟨a,rfl,hk⟩
 ·exact Calls.callWith_builtin hp2 (Zbe hn (wpAny_mono h (λvs s' h'=>h'.2) λZ Z x=>x))
 ·exact PySem.callWith_type hp2 (Zbe hn (wpAny_mono h (λvs s' h'=>h'.2) λZ Z x=>x))
 ·exact callWith_of (P:=λh=>K.In h) (by rw[hp2];rfl) (keeps_K hk) (Zbe hn h)
theorem Zjj{M:Model}{o:Expr}{name:Str}{apos pos:Pos}{args:List Expr}(hn:∀x∈args,J1 x=true)(hlen:args.length<29)(YX:(apos.endLine==pos.line)=true){ov:Value}
  (h:wpAny M A (getMethod ov name (do return(←importBound o env).getD true)) (λr s₂=>wpAny M A (callWith pos r.1 r.2 (backTo pos (starEach args env)) []) Q E s₂) E s):
  wpAny M A (methodCall o name apos pos env ov (args.length+([]:List Keyword).length) (backTo pos (starEach args env)) (backToKw pos (keywordEach [] env))) Q E s:=by
 have DM:methodCallForm (args.length+([]:List Keyword).length) (backTo pos (starEach args env)) (backToKw pos (keywordEach [] env))=true:=by
  unfold methodCallForm
  rw[show(backTo pos (starEach args env)).all (λx=>!x.1)=true by rw[List.all_eq_not_any_not];simpa using Zai (env:=env) (pos:=pos) hn]
  exact Z82 (Nat.lt_succ_of_lt hlen)
 have R9:methodCallPos true o env apos pos=pure pos:=by unfold methodCallPos;simp[YX]
 unfold methodCall
 rw[DM]
 exact Z8z (wpAny_holding (wpAny_mono h (λr s₂ h₂=>Z8z (wpAny_of_eq R9 h₂)) λZ Z e=>e))
theorem Zcx{M:Model}{o:Expr}{name:Str}{apos pos:Pos}{args:List Expr}(hs:Zdz o=true)(hn:∀x∈args,J1 x=true)(hlen:args.length<29)(YX:(apos.endLine==pos.line)=true)
  (h:wpAny M A (eval o env) (λov s₁=>wpAny M A (getMethod ov name (do return(←importBound o env).getD true)) (λr s₂=>wpAny M A (callWith pos r.1 r.2 (backTo pos (starEach args env)) []) Q E s₂) E s₁) E s):
  wpAny M A (eval (.Call (.Attribute o name apos) args [] pos) env) Q E s:=by
 rw[arm_eval_Call,Za9 hs]
 exact Z8z (wpAny_mono h (λov s₁ h₁=>Z8z (wpAny_standAt (Zjj hn hlen YX h₁))) λZ Z e=>e)
@[elab_as_elim]theorem Zaq{sc:Scope}{x:Expr}{C:Expr→Prop}{f:String}{es:List PE}(h:PE.byN f es sc x=true)(k:∀p xs ps,Kj sc (Str.ofString f)=true→Q9 sc es xs=true→C (.Call (.Name (Str.ofString f) p) xs [] ps)):C x:=Zc3 h λg xs kw ps h=>by
 have h1:=(ZC h).1
 have h2:=(ZC h).2
 have h3:=(ZC h2).1
 have h4:=(ZC h2).2
 rw[Z8 h3]
 refine Ym h1 λn p h1=>?_
 have h5:=(ZC h1).1
 have h6:=(ZC h1).2
 rw[Z84 h5]at h6 ⊢
 exact k p xs ps h6 h4
theorem Zcf{sc:Scope}{x:Expr}{f:String}{es:List PE}(h:PE.byN f es sc x=true):Zw4 x:=Zaq h λZ Z Z Z Z Z Z=>rfl
end
section
variable{md:Bool}{j:Nat}{ν ν':Fm}{σ σ1 σ2 σ3 σ4:St}{x y z w v:ZA}{a b c e t o i l h s:PE}{es src ifs:List PE}{us vs ws xs ys:List ZA}{n m f q:String}{r:ZA}{id:Nat}
theorem Q3(h:YK md j ν es σ vs σ1):EvM md j (.tup es) ν σ (.tup vs) σ1:=.plain (λh=>Jd h λZ Z Z Z Z Z=>rfl) λ{X x env own W A st E Q} hf c hq=>Jd hf λxs k p h2=>
 PyProof.Rows.Tuple_ (Jm h (ZC h2).1 c λW1 cvs s1 l1 I1 hv=>Zoy I1 hv (Zgp hv h.len (ZC h2).2) (hq.le l1))
theorem Qs(h:YK md j ν es σ vs σ1):EvM md j (.lst es) ν σ (.lst vs) σ1:=.plain (λh=>Zcz h λZ Z Z Z Z=>rfl) λ{X x env own W A st E Q} hf c hq=>Zcz hf λxs p h2=>
 PyProof.Rows.List_ (Jm h (ZC h2).1 c λW1 cvs s1 l1 I1 hv=>Zsa I1 hv (Zgp hv h.len (ZC h2).2) (hq.le l1))
theorem Zsy(h:YK md j ν es σ vs σ1):EvM md j (.new es) ν σ (.ref σ1.n) (σ1.new (.list vs)):=.plain (λh=>Zcz h λZ Z Z Z Z=>rfl) λ{X x env own W A st E Q} hf c hq=>Zcz hf λxs p h2=>
 PyProof.Rows.List_ (Jm h (ZC h2).1 c λW1 cvs s1 l1 I1 hv=>Zup I1 hv (Zgp hv h.len (ZC h2).2) (hq.le l1))
theorem BN.call{f:String}{fv:Value}(b:BN f fv){K:Frag}:Zw6 K fv:=.inl b.callee
theorem Zv8{fv:Value}(h:YK md j ν es σ vs σ1)(hb:Xo σ1 f fv vs v)(hm:Zz1 f=false→md=false):EvM md j (.blt f es) ν σ v σ1:=.plain (λh=>Zcf h) λ{X x env own W A st E Q} hf c hq=>Zaq hf λp xs ps hg h2=>
 PyProof.Rows.Call_Name rfl (Zmw c.frm c.inv hg hb.name (Zfh (K:=X.K) hb.name.call (Zo h2) (Jm h h2 c λW1 cvs s1 l1 I1 hv=>⟨I1.kin,Z54 (λq=>c.room.hh (hm q)) hb I1 hv (hq.le l1)⟩)))
theorem Y1{fv:Value}(h:JF j ν es σ vs σ1)(hb:Xo σ1 f fv vs v):EvE j (.blt f es) ν σ v σ1:=Zv8 h hb λZ=>rfl
theorem ZY(h:YK md j ν es σ vs σ1)(hc:QA md j f vs σ1 v σ2)(hg:Zff.contains f=true:=by kernel_rfl):EvM md j (.fn f es) ν σ v σ2:=.plain (λh=>Zcf h) λ{X x env own W A st E Q} hf c hq=>Zaq hf λp xs ps hgl h2=>by
 obtain⟨a,ha,hm⟩:=X.ok.gf hg
 obtain⟨F,hF⟩:=Zq1 ha
 exact PyProof.Rows.Call_Name rfl (Zun c.frm c.inv hgl hm (Zfh (K:=X.K) (.inr ⟨a,rfl,(X.ok.fnK hF).keep⟩) (Zo h2) (Jm h h2 c λW1 cvs s1 l1 I1 hv=>⟨I1.kin,hc.call ha ((c.room.le l1).mono (Nat.le_succ _)) I1 hv (hq.le l1)⟩)))
@[elab_as_elim]theorem Zhb{sc:Scope}{x:Expr}{C:Expr→Prop}{o:PE}{m:String}{es:List PE}(h:PE.mth o m es sc x=true)(k:∀u xs ap p,Zdz u=true→(ap.endLine==p.line)=true→o sc u=true→Q9 sc es xs=true→xs.length<29→C (.Call (.Attribute u (Str.ofString m) ap) xs [] p)):C x:=Zc3 h λg xs kw p h=>by
 have h1:=(ZC h).1
 have h2:=(ZC h).2
 have h3:=(ZC h2).1
 have h4:=(ZC h2).2
 have h5:=(ZC h4).1
 have h6:=(ZC h4).2
 rw[Z8 h3]
 refine Z9 h1 λu n ap h1=>?_
 have h7:=(ZC h1).1
 have h8:=(ZC h1).2
 have h9:=(ZC h8).1
 have h10:=(ZC h8).2
 rw[Z84 h7]
 exact k u xs ap p h9 (ZC h10).1 (ZC h10).2 h5 (by rw[←Zca h5];exact Z73 (Z78 h6) (by decide))
theorem Zha{sc:Scope}{x:Expr}{o:PE}{m:String}{es:List PE}(h:PE.mth o m es sc x=true):Zw4 x:=Zhb h λZ Z Z Z Z Z Z Z Z Z Z=>rfl
theorem MV.callee{fv:Value}(h:MV σ x m fv){X:Cx}:Zw6 X.K fv:=by
 cases h with
 |own _ _ _ hf=>exact(Zq1 hf).elim λF hF=>.inr ⟨_,rfl,(X.ok.fnK hF).keep⟩
 |_=>exact .inl (.inl ⟨_,rfl⟩)
theorem Qr{fv:Value}(ho:EvM md j o ν σ x σ1)(hm:MV σ1 x m fv)(hes:YK md j ν es σ1 vs σ2)(hc:MC σ2 x fv vs v σ3):EvM md j (.mth o m es) ν σ v σ3:=.plain (λh=>Zha h) λ{X x env own W A st E Q} hf c hq=>Zhb hf λu xs ap p hs YX hfo h2 hlen=>
 Zcx hs (Zo h2) hlen YX (ho.val hfo c λW1 v1 s1 l1 I1 hv=>Z15 hm I1 hv (Zfh (K:=X.K) hm.callee (Zo h2) (Jm hes h2 (c.to l1 I1) λW2 cvs s2 l2 I2 hvs=>⟨I2.kin,Z67 hc c.un I2 (hv.mono l2) hvs (hq.le (l1.trans l2))⟩)))
theorem Zq9{cl:String}{k:Nat}{mm:Fm}(ho:EvM md j o ν σ (.ref id) σ1)(hf:σ1.f id=some (.inst cl k mm))(hm:mm m=none)(hq:Zba.lookup (cl,m)=some q)(hes:YK md j ν es σ1 vs σ2)(hc:QA md j q (.ref id::vs) σ2 v σ3)(hfa:(fnA q).isSome=true:=by kernel_rfl):EvM md j (.mth o m es) ν σ v σ3:=.plain (λh=>Zha h) λ{X x env own W A st E Q} hf' c hQ=>Zhb hf' λu xs ap p hs YX hfo h2 hlen=>
 (Option.isSome_iff_exists.mp hfa).elim λf hfa=>Zcx hs (Zo h2) hlen YX (ho.val hfo c λW1 v1 s1 l1 I1 hv=>Z15 (.own hf hm hq hfa) I1 hv (Zfh (K:=X.K) (MV.own hf hm hq hfa).callee (Zo h2) (Jm hes h2 (c.to l1 I1) λW2 cvs s2 l2 I2 hvs=>⟨I2.kin,hc.call hfa ((c.room.le (l1.trans l2)).mono (Nat.le_succ _)) I2 ⟨hv.mono l2,hvs⟩ (hQ.le (l1.trans l2))⟩)))
end
end
section
section
variable{X:Cx}{W W':Wd}{σ σ':St}{s s':Shared}{A:Around}{E:Value→Shared→Prop}{Q:Value→Shared→Prop}{md:Bool}{j:Nat}{ν:Fm}{es:List PE}{vs:List ZA}{env:Env}{own:List Addr}
noncomputable def Zaj(σ:St)(c:String):St:=σ.new (.inst c 0 λZ=>none)
theorem Inv.UB(I:Inv X W σ s)(c:String):
  Inv X (ZN (ZN W s.heap.objs.size (.dic σ.n)) (s.heap.objs.size+1) (.own σ.n)) (Zaj σ c) { s with heap:=(s.heap.push emptyDict).push (instObj (JQ c) s.heap.objs.size) }∧
  Le W (ZN (ZN W s.heap.objs.size (.dic σ.n)) (s.heap.objs.size+1) (.own σ.n)):=by
 have hf1:=I.free (a:=s.heap.objs.size) (Z70 _)
 have hf2:=I.free (a:=s.heap.objs.size+1) (Nat.le_succ _)
 have l1:Le W (ZN W s.heap.objs.size (.dic σ.n)):=Yr hf1
 have l2:=l1.trans (Yr (t:=.own σ.n) ((Qa (Nat.succ_ne_self _)).trans hf2))
 have k:∀b o,s.heap.get? b=some o→((s.heap.push emptyDict).push (instObj (JQ c) s.heap.objs.size)).get? b=some o:=λb o e=>Z8x _ (Z8x _ e)
 have hd:((s.heap.push emptyDict).push (instObj (JQ c) s.heap.objs.size)).get? s.heap.objs.size=some emptyDict:=Z8x _ (Z8y _ rfl)
 have ha:((s.heap.push emptyDict).push (instObj (JQ c) s.heap.objs.size)).get? (s.heap.objs.size+1)=some (instObj (JQ c) s.heap.objs.size):=by
  have:=Z8y (s.heap.push emptyDict) (o:=instObj (JQ c) s.heap.objs.size) rfl
  rwa[Heap.size_push]at this
 have key:∀W2,Le W W2→W2 s.heap.objs.size=.dic σ.n→∀a,TOK X W2 (Zaj σ c) ((s.heap.push emptyDict).push (instObj (JQ c) s.heap.objs.size)) a (ZN (ZN W s.heap.objs.size (.dic σ.n)) (s.heap.objs.size+1) (.own σ.n) a):=λW2 l2 e=>
  Q0 (P:=TOK X W2 (Zaj σ c) ((s.heap.push emptyDict).push (instObj (JQ c) s.heap.objs.size))) (t:=.own σ.n) ⟨.inst c 0 λZ=>none,Yp σ _,s.heap.objs.size,ha,e,⟨λZ=>none,(Heap.Ns.new s.heap (.type "dict")).push _,λx=>rfl⟩,⟨_,hd,⟨rfl,rfl,rfl⟩,#[],0,rfl,Z70 _⟩⟩ λb Z=>
   Q0 (P:=TOK X W2 (Zaj σ c) ((s.heap.push emptyDict).push (instObj (JQ c) s.heap.objs.size))) (t:=.dic σ.n) ⟨Z79 _,⟨_,hd⟩,λc' cx m q=>by unfold Zaj at q;rw[Yp]at q;exact nomatch q⟩ (λb Z=>(I.tag b).YI l2 ZG.nil (k b) (λZ Z d Z=>k d) (λi hi o h=>(Zmx (I.nid hi)).trans h) (Nat.le_succ _) λi Z hl z=>(Zmx (Nat.ne_of_lt hl)).symm▸z) b
 exact⟨{ base:=I.reb _ s.toks,keep:=I.Vz l2,fid:=I.Ub _,tag:=key _ l2 ((Qa (Nat.ne_of_lt (Z79 _))).trans (Zi ..)),uq:=Uq.set (t:=.own σ.n) (I.uq.set (t:=.dic σ.n) λk e b Z=>Z8q e▸I.ZV b) λk e b hb=>Z8q e▸Q0 (t:=.dic σ.n) (P:=λZ t=>t.key≠some (true,σ.n)) (λq=>Bool.noConfusion (Z81 Prod.fst (Z8q q))) (λb Z=>I.ZV b) b },l2⟩
theorem Zod{C:Addr}{rest:List Value}{kw}:Code.weight (.builtin "type.__call__" ⟨.ref C::rest,kw⟩)=1:=by rfl
theorem Zrl{C:Addr}{rest:List Value}{kw}:Code.cUnits (.builtin "type.__call__" ⟨.ref C::rest,kw⟩)=1:=by rfl
theorem AOK.type{k:Nat}{C:Addr}{rest:List Value}{kw}(h:AOK X md W (k+1) A):AOK X md W k (A.under (.builtin "type.__call__" ⟨.ref C::rest,kw⟩)):=by
 refine⟨h.hh,?_,?_,h.stk⟩
 ·have:=h.dp;show A.depth+Code.weight _+3*k+3<_;rw[Zod];lia
 ·have:=h.un;show A.units+Code.cUnits _+10*k+100<_;rw[Zrl];lia
theorem Z52{c q:String}(hi:Zhg.lookup c=some (some q))(h:QA md j q (.ref σ.n::vs) (Zaj σ c) .none σ')(hA:AOK X md W (2*j+1) A)(I:Inv X W σ s){cvs:List Value}(hv:ZF W cvs vs)(hq:Pst X W σ' (.ref σ.n) Q):wpAny (model pp X.w) A (call (.ref (JQ c)) cvs) Q E s:=by
 obtain⟨a,f,hCa,hf,mk⟩:=X.ok.init hi
 obtain⟨ck,hg⟩:=X.ok.cls hCa
 rw[←Zdp hCa]at mk ck
 obtain⟨I2,l2⟩:=I.UB c
 have KX:=I.kin
 obtain⟨hh,g,d,t,os⟩:=s
 refine wpAny_call (make_core (makes_of KX ck.makes) (looks_findIn KX mk.find) (λself=>bind_fn KX self mk.ty) (.inl rfl) ?_)
 refine h.run hf ((AOK.type hA).le l2) I2 ⟨.refs (Zi ..),hv.mono l2⟩ λW' v s' l I' hv'=>?_
 rw[hv'.none]
 exact⟨rfl,hq W' _ s' (l2.trans l) I' (.refs ((l _ List.not_mem_nil (Zmr (Zi ..))).trans (Zi ..)))⟩
end
section
variable{md:Bool}{j:Nat}{ν ν':Fm}{σ σ1 σ2 σ3 σ4:St}{x y z w v:ZA}{a b c e t o i l h s:PE}{es src ifs:List PE}{us vs ws xs ys:List ZA}{n m f q:String}{r:ZA}{id:Nat}
theorem Z2n{cl:String}(hi:Zhg.lookup cl=some (some q))(h:YK md j ν es σ vs σ1)(hc:QA md j q (.ref σ1.n::vs) (Zaj σ1 cl) .none σ2):EvM md j (.cls cl es) ν σ (.ref σ1.n) σ2:=.plain (λh=>Zcf h) λ{X x env own W A st E Q} hf c hq=>Zaq hf λp xs ps hgl h2=>by
 obtain⟨a,f,hCa,Z,Z⟩:=X.ok.init hi
 obtain⟨ck,hm⟩:=X.ok.cls hCa
 have e:=Zdp hCa
 rw[←e]at ck hm
 exact PyProof.Rows.Call_Name rfl (Zun c.frm c.inv hgl hm (Zfh (K:=X.K) (.inr ⟨_,rfl,ck.keep⟩) (Zo h2) (Jm h h2 c λW1 cvs s1 l1 I1 hv=>⟨I1.kin,Z52 hi hc (c.room.le l1) I1 hv (hq.le l1)⟩)))
inductive FpR:ZA→CS→Prop
 |str (t:CS) (h:t.length≤16000):FpR (.str t) t
 |int {n:Nat} (h:n<1000000000):FpR (.int n) (ZQ n)
theorem Z5o{X:Cx}{W:Wd}{A:Around}{st:Shared}{E:Value→Shared→Prop}{Q:Value→Shared→Prop}{t:CS}(e:FpR x t)(I:Inv X W σ st){u:Value}(hv:ZE W u x)(hq:Pst X W σ (.str t) Q):wpAny (model pp X.w) A (formatField u Str.empty) Q E st:=by
 cases e with
 |str t hl=>exact hv.QM λtk=>wpAny_formatField_str (Pst.YR (tk:=st.toks) I hq) (Pst.YR I hq) (by rw[Yn];exact Z1 hl)
 |int hn=>exact hv.YF λtk=>wpAny_formatField_int (Zje hn) (by rw[show(Str.ofString (toString _):Str)=_ from Zen _];exact Pst.YR I hq)
inductive FsM(md:Bool)(j:Nat)(ν:Fm):List PE→St→CS→St→Prop
 |nil (σ:St):FsM md j ν [] σ [] σ
 |txt {es:List PE} {σ σ1:St} {p ps:CS} (hs:FsM md j ν es σ ps σ1):FsM md j ν (.cst (.str p)::es) σ (p++ps) σ1
 |fld {e:PE} {es:List PE} {σ σ1 σ2:St} {v:ZA} {p ps:CS} (h:EvM md j e ν σ v σ1) (hp:FpR v p) (hs:FsM md j ν es σ1 ps σ2):FsM md j ν (.fld e::es) σ (p++ps) σ2
noncomputable abbrev FsR:=FsM false
theorem Zt9{X:Cx}{env:Env}{A:Around}{E:Value→Shared→Prop}{Q:Value→Shared→Prop}{out p:CS}{st:Shared}{xs:List Expr}(hl:out.length+p.length≤16000)(h:wpAny (model pp X.w) A (joinParts (PL.st (out++p)) (evalEach xs env)) Q E st):
  (PL.st out++PL.st p).length≤sizeLine∧wpAny (model pp X.w) A (joinParts (PL.st out++PL.st p) (evalEach xs env)) Q E st:=by
 rw[Zmg,Yn,Z8j]
 exact⟨Z1 hl,h⟩
theorem Zx1{m':CS}(h:FsM md j ν es σ m' σ1){X:Cx}{env:Env}{own:List Addr}{A:Around}{E:Value→Shared→Prop}{Q:Value→Shared→Prop}:∀{xs:List Expr}{out:CS}{W:Wd}{st:Shared},PE.V3 env.scope es xs=true→Cfg X md j W env own ν σ A st→out.length+m'.length≤16000→
  Pst X W σ1 (.str (out++m')) Q→wpAny (model pp X.w) A (joinParts (PL.st out) (evalEach xs env)) Q E st:=by
 induction h with
 |nil σ=>
  intro xs out W st hf c hl hq
  rw[List.append_nil]at hq
  rw[Z8 hf]
  exact PyProof.Rows.joinParts_nil (Pst.YR c.inv hq) (by rw[Yn];exact Z1 hl)
 |txt _ ih=>
  intro xs out W st hf c hl hq
  rw[Z8j,←Z8a]at hl
  rw[←Z8n]at hq
  exact Z2 (Q:=λxs=>wpAny _ _ (joinParts (PL.st out) (evalEach xs env)) Q E st) hf λx r hf=>PyProof.Rows.joinParts_cons (Zf.val (ZC hf).1 c λW1 u s1 l1 I1 hv=>by
   obtain⟨t,rfl⟩:=hv
   exact Zt9 (Z7z (Z71 ..) hl) (ih (ZC hf).2 (c.to l1 I1) (by rw[Z8j];exact hl) (hq.le l1)))
 |fld h hp _ ih=>
  intro xs out W st hf c hl hq
  rw[Z8j,←Z8a]at hl
  rw[←Z8n]at hq
  refine Z2 (Q:=λxs=>wpAny _ _ (joinParts (PL.st out) (evalEach xs env)) Q E st) hf λx r hf=>PyProof.Rows.joinParts_cons ?_
  refine Zc9 (ZC hf).1 λy cv o p h2=>?_
  have h3:=(ZC h2).1
  have h2:=(ZC h2).2
  have h4:=(ZC h2).1
  have h5:=(ZC h2).2
  rw[Z84 h3,show o=none from Zj (Q:=λo=>o=none) h4 (λZ=>rfl) λZ q=>no q]
  exact PyProof.Rows.FormattedValue_plain (h.val h5 c λW1 u s1 l1 I1 hv=>Z5o hp I1 hv λW2 u2 s2 l2 I2 hv2=>by
   obtain⟨t,rfl⟩:=hv2
   exact Zt9 (Z7z (Z71 ..) hl) (ih (ZC hf).2 (c.to (l1.trans l2) I2) (by rw[Z8j];exact hl) (hq.le (l1.trans l2))))
theorem Znt{sc:Scope}:∀{es:List PE}{xs:List Expr},PE.V3 sc es xs=true→es.length=xs.length
 | [],xs,h=>by rw[Z8 h];rfl
 |e::es,xs,h=>Z2 (Q:=λxs=>(e::es).length=xs.length) h λx r h=>Z81 Nat.succ (Znt (ZC h).2)
theorem Z3j{α:Type}:∀{xs:List α},2≤xs.length→∃a b c,xs=a::b::c
 |a::b::c,_=>⟨a,b,c,rfl⟩
 | [],h=>nomatch h
 | [_],h=>absurd h (Nat.not_succ_le_self 1)
theorem Zs0{t:CS}(h:FsM md j ν es σ t σ1)(hl:t.length≤16000):EvM md j (.fst es) ν σ (.str t) σ1:=.plain (λh=>Zch h λZ Z Z Z Z=>rfl) λ{X x env own W A st E Q} hf c hq=>Zch hf λxs p h2=>by
 have hf1:=(ZC h2).1
 have hb:=(ZC h2).2
 obtain⟨x1,x2,xr,rfl⟩:=Z3j (xs:=xs) (by rw[←Znt hf1];exact Z78 hb)
 exact PyProof.Rows.JoinedStr_many (Zx1 h (out:=[]) hf1 c (by rw[List.length_nil,Nat.zero_add];exact hl) hq)
end
end
section
open PE (Zvr)
theorem Zjk:∀(kvs acc:List (ZA×Value)),((acc++kvs).map (·.1)).Nodup→merged acc kvs=acc++kvs
 | [],acc,_=>(List.append_nil acc).symm
 | (k,v)::r,acc,h=>by
  have hk:(acc.any λkv=>decide (kv.1=k))=false:=List.any_eq_false.mpr λp hp e=>by
   rw[List.map_append,List.nodup_append]at h
   exact h.2.2 p.1 (List.mem_map_of_mem hp) k Z8g (of_decide_eq_true e)
  have hs:stored acc k v=acc++[(k,v)]:=by unfold stored;rw[hk];rfl
  show merged (stored acc k v) r=_
  rw[hs,Zjk r _ (by rw[Z8n];exact h),Z8n];rfl
theorem RF.zip{W:Wd}{cvs:List Value}{us:List ZA}(h:ZF W cvs us):∀ks:List ZA,F2 (RF W) (ks.zip cvs) (ks.zip us):=
 F2.ind (P:=λcvs us=>∀ks:List ZA,F2 (RF W) (ks.zip cvs) (ks.zip us)) (λks=>by rw[List.zip_nil_right,List.zip_nil_right];trivial) (λc cs u us r Z ih ks=>@List.casesOn ZA (λks=>F2 (RF W) (ks.zip (c::cs)) (ks.zip (u::us))) ks trivial λk ks=>⟨⟨rfl,r⟩,ih ks⟩) h
theorem Zjr:∀{ks:List ZA} {keys:List (Option Expr)},Zvr ks keys=true→keys.all (·.isSome)=true∧keys.length=ks.length
 | [],keys,h=>by rw[Z8 h];exact⟨rfl,rfl⟩
 |v::vs,keys,h=>Z2 (Q:=λkeys=>keys.all (·.isSome)=true∧keys.length=(v::vs).length) h λo os h=>
  have ih:=Zjr (ZC h).2
  ⟨by rw[List.all_cons,ih.1,Zj (Q:=λo=>o.isSome=true) (ZC h).1 (λq=>no q) λZ Z=>rfl];rfl,Z81 Nat.succ ih.2⟩
section
variable{md:Bool}{j:Nat}{ν ν':Fm}{σ σ1 σ2 σ3 σ4:St}{x y z w v:ZA}{es src ifs:List PE}{us vs ws xs ys:List ZA}{X:Cx}{env:Env}{own:List Addr}{W:Wd}{A:Around}{st:Shared}{E:Value→Shared→Prop}
theorem Zx2{pos:Pos}(h:YK md j ν es σ us σ1):∀{ks:List ZA} {keys:List (Option Expr)} {xs:List Expr} {W:Wd} {st:Shared} {Q:List (Value×Value)→Shared→Prop},Zvr ks keys=true→Q9 env.scope es xs=true→es.length=ks.length→Cfg X md j W env own ν σ A st→
  (∀W' prs cvs s',Le W W'→Inv X W' σ1 s'→ZF W' cvs us→Carries (flK X) prs (ks.zip cvs)→Q prs s')→wpAny (model pp X.w) A (evalPairs (pairTrees keys xs env pos)) Q E st:=by
 induction h with
 |nil σ=>
  intro ks keys xs W st Q hk hf hl c hq
  rw[List.eq_nil_of_length_eq_zero hl.symm]at hk hq
  rw[Z8 hk,Z8 hf]
  exact pairTrees_nil_walk (prog:=pp) (w:=X.w) (hq W [] [] st (LeX.refl [] W) c.inv trivial trivial)
 |@cons e es σ σ1 σ2 v vs he _ ih=>
  intro ks keys xs W st Q hk hf hl c hq
  cases ks with
  |nil=>exact nomatch hl
  |cons kv ks=>
   refine Z2 (Q:=λkeys=>wpAny _ _ (evalPairs (pairTrees keys xs env pos)) Q E st) hk λo os hk=>Z2 (Q:=λxs=>wpAny _ _ (evalPairs (pairTrees (o::os) xs env pos)) Q E st) hf λx r hf=>?_
   have hk1:=(ZC hk).1
   have hk2:=(ZC hk).2
   have hn:=(ZC hf).1
   have hf:=(ZC hf).2
   refine Zj (Q:=λo=>wpAny _ _ (evalPairs (pairTrees (o::os) (x::r) env pos)) Q E st) hk1 (λq=>no q) λy hy=>?_
   refine Zar hy λk kk p hk=>?_
   have hfl:=(ZC hk).1
   have hk:=(ZC hk).2
   exact pairTrees_cons_walk (prog:=pp) (w:=X.w) ((Zf (v:=kv)).val (x:=.Constant k kk p) hk c λW1 u s1 l1 I1 hv=>he.val (ZC hf).1 (c.to l1 I1) λW2 cv s2 l2 I2 hcv=>
    ih hk2 (ZC hf).2 (Nat.succ.inj hl) (c.to (l1.trans l2) I2) λW3 prs cvs s3 l3 I3 UP GL=>hq W3 _ (cv::cvs) s3 ((l1.trans l2).trans l3) I3 ⟨hcv.mono l3,UP⟩ ⟨Jj ((hv.mono l2).mono l3) hfl,rfl,GL⟩)
theorem Inv.Dx{s:Shared}(I:Inv X W σ s):s.heap.objs.size≠sysModules:=λh=>by
 obtain⟨a,o,hle,ho⟩:=X.ok.sys
 have h1:=Heap.lt_size (I.old _ _ ho)
 rw[h]at h1
 exact Nat.lt_irrefl _ (Z73 h1 hle)
theorem Z5x:EvM md j (.dct [] []) ν σ (.ref σ.n) (σ.new (.dict [])):=.plain (λh=>Zc1 h λZ Z Z Z Z Z=>rfl) λ{X x env own W A st E Q} hf c hq=>Zc1 hf λkeys vals p h2=>by
 rw[Z8 (ZC h2).1,Z8 (ZC (ZC h2).2).1]
 have Ka:=c.inv.free (a:=st.heap.objs.size) (Z70 _)
 exact wpAny_Dict_empty (hq _ _ _ (Yr Ka) ((c.inv.keeps (h':=st.heap.push { cls:=.type "dict",data:=.dict #[] }) (tk:=st.toks) λZ Z e=>Z8x _ e).newObj (o:=.dict []) Ka (ofF (kvs:=[]) (Heap.DictOf.new (knd:=flK X) st.heap) trivial c.inv.Dx)) (.refs (Zi ..)))
theorem Z7k{k0:ZA}{ks:List ZA}{vs:List PE}(h:YK md j ν vs σ us σ1)(hl:us.length=(k0::ks).length)(hnd:(k0::ks).Nodup):EvM md j (.dct (k0::ks) vs) ν σ (.ref σ1.n) (σ1.new (.dict ((k0::ks).zip us))):=.plain (λh=>Zc1 h λZ Z Z Z Z Z=>rfl) λ{X x env own W A st E Q} hf c hq=>Zc1 hf λkeys vals p h2=>by
 have hk:=(ZC h2).1
 have hf:=(ZC h2).2
 have hf1:=(ZC hf).1
 have hlen:=(ZC hf).2
 obtain⟨Vm,hkl⟩:=Zjr hk
 have hvl:keys.length=vals.length:=by rw[hkl,←hl,←h.len,Zca hf1]
 have I:=c.inv
 have Ka:=I.free (a:=st.heap.objs.size) (Z70 _)
 have hold:=I.QN Ka
 refine wpAny_Dict_walk (knd:=flK X) Vm hvl (λq=>by rw[q]at hkl;exact nomatch hkl) (by rw[hvl,←Zca hf1];exact Z8e (Z78 hlen)) ?_
 obtain⟨I1,l1⟩:=I.alloc (o:={ cls:=.type "dict",data:=.dict #[] }) (v:=none) st.toks rfl trivial
 refine Zx2 h hk hf1 (h.len.trans hl) (c.to l1 I1) λW2 prs cvs s2 l2 I2 UP GL=>?_
 have hD:W2 st.heap.objs.size=.imm { cls:=.type "dict",data:=.dict #[] } none:=Qg (Zi ..) l2
 refine⟨_,GL,⟨_,#[],0,(I2.imm hD (Z4r rfl)).1,⟨rfl,rfl,rfl⟩,rfl,λe he=>(nomatch he),Pairs.nil,List.Pairwise.nil⟩,λh' hd hsb=>?_⟩
 have I3:=I2.forget (tk:=s2.toks+prs.length) hD hold hsb
 rw[Zjk ((k0::ks).zip cvs) [] (by rw[List.nil_append,List.map_fst_zip (Z8c (hl.symm.trans UP.length.symm))];exact hnd),List.nil_append]at hd
 have l23:LeX [st.heap.objs.size] W2 (ZN W2 st.heap.objs.size .free):=Zz
 have hf3:ZN W2 st.heap.objs.size .free st.heap.objs.size=.free:=Zi ..
 exact hq _ _ _ (((Le.X (l1.trans l2)).trans (l23.trans (Yr hf3).X)).le (QE Ka)) (I3.newObj (o:=.dict ((k0::ks).zip us)) hf3 (ofF hd (RF.zip (UP.ZM l23 (ZG.one hD)) _) I.Dx)) (.refs (Zi ..))
end
end
section
variable{X:Cx}{W W':Wd}{σ σ':St}{s s':Shared}{A:Around}{E:Value→Shared→Prop}{Q:Value→Shared→Prop}{md:Bool}{j:Nat}{ν ν':Fm}{env:Env}{own:List Addr}{M:Model}
theorem Zep:∀{xs:List String}{vs:List ZA}{ν ν':Fm},Zv xs vs ν=some ν'→∀(μ:Fm),∃μ',Zv xs vs μ=some μ'∧∀y,(y∈xs→ν' y=μ' y)∧(y∉xs→ν' y=ν y∧μ' y=μ y)
 | [],[],ν,ν',h,μ=>⟨μ,rfl,λy=>⟨λh=>(nomatch h),λZ=>⟨by rw[Z8q h],rfl⟩⟩⟩
 |x::xs,v::vs,ν,ν',h,μ=>by
  obtain⟨μ',h1,h2⟩:=Zep (xs:=xs) h (upd μ x v)
  refine⟨μ',h1,λy=>⟨λhy=>?_,λhy=>?_⟩⟩
  ·by_cases hm:y∈xs
   ·exact(h2 y).1 hm
   ·obtain⟨a,b⟩:=(h2 y).2 hm
    rw[a,b,(Z8k.mp hy).resolve_right hm,Zg,Zg]
  ·obtain⟨a,b⟩:=(h2 y).2 λq=>hy (Z8h _ q)
   have hx:y≠x:=λq=>hy (q▸Z8g)
   rw[a,b,Zfl hx,Zfl hx];exact⟨rfl,rfl⟩
 | [],_::_,_,_,h,_=>nomatch h
 |_::_,[],_,_,h,_=>nomatch h
theorem Za7:∀{xs:List String}{vs:List ZA}{ν ν':Fm},Zv xs vs ν=some ν'→xs.length=vs.length
 | [],[],_,_,_=>rfl
 |x::xs,v::vs,_,_,h=>Z81 Nat.succ (Za7 (xs:=xs) h)
 | [],_::_,_,_,h=>nomatch h
 |_::_,[],_,_,h=>nomatch h
theorem Zbd:∀{xs:List String}{es:List Expr},Zpe xs es=true→∃ps:List Pos,ps.length=xs.length∧es=(xs.zip ps).map λp=>Expr.Name (Str.ofString p.1) p.2
 | [],es,h=>⟨[],rfl,Z8 h⟩
 |x::xs,es,h=>Z2 (Q:=λes=>∃ps:List Pos,ps.length=(x::xs).length∧es=((x::xs).zip ps).map λp=>Expr.Name (Str.ofString p.1) p.2) h λe r h=>by
  obtain⟨ps,h1,h2⟩:=Zbd (ZC h).2
  obtain⟨p,rfl⟩:∃p,e=.Name (Str.ofString x) p:=Ym (ZC h).1 λn p hn=>⟨p,by rw[Z84 hn]⟩
  exact⟨p::ps,Z81 Nat.succ h1,by rw[h2];rfl⟩
theorem Jk:∀(l:List (String×Pos)),assignEach (l.map λp=>Expr.Name (Str.ofString p.1) p.2) env=l.map λp=>(false,assign (.Name (Str.ofString p.1) p.2) env)
 | []=>rfl
 |p::l=>by
  show(false,assign (.Name (Str.ofString p.1) p.2) env)::assignEach (l.map _) env=_
  rw[Jk l];rfl
theorem Zpl{n:Str}{p:Pos}{v:Value}{QU:Unit→Shared→Prop}(h:wpAny M A (storeName env n v) QU E s):wpAny M A (assign (.Name n p) env v) QU E s:=by
 show wpAny M A (do standAt p;bindName env n v) QU E s
 exact Z8z (wpAny_standAt (wpAny_bindName h))
structure U3(X:Cx)(env:Env)(A:Around)(σ:St)(xs₀:List String)(FR:Wd→Fm→Prop)(J:List Addr):Prop where
 pin:∀{W ν},FR W ν→ZG W J
 st:∀{W ν s E}{x:String}{v:ZA}{cv:Value}{QU:Unit→Shared→Prop},FR W ν→Inv X W σ s→ZE W cv v→x∈xs₀→(∀W' s',LeX J W W'→Inv X W' σ s'→FR W' (upd ν x v)→QU () s')→wpAny (model pp X.w) A (storeName env (Str.ofString x) cv) QU E s
theorem Zwo{xs₀:List String}{FR:Wd→Fm→Prop}{J:List Addr}(R:U3 X env A σ xs₀ FR J):∀{xs:List String}{ps:List Pos}{vs:List ZA}{cvs:List Value}{W:Wd}{ν ν':Fm}{s:Shared}{QU:Unit→Shared→Prop},(∀x∈xs,x∈xs₀)→ps.length=xs.length→Zv xs vs ν=some ν'→ZF W cvs vs→FR W ν→Inv X W σ s→
   (∀W' s',LeX J W W'→Inv X W' σ s'→FR W' ν'→QU () s')→wpAny (model pp X.w) A (assignInOrder ((xs.zip ps).map λp=>assign (.Name (Str.ofString p.1) p.2) env) cvs) QU E s
 | [],ps,[],cvs,W,ν,ν',s,QU,_,_,hb,hv,hF,I,h=>by
  rw[F2.QL hv]
  exact Z80 (h W s (LeX.refl _ _) I (Z8q hb▸hF))
 |x::xs,p::ps,v::vs,cvs,W,ν,ν',s,QU,hx,hl,hb,hv,hF,I,h=>by
  obtain⟨c,cs,rfl,h1,h2⟩:=F2.cons_right hv
  rw[List.zip_cons_cons,Z8o]
  exact Z8z (wpAny_holding (Zpl (R.st hF I h1 (hx x Z8g) λW1 s1 l1 I1 F1=>
   Zwo R (λy hy=>hx y (Z8h _ hy)) (Nat.succ.inj hl) hb (ZF.ZM h2 l1 (R.pin hF)) F1 I1 λW2 s2 l2 I2 F2=>h W2 s2 (l1.trans l2) I2 F2)))
 | [],_,_::_,_,_,_,_,_,_,_,_,hb,_,_,_,_=>nomatch hb
 |_::_,_,[],_,_,_,_,_,_,_,_,hb,_,_,_,_=>nomatch hb
 |_::_,[],_,_,_,_,_,_,_,_,hl,_,_,_,_,_=>nomatch hl
theorem Zhp{xs:List String}{k:Nat}{tg:Expr}(h:Zix xs k tg=true):((k=0∨k=2)∧Yl tg=false∧∃x p,xs=[x]∧tg=.Name (Str.ofString x) p)∨((k=1∨(k=3∨k=4))∧Yl tg=true∧∃es kk p,tg=.Tuple es kk p∧Zpe xs es=true∧2≤xs.length):=by
 rcases Bool.or_eq_true_iff.mp h with h | h
 ·refine .inl ⟨(Bool.or_eq_true_iff.mp (ZC h).1).imp Z84 Z84,?_⟩
  refine Qf (Q:=λxs=>Yl tg=false∧∃x p,xs=[x]∧tg=.Name (Str.ofString x) p) (ZC h).2 λx hx=>?_
  obtain⟨p,rfl⟩:∃p,tg=.Name (Str.ofString x) p:=Ym hx λn p hn=>⟨p,by rw[Z84 hn]⟩
  exact⟨rfl,x,p,rfl,rfl⟩
 ·refine .inr ⟨(Bool.or_eq_true_iff.mp (ZC h).1).imp Z84 λq=>(Bool.or_eq_true_iff.mp q).imp Z84 Z84,?_⟩
  obtain⟨es,kk,p,rfl,hf⟩:∃es kk p,tg=.Tuple es kk p∧(Zpe xs es&&Nat.ble 2 xs.length)=true:=Jd (ZC h).2 λes kk p h=>⟨es,kk,p,rfl,h⟩
  exact⟨rfl,es,kk,p,rfl,(ZC hf).1,Z78 (ZC hf).2⟩
theorem Z6c{FR:Wd→Fm→Prop}{J:List Addr}{xs:List String}(R:U3 X env A σ xs FR J)(hh:A.handled=none){k:Nat}{tg:Expr}(hf:Zix xs k tg=true){v:Value}{x:List ZA}(hv:Xq (Yl tg) W v x)(hb:Zv xs x ν=some ν')(hF:FR W ν)(I:Inv X W σ s){QU:Unit→Shared→Prop}
  (h:∀W' s',LeX J W W'→Inv X W' σ s'→FR W' ν'→QU () s'):wpAny (model pp X.w) A (assign tg env v) QU E s:=by
 rcases Zhp hf with⟨Z,Z,y,p,rfl,rfl⟩ | ⟨Z,Z,es,kk,p,rfl,hfx,hlen⟩
 ·obtain⟨a,rfl,hva⟩:=hv
  exact Zpl (R.st hF I hva (Z8m.mpr rfl) λW' s' l I' F'=>h W' s' l I' (Z8q hb▸F'))
 ·obtain⟨a,rfl,vs,hl,hr⟩:=I.tup (show ZE W v (.tup x)from hv)
  obtain⟨ps,h1,rfl⟩:=Zbd hfx
  have hzl:(xs.zip ps).length=xs.length:=by rw[List.length_zip,h1,Nat.min_self]
  have e:=Jk (env:=env) (xs.zip ps)
  refine wpAny_assign_Tuple hh hl.QI (by rw[e,Z8i,hzl,hr.size,←Za7 hb]) (by rw[e];simp[List.findIdx?_eq_none_iff]) λh' he=>?_
  rw[e,List.map_map]
  exact Zwo R (λy hy=>hy) h1 hb hr hF (I.grow (tk:=s.toks) λb o hb e=>he b o (λq=>Nat.lt_irrefl _ (q▸Heap.lt_size e)) e) h
noncomputable def Ks(sc:Scope)(n:Str)(k:NameKind):NameKind:=if(k==NameKind.free&&sc.kind==.function&&sc.names.lookup n==some .cell)then NameKind.cell else k
theorem Zhd{sc:Scope}:∀{names:List (Str×NameKind)} {n:Str},(names.map λ(n,k)=>if(k==NameKind.free&&sc.kind==.function&&sc.names.lookup n==some .cell)then(n,NameKind.cell)else(n,k)).lookup n=(names.lookup n).map (Ks sc n)
 | [],n=>rfl
 | (m,k)::r,n=>by
  have ih:=@Zhd sc r n
  rw[Z8o]
  have e:(if(k==NameKind.free&&sc.kind==.function&&sc.names.lookup m==some .cell)=true then(m,NameKind.cell)else(m,k))=(m,Ks sc m k):=by unfold Ks;split<;>rfl
  rw[show(match(m,k)with | (n,k)=>if(k==NameKind.free&&sc.kind==.function&&sc.names.lookup n==some .cell)=true then(n,NameKind.cell)else(n,k))=(m,Ks sc m k)from e,List.lookup_cons,List.lookup_cons]
  by_cases h:n=m
  ·rw[h,Z87];rfl
  ·rw[Z85.mpr h];exact ih
theorem Zs4{scope:Scope}(h:∀y∈scope.names,y.2=.free→(env.cells.lookup y.1).isSome=true):
  ∃cl,closureFor scope env=pure cl∧(∀n,(n,NameKind.free)∈scope.names→cl.lookup n=env.cells.lookup n)∧∀p∈cl,env.cells.lookup p.1=some p.2∧(p.1,NameKind.free)∈scope.names:=by
 have key:∀(names:List (Str×NameKind)) (acc:List (Str×Addr)),(∀y∈names,y.2=.free→(env.cells.lookup y.1).isSome=true)→(∀p∈acc,env.cells.lookup p.1=some p.2)→
   ∃cl,(forIn names acc λ(x:Str×NameKind) (cs:List (Str×Addr))=>(if x.2==.free then do let c ←cellOf env x.1;pure (ForInStep.yield ((x.1,c)::cs))else pure (ForInStep.yield cs):Sem _))=pure cl∧
    (∀n,(n,NameKind.free)∈names→cl.lookup n=env.cells.lookup n)∧(∀n,(∃c,acc.lookup n=some c)→cl.lookup n=env.cells.lookup n)∧∀p∈cl,env.cells.lookup p.1=some p.2∧((p.1,NameKind.free)∈names∨p∈acc):=by
  intro names
  induction names with
  |nil=>intro acc Z ha;exact⟨acc,rfl,λn hn=>(nomatch hn),λn ⟨c,hc⟩=>by rw[hc];exact(ha _ (mem_of_lookup hc)).symm,λp hp=>⟨ha p hp,.inr hp⟩⟩
  |cons x names ih=>
   intro acc hx ha
   obtain⟨n,k⟩:=x
   by_cases hk:k=.free
   ·subst hk
    obtain⟨c,hc⟩:=Option.isSome_iff_exists.mp (hx (n,.free) Z8g rfl)
    have QQ:((n,c)::acc).lookup n=some c:=by rw[List.lookup_cons,Z87]
    obtain⟨cl,h1,h2,h3,h4⟩:=ih ((n,c)::acc) (λy hy=>hx y (Z8h _ hy)) λp hp=>(Z8k.mp hp).elim (λq=>q▸hc) (ha p)
    refine⟨cl,?_,λm hm=>?_,λm ⟨d,hd⟩=>?_,λp hp=>⟨(h4 p hp).1,?_⟩⟩
    ·have:cellOf env n=pure c:=by unfold cellOf;rw[hc]
     rw[List.forIn_cons]
     simp only[Z87,if_true,this,pure_bind]
     exact h1
    ·exact(Z8k.mp hm).elim (λq=>by injection q with q;rw[q];exact h3 n ⟨c,QQ⟩) (h2 m)
    ·by_cases hmn:m=n
     ·rw[hmn];exact h3 n ⟨c,QQ⟩
     ·exact h3 m ⟨d,by rw[List.lookup_cons,Z85.mpr hmn];exact hd⟩
    ·exact(h4 p hp).2.elim (λq=>.inl (Z8h _ q)) λq=>(Z8k.mp q).elim (λq=>.inl (q▸Z8g)) .inr
   ·obtain⟨cl,h1,h2,h3,h4⟩:=ih acc (λy hy=>hx y (Z8h _ hy)) ha
    refine⟨cl,?_,λm hm=>(Z8k.mp hm).elim (λq=>absurd (Z81 Prod.snd q).symm hk) (h2 m),h3,λp hp=>⟨(h4 p hp).1,(h4 p hp).2.imp (Z8h _) id⟩⟩
    rw[List.forIn_cons]
    simp only[show(k==NameKind.free)=false from Z85.mpr hk,Bool.false_eq_true,if_false,pure_bind]
    exact h1
 obtain⟨cl,h1,h2,Z,h4⟩:=key scope.names [] h (λp hp=>nomatch hp)
 refine⟨cl,?_,h2,λp hp=>⟨(h4 p hp).1,(h4 p hp).2.resolve_right λq=>nomatch q⟩⟩
 unfold closureFor
 simp only
 rw[show(forIn scope.names ([]:List (Str×Addr)) λx r=>_)=_ from h1]
 rfl
noncomputable def Zg4(sc:Scope)(ν:Fm):Fm:=λy=>if sc.names.lookup (Str.ofString y)=some .local then none else ν y
structure Zez(xs:List String)(scope sc:Scope):Prop where
 kind:scope.kind=.function
 QP:∀y∈scope.names,y.2≠.cell
 loc:∀y∈scope.names,y.2=.local→scope.names.lookup y.1=some .local
 free:∀y∈scope.names,y.2=.free→∃k,sc.names.lookup y.1=some k∧CF k
 sub:∀y∈scope.names,y.2=.local→y.1=Str.ofString ".0"∨∃x∈xs,y.1=Str.ofString x
 xs:∀x∈xs,scope.names.lookup (Str.ofString x)=some .local
theorem Zvd{k k':NameKind}{b:Bool}(h:(k != k' || b)=true)(hk:k=k'):b=true:=(Bool.or_eq_true_iff.mp h).resolve_left λq=>bne_iff_ne.mp q hk
theorem Zue{xs:List String}{scope sc:Scope}(h:Zms xs scope sc=true):Zez xs scope sc:=
 have⟨h1,h⟩:=ZC h
 have⟨h2,h⟩:=ZC h
 have⟨h3,h⟩:=ZC h
 have⟨h4,h⟩:=ZC h
 have⟨h5,h6⟩:=ZC h
 ⟨Z84 h1,λy hy=>bne_iff_ne.mp (Yq h2 hy),λy hy hl=>Z84 (Zvd (Yq h3 hy) hl),λy hy hl=>(Bool.or_eq_true_iff.mp (Zvd (Yq h4 hy) hl)).elim (λq=>⟨_,Z84 q,.inl rfl⟩) λq=>⟨_,Z84 q,.inr rfl⟩,
  λy hy hl=>(Bool.or_eq_true_iff.mp (Zvd (Yq h5 hy) hl)).imp Z84 λq=>(List.any_eq_true.mp q).elim λx q=>⟨x,q.1,Z84 q.2⟩,λx hx=>Z84 (Yq h6 hx)⟩
section
variable{xs:List String}{scope:Scope}{cl:List (Str×Addr)}{C:Addr}
theorem Zh9{n:Str}:(compEnvC scope cl C env).kindOf n=(scope.names.lookup n).map (Ks env.scope n):=Zhd (sc:=env.scope)
theorem Zr5{n:Str}{k:NameKind}(h:Ks env.scope n k=.local):k=.local:=by
 unfold Ks at h
 split at h
 ·exact nomatch h
 ·exact h
theorem Z1e{n:Str}{k:NameKind}(h:CF (Ks env.scope n k))(hk:k≠.cell):k=.free:=by
 unfold Ks at h
 split at h
 ·rename_i q;exact Z84 (ZC (ZC q).1).1
 ·exact h.resolve_left hk
theorem Zn2(ok:Zez xs scope env.scope){n:Str}{k:NameKind}(hk:(compEnvC scope cl C env).kindOf n=some k)(hc:CF k):(n,NameKind.free)∈scope.names∧∃k,env.kindOf n=some k∧CF k:=by
 rw[Zh9]at hk
 obtain⟨k',h1,h2⟩:=Z8r.mp hk
 have hm:=mem_of_lookup h1
 have q:k'=.free:=Z1e (h2▸hc) (ok.QP _ hm)
 rw[q]at hm
 exact⟨hm,ok.free _ hm rfl⟩
theorem Frm.comp(F:Frm X W env own ν)(ok:Zez xs scope env.scope)(hcl:∀n,(n,NameKind.free)∈scope.names→cl.lookup n=env.cells.lookup n){o:Obj}{m:Str→Option Value}(hC:W C=.imm o none)(hn:NsO o m)(hmk:o.slots=Zyv)(hold:X.s1.heap.get? C=none):Frm X W (compEnvC scope cl C env) [C] (Zg4 scope ν) where
 kind:=ok.kind
 glob:=F.glob
 blt:=F.blt
 pin:=QE ⟨o,hC⟩
 old:=QE hold
 Xc:=Z8m.mpr rfl
 loc:=⟨o,m,hC,⟨hn,hmk⟩,λx v hk hv=>by
  rw[Zh9]at hk
  obtain⟨k,h1,h2⟩:=Z8r.mp hk
  rw[Zr5 h2]at h1
  unfold Zg4 at hv
  rw[if_pos h1]at hv;exact nomatch hv⟩
 cell n k hk hc:=by
  obtain⟨hm,k2,q1,q2⟩:=Zn2 ok hk hc
  obtain⟨cv,c,oc,a1,a2⟩:=F.cell n k2 q1 q2
  exact⟨cv,c,oc,(hcl n hm).trans a1,a2⟩
 val x v k hk hc hv:=by
  obtain⟨hm,k2,q1,q2⟩:=Zn2 ok hk hc
  have hv':ν x=some v:=by
   unfold Zg4 at hv
   split at hv
   ·exact nomatch hv
   ·exact hv
  obtain⟨cv,⟨c,oc,a1,a2⟩,a4⟩:=F.val x v k2 q1 q2 hv'
  exact⟨cv,⟨c,oc,(hcl _ hm).trans a1,a2⟩,a4⟩
theorem Frm.VF{x:List ZA}(ok:Zez xs scope env.scope){ν₁ ν₂:Fm}(h1:Zv xs x (Zg4 scope ν)=some ν₁)(h2:Zv xs x (hide ν)=some ν₂)(F:Frm X W (compEnvC scope cl C env) [C] ν₁):Frm X W (compEnvC scope cl C env) [C] ν₂:=by
 obtain⟨μ,e,hμ⟩:=Zep h2 (Zg4 scope ν)
 rw[←Z8q (h1.symm.trans e)]at hμ
 refine F.sub λy k v hk hv=>?_
 by_cases hy:y∈xs
 ·rw[←(hμ y).1 hy];exact hv
 ·obtain⟨a,b⟩:=(hμ y).2 hy
  rw[a]at hv
  rw[b]
  unfold hide at hv
  split at hv
  ·exact nomatch hv
  ·rename_i h0
   unfold Zg4
   rw[if_neg λhl:scope.names.lookup (Str.ofString y)=some .local=>(ok.sub _ (mem_of_lookup hl) rfl).elim (λe=>h0 (Yo e)) λ⟨z,hz,e⟩=>hy (Yo e▸hz)]
   exact hv
theorem Frm.VG{x:List ZA}(ok:Zez xs scope env.scope){ν₁:Fm}(h1:Zv xs x (Zg4 scope ν)=some ν₁)(F:Frm X W (compEnvC scope cl C env) [C] ν₁):Frm X W (compEnvC scope cl C env) [C] (Zg4 scope ν):=by
 obtain⟨μ,e,hμ⟩:=Zep h1 ν
 refine F.sub λy k v hk hv=>?_
 by_cases hy:y∈xs
 ·unfold Zg4 at hv
  rw[if_pos (ok.xs y hy)]at hv;exact nomatch hv
 ·rw[((hμ y).2 hy).1];exact hv
end
end
section
variable{X:Cx}{W W':Wd}{σ σ' σ1 σ2:St}{s s':Shared}{A:Around}{E:Value→Shared→Prop}{Q:Value→Shared→Prop}{j:Nat}{ν ν':Fm}{env:Env}{own:List Addr}{M:Model}
inductive Ko(j:Nat)(ν:Fm):List PE→St→Bool→St→Prop
 |nil (σ:St):Ko j ν [] σ true σ
 |yes {e:PE} {es:List PE} {σ σ1 σ2:St} {b:Bool} (h:EvE j e ν σ (.bool true) σ1) (hs:Ko j ν es σ1 b σ2):Ko j ν (e::es) σ b σ2
 |no {e:PE} {es:List PE} {σ σ1:St} (h:EvE j e ν σ (.bool false) σ1):Ko j ν (e::es) σ false σ1
inductive LcR(j:Nat)(g:Option (Nat×List ZA))(names:List String)(ifs:List PE)(e:PE)(ν:Fm):List (List ZA)→List ZA→St→List ZA→St→Prop
 |nil {acc:List ZA} {σ:St} (hst:Jy g σ):LcR j g names ifs e ν [] acc σ acc σ
 |keep {v:List ZA} {r:List (List ZA)} {acc ys:List ZA} {ν':Fm} {y:ZA} {σ σ1 σ2 σ3:St} (hst:Jy g σ) (hb:Zv names v (hide ν)=some ν') (hi:Ko j ν' ifs σ true σ1) (he:EvE j e ν' σ1 y σ2) (hl:acc.length<16000) (hr:LcR j g names ifs e ν r (acc++[y]) σ2 ys σ3):LcR j g names ifs e ν (v::r) acc σ ys σ3
 |skip {v:List ZA} {r:List (List ZA)} {acc ys:List ZA} {ν':Fm} {σ σ1 σ3:St} (hst:Jy g σ) (hb:Zv names v (hide ν)=some ν') (hi:Ko j ν' ifs σ false σ1) (hr:LcR j g names ifs e ν r acc σ1 ys σ3):LcR j g names ifs e ν (v::r) acc σ ys σ3
theorem Zi4{Q:Bool→Shared→Prop}(h:Q false s):∀cs:List Expr,wpAny (model pp X.w) A (forIn cs false λc r=>if r=true then do let ok ←isTrue c env (eval c env);pure (ForInStep.yield ok)else pure (ForInStep.yield r)) Q E s
 | []=>Z80 h
 |c::cs=>by rw[List.forIn_cons];exact Z8z (Z80 (Zi4 h cs))
theorem Zvf{ifs:List PE}{b:Bool}(h:Ko j ν ifs σ b σ'):∀{cs:List Expr}{W:Wd}{s:Shared}{Q:Bool→Shared→Prop},Q9 env.scope ifs cs=true→Cfg X false j W env own ν σ A s→PsT X W σ' b Q→
  wpAny (model pp X.w) A (forIn cs true λc r=>if r=true then do let ok ←isTrue c env (eval c env);pure (ForInStep.yield ok)else pure (ForInStep.yield r)) Q E s:=by
 induction h with
 |nil σ=>intro cs W s Q hf c hq;rw[Z8 hf];exact Z80 (hq W s (LeX.refl [] W) c.inv)
 |@yes e es σ σ1 σ2 b h _ ih=>
  intro cs W s Q hf c hq
  refine Z2 (Q:=λcs=>wpAny _ _ (forIn cs true _) Q E s) hf λx r hf=>?_
  rw[List.forIn_cons]
  refine Z8z ?_
  show wpAny _ _ (isTrue x env (eval x env) >>= _) _ _ _
  exact Z8z (h.te (ZC (ZC hf).2).1 c λW1 s1 l1 I1=>Z80 (ih (ZC (ZC hf).2).2 (c.to l1 I1) (hq.le l1)))
 |no h=>
  intro cs W s Q hf c hq
  refine Z2 (Q:=λcs=>wpAny _ _ (forIn cs true _) Q E s) hf λx r hf=>?_
  rw[List.forIn_cons]
  refine Z8z ?_
  show wpAny _ _ (isTrue x env (eval x env) >>= _) _ _ _
  exact Z8z (h.te (ZC (ZC hf).2).1 c λW1 s1 l1 I1=>Z80 (Zi4 (hq W1 s1 l1 I1) r))
structure Xr(X:Cx)(W:Wd)(env:Env)(xs:List String)(k:Nat)(tg:Expr)(scope:Scope)(cl:List (Str×Addr))(C D:Addr)(J:List Addr)(j:Nat)(A:Around):Prop where
 ok:Zez xs scope env.scope
 fit:Zix xs k tg=true
 room:AOK X false W (2*j+1) A
 top:∃fe rest,A.frames=some (fe::rest)∧fe.frame=env.frame
 oD:X.s1.heap.get? D=none
 fC:W C=.free
 fD:W D=.free
 fJ:∀a∈J,W a=.free
 CD:C≠D
 CJ:C∉J
 DJ:D∉J
 lc:∀p∈cl,∃o,W p.2=.imm o none
structure CompI(X:Cx)(W:Wd)(env:Env)(ν:Fm)(scope:Scope)(cl:List (Str×Addr))(C D:Addr)(At:Wd→Prop)(W1:Wd)(σ1:St)(ys:List ZA)(s1:Shared):Prop where
 le:Le W W1
 inv:Inv X W1 σ1 s1
 here:At W1
 frm:Frm X W1 (compEnvC scope cl C env) [C] (Zg4 scope ν)
 acc:∃vs n,W1 D=.imm (Zb5 vs n) none∧ZF W1 vs.toList ys
section
variable{xs:List String}{k:Nat}{tg iter elt:Expr}{Kv:List Expr}{ifs:List PE}{e:PE}{scope:Scope}{pos:Pos}{cl:List (Str×Addr)}{C D:Addr}{J:List Addr}{g:Option (Nat×List ZA)}{turns:List (List ZA)}{it:Value}
theorem Xr.Dv(c:Xr X W env xs k tg scope cl C D J j A):Off (compEnvC scope cl C env) [C] J:=λa ha=>⟨λhm=>c.CJ (Z8m.mp hm▸ha),λp hp e=>(c.lc p hp).elim λo ho=>by rw[e,c.fJ a ha]at ho;exact nomatch ho⟩
theorem Xr.Ro(c:Xr X W env xs k tg scope cl C D J j A):Off (compEnvC scope cl C env) [C] [D]:=QE ⟨Z1s c.CD.symm,λp hp e=>(c.lc p hp).elim λo ho=>by rw[e,c.fD]at ho;exact nomatch ho⟩
theorem Zs1(c:Xr X W env xs k tg scope cl C D J j A):U3 X (compEnvC scope cl C env) A σ xs (λW ν=>Frm X W (compEnvC scope cl C env) [C] ν) [C]:=
 ⟨λF=>F.XD,λF I hv hx h=>F.VR I hv (by rw[Zh9,c.ok.xs _ hx];rfl) h⟩
theorem J8{α:Type}{l:List α}{i:Nat}{x:α}{r:List α}(h:l.drop i=x::r):l[i]? = some x∧l.drop (i+1)=r:=by
 have e:l[i]? = some x:=by rw[←List.head?_drop,h];rfl
 exact⟨e,by rw[←List.tail_drop,h];rfl⟩
theorem drop_nil{α:Type}{l:List α}{i:Nat}(h:l.drop i=[])(hi:i≤l.length):i=l.length:=Nat.le_antisymm hi (List.drop_eq_nil_iff.mp h)
theorem Zh8(c:Xr X W env xs k tg scope cl C D J j A)(S:Src X tg g it J turns){i:Nat}{v:List ZA}{W1:Wd}{σ1:St}{ys:List ZA}{s1:Shared}{ν':Fm}(I:CompI X W env ν scope cl C D (S.At i) W1 σ1 ys s1)(hv:turns[i]? = some v)(hst:Jy g σ1)(hb:Zv xs v (hide ν)=some ν'){Q:PySem.Fin→Shared→Prop}
  {f:Option Value→Sem PySem.Fin} {K:Sem PySem.Fin} (hf:∀u,f (some u)=letOwnedTupleGo tg it u >>= λZ=>assign tg (compEnvC scope cl C env) u >>= λZ=>K)
  (h:∀W3 s3,CompI X W env ν scope cl C D (S.At (i+1)) W3 σ1 ys s3→Cfg X false j W3 (compEnvC scope cl C env) [C] ν' σ1 A s3→wpAny (model pp X.w) A K Q E s3):
  wpAny (model pp X.w) A (pyNext it) (λr s2=>wpAny (model pp X.w) A (f r) Q E s2) E s1:=by
 refine wpAny_mono (S.item (Q:=λu s2=>wpAny (model pp X.w) A (assign tg (compEnvC scope cl C env) u) (λZ s3=>wpAny (model pp X.w) A K Q E s3) E s2) hv I.here I.inv hst λW2 u s2 l2 I2 VB hu=>?_) (λr s2 h2=>?_) λZ Z x=>x
 ·have N1:=ZG.QY (S.pin I.here)
  have l12:Le W W2:=((I.le.X (X:=J)).trans l2).le c.fJ
  have F2:=I.frm.ZM l2 N1 c.Dv
  obtain⟨vs,n,hD,hr⟩:=I.acc
  have hD2:W2 D=.imm (Zb5 vs n) none:=Y4 hD l2 c.DJ
  obtain⟨ν₁,hb1,Z⟩:=Zep hb (Zg4 scope ν)
  refine Z6c (Zs1 c) c.room.h0 c.fit hu hb1 F2 I2 λW3 s3 l3 I3 F3=>?_
  have N2:=F2.XD
  have l13:=((l12.X (X:=[C])).trans l3).le (QE c.fC)
  exact h W3 s3 ⟨l13,I3,S.mono VB l3 N2 (λa ha hm=>c.CJ (Z8m.mp hm▸ha)),Frm.VG c.ok hb1 F3,vs,n,Y4 hD2 l3 (Z1s c.CD.symm),(hr.ZM l2 N1).ZM l3 N2⟩ ⟨Frm.VF c.ok hb1 hb F3,c.room.le l13,I3,c.top⟩
 ·cases r with
  |none=>exact h2.elim
  |some u=>rw[hf u];exact Z8z (wpAny_mono h2 (λZ s2 h=>Z8z h) λZ Z x=>x)
theorem CompI.to{At:Wd→Prop}{W1 W2:Wd}{σ1 σ2:St}{ys:List ZA}{s1 s2:Shared}(I:CompI X W env ν scope cl C D At W1 σ1 ys s1)(l:Le W1 W2)(I2:Inv X W2 σ2 s2)(ha:At W2):CompI X W env ν scope cl C D At W2 σ2 ys s2:=
 ⟨I.le.trans l,I2,ha,I.frm.mono l,I.acc.elim λvs h=>h.elim λn h=>⟨vs,n,Qg h.1 l,ZF.mono h.2 l⟩⟩
theorem Zwd(c:Xr X W env xs k tg scope cl C D J j A)(hfi:Q9 (Ki scope env.scope) ifs Kv=true)(hfe:e (Ki scope env.scope) elt=true)(S:Src X tg g it J turns){yf:List ZA}{σf:St}{R:Result→Shared→Prop}
  (hR:∀W' s' vs n oC m,Le W W'→Inv X W' σf s'→W' D=.imm (Zb5 vs n) none→ZF W' vs.toList yf→W' C=.imm oC none→NsO oC m→R (.ok .next) s') {rest:List (List ZA)} {ys:List ZA} {σ1:St} (h:LcR j g xs ifs e ν rest ys σ1 yf σf):
  ∀(i:Nat)(W1:Wd)(s1:Shared),turns.drop i=rest→i≤turns.length→CompI X W env ν scope cl C D (S.At i) W1 σ1 ys s1→codeAny (model pp X.w) A (.compLoop (.ListComp elt [⟨tg,iter,Kv,0⟩] scope pos) 0 it (.ref D) (compEnvC scope cl C env)) R s1:=by
 induction h with
 |nil hst=>
  intro i W1 s1 hd hi I
  refine codeAny_loop' rfl (λn s=>s=s1) (λn s e=>?_) 0 rfl
  subst e
  show wpAny _ A ((compTurn (.ListComp elt [⟨tg,iter,Kv,0⟩] scope pos) 0 it (.ref D) (compEnvC scope cl C env)).onRaise λx=>do noteFrame x (compEnvC scope cl C env);theTreesLotGoes x) _ _ s
  refine wpAny_noted ?_
  rw[compTurn_list]
  refine Z8z (wpAny_standAt (Z8z ?_))
  refine S.stop c.room.h0 (drop_nil hd hi▸I.here) I.inv hst λW2 s2 l2 I2=>Z80 ?_
  have N1:=ZG.QY (S.pin I.here)
  obtain⟨vs,n,hD,hr⟩:=I.acc
  obtain⟨o,m,h1,h2,Z⟩:=(I.frm.ZM l2 N1 c.Dv).loc
  exact hR W2 s2 vs n o m (((I.le.X (X:=J)).trans l2).le c.fJ) I2 (Y4 hD l2 c.DJ) (hr.ZM l2 N1) h1 h2.1
 |keep hst hb hif hel hlen V0 ih=>
  intro i W1 s1 hd hi I
  obtain⟨hv,hd'⟩:=J8 hd
  refine codeAny_loop' rfl (λn s=>s=s1) (λn s e=>?_) 0 rfl
  subst e
  show wpAny _ A ((compTurn (.ListComp elt [⟨tg,iter,Kv,0⟩] scope pos) 0 it (.ref D) (compEnvC scope cl C env)).onRaise λx=>do noteFrame x (compEnvC scope cl C env);theTreesLotGoes x) _ _ s
  refine wpAny_noted ?_
  rw[compTurn_list]
  refine Z8z (wpAny_standAt (Z8z (Zh8 c S I hv hst hb (λZ=>rfl) λW3 s3 I3 c3=>?_)))
  ·refine Z8z (Zvf hif hfi c3 λW4 s4 l4 I4=>?_)
   have I4':=I3.to l4 I4 (S.mono I3.here l4.X ZG.nil λZ Z q=>nomatch q)
   refine Z8z (Z8z (hel.val hfe (c3.to l4 I4) λW5 v5 s5 l5 I5 hv5=>?_))
   have I5':=I4'.to l5 I5 (S.mono I4'.here l5.X ZG.nil λZ Z q=>nomatch q)
   obtain⟨vs,nn,hD5,hr5⟩:=I5'.acc
   refine Z8z (wpAny_list_append_plain ⟨nn,(I5.imm hD5 (Q2 λZ Z h=>nomatch h)).1⟩ (λh' hl' hsb=>?_) (by rw[hr5.size];exact Z1 (Z8e hlen)))
   obtain⟨n',ho'⟩:=hl'
   have I6:=I5.VY (tk:=s5.toks) hD5 c.oD hsb ho'
   have N5:=ZG.one hD5
   have l56:LeX [D] W5 (ZN W5 D (.imm (Zb5 (vs.push v5) n') none)):=Zz
   refine Z80 (Z80 (.inr ⟨rfl,ih hR (i+1) _ _ hd' (Z8w.mp hv).1 ⟨((I5'.le.X (X:=[D])).trans l56).le (QE c.fD),I6,S.mono I5'.here l56 N5 (λa ha q=>c.DJ (Z8m.mp q▸ha)),I5'.frm.ZM l56 N5 c.Ro,vs.push v5,n',Zi ..,?_⟩⟩))
   rw[Array.toList_push]
   exact(ZF.ZM hr5 l56 N5).append (.one (hv5.ZM l56 N5))
 |skip hst hb hif V0 ih=>
  intro i W1 s1 hd hi I
  obtain⟨hv,hd'⟩:=J8 hd
  refine codeAny_loop' rfl (λn s=>s=s1) (λn s e=>?_) 0 rfl
  subst e
  show wpAny _ A ((compTurn (.ListComp elt [⟨tg,iter,Kv,0⟩] scope pos) 0 it (.ref D) (compEnvC scope cl C env)).onRaise λx=>do noteFrame x (compEnvC scope cl C env);theTreesLotGoes x) _ _ s
  refine wpAny_noted ?_
  rw[compTurn_list]
  refine Z8z (wpAny_standAt (Z8z (Zh8 c S I hv hst hb (λZ=>rfl) λW3 s3 I3 c3=>?_)))
  ·exact Z8z (Zvf hif hfi c3 λW4 s4 l4 I4=>Z80 (.inr ⟨rfl,ih hR (i+1) W4 s4 hd' (Z8w.mp hv).1 (I3.to l4 I4 (S.mono I3.here l4.X ZG.nil λZ Z q=>nomatch q))⟩))
end
end
section
variable{X:Cx}{W W':Wd}{σ σ' σ1 σ2:St}{s s':Shared}{A:Around}{E:Value→Shared→Prop}{Q:Value→Shared→Prop}{j:Nat}{ν ν':Fm}{env:Env}{own:List Addr}{M:Model}
theorem Q1{it:Expr}{env:Env}(h:Zfs it=true)(x:Value):foldedSetIterable it env x=pure x:=by
 cases it<;>first | rfl | exact nomatch h
theorem SrcR.D7{k:Nat}{vs:List ZA}{t g}(h:SrcR σ k vs t g)(hk:k≠4):∃x,vs=[x]:=by
 cases h<;>first | exact⟨_,rfl⟩ | exact absurd rfl hk
theorem SrcR.Rt{vs:List ZA}{t g}(h:SrcR σ 4 vs t g):∃x y,vs=[x,y]:=by cases h;exact⟨_,_,rfl⟩
theorem Zzj:BN "range" (.type "range"):=⟨rfl,by kernel_rfl,by kernel_rfl,.inr ⟨_,rfl⟩⟩
theorem Z2s:BN "enumerate" (.type "enumerate"):=⟨rfl,by kernel_rfl,by kernel_rfl,.inr ⟨_,rfl⟩⟩
theorem Z53:BN "zip" (.type "zip"):=⟨rfl,by kernel_rfl,by kernel_rfl,.inr ⟨_,rfl⟩⟩
section
variable{src:List PE}{vs:List ZA}{turns:List (List ZA)}{g:Option (Nat×List ZA)}{tg it:Expr}{xs:List String}
theorem Zkk{f:String}(b:BN f (.type f))(hs:YK false j ν src σ vs σ1)(hf:Zf4 (λh ys kw Z=>Zbq (λn Z=>n==Str.ofString f&&Kj env.scope n) h&&(is0 kw&&Q9 env.scope src ys)) it=true)(c:Cfg X false j W env own ν σ A s)
  (h:∀W1 cvs s1,Le W W1→Inv X W1 σ1 s1→ZF W1 cvs vs→wpAny (model pp X.w) A (PySem.call (.type f) cvs) Q E s1):wpAny (model pp X.w) A (eval it env) Q E s:=
 Zaq (show PE.byN f src env.scope it=true from hf) λp ys ps hgl h2=>PyProof.Rows.Call_Name rfl (Zmw c.frm c.inv hgl b (Zfh (K:=X.K) b.call (Zo h2) (Jm hs h2 c λW1 cvs s1 l1 I1 hv=>⟨I1.kin,h W1 cvs s1 l1 I1 hv⟩)))
theorem Ztp(hs:YK false j ν src σ vs σ1)(hf:Q9 env.scope src [it]=true)(c:Cfg X false j W env own ν σ A s)(h:∀x W1 cv s1,vs=[x]→Le W W1→Inv X W1 σ1 s1→ZE W1 cv x→Q cv s1):wpAny (model pp X.w) A (eval it env) Q E s:=by
 cases hs with
 |nil=>exact nomatch hf
 |cons he hr=>
  cases hr with
  |cons _ _=>exact no ((Bool.and_false _).symm.trans ((Z81 (_&&·) (Bool.and_false _)).symm.trans hf))
  |nil=>exact he.val (ZC (ZC hf).2).1 c λW1 v s1 l1 I1 hv=>h _ W1 v s1 rfl l1 I1 hv
theorem Z4a{x y:ZA}(h:[x]=[y]):x=y:=by injection h
theorem Zo5{k:Nat}(hs:YK false j ν src σ vs σ1)(ht:SrcR σ1 k vs turns g)(hf:Zjq env.scope k src it=true)(htg:Zix xs k tg=true)(c:Cfg X false j W env own ν σ A s)
  (h:∀W1 it s₂,Le W W1→Made X tg g turns σ1 W1 it s₂→Q it s₂):wpAny (model pp X.w) A (eval it env) (λx s₁=>wpAny (model pp X.w) A (pyIter x) Q E s₁) E s:=by
 have hf:=(ZC hf).2
 rcases Zhp htg with⟨hk,ht2,Z⟩ | ⟨hk,ht2,Z⟩
 ·rcases hk with rfl | rfl
  ·exact Ztp hs hf c λx W1 cv s1 e l1 I1 hv=>Z5g ht2 (e▸ht) I1 hv λit s2 m=>h W1 it s2 l1 m
  ·obtain⟨x,rfl⟩:=ht.D7 (by decide)
   exact Zkk Zzj hs hf c λW1 cvs s1 l1 I1 hv=>hv.e1 λv hv=>Z7f ht2 ht I1 hv λit s2 m=>h W1 it s2 l1 m
 ·rcases hk with rfl | rfl | rfl
  ·exact Ztp hs hf c λx W1 cv s1 e l1 I1 hv=>Z7g ht2 (e▸ht) I1 hv λit s2 m=>h W1 it s2 l1 m
  ·obtain⟨x,rfl⟩:=ht.D7 (by decide)
   exact Zkk Z2s hs hf c λW1 cvs s1 l1 I1 hv=>hv.e1 λv hv=>Z7e ht2 ht I1 hv λit s2 m=>h W1 it s2 l1 m
  ·obtain⟨x,y,rfl⟩:=ht.Rt
   exact Zkk Z53 hs hf c λW1 cvs s1 l1 I1 hv=>hv.e2 λv u hv hu=>Z7d ht2 ht I1 hv hu λit s2 m=>h W1 it s2 l1 m
end
theorem Le.back{a:Addr}(l:Le W W')(h:W' a=.free):W a=.free:=Classical.byContradiction λq=>q ((l a List.not_mem_nil q).symm.trans h)
theorem Frm.Ie(F:Frm X W env own ν){xs:List String}{scope:Scope}(ok:Zez xs scope env.scope):∃cl,closureFor scope env=pure cl∧(∀n,(n,NameKind.free)∈scope.names→cl.lookup n=env.cells.lookup n)∧∀p∈cl,∃o,W p.2=.imm o none:=by
 have Ky:∀y∈scope.names,y.2=.free→∃c o,env.cells.lookup y.1=some c∧W c=.imm o none:=λy hy hfr=>by
  obtain⟨k,q,hc⟩:=ok.free y hy hfr
  obtain⟨cv,c,o,h1,h2,Z⟩:=F.cell y.1 _ q hc
  exact⟨c,o,h1,h2⟩
 obtain⟨cl,hcl,GK,RT⟩:=Zs4 (scope:=scope) (env:=env) λy hy hfr=>by obtain⟨c,o,h1,Z⟩:=Ky y hy hfr;rw[h1];rfl
 refine⟨cl,hcl,GK,λp hp=>?_⟩
 obtain⟨h1,h2⟩:=RT p hp
 obtain⟨c,o,h3,h4⟩:=Ky _ h2 rfl
 exact⟨o,Z8q (h1.symm.trans h3)▸h4⟩
structure CompEnd(X:Cx)(W W':Wd)(σ':St)(s':Shared)(D C:Addr)(ys:List ZA)(m:Str→Option Value):Prop where
 fC:W C=.free
 fD:W D=.free
 CD:C≠D
 oC:X.s1.heap.get? C=none
 oD:X.s1.heap.get? D=none
 le:Le W W'
 inv:Inv X W' σ' s'
 acc:∃vs n,W' D=.imm (Zb5 vs n) none∧ZF W' vs.toList ys
 ns:∃o,W' C=.imm o none∧NsO o m
section
variable{elt:PE}{xs:List String}{k:Nat}{src ifs:List PE}{vs ys:List ZA}{turns:List (List ZA)}{g:Option (Nat×List ZA)}
theorem Zia(hs:YK false j ν src σ vs σ1)(ht:SrcR σ1 k vs turns g){x tg it:Expr}{cs:List Expr}{scope:Scope}{pos:Pos}(hok:Zms xs scope env.scope=true)(htg:Zix xs k tg=true)(X4:Zjq env.scope k src it=true)
  (c:Cfg X false j W env own ν σ A s) {R:Value→Addr→Result→Shared→Prop} (DD:∀{cl:List (Str×Addr)} {C D:Addr} {J:List Addr} {it':Value} {W2:Wd} {s2:Shared},Xr X W env xs k tg scope cl C D J j A→(S:Src X tg g it' J turns)→X.s1.heap.get? C=none→CompI X W env ν scope cl C D (S.At 0) W2 σ1 [] s2→
   codeAny (model pp X.w) A (.compLoop (.ListComp x [⟨tg,it,cs,0⟩] scope pos) 0 it' (.ref D) (compEnvC scope cl C env)) (R (.ref D) C) s2):
  ∃cl,closureFor scope env=pure cl∧Zez xs scope env.scope∧Zfs it=true∧
  wpAny (model pp X.w) A (eval it env) (λx' s₁=>wpAny (model pp X.w) A (pyIter x') (λit' s₂=>wpAny (model pp X.w) A (newList []) (λacc s₃=>
   wpAny (model pp X.w) A (newFunctionEnv scope env.globals cl [] env.qual none .none (some env)) (λVH s₄=>
    codeAny (model pp X.w) A (.compStart (.ListComp x [⟨tg,it,cs,0⟩] scope pos) 0 it' acc { VH with scope:=relabel scope env }) (R acc VH.locals) s₄) E s₃) E s₂) E s₁) E s:=by
 have ok:=Zue hok
 obtain⟨cl,hcl,GK,hlc⟩:=c.frm.Ie ok
 refine⟨cl,hcl,ok,(ZC X4).1,Zo5 hs ht X4 htg c λW1 it' s2 l1 m=>?_⟩
 obtain⟨J,W2,S,l2,I2,hat,hJ⟩:=m
 have l02:=l1.trans l2
 refine wpAny_newList ?_ (Z8d _)
 obtain⟨I3,l3⟩:=I2.alloc (o:=Zb5 #[] 0) (v:=none) s2.toks rfl trivial
 have hDf:W2 s2.heap.objs.size=.free:=I2.free (Z70 _)
 refine wpAny_newFunctionEnv (λy hy=>ok.QP y hy) (λy hy=>nomatch hy) (λh' Kw hsb=>?_) ok.kind
 obtain⟨oC,hoC,hnC⟩:=NsO.of Kw
 have hCn:(s2.heap.push { cls:=.type "list",data:=.seq ([]:List Value).toArray }).get? (s2.heap.push { cls:=.type "list",data:=.seq ([]:List Value).toArray }).objs.size=none:=Z5 _
 have hDC:(s2.heap.push { cls:=.type "list",data:=.seq ([]:List Value).toArray }).objs.size≠s2.heap.objs.size:=by rw[Heap.size_push];exact Nat.succ_ne_self _
 have hk:∀a o,(s2.heap.push { cls:=.type "list",data:=.seq ([]:List Value).toArray }).get? a=some o→h'.get? a=some o:=λa o e=>(hsb.2 a λq=>by rw[q,hCn]at e;exact nomatch e).trans (Z8x _ e)
 have UR:=I3.KR hCn
 generalize(s2.heap.push { cls:=.type "list",data:=.seq ([]:List Value).toArray }).objs.size=Ca at*
 obtain⟨I4,l4⟩:=I3.GX (tk:=s2.toks+0) hk hCn hoC hnC
 have hDW:=Le.back l02 hDf
 have hCW:=Le.back (l02.trans l3) UR
 have hDo:=I2.QN hDf
 have hCo:=I3.QN UR
 have l34:=l3.trans l4
 have l04:=l02.trans l34
 have C:Xr X W env xs k tg scope cl Ca s2.heap.objs.size J j A:=⟨ok,htg,c.room,c.top,hDo,hCW,hDW,λa ha=>Le.back l1 (hJ a ha),hDC,λq=>(S.pin hat _ q).elim λo e=>by rw[Qg e l3]at UR;exact(nomatch UR),λq=>(S.pin hat _ q).elim λo e=>by rw[hDf]at e;exact(nomatch e),hlc⟩
 have DU:=S.mono hat (Le.X l34) (Y:=[]) ZG.nil λZ Z q=>nomatch q
 have loop:=DD (it':=it') C S hCo ⟨l04,I4,DU,Frm.comp (c.frm.mono l04) ok (cl:=cl) GK (Zi ..) hnC.lax rfl hCo,#[],0,Qg (Zi ..) l4,trivial⟩
 exact codeAny_compStart_list loop (S.self DU I4 loop)
theorem Zj2(hs:YK false j ν src σ vs σ1)(ht:SrcR σ1 k vs turns g)(hg:LcR j g xs ifs elt ν turns [] σ1 ys σ2){x tg it:Expr}{cs:List Expr}{scope:Scope}{pos:Pos}(hok:Zms xs scope env.scope=true)(htg:Zix xs k tg=true)(X4:Zjq env.scope k src it=true)(hfi:Q9 (Ki scope env.scope) ifs cs=true)(hfe:elt (Ki scope env.scope) x=true)
  (c:Cfg X false j W env own ν σ A s) {R:Value→Addr→Result→Shared→Prop} (hR:∀W' s' D C m,CompEnd X W W' σ2 s' D C ys m→R (.ref D) C (.ok .next) s'):
  ∃cl,closureFor scope env=pure cl∧Zez xs scope env.scope∧Zfs it=true∧
  wpAny (model pp X.w) A (eval it env) (λx' s₁=>wpAny (model pp X.w) A (pyIter x') (λit' s₂=>wpAny (model pp X.w) A (newList []) (λacc s₃=>
   wpAny (model pp X.w) A (newFunctionEnv scope env.globals cl [] env.qual none .none (some env)) (λVH s₄=>
    codeAny (model pp X.w) A (.compStart (.ListComp x [⟨tg,it,cs,0⟩] scope pos) 0 it' acc { VH with scope:=relabel scope env }) (R acc VH.locals) s₄) E s₃) E s₂) E s₁) E s:=
 Zia hs ht hok htg X4 c λC S hCo I=>Zwd C hfi hfe S (λW' s' vs n oC m l I' hD hr hC hn=>hR W' s' _ _ m ⟨C.fC,C.fD,C.CD,hCo,C.oD,l,I',⟨vs,n,hD,hr⟩,oC,hC,hn⟩) hg 0 _ _ rfl (Z8d _) I
theorem CompEnd.done{s':Shared}{D C:Addr}{m:Str→Option Value}(e:CompEnd X W W' σ' s' D C ys m):s'.heap.Ns C m∧∀h',Heap.SameBut C s'.heap h'→∃W'',Le W W''∧Inv X W'' σ' { s' with heap:=h' }∧ZE W'' (.ref D) (.lst ys):=by
 obtain⟨oC,hCC,hn⟩:=e.ns
 obtain⟨vs,n,hDD,hr⟩:=e.acc
 refine⟨hn.nsP (e.inv.imp hCC).1,λh' hsb=>?_⟩
 have lf:LeX [C] W' (ZN W' C .free):=Zz
 have hDf:ZN W' C .free D=.imm (Zb5 vs n) none:=(Qa e.CD.symm).trans hDD
 have I2:=(e.inv.forget (tk:=s'.toks) hCC e.oC hsb).Uz hDf e.oD (hr.ZM lf (ZG.one hCC))
 have m1:C∈[C,D]:=Z8g
 have m2:D∈[C,D]:=Z8h _ Z8g
 exact⟨_,(((Le.X (X:=[C,D]) e.le).trans (lf.mono (QE m1))).trans (Zz.mono (QE m2))).le (XY e.fC e.fD),I2,.Gy (Zi ..)⟩
@[elab_as_elim]theorem Zgk{sc:Scope}{x:Expr}{P:Expr→Prop}(h:PE.comp elt xs k src ifs sc x=true)(f:∀e tg it cs scope p,Zms xs scope sc=true→Zix xs k tg=true→Zjq sc k src it=true→Q9 (Ki scope sc) ifs cs=true→elt (Ki scope sc) e=true→P (.ListComp e [⟨tg,it,cs,0⟩] scope p)):P x:=Ziz h λe gs scope p h=>by
 have h1:=(ZC h).1
 have h2:=(ZC h).2
 refine Qf (Q:=λgs=>P (.ListComp e gs scope p)) h1 λgn h=>?_
 obtain⟨tg,it,cs,asy⟩:=gn
 have h3:=(ZC h).1
 have h:=(ZC h).2
 have h4:=(ZC h).1
 have h:=(ZC h).2
 have h5:=(ZC h).1
 have h:=(ZC h).2
 have h6:=(ZC h).1
 have h7:=(ZC h).2
 rw[show asy=0 from Z84 h3]
 exact f e tg it cs scope p h4 h5 h6 h7 h2
theorem Qx(hs:YK false j ν src σ vs σ1)(ht:SrcR σ1 k vs turns g)(hg:LcR j g xs ifs elt ν turns [] σ1 ys σ2):EvE j (.comp elt xs k src ifs) ν σ (.lst ys) σ2:=.plain (λh=>Zgk h λZ Z Z Z Z Z Z Z Z Z Z Z Z=>rfl) λ{X x env own W A s E Q} hf c hq=>Zgk hf λe tg it cs scope pos h1 h2 h3 h4 h5=>by
 obtain⟨cl,hcl,ok,hns,h⟩:=Zj2 hs ht hg (pos:=pos) h1 h2 h3 h4 h5 c (R:=compPost (model pp X.w) A E none Q) (E:=E) λW' s' D C m e=>by
  obtain⟨a,b⟩:=e.done
  exact⟨m,a,λh' hsb=>(b h' hsb).elim λW2 q=>hq W2 _ _ q.1 q.2.1 q.2.2⟩
 rw[eval_ListComp]
 exact wpAny_comprehension_free rfl (λx=>Q1 hns x) hcl ok.kind ok.loc h
end
end
section
def Z6o(X:Cx)(W':Wd)(env:Env)(own:List Addr)(f:Flw)(ν':Fm)(fl:Flow):Prop:=@Flw.casesOn (λZ=>Prop) f (fl=.next∧YT X W' env own ν') λv=>∃cv,fl=.ret cv∧ZE W' cv v
structure YM(X:Cx)(md:Bool)(j:Nat)(W:Wd)(env:Env)(own:List Addr)(ν:Fm)(σ:St)(A:Around)(s:Shared):Prop where
 frm:YT X W env own ν
 room:AOK X md W (2*j+1) A
 inv:Inv X W σ s
 top:∃rest,A.frames=some (env::rest)∧env.frame=some env.locals∧∀f∈rest,∀L,f.frame=some L→L∉own
def PsF(X:Cx)(W:Wd)(env:Env)(own:List Addr)(f:Flw)(ν':Fm)(σ':St)(Q:Flow→Shared→Prop):Prop:=∀W' fl s',LeX own W W'→Inv X W' σ' s'→Z6o X W' env own f ν' fl→Q fl s'
structure StM(md:Bool)(j:Nat)(p:PS)(ν:Fm)(σ:St)(f:Flw)(ν':Fm)(σ':St):Prop where
 run:∀{X:Cx}{t:Stmt}{env:Env}{own:List Addr}{W:Wd}{A:Around}{s:Shared}{E:Value→Shared→Prop}{Q:Flow→Shared→Prop},
 p env.scope t=true→YM X md j W env own ν σ A s→PsF X W env own f ν' σ' Q→wpAny (model pp X.w) A (exec t env) Q E s
structure BkM(md:Bool)(j:Nat)(ps:List PS)(ν:Fm)(σ:St)(f:Flw)(ν':Fm)(σ':St):Prop where
 run:∀{X:Cx}{ts:List Stmt}{env:Env}{own:List Addr}{W:Wd}{A:Around}{s:Shared}{E:Value→Shared→Prop}{Q:Flow→Shared→Prop},
 JJ env.scope ps ts=true→YM X md j W env own ν σ A s→PsF X W env own f ν' σ' Q→wpAny (model pp X.w) A (execs ts env) Q E s
noncomputable abbrev ExS:=StM false
noncomputable abbrev ExB:=BkM false
section
variable{X:Cx}{W W':Wd}{σ σ' σ1 σ2 σ3:St}{s s':Shared}{A:Around}{E:Value→Shared→Prop}{md:Bool}{j:Nat}{ν ν' ν'':Fm}{env:Env}{own:List Addr}
theorem YM.c(c:YM X md j W env own ν σ A s):Cfg X md j W env own ν σ A s:=⟨c.frm.toFrm,c.room,c.inv,c.top.elim λrest h=>⟨env,rest,h.1,rfl⟩⟩
theorem YM.to(c:YM X md j W env own ν σ A s)(l:Le W W')(I:Inv X W' σ' s'):YM X md j W' env own ν σ' A s':=⟨c.frm.mono l,c.room.le l,I,c.top⟩
theorem Frm.frP(F:Frm X W env own ν):FrP X W env.locals:=F.loc.elim λo h=>h.elim λm h=>⟨o,h.1,h.2.1.2,rfl,F.old _ F.Xc,h.2.1.1.elim λes x=>x.elim λep x=>⟨es,ep,x.1⟩⟩
theorem YM.stk(c:YM X md j W env own ν σ A s)(l:LeX own W W')(hP:FrP X W' env.locals):∃l,A.frames=some l∧Stk X W' l:=by
 obtain⟨rest,h1,h2,h3⟩:=c.top
 obtain⟨l0,hl,hs⟩:=c.room.stk
 refine⟨_,h1,λf hf=>(Z8k.mp hf).elim (λe=>e▸⟨c.frm.kind,_,h2,hP⟩) λhr=>?_⟩
 rw[h1]at hl
 have e:=hs f (Z8q hl▸Z8h _ hr)
 obtain⟨L,q1,o,q2,q3⟩:=e.at'
 exact⟨e.kind,L,q1,o,Y4 q2 l (h3 f hr L q1),q3⟩
theorem YM.step(c:YM X md j W env own ν σ A s)(l:LeX own W W')(I:Inv X W' σ' s')(F:YT X W' env own ν'):YM X md j W' env own ν' σ' A s':=⟨F,⟨c.room.hh,c.room.dp,c.room.un,c.stk l F.toFrm.frP⟩,I,c.top⟩
theorem PsF.le{f:Flw}{Q:Flow→Shared→Prop}(h:PsF X W env own f ν' σ' Q)(l:LeX own W W'):PsF X W' env own f ν' σ' Q:=λW2 fl s2 l2=>h W2 fl s2 (l.trans l2)
theorem PsF.next{Q:Flow→Shared→Prop}(h:PsF X W env own .next ν' σ' Q)(I:Inv X W σ' s')(F:YT X W env own ν'):Q .next s':=h W _ s' (LeX.refl _ W) I ⟨rfl,F⟩
theorem PsF.ret{v:ZA}{Q:Flow→Shared→Prop}(h:PsF X W env own (.ret v) ν' σ' Q)(I:Inv X W σ' s'){cv:Value}(hv:ZE W cv v):Q (.ret cv) s':=h W _ s' (LeX.refl _ W) I ⟨cv,rfl,hv⟩
theorem Yt{v:Expr}{t:Option Expr}{l:Nat}{env:Env}(h:Zox v=true):swapsWith v t l env=pure false:=by
 cases v<;>first | rfl | exact nomatch h
theorem Jw{n:Str}(h:Zgu env.scope n=true):env.kindOf n=some .local∨env.kindOf n=some .cell:=by
 show env.scope.names.lookup n=some .local∨env.scope.names.lookup n=some .cell
 exact Zj (Q:=λo=>o=some .local∨o=some .cell) h (λq=>no q) λk hk=>(Bool.or_eq_true_iff.mp hk).imp (λq=>Z81 some (Z84 q)) λq=>Z81 some (Z84 q)
theorem Zng{xs:List String}(h:∀x∈xs,Zgu env.scope (Str.ofString x)=true):U3 X env A σ xs (λW ν=>YT X W env own ν) own:=
 ⟨λF=>F.toFrm.XD,λF I hv hx k=>F.store I hv (Jw (h _ hx)) k⟩
end
section
variable{md:Bool}{j:Nat}{ν ν' ν'':Fm}{σ σ1 σ2 σ3 σ4:St}{x y z w v:ZA}{a b c e t o i l h s:PE}{es src ifs:List PE}{us vs ws xs ys:List ZA}{n m f q:String}{r:ZA}{id:Nat}{fl:Flw}{bl ol:List PS}
theorem Yk(h:EvM md j e ν σ v σ1):StM md j (.asg n e) ν σ .next (upd ν n v) σ1:=.mk λ{X st env own W A s E Q} hf c hq=>Yh hf λts u sp h2=>by
 have h3:=(ZC h2).1
 have h4:=(ZC h2).2
 refine Qf (Q:=λts=>wpAny _ _ (exec (.Assign ts u sp) env) Q E s) h3 λtg h3=>Ym h3 λm p h3=>?_
 have hn:=(ZC h3).1
 have hs:=(ZC h3).2
 rw[Z84 hn]at hs ⊢
 exact wpAny_Assign_Name (h.val (ZC h4).2 c.c λW1 cv s1 l1 I1 hv=>(c.frm.mono l1).store I1 hv (Jw hs) λW2 s2 l2 I2 F2=>hq W2 _ s2 ((Le.X l1).trans l2) I2 ⟨rfl,F2⟩) (Yt (ZC h4).1)
theorem Z6v{cl:String}{k:Nat}{mm:Fm}(he:EvM md j e ν σ v σ1)(ho:EvM md j o ν σ1 (.ref id) σ2)(hf:σ2.f id=some (.inst cl k mm))(hat:J9.contains (cl,n)=true)(hk:k<100):StM md j (.sat o n e) ν σ .next ν (σ2.put id (.inst cl (k+1) (upd mm n v))):=.mk λ{X st env own W A s E Q} YN c hq=>Yh YN λts u sp h2=>by
 have h3:=(ZC h2).1
 have h4:=(ZC h2).2
 refine Qf (Q:=λts=>wpAny _ _ (exec (.Assign ts u sp) env) Q E s) h3 λtg h3=>Z9 h3 λov m p h3=>?_
 have hn:=(ZC h3).1
 have hs:=(ZC h3).2
 rw[Z84 hn]
 exact plainObj_wpAny_Assign_Attribute (he.val (ZC h4).1 c.c λW1 cv s1 l1 I1 hv=>ho.val hs (c.c.to l1 I1) λW2 cu s2 l2 I2 hu=>Z3x hf hat hk I2 hu (hv.mono l2) λs' I'=>(hq.le (Le.X (l1.trans l2))).next I' (c.frm.mono (l1.trans l2))) (Yt (ZC h4).2)
theorem Zoq{prog:Program}{w:World}{A:Around}{E:Value→Shared→Prop}{s:Shared}{l:Addr}{items:Array Value}{k:Int}{t:Tok}{v:Value}{Q:Unit→Shared→Prop}(hl:s.heap.PlainList l items)(h0:0≤k)(YN:k<2 ^ 63)(hn:k<items.size)
  (hQ:∀h',h'.PlainList l (items.setIfInBounds k.toNat v)→Heap.SameBut l s.heap h'→Q () { s with heap:=h' }):wpAny (model prog w) A (setItem (.ref l) (.int k t) v) Q E s:=by
 obtain⟨ne,ho⟩:=id hl
 have hd:({ cls:=.type "list",data:=.seq items ne }:Obj).data=.seq items ne:=rfl
 unfold setItem
 try with_reducible refine wpAny_holding ?_
 first | refine Z8z (Z80 ?_) | skip
 refine Z8z (wpAny_sequenceKey hl.isList.typeIs (by decide) ?_)
 refine Z8z (wpAny_callSpecial?_slot (name:=Str.ofString "__setitem__") hl.isList.typeIs F.slot_list_setitem (wpAny_call_entry F.slot_list_setitem hl.isList.typeIs F.entry_list_setitem ?_ (PySem.args_list_setitem _ _ _)))
 show wpAny _ _ (Builtin.List.listSubscript? (.int k t) >>= _) _ _ s
 refine Z8z (wpAny_listSubscript_int (fitsIndex_of h0 YN) ?_)
 clear YN
 obtain⟨j,rfl⟩:=Int.eq_ofNat_of_zero_le h0
 show wpAny _ _ ((seqItemAt l j >>= λr=>pure (r.map (j,·))) >>= _) _ _ s
 refine Z8z (Z8z (wpAny_seqItemAt ho hd (Z80 ?_)))
 rw[Z8t (Int.ofNat_lt.mp hn)]
 show wpAny _ _ (setSeqItemAt l j v >>= _) _ _ s
 refine Z8z (wpAny_setSeqItemAt ho hd ?_)
 exact Z8z (Z80 (Z80 ⟨.none,rfl,Z80 (hQ _ ⟨_,Heap.get?_update_self _ ho (Obj.isFreed_of_seq (Obj.data_mapSeq hd (·.setIfInBounds j v)).choose_spec)⟩ (Heap.SameBut.update ..))⟩))
inductive K3(σ:St):Nat→ZA→ZA→ZK→Prop
 |dict {id:Nat} {es:List (ZA×ZA)} {k v:ZA} (he:σ.f id=some (.dict es)) (hk:Zfd es k) (hl:es.length≤16000):K3 σ id k v (.dict (Xx es k v))
 |list {id:Nat} {xs:List ZA} {k:Nat} {v:ZA} (he:σ.f id=some (.list xs)) (hk:k<xs.length) (hl:xs.length≤16000):K3 σ id (.int k) v (.list (xs.set k v))
theorem Z3w{X:Cx}{W:Wd}{s:Shared}{A:Around}{E:Value→Shared→Prop}{Q:Unit→Shared→Prop}{k:ZA}{ob:ZK}(e:K3 σ id k v ob)(hA:A.units+30<cLine)(I:Inv X W σ s){u kv cv:Value}(hu:ZE W u (.ref id))(hk:ZE W kv k)(hv:ZE W cv v)(h:∀s',Inv X W (σ.put id ob) s'→Q () s'):
  wpAny (model pp X.w) A (setItem u kv cv) Q E s:=by
 cases e with
 |dict he hkk hl=>exact Zy2 I hu he hk hv hkk hl hA h
 |list he hkl hl=>
  obtain⟨a,rfl,hW,vs,hl',hr⟩:=I.obj hu he
  obtain⟨t,rfl⟩:=hk
  exact Zoq hl' (Int.natCast_nonneg _) (Z1x hkl hl).1 (by rw[hr.size];exact Int.ofNat_lt.mpr hkl) λh' RM hsb=>h _ (I.XR (tk:=s.toks) hW hsb RM (by rw[Array.toList_setIfInBounds];exact hr.set _ hv))
theorem Zr2{ob:ZK}(he:EvM md j e ν σ v σ1)(ho:EvM md j o ν σ1 (.ref id) σ2)(hi:EvM md j i ν σ2 y σ3)(hs:K3 σ3 id y v ob):StM md j (.six o i e) ν σ .next ν (σ3.put id ob):=.mk λ{X st env own W A s E Q} YN c hq=>Yh YN λts u sp h2=>by
 have h3:=(ZC h2).1
 have h4:=(ZC h2).2
 refine Qf (Q:=λts=>wpAny _ _ (exec (.Assign ts u sp) env) Q E s) h3 λtg h3=>Qi h3 λov iv p h3=>?_
 exact wpAny_Assign_Subscript (he.val (ZC h4).1 c.c λW1 cv s1 l1 I1 hv=>ho.val (ZC h3).1 (c.c.to l1 I1) λW2 cu s2 l2 I2 hu=>hi.val (ZC (ZC h3).2).1 (c.c.to (l1.trans l2) I2) λW3 ck s3 l3 I3 hk=>
  Z3w hs c.c.un I3 (hu.mono l3) hk ((hv.mono l2).mono l3) λs' I'=>(hq.le (Le.X ((l1.trans l2).trans l3))).next I' (c.frm.mono ((l1.trans l2).trans l3))) (Yt (ZC h4).2)
theorem Zau(h:EvM md j e ν σ v σ1):StM md j (.ret e) ν σ (.ret v) ν σ1:=.mk λ{X st env own W A s E Q} YN c hq=>Ju YN λoe p h2=>
 Zj (Q:=λoe=>wpAny _ _ (exec (.Return oe p) env) Q E s) h2 (λq=>no q) λu hu=>wpAny_Return_some (h.val hu c.c λW1 cv s1 l1 I1 hv=>(hq.le (Le.X l1)).ret I1 hv)
theorem Qb(h:EvM md j e ν σ v σ1):StM md j (.exp e) ν σ .next ν σ1:=.mk λ{X st env own W A s E Q} YN c hq=>Zds YN λu p h2=>by
 refine wpAny_Expr_any (h.val (ZC h2).1 c.c λW1 cv s1 l1 I1 hv=>(hq.le (Le.X l1)).next I1 (c.frm.mono l1)) ?_ (Yt (ZC h2).2)
 unfold interactive
 rw[c.frm.kind];rfl
theorem Zby(h:EvM md j t ν σ (.bool true) σ1)(hb:BkM md j bl ν σ1 fl ν' σ2):StM md j (.ifs t bl ol) ν σ fl ν' σ2:=.mk λ{X st env own W A s E Q} YN c hq=>Zev YN λu bs os p h2=>
 wpAny_If (h.te (ZC h2).1 c.c λW1 s1 l1 I1=>hb.run (ZC (ZC h2).2).1 (c.to l1 I1) (hq.le (Le.X l1)))
theorem Zfq(h:EvM md j t ν σ (.bool false) σ1)(hb:BkM md j ol ν σ1 fl ν' σ2):StM md j (.ifs t bl ol) ν σ fl ν' σ2:=.mk λ{X st env own W A s E Q} YN c hq=>Zev YN λu bs os p h2=>
 wpAny_If (h.te (ZC h2).1 c.c λW1 s1 l1 I1=>hb.run (ZC (ZC h2).2).2 (c.to l1 I1) (hq.le (Le.X l1)))
theorem Z0m:BkM md j [] ν σ .next ν σ:=.mk λ{X ts env own W A s E Q} hf c hq=>by rw[Z8 hf];exact Z80 (hq.next c.inv c.frm)
theorem Zes{st:PS}{rest:List PS}(h1:StM md j st ν σ .next ν' σ1)(h2:BkM md j rest ν' σ1 fl ν'' σ2):BkM md j (st::rest) ν σ fl ν'' σ2:=.mk λ{X ts env own W A s E Q} hf c hq=>Z2 (Q:=λts=>wpAny _ _ (execs ts env) Q E s) hf λx r hf=>by
 show wpAny _ _ (do match ←exec x env with | .next=>execs r env | f=>pure f) _ _ _
 refine Z8z (h1.run (ZC hf).1 c λW1 fo s1 l1 I1 hr=>?_)
 obtain⟨rfl,F1⟩:=hr
 exact h2.run (ZC hf).2 (c.step l1 I1 F1) (hq.le l1)
theorem Zpt{st:PS}{rest:List PS}(h1:StM md j st ν σ (.ret v) ν' σ1):BkM md j (st::rest) ν σ (.ret v) ν' σ1:=.mk λ{X ts env own W A s E Q} hf c hq=>Z2 (Q:=λts=>wpAny _ _ (execs ts env) Q E s) hf λx r hf=>by
 show wpAny _ _ (do match ←exec x env with | .next=>execs r env | f=>pure f) _ _ _
 refine Z8z (h1.run (ZC hf).1 c λW1 fo s1 l1 I1 hr=>?_)
 have hr':=hr
 obtain⟨cv,rfl,hv⟩:=hr
 exact Z80 (hq W1 _ s1 l1 I1 hr')
theorem Zn(h:EvM md j t ν σ (.bool false) σ1):StM md j (.ifs t bl []) ν σ .next ν σ1:=Zfq h Z0m
theorem Zbr{st:PS}(h:EvM md j t ν σ (.bool true) σ1)(hs:StM md j st ν σ1 (.ret v) ν' σ2):StM md j (.ifs t [st] ol) ν σ (.ret v) ν' σ2:=Zby h (Zpt hs)
theorem Qh{st:PS}(hs:StM md j st ν σ .next ν' σ1):BkM md j [st] ν σ .next ν' σ1:=Zes hs Z0m
end
end
section
section
variable{X:Cx}{W W':Wd}{σ σ' σ1 σ2 σ3:St}{s s':Shared}{A:Around}{E:Value→Shared→Prop}{j:Nat}{ν ν' ν'':Fm}{env:Env}{own:List Addr}
theorem Z2o{α:Type}{l:List α}{i m:Nat}(h:i+(m+1)=l.length):∃x,l[i]? = some x∧l.drop i=x::l.drop (i+1):=by
 have hi:i<l.length:=by lia
 exact⟨l[i],Z8v hi,List.drop_eq_getElem_cons hi⟩
theorem Zv9{g:Option (Nat×List ZA)}{it:Value}{J:List Addr}{xs:List ZA}{n0:Str}{p0:Pos}(S:Src X (.Name n0 p0) g it J (xs.map λx=>[x]))(hst:Jy g σ):
  ∀(m i:Nat)(W:Wd)(s:Shared)(Q:List Value→Shared→Prop),i+m=xs.length→S.At i W→Inv X W σ s→
   (∀W' cvs s',LeX J W W'→Inv X W' σ s'→S.At xs.length W'→ZF W' cvs (xs.drop i)→Q cvs s')→wpAny (model pp X.w) A (draw it m) Q E s
 |0,i,W,s,Q,hm,hat,I,hq=>by
  obtain rfl:i=xs.length:=hm
  exact Z80 (hq W [] s (LeX.refl _ W) I hat (by rw[List.drop_length];trivial))
 |m+1,i,W,s,Q,hm,hat,I,hq=>by
  obtain⟨x,hx,hd⟩:=Z2o hm
  show wpAny _ _ (pyNext it >>= _) Q E s
  refine Z8z (wpAny_mono (S.item (E:=E) (Q:=λv s2=>wpAny (model pp X.w) A (do return v::(←holding [v] (draw it m))) Q E s2) (x:=[x]) (by rw[List.getElem?_map,hx];rfl) hat I hst λW2 v s2 l2 I2 VB hv=>?_) (λr s2 h2=>?_) λZ Z x=>x)
  ·obtain⟨a,ha,hva⟩:∃a,[x]=[a]∧ZE W2 v a:=hv
   rw[←Z4a ha]at hva
   refine Z8z (wpAny_holding (Zv9 S hst m (i+1) W2 s2 _ (by rw[←hm,Z8a,Nat.add_comm 1 m]) VB I2 λW3 cvs s3 l3 I3 Vl hr=>Z80 (hq W3 _ s3 (l2.trans l3) I3 Vl ?_)))
   rw[hd]
   exact⟨hva.ZM l3 (ZG.QY (S.pin VB)),hr⟩
  ·cases r with
   |none=>exact h2.elim
   |some v=>
    have h3:wpAny (model pp X.w) A (pure ():Sem Unit) (λZ s2=>wpAny (model pp X.w) A (do return v::(←holding [v] (draw it m))) Q E s2) E s2:=h2
    exact λΓ p hΓ=>h3 Γ p hΓ Γ p hΓ
theorem Zl9{v:Value}{x:ZA}{xs:List ZA}{Q:List Value→Shared→Prop}(hh:A.handled=none)(hx:Its σ x xs)(I:Inv X W σ s)(hv:ZE W v x)
  (hq:∀W' cvs s',Le W W'→Inv X W' σ s'→ZF W' cvs xs→Q cvs s'):wpAny (model pp X.w) A (unpackItems v xs.length none) Q E s:=by
 obtain⟨Ty,id,ht,hl⟩:∃Ty id,s.TypeIs v Ty∧typeLookup (.type Ty) "__iter__"=pure (some (.builtin id)):=by
  obtain⟨a,rfl,vs,hr,hl⟩:=I.its hv hx
  exact hl.elim (λhl=>⟨"list",_,hl.isList.typeIs,F.slot_list_iter.lookup⟩) λhl=>⟨"tuple",_,hl.1.QI.typeIs,F.slot_tuple_iter.lookup⟩
 obtain⟨g,X4,hst⟩:∃g,SrcR σ 0 [x] (xs.map λx=>[x]) g∧Jy g σ:=by
  cases hx with
  |tup=>exact⟨none,.tup xs,λZ h=>nomatch h⟩
  |lst hl=>
   cases hl with
   |lst=>exact⟨none,.lst xs,λZ h=>nomatch h⟩
   |ref e=>exact⟨_,.ref e,λp h=>by rw[←Z8q h];exact e⟩
 unfold unpackItems
 refine Z8z ?_
 unfold notIterableAtAll
 refine Z8z (wpAny_specialOf ht hl (Z80 ?_))
 simp only[Bool.false_eq_true,if_false]
 refine Z8z (wpAny_holding (Z5g (tg:=.Name "x" default) rfl X4 I hv λit s2 hm=>?_))
 obtain⟨J,W2,S,l2,I2,hat,hJ⟩:=hm
 refine Z8z (wpAny_holding (Zv9 S hst xs.length 0 W2 s2 _ (Nat.zero_add _) hat I2 λW3 cvs s3 l3 I3 Vl hr=>?_))
 rw[List.drop_zero]at hr
 rw[if_neg (by rw[F2.length hr];exact Nat.lt_irrefl _)]
 refine Z8z (wpAny_holding (S.stop hh (by rw[Z8i];exact Vl) I3 hst λW4 s4 l4 I4=>?_))
 simp only[Option.isSome_none,Bool.false_eq_true,if_false]
 exact Z80 (hq W4 cvs s4 ((((Le.X l2).trans l3).trans l4).le hJ) I4 (hr.ZM l4 (ZG.QY (S.pin Vl))))
theorem Zxc{ν:Fm}{x y:String}{v w:ZA}(h:x≠y):upd (upd ν x v) y w=upd (upd ν y w) x v:=by
 funext z
 by_cases h1:z=y
 ·rw[h1,Zg,Zfl h.symm,Zg]
 ·rw[Zfl h1]
  by_cases h2:z=x
  ·rw[h2,Zg,Zg]
  ·rw[Zfl h2,Zfl h2,Zfl h1]
theorem Zj7:∀{xs:List String}{vs:List ZA}{ν:Fm}{x:String}{v:ZA},x∉xs→Zv xs vs (upd ν x v)=(Zv xs vs ν).map λμ=>upd μ x v
 | [],[],_,_,_,_=>rfl
 | [],_::_,_,_,_,_=>rfl
 |_::_,[],_,_,_,_=>rfl
 |y::ys,w::ws,ν,x,v,h=>by
  show Zv ys ws (upd (upd ν x v) y w)=_
  rw[Zxc (x:=x) (y:=y) λq=>h (q▸Z8g),Zj7 λq=>h (Z8h _ q)];rfl
theorem Zid:∀{xs:List String}{vs:List ZA}{ν:Fm}{x:String}{v:ZA},xs.length=vs.length→Zv (xs++[x]) (vs++[v]) ν=(Zv xs vs ν).map λμ=>upd μ x v
 | [],[],_,_,_,_=>rfl
 |y::ys,w::ws,ν,x,v,h=>Zid (xs:=ys) (Nat.succ.inj h)
 | [],_::_,_,_,_,h=>nomatch h
 |_::_,[],_,_,_,h=>nomatch h
theorem Zj8:∀{xs:List String}{vs:List ZA}{ν:Fm},xs.Nodup→xs.length=vs.length→Zv xs.reverse vs.reverse ν=Zv xs vs ν
 | [],[],_,_,_=>rfl
 |x::xs,v::vs,ν,h,hl=>by
  rw[List.reverse_cons,List.reverse_cons,Zid (by rw[List.length_reverse,List.length_reverse];exact Nat.succ.inj hl),Zj8 (Z88.mp h).2 (Nat.succ.inj hl)]
  exact(Zj7 (Z88.mp h).1).symm
 | [],_::_,_,_,h=>nomatch h
 |_::_,[],_,_,h=>nomatch h
theorem Zwj{xs₀:List String}{FR:Wd→Fm→Prop}{J:List Addr}(R:U3 X env A σ xs₀ FR J):∀{xs:List String}{vs:List ZA}{cvs:List Value}{W:Wd}{ν ν':Fm}{s:Shared}{QU:Unit→Shared→Prop},(∀x∈xs,x∈xs₀)→Zv xs vs ν=some ν'→ZF W cvs vs→FR W ν→Inv X W σ s→
   (∀W' s',LeX J W W'→Inv X W' σ s'→FR W' ν'→QU () s')→wpAny (model pp X.w) A (assignInOrder ((xs.map Str.ofString).map λn=>bindName env n) cvs) QU E s
 | [],[],cvs,W,ν,ν',s,QU,_,hb,hv,hF,I,h=>by
  rw[F2.QL hv]
  exact Z80 (h W s (LeX.refl _ _) I (Z8q hb▸hF))
 |x::xs,v::vs,cvs,W,ν,ν',s,QU,hx,hb,hv,hF,I,h=>by
  obtain⟨c,cs,rfl,h1,h2⟩:=F2.cons_right hv
  rw[Z8o,Z8o,assignInOrder]
  exact Z8z (wpAny_holding (wpAny_bindName (R.st hF I h1 (hx x Z8g) λW1 s1 l1 I1 F1=>
   Zwj R (λy hy=>hx y (Z8h _ hy)) hb (ZF.ZM h2 l1 (R.pin hF)) F1 I1 λW2 s2 l2 I2 F2=>h W2 s2 (l1.trans l2) I2 F2)))
 | [],_::_,_,_,_,_,_,_,_,hb,_,_,_,_=>nomatch hb
 |_::_,[],_,_,_,_,_,_,_,hb,_,_,_,_=>nomatch hb
theorem Zdd{α β:Type}{f:α→Option β}{g:α→β}:∀(l:List α),(∀x∈l,∀y,f x=some y→y=g x)→(l.filterMap f).length=l.length→l.filterMap f=l.map g
 | [],_,_=>rfl
 |x::l,h,hl=>by
  rw[List.filterMap_cons]at hl ⊢
  cases e:f x with
  |none=>
   rw[e]at hl
   exact absurd (hl▸List.length_filterMap_le f l) (Nat.not_succ_le_self _)
  |some y=>
   rw[e]at hl
   rw[h x Z8g y e,Z8o,←Zdd l (λz hz=>h z (Z8h _ hz)) (Nat.succ.inj hl)]
theorem Zkd{xs:List String}{es:List Expr}{kk:Nat}{tp:Pos}{v:Expr}(hf:Zpe xs es=true)(hsw:Dn v=true):
  swappedStores [.Tuple es kk tp] v env=pure none∨swappedStores [.Tuple es kk tp] v env=pure (some (xs.map Str.ofString)):=by
 cases v with
 |Tuple vs k2 p2=>
  have hca:vs.all (constantsAlone 8)=false:=by
   obtain⟨e,he,h⟩:=List.any_eq_true.mp (show vs.any (λe=>!constantsAlone 8 e)=true from hsw)
   exact List.all_eq_false.mpr ⟨e,he,by rw[(Bool.not_eq_true' _).mp h];exact Z86⟩
  obtain⟨ps,h1,h2⟩:=Zbd hf
  unfold swappedStores
  dsimp only
  refine V7 (λZ=>.inl rfl) λZ=>V7 (λZ=>.inl rfl) λZ=>V7 (λZ=>.inl rfl) λUn=>V7 (λZ=>.inl rfl) λZ=>V7 (λh=>absurd h (by rw[hca];exact Z86)) λZ=>.inr ?_
  have hl:(es.filterMap λ(e:Expr)=>match e with | .Name id pos=>if(env.kindOf id==some .local&&pos.line==(Option.map (λ(x:Expr)=>x.pos.line) es.head?).getD 0)=true then some id else none | _=>none).length=es.length:=by
   simp only[Bool.or_eq_true,bne_iff_ne,ne_eq,not_or,Decidable.not_not]at Un
   exact Un.1
  have hm:=Zdd (g:=λe:Expr=>match e with | .Name id _=>id | _=>default) es (λe he y hy=>by
   rw[h2]at he
   obtain⟨p,Z,rfl⟩:=Z8l.mp he
   dsimp only at hy ⊢
   split at hy
   ·exact(Z8q hy).symm
   ·exact nomatch hy) hl
  have he:es.map (λe:Expr=>match e with | .Name id _=>id | _=>default)=xs.map Str.ofString:=by
   rw[h2,List.map_map]
   have:((λe:Expr=>match e with | .Name id _=>id | _=>default) ∘ λp:String×Pos=>Expr.Name (Str.ofString p.1) p.2)=Str.ofString ∘ Prod.fst:=rfl
   rw[this,←List.map_map,List.map_fst_zip (Z8c h1.symm)]
  rw[he]at hm
  show pure (some _)=_
  rw[←hm]
  rfl
 |_=>exact .inl rfl
end
section
variable{j:Nat}{ν ν' ν'':Fm}{σ σ1 σ2 σ3 σ4:St}{x y z w v:ZA}{a b c e t o i l h s:PE}{es src ifs:List PE}{us vs ws xs ys:List ZA}{n m f q:String}{r:ZA}{id:Nat}{fl:Flw}{bl ol:List PS}
theorem Zmk{names:List String}(h:EvE j e ν σ x σ1)(hi:Its σ1 x vs)(hb:Zv names vs ν=some ν'):ExS j (.unp names e) ν σ .next ν' σ1:=.mk λ{X st env own W A s E Q} YN c hq=>Yh YN λts u sp h2=>by
 have h3:=(ZC h2).1
 have h4:=(ZC h2).2
 have hok:=(ZC h4).1
 have h5:=(ZC h4).2
 have hnd:=(ZC h5).1
 have h6:=(ZC h5).2
 have he:=(ZC h6).1
 have h7:=(ZC h6).2
 refine Qf (Q:=λts=>wpAny _ _ (exec (.Assign ts u sp) env) Q E s) h3 λtg h3=>Jd h3 λes kk tp hfx=>?_
 have Vk:∀x∈names,Zgu env.scope (Str.ofString x)=true:=λx hx=>Yq hok hx
 have hxl:=Za7 hb
 have hns:swapsWithSole [.Tuple es kk tp] u sp.line env=pure false:=by show swapsWith u (some (.Tuple es kk tp)) sp.line env=pure false;exact Yt (ZC h7).1
 have R:=Zng (X:=X) (A:=A) (σ:=σ1) (own:=own) Vk
 rcases Zkd (kk:=kk) (tp:=tp) (env:=env) hfx (ZC h7).2 with hw | hw
 ·refine PyProof.Rows.Assign_Tuple (h.val he c.c λW1 cv s1 l1 I1 hv=>?_) hns hw
  obtain⟨ps,h1,rfl⟩:=Zbd hfx
  have ea:=Jk (env:=env) (names.zip ps)
  rw[arm_assign_Tuple]
  refine Z8z (wpAny_standAt ?_)
  unfold unpack
  rw[ea,List.map_map,Z8i,List.length_zip,h1,Nat.min_self,hxl,show((names.zip ps).map λp=>(false,assign (.Name (Str.ofString p.1) p.2) env)).findIdx? (·.1)=none by simp[List.findIdx?_eq_none_iff]]
  exact Z8z (wpAny_holding (Zl9 c.room.h0 hi I1 hv λW2 cvs s2 l2 I2 hr=>Zwo R (λy hy=>hy) h1 hb hr (c.frm.mono (l1.trans l2)) I2 λW3 s3 l3 I3 F3=>(hq.le ((Le.X (l1.trans l2)).trans l3)).next I3 F3))
 ·refine PyProof.Rows.Assign_Tuple_swapped (names:=names.map Str.ofString) (h.val he c.c λW1 cv s1 l1 I1 hv=>?_) hns hw
  rw[Z8i,hxl]
  refine Zl9 c.room.h0 hi I1 hv λW2 cvs s2 l2 I2 hr=>?_
  rw[←List.map_reverse]
  exact Zwj R (xs:=names.reverse) (vs:=vs.reverse) (λx hx=>List.mem_reverse.mp hx) (by rw[Zj8 (of_decide_eq_true hnd) hxl];exact hb) hr.reverse (c.frm.mono (l1.trans l2)) I2 λW3 s3 l3 I3 F3=>(hq.le ((Le.X (l1.trans l2)).trans l3)).next I3 F3
theorem Zzz{names:List String}{k:Nat}{turns:List (List ZA)}{g:Option (Nat×List ZA)}(hs:JF j ν src σ vs σ1)(ht:SrcR σ1 k vs turns g)(hg:LcR j g names ifs e ν turns [] σ1 ys σ2):ExS j (.UZ n (.comp e names k src ifs)) ν σ .next (upd ν n (.lst ys)) σ2:=.mk λ{X st env own W A s E Q} YN c hq=>Yh YN λts u sp h2=>by
 have h3:=(ZC h2).1
 have h4:=(ZC h2).2
 refine Qf (Q:=λts=>wpAny _ _ (exec (.Assign ts u sp) env) Q E s) h3 λtg h3=>Ym h3 λm p h3=>?_
 have hn:=(ZC h3).1
 have hlc:=(ZC h3).2
 rw[Z84 hn]
 revert hlc
 refine Zgk h4 λelt tg it cs scope pos k1 k2 k3 k4 k5 hlc=>?_
 obtain⟨UN,hl2⟩:=ZC (show(env.scope.names.lookup (Str.ofString n)==some .local&&(p.line==pos.line&&!(scope.names.any λ(m,k)=>m==Str.ofString n&&(k==.local || k==.cell))))=true from hlc)
 have YX:=(ZC hl2).1
 have hnn:=(ZC hl2).2
 have UN:env.kindOf (Str.ofString n)=some .local:=Z84 UN
 have hsw:swapsWith (.ListComp elt [⟨tg,it,cs,0⟩] scope pos) (some (.Name (Str.ofString n) p)) sp.line env=pure true:=by
  have hb:env.blockKind=.function:=by
   unfold Env.blockKind
   split
   ·rfl
   ·exact c.frm.kind
  show(pure _:Sem Bool)=pure true
  rw[hb,UN]
  have hp:(Expr.ListComp elt [⟨tg,it,cs,0⟩] scope pos).pos=pos:=rfl
  simp only[hp,YX,hnn,Z87,Bool.and_true]
 rw[exec_Assign_Name_used _ _ _ _ hsw]
 refine Z8z (wpAny_standAt ?_)
 obtain⟨cl,hcl,ok,hns,h⟩:=Zj2 hs ht hg (pos:=pos) k1 k2 k3 k4 k5 c.c (R:=compPost (model pp X.w) A E (some (assign (.Name (Str.ofString n) p) env)) λZ s'=>Q .next s') (E:=E) λW' s' D C m ce=>by
  show wpAny _ _ (assign (.Name (Str.ofString n) p) env (.ref D)) _ _ _
  obtain⟨vs,nn,hDD,hr⟩:=ce.acc
  obtain⟨oC,hCC,hnC⟩:=ce.ns
  have I2:=ce.inv.Uz hDD ce.oD hr
  have l2:LeX [D] W' (ZN W' D (.imm (Zb5 vs nn) (some (.lst ys)))):=Zz
  have F2:=c.frm.UA (c.frm.mono ce.le) (QE ce.fD) l2 (ZG.one hDD)
  refine Zpl (F2.store I2 (.Gy (Zi ..)) (.inl UN) λW3 s3 l3 I3 F3=>?_)
  have hCo:C∉own:=λq=>(c.frm.pin _ q).elim λo e=>nomatch ce.fC.symm.trans e
  have hC3:W3 C=.imm oC none:=Y4 (Y4 hCC l2 (Z1s ce.CD)) l3 hCo
  refine⟨m,hnC.nsP (I3.imp hC3).1,λh' hsb=>?_⟩
  have l4:LeX [C] W3 (ZN W3 C .free):=Zz
  have F4:=c.frm.UA F3 (QE ce.fC) l4 (ZG.one hC3)
  have Vm:LeX (own++[D,C]) W (ZN W3 C .free):=((Le.X ce.le).trans (l2.mono (QE (List.mem_append_right _ Z8g)))).trans ((l3.mono λa ha=>List.mem_append_left _ ha).trans (l4.mono (QE (List.mem_append_right _ (Z8h _ Z8g)))))
  exact hq _ _ _ (λa ha hf=>Vm a (λq=>(List.mem_append.mp q).elim ha (XY (P:=λa=>W a≠.free→False) (λq=>q ce.fD) (λq=>q ce.fC) a · hf)) hf) (I3.forget (tk:=s3.toks) hC3 ce.oC hsb) ⟨rfl,F4⟩
 show wpAny _ _ (do evalThenUse _ _ _;return _) _ _ _
 refine Z8z ?_
 show wpAny _ _ (do let _ ←comprehension _ _ _ _ _ _ _ _) _ _ _
 exact Z8z (wpAny_mono (wpAny_comprehension_free rfl (λx=>Q1 hns x) hcl ok.kind ok.loc h) (λZ s' q=>Z80 (Z80 q)) λZ Z q=>q)
end
end
section
inductive Km(j:Nat)(t:PE)(b:List PS):Nat→Fm→St→Flw→Fm→St→Prop
 |stop {ν:Fm} {σ σ1:St} (h:EvE j t ν σ (.bool false) σ1):Km j t b 0 ν σ .next ν σ1
 |turn {n:Nat} {ν ν' ν'':Fm} {σ σ1 σ2 σ3:St} {f:Flw} (h:EvE j t ν σ (.bool true) σ1) (hb:ExB j b ν σ1 .next ν' σ2) (hr:Km j t b n ν' σ2 f ν'' σ3):Km j t b (n+1) ν σ f ν'' σ3
 |ret {ν ν':Fm} {σ σ1 σ2:St} {v:ZA} (h:EvE j t ν σ (.bool true) σ1) (hb:ExB j b ν σ1 (.ret v) ν' σ2):Km j t b 0 ν σ (.ret v) ν' σ2
inductive JN(j:Nat)(g:Option (Nat×List ZA))(names:List String)(b:List PS):List (List ZA)→Fm→St→Flw→Fm→St→Prop
 |nil {ν:Fm} {σ:St} (hst:Jy g σ):JN j g names b [] ν σ .next ν σ
 |turn {v:List ZA} {r:List (List ZA)} {ν ν1 ν2 ν3:Fm} {σ σ1 σ2:St} {f:Flw} (hst:Jy g σ) (hb:Zv names v ν=some ν1) (h:ExB j b ν1 σ .next ν2 σ1) (hr:JN j g names b r ν2 σ1 f ν3 σ2):JN j g names b (v::r) ν σ f ν3 σ2
 |ret {v:List ZA} {r:List (List ZA)} {ν ν1 ν2:Fm} {σ σ1:St} {x:ZA} (hst:Jy g σ) (hb:Zv names v ν=some ν1) (h:ExB j b ν1 σ (.ret x) ν2 σ1):JN j g names b (v::r) ν σ (.ret x) ν2 σ1
section
variable{j:Nat}{ν ν' ν'':Fm}{σ σ1 σ2 σ3 σ4:St}{x y z w v:ZA}{a b c e t o i l h s:PE}{es src ifs:List PE}{us vs ws xs ys:List ZA}{n m f q:String}{r:ZA}{id:Nat}{fl:Flw}{bl ol:List PS}
theorem Z05{k:Nat}(h0:Km j t bl k ν σ fl ν' σ1):ExS j (.whl t bl) ν σ fl ν' σ1:=.mk λ{X st env own W A s E Q} YN c hq=>Zoa YN λu bs os p h2=>by
 have hf1:=(ZC h2).1
 have h3:=(ZC h2).2
 rw[Z8 (ZC h3).1]
 refine wpAny_While (codeAny_whileLoop (λn s=>∃ν1 W1 σ0,LeX own W W1∧YM X false j W1 env own ν1 σ0 A s∧Km j t bl n ν1 σ0 fl ν' σ1) ?_ k ⟨ν,W,σ,LeX.refl _ W,c,h0⟩)
 clear h0
 rintro n s1 ⟨ν1,W1,σ0,l1,c1,h1⟩
 cases h1 with
 |stop h=>exact h.te hf1 c1.c λW2 s2 l2 I2=>Z80 ((hq.le (l1.trans (Le.X l2))).next I2 (c1.frm.mono l2))
 |turn h hb hr=>
  refine h.te hf1 c1.c λW2 s2 l2 I2=>hb.run (ZC h3).2 (c1.to l2 I2) λW3 fo s3 l3 I3 hr'=>?_
  obtain⟨rfl,F3⟩:=hr'
  exact⟨_,Z79 _,_,W3,_,(l1.trans (Le.X l2)).trans l3,(c1.to l2 I2).step l3 I3 F3,hr⟩
 |ret h hb=>
  refine h.te hf1 c1.c λW2 s2 l2 I2=>hb.run (ZC h3).2 (c1.to l2 I2) λW3 fo s3 l3 I3 hr'=>?_
  have hr2:=hr'
  obtain⟨cv,rfl,hv⟩:=hr'
  exact hq W3 _ s3 ((l1.trans (Le.X l2)).trans l3) I3 hr2
structure Dk(X:Cx)(W:Wd)(env:Env)(own:List Addr)(j:Nat)(A:Around)(At:Wd→Prop)(ν:Fm)(W1:Wd)(σ1:St)(s1:Shared):Prop where
 le:LeX own W W1
 c:YM X false j W1 env own ν σ1 A s1
 here:At W1
section
variable{X:Cx}{env:Env}{own:List Addr}{W W1:Wd}{A:Around}{s1:Shared}{E:Value→Shared→Prop}{tg:Expr}{g:Option (Nat×List ZA)}{it:Value}{J:List Addr}{turns:List (List ZA)}{names:List String}{k:Nat}{bs:List Stmt}
theorem LeX.drop{Y J:List Addr}{W W':Wd}(h:LeX (Y++J) W W')(hJ:∀a∈J,W a=.free):LeX Y W W':=λa ha hf=>h a (λq=>(List.mem_append.mp q).elim ha λq=>hf (hJ a q)) hf
theorem LeX.over{Y J:List Addr}{W W1 W':Wd}(h:LeX Y W W1)(l:LeX J W1 W')(hJ:∀a∈J,W a=.free):LeX Y W W':=((h.mono λa ha=>List.mem_append_left J ha).trans (l.mono λa ha=>List.mem_append_right Y ha)).drop hJ
theorem Zgg(S:Src X tg g it J turns)(c:YM X false j W env own ν σ A s')(hJ:∀a∈J,W a=.free)(htg:Zix names k tg=true)(hok:∀x∈names,Zgu env.scope (Str.ofString x)=true){i:Nat}{v:List ZA}{ν0 ν1:Fm}
  (I:Dk X W env own j A (S.At i) ν0 W1 σ1 s1) (hv:turns[i]? = some v) (hst:Jy g σ1) (hb:Zv names v ν0=some ν1) {Q':Flow→Shared→Prop} {F:Option Value→Shared→Prop}
  (hF:∀u s2,wpAny (model pp X.w) A (letOwnedTupleGo tg it u) (λZ s2=>wpAny (model pp X.w) A (assign tg env u) (λZ s3=>wpAny (model pp X.w) A (execs bs env) Q' E s3) E s2) E s2→F (some u) s2)
  (h:∀W3 s3,LeX own W W3→S.At (i+1) W3→YM X false j W3 env own ν1 σ1 A s3→(∀W4,LeX own W3 W4→S.At (i+1) W4)→wpAny (model pp X.w) A (execs bs env) Q' E s3):wpAny (model pp X.w) A (pyNext it) F E s1:=by
 refine wpAny_mono (S.item (Q:=λu s2=>wpAny (model pp X.w) A (assign tg env u) (λZ s3=>wpAny (model pp X.w) A (execs bs env) Q' E s3) E s2) hv I.here I.c.inv hst λW2 u s2 l2 I2 VB hu=>?_) (λr s4 h4=>?_) λZ Z x=>x
 rotate_left
 ·cases r with
  |none=>exact h4.elim
  |some u=>exact hF u s4 h4
 have F2:=c.frm.UA I.c.frm hJ l2 (ZG.QY (S.pin I.here))
 have hJo:∀a∈J,a∉own:=λa ha q=>(c.frm.pin a q).elim λo e=>nomatch (hJ a ha).symm.trans e
 refine Z6c (Zng hok) c.room.h0 htg hu hb F2 I2 λW3 s3 l3 I3 F3=>?_
 have Vl:=S.mono VB l3 F2.toFrm.XD hJo
 exact h W3 s3 ((I.le.over l2 hJ).trans l3) Vl (c.step ((I.le.over l2 hJ).trans l3) I3 F3) λW4 l4=>S.mono Vl l4 F3.toFrm.XD hJo
end
theorem Zkt{names:List String}{k:Nat}{turns:List (List ZA)}{g:Option (Nat×List ZA)}(hs:JF j ν src σ vs σ1)(ht:SrcR σ1 k vs turns g)(hg:JN j g names bl turns ν σ1 fl ν' σ2):ExS j (.for names k src bl) ν σ fl ν' σ2:=.mk λ{X st env own W A s E Q} YN c hq=>Zka YN λtg it bs os p h2=>by
 have htg:=(ZC h2).1
 have h3:=(ZC h2).2
 have hok:=(ZC h3).1
 have h4:=(ZC h3).2
 have X4:=(ZC h4).1
 have h5:=(ZC h4).2
 have hos:=(ZC h5).1
 have hfb:=(ZC h5).2
 rw[Z8 hos]
 have Vk:∀x∈names,Zgu env.scope (Str.ofString x)=true:=λx hx=>Yq hok hx
 refine wpAny_For (Zo5 hs ht X4 htg c.c λW1 itv s2 l1 m=>?_) (λx=>Q1 (ZC X4).1 x)
 obtain⟨J,W2,S,l2,I2,hat,hJ⟩:=m
 have hJW:∀a∈J,W a=.free:=λa ha=>Le.back l1 (hJ a ha)
 refine codeAny_forLoop_any (λn s=>∃i ν3 W3 σ3,turns.drop i=turns.drop i∧n=turns.length-i∧i≤turns.length∧Dk X W env own j A (S.At i) ν3 W3 σ3 s∧JN j g names bl (turns.drop i) ν3 σ3 fl ν' σ2) ?_ _ ⟨0,ν,W2,σ1,rfl,rfl,Z8d _,⟨Le.X (l1.trans l2),c.to (l1.trans l2) I2,hat⟩,by rw[List.drop_zero];exact hg⟩
 clear hat I2 l2 s2 hg
 rintro n s3 ⟨i,ν3,W3,σ3,Z,rfl,hi,FI,hgo⟩
 have N3:=ZG.QY (S.pin FI.here)
 generalize hd:turns.drop i=rest at hgo
 cases hgo with
 |nil hst=>
  obtain rfl:=drop_nil hd hi
  exact S.stop c.room.h0 FI.here FI.c.inv hst λW4 s4 l4 I4=>Z80 ((hq.le (FI.le.over l4 hJW)).next I4 (c.frm.UA FI.c.frm hJW l4 N3))
 |turn hst hb hx hr=>
  obtain⟨hv,hd'⟩:=J8 hd
  refine Zgg (s':=s) S c hJW htg Vk FI hv hst hb (λZ Z h=>h) λW3 s3 l3 Z c3 hat=>hx.run hfb c3 λW6 fo s6 l6 I6 hfr=>?_
  ·obtain⟨rfl,F6⟩:=hfr
   have hlt:=(Z8w.mp hv).1
   exact⟨turns.length-(i+1),Nat.sub_lt_sub_left hlt (Z79 i),i+1,_,W6,_,rfl,rfl,hlt,⟨l3.trans l6,c3.step l6 I6 F6,hat W6 l6⟩,hd'▸hr⟩
 |ret hst hb hx=>
  obtain⟨hv,hd'⟩:=J8 hd
  refine Zgg (s':=s) S c hJW htg Vk FI hv hst hb (λZ Z h=>h) λW3 s3 l3 Z c3 hat=>hx.run hfb c3 λW6 fo s6 l6 I6 hfr=>?_
  ·have hr2:=hfr
   obtain⟨cv,rfl,hcv⟩:=hfr
   exact hq W6 _ s6 (l3.trans l6) I6 hr2
end
end
end PL
end
section
open PySem PySem.SeqAt PySem.W
open scoped Classical
namespace PL
section
structure Zih(X:Cx)(env:Env)(f:Addr)(fd:FuncData)(dn:String):Prop where
 sup:Vo X.K fd dn
 has:∃e∈Zbv,e.1=dn
 obj:∃oc od osl,X.K.lookup f=some ⟨oc,od,.func fd,osl⟩
 fn:env.func=some f
 code:env.code=fd.code
 cells:env.cells=fd.closure
 scope:env.scope=fd.scope
structure Dc(md:Bool)(j:Nat)(ν:Fm)(σ:St)(q m:String)(es:List PE)(r:ZA)(σ':St)(id:Nat)(c:String)(k:Nat)(mm:Fm)(vs:List ZA)(σ1:St):Prop where
 self:ν "self"=some (.ref id)
 inst:σ.f id=some (.inst c k mm)
 tab:Zmd.contains (c,q,m)=true
 args:YK md j ν es σ vs σ1
 call:QA md j q (.ref id::vs) σ1 r σ'
noncomputable abbrev GZ:=Dc false
structure VJ(md:Bool)(dn:String)(j:Nat)(ν:Fm)(σ:St)(q m:String)(es:List PE)(r:ZA)(σ':St):Prop where
 run:∀{X:Cx}{x:Expr}{env:Env}{own:List Addr}{W:Wd}{A:Around}{s:Shared}{E:Value→Shared→Prop}{Q:Value→Shared→Prop}{f0:Addr}{fd:FuncData}{body:List Stmt},
  Zih X env f0 fd dn→PE.sup q m es env.scope x=true→Cfg X md j W env own ν σ A s→Pst X W σ' r Q→wpAt (model pp X.w) A (.func body env) (eval x env) Q E s
section
variable{X:Cx}{md:Bool}{j:Nat}{ν ν' ν'':Fm}{σ σ' σ1 σ2:St}{q m n:String}{es:List PE}{r:ZA}{id:Nat}{c:String}{k:Nat}{mm:Fm}{vs:List ZA}{env:Env}{own:List Addr}{W:Wd}{A:Around}{s:Shared}{E:Value→Shared→Prop}{f0:Addr}{fd:FuncData}{dn:String}{body:List Stmt}
theorem Zo1:(pp.main.scope.names.lookup ("super":Str)).isSome=false:=by kernel_rfl
theorem Zlv:BN "super" (.type "super"):=⟨rfl,by kernel_rfl,by kernel_rfl,.inr ⟨_,rfl⟩⟩
theorem Zwg{M:Model}{Q:Value→Shared→Prop}{f:Value}{P:Heap→Prop}(hk:∀h,P h→∃k,(k=Keeper.frame∨k=Keeper.machine∨k=Keeper.boundFrame)∧Looks M h (keeperOf f) k){first:List Value}{args:List Expr}{pos Kl:Pos}(hn:∀x∈args,J1 x=true)
  (h:wpAny M A (spliced (backTo Kl (starEach args env))) (λvs s₁=>P s₁.heap∧wpAny M A (call f (first++vs)) Q E s₁) E s):wpAny M A (callWith pos f first (backTo Kl (starEach args env)) []) Q E s:=
 callWith_of (P:=P) (by rw[show(backTo Kl (starEach args env)).any (·.1)=false from Zai hn];rfl) hk (Zbe hn h)
theorem Zn6{M:Model}{Q:Value→Shared→Prop}{cd:Code}{o:Expr}{name:Str}{apos pos:Pos}{args:List Expr}(hn:∀x∈args,J1 x=true)(hlen:args.length<29)(YX:(apos.endLine==pos.line)=true)
  (h:wpAt M A cd (attributeBase o name env (eval o env)) (λov s₁=>wpAny M A (getMethod ov name (do return(←importBound o env).getD true)) (λr s₂=>wpAny M A (callWith pos r.1 r.2 (backTo pos (starEach args env)) []) Q E s₂) E s₁) E s):
  wpAt M A cd (eval (.Call (.Attribute o name apos) args [] pos) env) Q E s:=by
 rw[arm_eval_Call]
 exact wpAt_bind (wpAt_mono h (λov s₁ h₁=>wpAt_of_wpAny (Z8z (wpAny_standAt (Zjj hn hlen YX h₁)))) λZ Z e=>e)
@[elab_as_elim]theorem Zti{sc:Scope}{x:Expr}{P:Expr→Prop}(h:PE.sup q m es sc x=true)(f:∀p0 p1 xs ap p,(Str.ofString m==("__class__":Str))=false→(ap.endLine==p.line)=true→Q9 sc es xs=true→xs.length<29→sc.names.lookup ("super":Str)=some .globalImplicit→sc.names.lookup ("__class__":Str)=some .free→P (.Call (.Attribute (.Call (.Name ("super":Str) p0) [] [] p1) (Str.ofString m) ap) xs [] p)):P x:=Zc3 h λg xs kw p h=>by
 have h1:=(ZC h).1
 have h2:=(ZC h).2
 have h3:=(ZC h2).1
 have h4:=(ZC h2).2
 have h5:=(ZC h4).1
 have h6:=(ZC h4).2
 have h7:=(ZC h6).1
 have h8:=(ZC h6).2
 have h9:=(ZC h8).1
 have h10:=(ZC h8).2
 rw[Z8 h3]
 refine Z9 h1 λv n ap h1=>?_
 have k1:=(ZC h1).1
 have k2:=(ZC h1).2
 have k3:=(ZC k2).1
 have k4:=(ZC k2).2
 have k5:=(ZC k4).1
 have k6:=(ZC k4).2
 rw[Z84 k1]at k3 ⊢
 refine Zc3 k6 λu ys kw' p1 k6=>?_
 have k7:=(ZC k6).1
 have k8:=(ZC k6).2
 rw[Z8 (ZC k8).1,Z8 (ZC k8).2]
 refine Ym k7 λw p0 k7=>?_
 rw[Z84 k7]
 exact f p0 p1 xs ap p ((Bool.not_eq_true' _).mp k3) k5 h5 (by rw[←Zca h5];exact Z73 (Z78 h7) (by decide)) (Zj (Q:=λo=>o=some .globalImplicit) h9 (λq=>no q) λk hk=>Z81 some (Z84 hk)) (Zj (Q:=λo=>o=some .free) h10 (λq=>no q) λk hk=>Z81 some (Z84 hk))
theorem Zga{a C:Addr}{ob:Obj}{Q:Value→Shared→Prop}(SUP:Zih X env f0 fd dn){x:Expr}(hf:PE.sup q m es env.scope x=true)(cf:Cfg X md j W env own ν σ A s)(QQ:∀{cv:Value},ZE W cv (.ref id)→cv=.ref a)(hν:ν "self"=some (.ref id))
  (ho:s.heap.get? a=some ob) (RR:ob.cls=.ref C) (hno:∀c,ob.data≠.cls c) (UL:mroIn X.K C (.ref (Qn dn).2)=some true)
  (h:∀(pl:Sem Bool) xs p W1 h' so,(Str.ofString m==("__class__":Str))=false→Q9 env.scope es xs=true→Le W W1→Inv X W1 σ { s with heap:=h' }→h'.get? so=some { cls:=.type "super",dict:=none,data:=.fields #[.ref (Qn dn).2,.ref a,.ref C],slots:=#[] }→h'.get? a=some ob→ZE W1 (.ref a) (.ref id)→
   wpAny (model pp X.w) A (getMethod (.ref so) (Str.ofString m) pl) (λr s2=>wpAny (model pp X.w) A (callWith p r.1 r.2 (backTo p (starEach xs env)) []) Q E s2) E { s with heap:=h' }):
  wpAt (model pp X.w) A (.func body env) (eval x env) Q E s:=by
 refine Zti hf λp0 p1 xs ap p hcl YX hfa hlen hks hkc=>?_
 have F:=cf.frm
 have I:=cf.inv
 have KX:=I.kin
 obtain⟨oc,od,osl,hlf⟩:=SUP.obj
 obtain⟨ar,hhd,har⟩:=SUP.sup.par
 obtain⟨cda,ccl,cdd,cvs,ccs,file,tf,DS,RU,Ry,DN⟩:=SUP.sup.code
 obtain⟨cl,cld,csl,V2⟩:=X.ok.cell SUP.has
 obtain⟨cdD,hD⟩:=X.ok.top SUP.has
 have hcc:env.cells.lookup ("__class__":Str)=some (Qn dn).1:=by rw[SUP.cells,SUP.sup.clo];rfl
 have hsl:env.kindOf (Str.ofString "self")=some .local:=by show env.scope.names.lookup _=_;rw[SUP.scope];exact SUP.sup.self
 obtain⟨L,mL,hL,hnL,JP⟩:=F.loc
 obtain⟨V4,GH,JA⟩:=JP "self" _ hsl hν
 obtain rfl:=QQ JA
 refine Zn6 (Zo hfa) hlen YX ?_
 obtain⟨oD,hD1,hD2⟩:∃oD,s.heap.get? (Qn dn).2=some oD∧oD.data=.cls cdD:=by
  unfold clsIn at hD
  split at hD
  ·rename_i c d cd' sl ho
   exact⟨_,KX _ _ ho,Z81 Data.cls (Z8q hD)⟩
  ·exact nomatch hD
 refine ks_wpAt_super_base (env:=env) hks hkc hcl SUP.fn (KX _ _ hlf) rfl hhd (SUP.code.trans DS) (KX _ _ RU) rfl Ry DN Zo1 ?_
 have hb:=X.ok.bl Zlv.has Zlv.is λq=>nomatch Zlv.ne.symm.trans (beq_iff_eq.mpr q)
 refine ks_loadName_global F.kind hks (Calls.loadGlobal_builtin (by rw[F.glob];exact I.ns X.ok.gns) hb.1 (by rw[F.blt];exact I.ns X.ok.bns) hb.2 ⟨rfl,?_⟩)
 refine wpAny_loadName_free F.kind hkc hcc ⟨_,KX _ _ V2,rfl⟩ ?_
 rw[har]
 refine wpAny_loadName_local F.kind hsl (hnL.1.nsP (I.imp hL).1) GH ?_
 clear cf
 obtain⟨hh,g,dr,tk,os⟩:=s
 refine ks_wpAny_isType_cls hD1 hD2 ⟨rfl,?_⟩
 refine ks_wpAny_call_super hD1 hD2 ho RR hno (looks_mroIn KX UL) (λh' e kp=>?_)
 obtain⟨I1,l1⟩:=I.adopt (tk:=tk) kp (Z5 _) e (v:=none) trivial
 exact h _ xs p _ h' _ hcl hfa l1 I1 e (kp _ _ ho) (JA.mono l1)
theorem Zkf{a C so f2 D:Addr}{ob:Obj}{hod:Option Obj}{Q:Value→Shared→Prop}{xs:List Expr}{p:Pos}{pl:Sem Bool}(hm:(Str.ofString m==("__class__":Str))=false)(hfa:Q9 env.scope es xs=true)(hes:YK md j ν es σ vs σ1)(cf:Cfg X md j W env own ν σ A s)
  (so':s.heap.get? so=some { cls:=.type "super",dict:=none,data:=.fields #[.ref D,.ref a,.ref C],slots:=#[] }) (IA:InstAt s.heap a ob C hod) (hva:ZE W (.ref a) (.ref id)) (sf:Vp X.K D m C f2)
  (DT:∀W2 cvs s2,Le W W2→Inv X W2 σ1 s2→ZF W2 cvs (.ref id::vs)→codeAny (model pp X.w) A (.call (.ref f2) ⟨cvs,[]⟩) (λr s'=>match r with | .ok (.ret v)=>Q v s' | .ok _=>False | .error e=>E e s') s2):
  wpAny (model pp X.w) A (getMethod (.ref so) (Str.ofString m) pl) (λr s2=>wpAny (model pp X.w) A (callWith p r.1 r.2 (backTo p (starEach xs env)) []) Q E s2) E s:=by
 have I1:=cf.inv
 have KX1:=I1.kin
 obtain⟨of,hof,RG⟩:∃of,s.heap.get? f2=some of∧of.cls=.type "function":=
  (Z8r.mp (show(X.K.lookup f2).map (·.cls)=some (.type "function")from sf.ty)).elim λof h=>⟨of,KX1 _ _ h.1,h.2⟩
 have Uj:=sf.find
 unfold ks_superIn at Uj
 cases hc:clsIn X.K C with
 |none=>rw[hc]at Uj;exact nomatch Uj
 |some cd=>
 rw[hc]at Uj
 obtain⟨hh,g,dr,tk,os⟩:=s
 refine ks_wpAny_getMethod_super (h:=hh) so' (looks_opaque KX1 X.ok.opq) (l₀:=cd.mro) (λA Q E s kp' qq=>Z8z ((looks_clsIn KX1 hc) A _ E s kp' (Z80 qq))) rfl KX1 Uj hof RG (ks_ne KX1 IA hc) hm ?_
 obtain⟨I2,l2⟩:=I1.alloc (o:=methodObj (.ref f2) (.ref a)) (v:=none) (tk+1) rfl trivial
 refine Zwg (P:=MethP X.K hh.objs.size f2 (.ref a)) (keeps_M sf.fn) (Zo hfa) (Jm hes hfa (cf.to l2 I2) λW3 cvs s3 l3 I3 hv3=>⟨⟨(I3.imm (Qg (Zi ..) l3) (Q2 λZ Z h=>nomatch h)).1,I3.kin⟩,?_⟩)
 exact wpAny_call (method_call (I3.imm (Qg (Zi ..) l3) (Q2 λZ Z h=>nomatch h)).1 (DT W3 _ s3 (l2.trans l3) I3 ⟨hva.mono (l2.trans l3),hv3⟩))
theorem Dc.jud(S:Dc md j ν σ q m es r σ' id c k mm vs σ1):VJ md "Written" j ν σ q m es r σ':=.mk λ{X x env own W A s E Q f0 fd body} SUP hf C hq=>by
 obtain⟨Cc,f2,hPc,hPf,sf⟩:=X.ok.sup S.tab
 have hcl:=Zdp hPc
 obtain⟨L,mL,hL,hnL,JP⟩:=C.frm.loc
 obtain⟨V4,Z,JA⟩:=JP "self" _ (by show env.scope.names.lookup _=_;rw[SUP.scope];exact SUP.sup.self) S.self
 obtain⟨a,rfl,d,R⟩:=C.inv.inst JA S.inst
 obtain⟨hod,Wa,Z⟩:=R.dic.sz
 refine Zga SUP hf C (λ{cv} hcv=>hcv.elim λb hb=>hb.1.trans (Z81 _ (C.inv.uniq hb.2 R.adr))) S.self R.obj rfl (λc e=>nomatch e) (by rw[hcl];exact sf.mro) λpl xs p W1 h' so hm hfa l1 I1 so' ho' hva=>?_
 refine Zkf (hod:=some ((h'.get? d).getD default)) hm hfa S.args (C.to l1 I1) so' ⟨ho',rfl,rfl,?_⟩ hva (hcl.symm▸sf) λW2 cvs s2 l2 I2 hv2=>?_
 ·obtain⟨o,ho⟩:=I1.has d (by rw[l1 d List.not_mem_nil (Znz R.dad),R.dad];exact λh=>nomatch h)
  rw[ho];exact ho
 ·exact S.call.run hPf (((C.room.le l1).le l2).mono (Nat.le_succ _)) I2 hv2 λW' v s' l I' hv'=>hq W' v s' ((l1.trans l2).trans l) I' hv'
end
end
section
structure BdM(md:Bool)(dn:String)(j:Nat)(ps:List PS)(ν:Fm)(σ:St)(f:Flw)(ν':Fm)(σ':St):Prop where
 run:∀{X:Cx}{ts:List Stmt}{env:Env}{own:List Addr}{W:Wd}{A:Around}{s:Shared}{E:Value→Shared→Prop}{Q:Flow→Shared→Prop}{f0:Addr}{fd:FuncData}{body:List Stmt},
 Zih X env f0 fd dn→JJ env.scope ps ts=true→YM X md j W env own ν σ A s→PsF X W env own f ν' σ' Q→PySem.wpAt (model pp X.w) A (.func body env) (execs ts env) Q E s
noncomputable abbrev BdB:=BdM false "Written"
section
variable{md:Bool}{dn:String}{j:Nat}{ν ν' ν'':Fm}{σ σ' σ1 σ2 σ3:St}{q m n:String}{es:List PE}{r:ZA}{id:Nat}{c:String}{k:Nat}{mm:Fm}{vs:List ZA}{fl:Flw}{p:PS}{ps:List PS}
theorem BkM.bd(h:BkM md j ps ν σ fl ν' σ'):BdM md dn j ps ν σ fl ν' σ':=.mk λ{X ts env own W A s E Q f0 fd body} SUP hf c hq=>wpAt_of_wpAny (h.run hf c hq)
theorem Z2z(h1:StM md j p ν σ .next ν' σ1)(h2:BdM md dn j ps ν' σ1 fl ν'' σ2):BdM md dn j (p::ps) ν σ fl ν'' σ2:=.mk λ{X ts env own W A s E Q f0 fd body} SUP hf c hq=>Z2 (Q:=λts=>PySem.wpAt _ _ (.func body env) (execs ts env) Q E s) hf λx r hf=>by
 refine ks_wpAt_execs_cons (wpAt_of_wpAny (h1.run (ZC hf).1 c λW1 fo s1 l1 I1 hr=>?_))
 obtain⟨rfl,F1⟩:=hr
 exact h2.run SUP (ZC hf).2 (c.step l1 I1 F1) (hq.le l1)
theorem Zth{sc:Scope}{x:Expr}(h:PE.sup q m es sc x=true){t:Option Expr}{l:Nat}{env:Env}:swapsWith x t l env=pure false:=Zti h λZ Z Z Z Z Z Z Z Z Z Z=>rfl
theorem Zwm(S:VJ md dn j ν σ q m es r σ')(h2:BdM md dn j ps ν σ' fl ν'' σ2):BdM md dn j (.exp (.sup q m es)::ps) ν σ fl ν'' σ2:=.mk λ{X ts env own W A s E Q f0 fd body} SUP hf C hq=>Z2 (Q:=λts=>PySem.wpAt _ _ (.func body env) (execs ts env) Q E s) hf λx rs hf=>by
 refine ks_wpAt_execs_cons ?_
 refine Zds (ZC hf).1 λu p h3=>?_
 refine ks_wpAt_Expr_any (S.run SUP (ZC h3).1 C.c λW1 cv s1 l1 I1 hv=>h2.run SUP (ZC hf).2 (C.to l1 I1) (hq.le (Le.X l1))) ?_ (Zth (ZC h3).1)
 unfold interactive
 rw[C.frm.kind];rfl
theorem Z57(S:VJ md dn j ν σ q m es r σ')(h2:BdM md dn j ps (upd ν n r) σ' fl ν'' σ2):BdM md dn j (.asg n (.sup q m es)::ps) ν σ fl ν'' σ2:=.mk λ{X ts env own W A s E Q f0 fd body} SUP hf C hq=>Z2 (Q:=λts=>PySem.wpAt _ _ (.func body env) (execs ts env) Q E s) hf λx rs hf=>by
 refine ks_wpAt_execs_cons ?_
 refine Yh (ZC hf).1 λts u sp h2'=>?_
 have h3:=(ZC h2').1
 have h4:=(ZC h2').2
 refine Qf (Q:=λts=>PySem.wpAt _ _ (.func body env) (exec (.Assign ts u sp) env) _ E s) h3 λtg h3=>Ym h3 λm p h3=>?_
 have hn:=(ZC h3).1
 have hs:=(ZC h3).2
 rw[Z84 hn]at hs ⊢
 exact ks_wpAt_Assign_Name (S.run SUP (ZC h4).2 C.c λW1 cv s1 l1 I1 hv=>(C.frm.mono l1).store I1 hv (Jw hs) λW2 s2 l2 I2 F2=>h2.run SUP (ZC hf).2 (C.step ((Le.X l1).trans l2) I2 F2) (hq.le ((Le.X l1).trans l2))) (Yt (ZC h4).1)
theorem Z56(S:VJ md dn j ν σ q m es r σ'):BdM md dn j (.ret (.sup q m es)::ps) ν σ (.ret r) ν σ':=.mk λ{X ts env own W A s E Q f0 fd body} SUP hf C hq=>Z2 (Q:=λts=>PySem.wpAt _ _ (.func body env) (execs ts env) Q E s) hf λx rs hf=>by
 refine ks_wpAt_execs_cons ?_
 refine Ju (ZC hf).1 λoe p h2=>?_
 exact Zj (Q:=λoe=>PySem.wpAt _ _ (.func body env) (exec (.Return oe p) env) _ E s) h2 (λq=>no q) λu hu=>ks_wpAt_Return_some (S.run SUP hu C.c λW1 cv s1 l1 I1 hv=>(hq.le (Le.X l1)).ret I1 hv)
end
section
variable{X:Cx}{md:Bool}{j:Nat}{ν ν' ν'':Fm}{σ σ' σ1 σ2:St}{env:Env}{own:List Addr}{W:Wd}{A:Around}{s:Shared}{E:Value→Shared→Prop}{f0:Addr}{fd:FuncData}{body:List Stmt}
theorem Inv.pins:∀(Y:List Addr){W:Wd},Inv X W σ s→(∀a∈Y,W a=.free∧∃o,s.heap.get? a=some o)→∃W',Inv X W' σ s∧Le W W'∧(∀a∈Y,∃o,W' a=.imm o none∧s.heap.get? a=some o)
 | [],W,I,_=>⟨W,I,LeX.refl _ W,λa h=>nomatch h⟩
 |a::Y,W,I,h=>by
  by_cases ha:a∈Y
  ·obtain⟨W',I',l,hY⟩:=Inv.pins Y I λb hb=>h b (Z8h _ hb)
   exact⟨W',I',l,memC (hY a ha) hY⟩
  ·obtain⟨hf,o,ho⟩:=h a Z8g
   have l1:Le W (ZN W a (.imm o none)):=Yr hf
   obtain⟨W',I',l,hY⟩:=Inv.pins Y (I.pin hf ho (v:=none) trivial) λb hb=>⟨(Qa (a:=a) (b:=b) λq:b=a=>ha (q▸hb)).trans (h b (Z8h _ hb)).1,(h b (Z8h _ hb)).2⟩
   exact⟨W',I',l1.trans l,memC ⟨o,Qg (Zi ..) l,ho⟩ hY⟩
theorem Inv.Dt{a:Addr}{Y:List Addr}{o:Obj}{m:Str→Option Value}(I:Inv X W σ s)(hf:W a=.free)(ho:s.heap.get? a=some o)(hn:NsO o m)(hY:∀b∈Y,W b=.free∧∃o,s.heap.get? b=some o)(ha:a∉Y):
  ∃W',Inv X W' σ s∧Le W W'∧W' a=.imm (Xl o) none∧∀b∈Y,∃o,W' b=.imm o none∧s.heap.get? b=some o:=by
 have l1:Le W (ZN W a (.imm (Xl o) none)):=Yr hf
 obtain⟨W',I',l,h⟩:=Inv.pins Y (I.U7 hf (Zm7 hn (I.QN hf) ho) trivial) λb hb=>⟨(Qa λq:b=a=>ha (q▸hb)).trans (hY b hb).1,(hY b hb).2⟩
 exact⟨W',I',l1.trans l,Qg (Zi ..) l,h⟩
theorem Jt:∀(names:List (Str×NameKind)) (n:Nat) (acc:List (Str×Addr)) (x:Str),((acc.lookup x).isSome=true∨names.lookup x=some .cell)→((cellsFrom n names acc).lookup x).isSome=true
 | [],n,acc,x,h=>h.resolve_right λq=>nomatch q
 | (m,kd)::r,n,acc,x,h=>by
  unfold cellsFrom
  by_cases hk:kd=.cell
  ·subst hk
   simp only[Z87,if_true]
   refine Jt r _ _ x ?_
   rw[List.lookup_cons]at h ⊢
   by_cases hx:x=m
   ·rw[hx,Z87];exact .inl rfl
   ·rw[Z85.mpr hx]at h ⊢;exact h
  ·simp only[show(kd==NameKind.cell)=false from Z85.mpr hk,Bool.false_eq_true,if_false]
   refine Jt r _ _ x (h.imp id λh=>?_)
   rw[List.lookup_cons]at h
   split at h
   ·exact absurd (Z8q h) hk
   ·exact h
def JW(W:Wd)(P:String→Prop)(ν:Fm)(mL:Str→Option Value):Prop:=∀x v,P x→ν x=some v→∃cv,mL (Str.ofString x)=some cv∧ZE W cv v
theorem JW.upd{P:String→Prop}{mL:Str→Option Value}{p:String}{v:ZA}{c:Value}(h:JW W P ν mL)(hc:ZE W c v):JW W P (upd ν p v) (λy=>if y=Str.ofString p then some c else mL y):=λx u hP hu=>
 (Zae hu).elim (λq=>⟨c,if_pos (Z81 _ q.1),q.2▸hc⟩) λq=>(h x u hP q.2).elim λcv e=>⟨cv,(if_neg λz=>q.1 (Yo z)).trans e.1,e.2⟩
theorem JW.skip{P:String→Prop}{mL:Str→Option Value}{p:String}{v:ZA}(h:JW W P ν mL)(hp:¬P p):JW W P (PL.upd ν p v) mL:=λx u hP hu=>
 (Zae hu).elim (λq=>absurd (q.1▸hP) hp) λq=>h x u hP q.2
theorem Zic{kd:Str→Option NameKind}:∀{ps:List String}{vs:List ZA}{cvs:List Value}{ν ν':Fm}{mL mC:Str→Option Value},Zv ps vs ν=some ν'→ZF W cvs vs→JW W (λx=>kd (Str.ofString x)=some .local) ν mL→JW W (λx=>kd (Str.ofString x)≠some .local) ν mC→
  JW W (λx=>kd (Str.ofString x)=some .local) ν' (bindL kd ((ps.map Str.ofString).zip cvs) mL)∧JW W (λx=>kd (Str.ofString x)≠some .local) ν' (bindC kd ((ps.map Str.ofString).zip cvs) mC)
 | [],[],cvs,ν,ν',mL,mC,hb,hv,h1,h2=>by rw[F2.QL hv,←Z8q hb];exact⟨h1,h2⟩
 |p::ps,v::vs,cvs,ν,ν',mL,mC,hb,hv,h1,h2=>by
  obtain⟨c,cs,rfl,hc,hcs⟩:=F2.cons_right hv
  simp only[Z8o,List.zip_cons_cons,bindL,bindC]
  by_cases hk:kd (Str.ofString p)=some .local
  ·rw[if_pos hk,if_pos hk]
   exact Zic (ps:=ps) hb hcs (h1.upd hc) (h2.skip λq=>q hk)
  ·rw[if_neg hk,if_neg hk]
   exact Zic (ps:=ps) hb hcs (h1.skip hk) (h2.upd hc)
 | [],_::_,_,_,_,_,_,hb,_,_,_=>nomatch hb
 |_::_,[],_,_,_,_,_,hb,_,_,_=>nomatch hb
theorem Zj9:∀{xs:List String}{vs:List ZA}{ν ν':Fm}{x:String}{v:ZA},Zv xs vs ν=some ν'→ν' x=some v→x∈xs∨ν x=some v
 | [],[],ν,ν',x,v,h,hx=>.inr (Z8q h▸hx)
 |y::ys,w::ws,ν,ν',x,v,h,hx=>(Zj9 (xs:=ys) h hx).elim (λq=>.inl (Z8h _ q)) λq=>(Zae q).elim (λe=>.inl (e.1▸Z8g)) λe=>.inr e.2
 | [],_::_,_,_,_,_,h,_=>nomatch h
 |_::_,[],_,_,_,_,h,_=>nomatch h
theorem Zgn{ps:List String}{vs:List Value}{y:Str×Value}(h:y∈(ps.map Str.ofString).zip vs):∃x∈ps,y.1=Str.ofString x:=
 (Z8l.mp (List.of_mem_zip (a:=y.1) (b:=y.2) h).1).elim λx q=>⟨x,q.1,q.2.symm⟩
theorem Zn7:∀{ps:List String} {vs:List ZA} {cvs:List Value} {ν ν':Fm} {tl:List (Str×Value)},Zv ps vs ν=some ν'→ZF W cvs vs→JW W (λZ=>True) ν (λn=>tl.lookup n)→JW W (λZ=>True) ν' (λn=>(((ps.map Str.ofString).zip cvs).reverse++tl).lookup n)
 | [],[],cvs,ν,ν',tl,hb,hv,h=>by rw[F2.QL hv,←Z8q hb];exact h
 |p::ps,v::vs,cvs,ν,ν',tl,hb,hv,h=>by
  obtain⟨c,cs,rfl,hc,hcs⟩:=F2.cons_right hv
  have:=Zn7 (ps:=ps) (tl:=(Str.ofString p,c)::tl) hb hcs λy u Z hu=>(Zae hu).elim (λq=>⟨c,by rw[q.1];show List.lookup _ (_::tl)=_;rw[List.lookup_cons,Z87],q.2▸hc⟩) λq=>
   (h y u trivial q.2).elim λcv e=>⟨cv,by show List.lookup _ (_::tl)=_;rw[List.lookup_cons,Z85.mpr λz=>q.1 (Yo z)];exact e.1,e.2⟩
  rw[Z8o,List.zip_cons_cons,List.reverse_cons,Z8n]
  exact this
 | [],_::_,_,_,_,_,hb,_,_=>nomatch hb
 |_::_,[],_,_,_,_,hb,_,_=>nomatch hb
theorem AOK.deep(h:AOK X md W (2*(j+1)) A)(env:Env)(hk:FrE X W env):AOK X md W (2*j+1) (A.deeper env):=⟨h.hh,by have:=h.dp;show A.depth+1+_+_<_;lia,by have:=h.un;show A.units+3+_+_<_;lia,h.stk.imp' (env::·) λl q=>⟨Around.frames_deeper q.1,λf hf=>(Z8k.mp hf).elim (λe=>e▸hk) (q.2 f)⟩⟩
theorem AOK.room(h:AOK X md W (2*(j+1)) A):A.depth<recursionLimit:=by have:=h.dp;lia
noncomputable def Zr4(fl:Flw):ZA:=@Flw.casesOn (λZ=>ZA) fl .none λv=>v
theorem Zze{fl:Flw}{W1 W2:Wd}{fo:Flow}{s2:Shared}{R:Result→Shared→Prop}(hR:∀W' v s',Le W W'→Inv X W' σ' s'→ZE W' v (Zr4 fl)→R (.ok (.ret v)) s')(l1:Le W W1)(JH:∀a∈own,W a=.free)(l2:LeX own W1 W2)(I2:Inv X W2 σ' s2)(hr:Z6o X W2 env own fl ν' fo):(fo=.next∧R (.ok (.ret .none)) s2)∨∃cv,fo=.ret cv∧R (.ok (.ret cv)) s2:=by
 have l:Le W W2:=(LeX.trans (Le.X l1) l2).le JH
 cases fl with
 |next=>exact .inl ⟨hr.1,hR W2 _ s2 l I2 rfl⟩
 |ret r=>exact .inr (hr.elim λcv h=>⟨cv,h.1,hR W2 _ s2 l I2 h.2⟩)
end
end
section
section
variable{X:Cx}{md:Bool}{dn:String}{j:Nat}{ν ν':Fm}{σ σ':St}{Fd:Fn}{f:Addr}{fd:FuncData}{vs:List ZA}{fl:Flw}{W:Wd}{s:Shared}{A:Around}{cvs:List Value}{R:Result→Shared→Prop}{own:List Addr}
noncomputable def Z1l(env:Env):List Addr:=env.locals::(env.cells.filter λp=>env.cells.lookup p.1==some p.2).map (·.2)
theorem Zr7{env:Env}{n:Str}{c:Addr}(h:env.cells.lookup n=some c):c∈Z1l env:=Z8h _ (Z8l.mpr ⟨(n,c),List.mem_filter.mpr ⟨mem_of_lookup h,beq_iff_eq.mpr h⟩,rfl⟩)
theorem AOK.call{env:Env}{W1:Wd}(h:AOK X md W (2*(j+1)) A)(JH:∀a∈own,W a=.free)(l1:Le W W1)(F:YT X W1 env own ν)(hf:env.frame=some env.locals)(I:Inv X W1 σ s):YM X md j W1 env own ν σ (A.deeper env) s:=
 ⟨F,(h.le l1).deep env ⟨F.kind,_,hf,F.toFrm.frP⟩,I,h.stk.imp λl q=>⟨Around.frames_deeper q.1,hf,λf hm L hL ho=>(q.2 f hm).at'.elim λL' z=>z.2.elim λo z2=>by rw[hL]at z;rw[←Z8q z.1,JH L ho]at z2;exact nomatch z2.1⟩⟩
def Zzs(R:Result→Shared→Prop)(f:Flow)(s':Shared):Prop:=R (.ok (.ret (match f with | .ret v=>v | _=>.none))) s'
def Zzt(M:Model)(A:Around)(env:Env)(R:Result→Shared→Prop)(e:Value)(s':Shared):Prop:=wpAny M A (leaving env e) (λZ s''=>R (.error e) s'') (λe' s''=>R (.error e') s'') s'
theorem Zj6(D:FnK X.K Fd f fd)(RS:fd.closure=[])(UK:∀y∈fd.scope.names,y.2≠.free)(hb:Zv Fd.params vs (λZ=>none)=some ν)(hA:AOK X md W (2*(j+1)) A)(I:Inv X W σ s)(hv:ZF W cvs vs)
  (he:∀{env:Env}{own:List Addr}{W1:Wd}{s1:Shared},JJ env.scope Fd.body (XK fd)=true→(∀a∈own,W a=.free)→Le W W1→YM X md j W1 env own ν σ (A.deeper env) s1→wpAny (model pp X.w) (A.deeper env) (execs (XK fd) env) (Zzs R) (Zzt (model pp X.w) (A.deeper env) env R) s1):codeAny (model pp X.w) A (.call (.ref f) ⟨cvs,[]⟩) R s:=by
 obtain⟨oc,od,osl,ZO⟩:=D.obj
 have KX:=I.kin
 have hlen:cvs.length=Fd.params.length:=by rw[F2.length hv,Za7 hb]
 have hLf:=I.free (a:=s.heap.objs.size) (Z70 _)
 refine codeAny_call_cells hA.room (KX _ _ ZO) rfl (X.ok.lim.keeps I.old) (codeRec_of KX D.code) D.body (D.bind cvs hlen) RS (λy hy=>?_) (λs1 IC=>?_) D.co D.gen D.kind
 ·obtain⟨x,hx,e⟩:=Zgn hy
  rw[e]
  exact(Jw (env:=callEnvC fd 0 f) (D.U8 x hx)).imp id λq=>⟨q,Jt _ _ _ _ (.inr q)⟩
 ·obtain⟨⟨⟨h1,tk1,rfl⟩,hns,Uo,hfr⟩,V2,GP,Uu⟩:=IC
  have I1:Inv X W σ { s with heap:=h1,toks:=tk1 }:=I.keeps Uo
  have JB:(callEnvC fd s.heap.objs.size f).scope=fd.scope:=rfl
  have Ur:(callEnvC fd s.heap.objs.size f).globals=mainGlobals:=D.glob
  have GO:(callEnvC fd s.heap.objs.size f).builtins=builtinsNs:=D.blt
  have Kp:(callEnvC fd s.heap.objs.size f).locals=s.heap.objs.size:=rfl
  have Ky:(callEnvC fd s.heap.objs.size f).cells=cellsFrom (s.heap.objs.size+1) fd.scope.names []:=rfl
  have GI:(callEnvC fd s.heap.objs.size f).frame=some (callEnvC fd s.heap.objs.size f).locals:=rfl
  generalize callEnvC fd s.heap.objs.size f=env at*
  obtain⟨o0,hoL,hnL⟩:=NsO.of hns
  have hYo:∀a∈(env.cells.filter λp=>env.cells.lookup p.1==some p.2).map (·.2),W a=.free∧∃o,h1.get? a=some o:=λa ha=>by
   obtain⟨p,hp,rfl⟩:=Z8l.mp ha
   obtain⟨hp1,hp2⟩:=List.mem_filter.mp hp
   obtain⟨o,e,Z⟩:=V2 p.1 p.2 (Z84 hp2)
   exact⟨I.free (Z8e (Kp▸Uu p.1 p.2 hp1)),o,e⟩
  have hLW:W env.locals=.free:=by rw[Kp];exact hLf
  obtain⟨W1,I2,l1,hWL,hY⟩:=Inv.Dt I1 hLW hoL hnL hYo λha=>by
   obtain⟨p,hp,e⟩:=Z8l.mp ha
   exact Nat.lt_irrefl _ (Kp▸e▸Uu p.1 p.2 (List.mem_filter.mp hp).1)
  have Uk:∀a∈Z1l env,W a=.free:=memC hLW λa ha=>(hYo a ha).1
  obtain⟨rL,rC⟩:=Zic (W:=W1) (kd:=env.kindOf) (mL:=λZ=>none) (mC:=λZ=>none) hb (ZF.mono hv l1) (λx v Z h=>nomatch h) (λx v Z h=>nomatch h)
  have cellAt:∀n k,env.kindOf n=some k→CF k→k=.cell∧∃c o,env.cells.lookup n=some c∧W1 c=.imm o none∧o.data=.cell (bindC env.kindOf ((Fd.params.map Str.ofString).zip cvs) (λZ=>none) n):=λn k hk hc=>by
   rcases hc with rfl | rfl
   ·obtain⟨c,hc⟩:=Option.isSome_iff_exists.mp (Jt fd.scope.names (s.heap.objs.size+1) [] n (.inr (JB▸hk)))
    rw[←Ky]at hc
    obtain⟨o,e,e2⟩:=hY c (Z8l.mpr ⟨(n,c),List.mem_filter.mpr ⟨mem_of_lookup hc,beq_iff_eq.mpr hc⟩,rfl⟩)
    obtain⟨o',e',hd⟩:=V2 n c hc
    exact⟨rfl,c,o,hc,e,Z8q (e'.symm.trans e2)▸hd⟩
   ·exact absurd rfl (UK _ (mem_of_lookup (JB▸hk:fd.scope.names.lookup n=some .free)))
  have FF:YT X W1 env (Z1l env) ν:=
   {kind:=by rw[JB];exact D.kind
    glob:=Ur
    blt:=GO
    pin:=memC ⟨_,hWL⟩ λa ha=>(hY a ha).elim λo e=>⟨o,e.1⟩
    old:=λa ha=>I.QN (Uk a ha)
    Xc:=Z8g
    loc:=⟨_,_,hWL,⟨hnL.lax,rfl⟩,rL⟩
    cell:=λn kd hk hc=>(cellAt n kd hk hc).2.elim λc h=>h.elim λo h=>⟨_,c,o,h⟩
    val:=λx v kd hk hc hx=>by
     obtain⟨rfl,c,o,h1,h2,h3⟩:=cellAt _ kd hk hc
     obtain⟨cv,q1,q2⟩:=rC x v (λq=>nomatch hk.symm.trans q) hx
     exact⟨cv,⟨c,o,h1,h2,by rw[h3,q1]⟩,q2⟩
    apart:=GP
    XH:=λn c Z hc=>Zr7 hc }
  exact he (by rw[JB];exact D.fit) Uk l1 (hA.call Uk l1 FF GI I2)
theorem Zcw(D:FnK X.K Fd f fd)(hdn:∃e∈Zbv,e.1=dn)(S:Vo X.K fd dn)(hb:Zv Fd.params vs (λZ=>none)=some ν)(hA:AOK X md W (2*(j+1)) A)(I:Inv X W σ s)(hv:ZF W cvs vs)
  (he:∀{env:Env}{own:List Addr}{W1:Wd}{s1:Shared},Zih X env f fd dn→JJ env.scope Fd.body (XK fd)=true→(∀a∈own,W a=.free)→Le W W1→YM X md j W1 env own ν σ (A.deeper env) s1→PySem.wpAt (model pp X.w) (A.deeper env) (.func (XK fd) env) (execs (XK fd) env) (Zzs R) (Zzt (model pp X.w) (A.deeper env) env R) s1):codeAny (model pp X.w) A (.call (.ref f) ⟨cvs,[]⟩) R s:=by
 obtain⟨oc,od,osl,ZO⟩:=D.obj
 have KX:=I.kin
 have hlen:cvs.length=Fd.params.length:=by rw[F2.length hv,Za7 hb]
 have hLf:=I.free (a:=s.heap.objs.size) (Z70 _)
 refine ks_codeAny_call_defAt hA.room (KX _ _ ZO) rfl (X.ok.lim.keeps I.old) (codeRec_of KX D.code) D.body (BindsTo.of_eq (D.bind cvs hlen)) S.QP (λy hy=>?_) (λh1 hns Uo=>?_) D.co D.gen D.kind
 ·obtain⟨x,hx,e⟩:=Zgn hy
  rw[e]
  exact(Jw (env:=callEnvC fd 0 f) (D.U8 x hx)).resolve_right λq=>S.QP _ (mem_of_lookup q) rfl
 ·have I1:Inv X W σ { s with heap:=h1,toks:=s.toks+((Fd.params.map Str.ofString).zip cvs).length }:=I.keeps Uo
  obtain⟨ccl,ccd,ccs,RI⟩:=X.ok.cell hdn
  have SUP:Zih X (callEnv fd s.heap.objs.size f) f fd dn:=⟨S,hdn,⟨oc,od,osl,ZO⟩,rfl,rfl,rfl,rfl⟩
  have hcl:(callEnv fd s.heap.objs.size f).cells=[(("__class__":Str),(Qn dn).1)]:=S.clo
  have JB:(callEnv fd s.heap.objs.size f).scope=fd.scope:=rfl
  have Ur:(callEnv fd s.heap.objs.size f).globals=mainGlobals:=D.glob
  have GO:(callEnv fd s.heap.objs.size f).builtins=builtinsNs:=D.blt
  have Kp:(callEnv fd s.heap.objs.size f).locals=s.heap.objs.size:=rfl
  have GI:(callEnv fd s.heap.objs.size f).frame=some (callEnv fd s.heap.objs.size f).locals:=rfl
  generalize callEnv fd s.heap.objs.size f=env at*
  obtain⟨o0,hoL,hnL⟩:=NsO.of hns
  have l1:Le W (ZN W s.heap.objs.size (.imm (Xl o0) none)):=Yr hLf
  have I2:=I1.U7 (v:=none) hLf (Zm7 hnL (I.QN hLf) hoL) trivial
  have JH:∀a∈[s.heap.objs.size],W a=.free:=QE hLf
  have rev:=Zn7 (W:=ZN W s.heap.objs.size (.imm (Xl o0) none)) (tl:=[]) hb (ZF.mono hv l1) λx v Z h=>nomatch h
  obtain⟨vcc,GQ⟩:=I2.keep _ _ (X.ok.inK _ _ RI)
  have Rz:vcc=none:=@Option.casesOn _ (λv=>Xh (ZN W s.heap.objs.size (.imm (Xl o0) none)) { cls:=ccl,dict:=ccd,data:=.cell (some (.ref (Qn dn).2)),slots:=ccs } v→v=none) vcc (λZ=>rfl) (λx=>@ZA.casesOn (λx=>Xh (ZN W s.heap.objs.size (.imm (Xl o0) none)) { cls:=ccl,dict:=ccd,data:=.cell (some (.ref (Qn dn).2)),slots:=ccs } (some x)→some x=none) x (λh=>h.elim) (λZ h=>h.elim) (λZ h=>h.elim) (λZ h=>h.elim)
   (λZ h=>h.elim λvs q=>q.elim λn q=>nomatch Z81 Obj.data q.1) (λZ h=>h.elim λvs q=>q.elim λn q=>nomatch Z81 Obj.data q.1) (λZ h=>h.elim)) (I2.imp GQ).2
  rw[Rz]at GQ
  have hfr:∀n k,env.kindOf n=some k→CF k→n=("__class__":Str):=λn k hk hc=>by
   have hk':fd.scope.names.lookup n=some k:=JB▸hk
   rcases hc with rfl | rfl
   ·exact absurd rfl (S.QP _ (mem_of_lookup hk'))
   ·exact S.free _ (mem_of_lookup hk') rfl
  have FF:YT X (ZN W s.heap.objs.size (.imm (Xl o0) none)) env [s.heap.objs.size] ν:=
   {kind:=by rw[JB];exact D.kind
    glob:=Ur
    blt:=GO
    pin:=QE ⟨_,Zi ..⟩
    old:=QE (I.QN hLf)
    Xc:=by rw[Kp];exact Z8g
    loc:=⟨Xl o0,_,by rw[Kp];exact Zi ..,⟨hnL.lax,rfl⟩,λx v Z hx=>(rev x v trivial hx).elim λcv e=>⟨cv,by have:=e.1;dsimp only at this;rw[List.append_nil]at this;exact this,e.2⟩⟩
    cell:=λn kd hk hc=>⟨some (.ref (Qn dn).2),(Qn dn).1,_,by rw[hfr n kd hk hc,hcl];rfl,GQ,rfl⟩
    val:=λx v kd hk hc hx=>by
     rcases Zj9 hb hx with q | q
     ·have hk':fd.scope.names.lookup (Str.ofString x)=some kd:=JB▸hk
      rcases Jw (env:=callEnvC fd 0 f) (D.U8 x q)with e | e
      ·rcases hc with rfl | rfl
       ·exact nomatch hk'.symm.trans e
       ·exact nomatch hk'.symm.trans e
      ·exact absurd rfl (S.QP _ (mem_of_lookup e))
     ·exact nomatch q
    apart:=by rw[hcl];exact List.pairwise_singleton _ _
    XH:=λn c hk Z=>absurd rfl (S.QP _ (mem_of_lookup (JB▸hk:fd.scope.names.lookup n=some .cell))) }
  exact he SUP (by rw[JB];exact D.fit) JH l1 (hA.call JH l1 FF GI I2)
theorem Zlu{W1:Wd}{env:Env}(hR:∀W' v s',Le W W'→Inv X W' σ' s'→ZE W' v (Zr4 fl)→R (.ok (.ret v)) s')(JH:∀a∈own,W a=.free)(l1:Le W W1):PsF X W1 env own fl ν' σ' (Zzs R):=λW2 fo s2 l2 I3 hr=>by rcases Zze hR l1 JH l2 I3 hr with⟨rfl,h⟩ | ⟨cv,rfl,h⟩<;>exact h
end
section
variable{md:Bool}{j:Nat}{ν ν':Fm}{σ σ':St}{q:String}{e:Addr×Fn}{vs:List ZA}{fl:Flw}{r:ZA}
theorem Zpk(hq:fnOf q=some e)(hb:Zv e.2.params vs (λZ=>none)=some ν)(h:BkM md j e.2.body ν σ fl ν' σ'):QA md (j+1) q vs σ (Zr4 fl) σ':=.mk λ{X W s A cvs f R} hf hA I hv hR=>by
 have D:=X.ok.fnK hq
 have hf':f=e.1:=Z8q (hf.symm.trans (Zjp hq))
 rw[hf']
 exact D.rest.elim (λp=>Zj6 D p.1 p.2 hb hA I hv λhf JH l1 c=>h.run hf c (Zlu hR JH l1)) λq=>q.elim λdn S=>Zcw D S.1 S.2 hb hA I hv λSUP hf JH l1 c=>h.bd.run SUP hf c (Zlu hR JH l1)
theorem Zlt{dn:String}(hs:Zda.lookup q=some dn)(hq:fnOf q=some e)(hb:Zv e.2.params vs (λZ=>none)=some ν)(h:BdM md dn j e.2.body ν σ fl ν' σ'):QA md (j+1) q vs σ (Zr4 fl) σ':=.mk λ{X W s A cvs f R} hf hA I hv hR=>by
 have D:=X.ok.fnK hq
 have hf':f=e.1:=Z8q (hf.symm.trans (Zjp hq))
 obtain⟨a,ha,S⟩:=X.ok.Dp hs
 rw[←Z8q ((Zjp hq).symm.trans ha)]at S
 rw[hf']
 exact Zcw D (Ze3 hs) S hb hA I hv λSUP hf JH l1 c=>h.run SUP hf c (Zlu hR JH l1)
end
end
end PL
end
section
open PySem
open scoped Classical
namespace PL
section
section
variable{j:Nat}{ν ν' ν'':Fm}{σ σ1 σ2 σ3 σ4:St}{x y z w v:ZA}{a b c e t o i l h s:PE}{es src ifs:List PE}{us vs ws xs ys:List ZA}{n m f q:String}{r:ZA}{id:Nat}{cl:String}{k:Nat}{mm:Fm}
theorem ZD(h:ν n=some v:=by kernel_rfl):EvE j (.loc n) ν σ v σ:=Zb h
theorem Z6(h:EvE j e ν σ (.ref id) σ1)(hf:σ1.f id=some (.inst cl k mm))(hm:mm n=some v:=by kernel_rfl)(ht:J9.contains (cl,n)=true:=by kernel_rfl):EvE j (.att e n) ν σ v σ1:=Z5z h hf hm ht
theorem Y7(ho:EvE j o ν σ (.ref id) σ1)(hf:σ1.f id=some (.inst cl k mm))(hes:JF j ν es σ1 vs σ2)(hc:Zq j q (.ref id::vs) σ2 v σ3)(hm:mm m=none:=by kernel_rfl)(hq:Zba.lookup (cl,m)=some q:=by kernel_rfl)(hfa:(fnA q).isSome=true:=by kernel_rfl):EvE j (.mth o m es) ν σ v σ3:=Zq9 ho hf hm hq hes hc hfa
theorem Z06{k:Nat}(he:EvE j e ν σ v σ1)(ho:EvE j o ν σ1 (.ref id) σ2)(hf:σ2.f id=some (.inst cl k mm))(hat:J9.contains (cl,n)=true:=by kernel_rfl)(hk:Nat.blt k 100=true:=by kernel_rfl):ExS j (.sat o n e) ν σ .next ν (σ2.put id (.inst cl (k+1) (upd mm n v))):=Z6v he ho hf hat (Z78 hk)
structure QH(j:Nat)(ps:List PS)(ν:Fm)(σ:St)(r:ZA)(σ':St):Prop where
 ex:∃fl ν',ExB j ps ν σ fl ν' σ'∧Zr4 fl=r
theorem Zc{p:PS}{ps:List PS}(h1:ExS j p ν σ .next ν' σ1)(h2:QH j ps ν' σ1 v σ2):QH j (p::ps) ν σ v σ2:=h2.ex.elim λfl h=>h.elim λμ h=>⟨fl,μ,Zes h1 h.1,h.2⟩
theorem Qz{p:PS}{ps:List PS}(h1:ExS j p ν σ (.ret v) ν' σ1):QH j (p::ps) ν σ v σ1:=⟨_,_,Zpt h1,rfl⟩
theorem Y6{ps:List PS}(h:EvE j e ν σ v σ1):QH j (.ret e::ps) ν σ v σ1:=Qz (Zau h)
theorem Zas:QH j [] ν σ .none σ:=⟨_,_,Z0m,rfl⟩
theorem Zk{vs:List ZA}{e:Addr×Fn}(hq:fnOf q=some e)(hb:Zv e.2.params vs (λZ=>none)=some ν)(h:QH j e.2.body ν σ v σ1):Zq (j+1) q vs σ v σ1:=h.ex.elim λfl h=>h.elim λμ h=>h.2▸Zpk hq hb h.1
theorem es0:JF j ν [] σ [] σ:=.nil σ
theorem es1(h:EvE j e ν σ v σ1):JF j ν [e] σ [v] σ1:=.cons h (.nil _)
theorem es2(h:EvE j a ν σ v σ1)(h2:EvE j b ν σ1 w σ2):JF j ν [a,b] σ [v,w] σ2:=.cons h (es1 h2)
theorem es3(h:EvE j a ν σ v σ1)(h2:EvE j b ν σ1 w σ2)(h3:EvE j c ν σ2 x σ3):JF j ν [a,b,c] σ [v,w,x] σ3:=.cons h (es2 h2 h3)
theorem EvM.eqv(h:EvE j e ν σ v σ1)(hv:v=w):EvE j e ν σ w σ1:=hv▸h
theorem ZR.eqv{op:CmpOp}{p q:Bool}(h:ZR σ op x y p)(hp:p=q):ZR σ op x y q:=hp▸h
theorem dT{p:Prop}[Decidable p](h:p):decide p=true:=Z82 h
theorem dF{p:Prop}[Decidable p](h:¬p):decide p=false:=Z83 h
theorem nT{p:Prop}[Decidable p](h:p):(!decide p)=false:=by rw[dT h];rfl
theorem nF{p:Prop}[Decidable p](h:¬p):(!decide p)=true:=by rw[dF h];rfl
theorem Z3:Jy none σ:=λp q=>nomatch q
theorem J3{x:String}(hy:ν x=some v)(h:x≠".0":=by decide):hide ν x=some v:=(if_neg h).trans hy
theorem Za{ν:Fm}{x y:String}{v u:ZA}(hy:ν y=some u)(h:y≠x:=by decide):upd ν x v y=some u:=(if_neg h).trans hy
theorem Zh{α β:Type}{f:α→β}{l:List α}{n:Nat}(h:l.length≤n):(l.map f).length≤n:=(Z8i f).symm▸h
theorem Zyh{α β:Type}{f:α→β}{l:List α}{n:Nat}(h:n<l.length):n<(l.map f).length:=(Z8i f).symm▸h
theorem Zaa{α β:Type}{f:α→β}{l:List α}{i:Nat}{x:α}(h:l[i]? = some x):(l.map f)[i]? = some (f x):=by rw[List.getElem?_map,h];rfl
theorem Zaw{α:Type}{l:List α}{i:Nat}{x:α}(h:l[i]? = some x):i<l.length:=(Z8w.mp h).1
theorem Zbt{α:Type}{l:List α}{i:Nat}(h:i<l.length):∃x,l[i]? = some x:=⟨_,Z8v h⟩
theorem ble{a b:Nat}(h:Nat.ble a b=true:=by rfl):a≤b:=Z78 h
theorem Zbl{g:Option (Nat×List ZA)}{x:String}{α:Type}{p:α→ZA}{q:α→ZA}(hst:Jy g σ):∀{l:List α}{acc:List ZA},(∀u∈l,EvE j e (upd (hide ν) x (p u)) σ (q u) σ)→acc.length+l.length≤16000→LcR j g [x] [] e ν ((l.map p).map λx=>[x]) acc σ (acc++l.map q) σ
 | [],acc,_,_=>by rw[List.map_nil,List.map_nil,List.map_nil,List.append_nil];exact .nil hst
 |u::l,acc,h,hl=>by
  rw[Z8o,Z8o,Z8o,List.append_cons]
  rw[Z8p,Nat.add_succ]at hl
  exact .keep hst rfl (.nil _) (h u Z8g) (Z74 (Z71 _ _) hl) (Zbl hst (λw hw=>h w (Z8h _ hw)) (by rw[Z8j];exact(Nat.succ_add _ _).symm▸hl))
end
noncomputable abbrev Nd:=CS×List Nat
noncomputable abbrev nA(n:Nat):ZA:=.int (n:Int)
noncomputable def Zu(p:Nd):ZA:=.tup (.str p.1::p.2.map nA)
inductive Reason where
 |told (w:CS) | rule (w:CS) (ps:List (CS×Nat))
inductive Row where
 |add (op:CS) (ks:List Nat) | same (a b:Nat) (r:Reason) | settle
noncomputable def Zbk(p:CS×Nat):ZA:=.tup [.str p.1,nA p.2]
noncomputable def Z7(r:Reason):ZA:=@Reason.casesOn (λZ=>ZA) r (λw=>.tup [.str [116,111,108,100],.str w]) λw ps=>.tup [.str [114,117,108,101],.str w,.tup (ps.map Zbk)]
noncomputable def ZT(r:Row):ZA:=@Row.casesOn (λZ=>ZA) r (λop ks=>.tup [.str [97,100,100],.str op,.tup (ks.map nA)]) (λa b r=>.tup [.str [115,97,109,101],nA a,nA b,Z7 r]) (.tup [.str [115,101,116,116,108,101]])
structure HC where
 nodes:List Nd
 ZL:List Int
 ZP:List Int
 par:List Nat
 ZJ:List (List Nat)
 merged:List (Nat×Nat)
 ZI:List (Nat×Nat×ZA)
 ZH:List Nat
 known:List (Nd×Nat)
 abv:List (Nat×List Nat)
 waiting:List Nat
 rows:List Row
inductive Fld where
 |h | YY | YC | nodes | ZX | ZL | ZP | uab | ZJ | lot (i:Nat) | merged | ZI | ZH | known | hab | abv (c:Nat) | waiting | rows
noncomputable def Qe(H:HC)(i:Nat):List Nat:=(H.ZJ[i]?).getD []
noncomputable def Zr(H:HC)(c:Nat):List Nat:=(H.abv.lookup c).getD []
section
variable(L:Fld→Nat)
noncomputable def hfm:Fm:=upd (upd (upd (upd (upd (upd (upd (upd (λZ=>none) "bank" (.ref (L .YY))) "unions" (.ref (L .YC))) "edges" (.ref (L .ZI))) "forest" (.ref (L .ZH))) "known" (.ref (L .known))) "above" (.ref (L .hab))) "waiting" (.ref (L .waiting))) "rows" (.ref (L .rows))
noncomputable def bfm:Fm:=upd (upd (upd (upd (λZ=>none) "nodes" (.ref (L .nodes))) "numbers" (.ref (L .ZX))) "weights" (.ref (L .ZL))) "depths" (.ref (L .ZP))
noncomputable def ufm:Fm:=upd (upd (upd (λZ=>none) "above" (.ref (L .uab))) "lots" (.ref (L .ZJ))) "merged" (.ref (L .merged))
end
noncomputable def Zvz(p:Nat×Nat×ZA):ZA:=.tup [nA p.1,nA p.2.1,p.2.2]
noncomputable def Zx4(p:Nat×Nat):ZA:=.tup [nA p.1,nA p.2]
noncomputable def Gs(l:List Nd):List (ZA×ZA):=l.zipIdx.map λp=>(Zu p.1,nA p.2)
noncomputable def XJ(l:List (Nd×Nat)):List (ZA×ZA):=l.map λp=>(Zu p.1,nA p.2)
noncomputable def Zm3(L:Fld→Nat)(n:Nat):List ZA:=(List.range n).map λi=>.ref (L (.lot i))
noncomputable def QJ(L:Fld→Nat)(l:List (Nat×List Nat)):List (ZA×ZA):=l.map λp=>(nA p.1,.ref (L (.abv p.1)))
noncomputable def cont(L:Fld→Nat)(H:HC)(f:Fld):ZK:=@Fld.casesOn (λZ=>ZK) f (.inst "Written" 8 (hfm L)) (.inst "Bank" 4 (bfm L)) (.inst "Unions" 3 (ufm L))
 (.list (H.nodes.map Zu)) (.dict (Gs H.nodes)) (.list (H.ZL.map .int)) (.list (H.ZP.map .int)) (.list (H.par.map nA)) (.list (Zm3 L H.ZJ.length)) (λi=>.list ((Qe H i).map nA)) (.list (H.merged.map Zx4)) (.list (H.ZI.map Zvz)) (.list (H.ZH.map nA))
 (.dict (XJ H.known)) (.dict (QJ L H.abv)) (λc=>.list ((Zr H c).map nA)) (.list (H.waiting.map nA)) (.list (H.rows.map ZT))
def act(H:HC)(f:Fld):Prop:=@Fld.casesOn (λZ=>Prop) f True True True True True True True True True (λi=>i<H.ZJ.length) True True True True True (λc=>c∈H.abv.map (·.1)) True True
structure Rep(σ:St)(L:Fld→Nat)(H:HC):Prop where
 inj:∀f g,act H f→act H g→L f=L g→f=g
 lt:∀f,act H f→L f<σ.n
 val:∀f,act H f→σ.f (L f)=some (cont L H f)
section
variable{σ:St}{L:Fld→Nat}{H:HC}
theorem Rep.ZO(R:Rep σ L H):σ.f (L .h)=some (.inst "Written" 8 (hfm L)):=R.val .h trivial
theorem Rep.QW(R:Rep σ L H):σ.f (L .YY)=some (.inst "Bank" 4 (bfm L)):=R.val .YY trivial
theorem Rep.JG(R:Rep σ L H):σ.f (L .YC)=some (.inst "Unions" 3 (ufm L)):=R.val .YC trivial
theorem Rep.nodes(R:Rep σ L H):σ.f (L .nodes)=some (.list (H.nodes.map Zu)):=R.val .nodes trivial
theorem Rep.ZX(R:Rep σ L H):σ.f (L .ZX)=some (.dict (Gs H.nodes)):=R.val .ZX trivial
theorem Rep.ZL(R:Rep σ L H):σ.f (L .ZL)=some (.list (H.ZL.map .int)):=R.val .ZL trivial
theorem Rep.ZP(R:Rep σ L H):σ.f (L .ZP)=some (.list (H.ZP.map .int)):=R.val .ZP trivial
theorem Rep.uab(R:Rep σ L H):σ.f (L .uab)=some (.list (H.par.map nA)):=R.val .uab trivial
theorem Rep.ZJ(R:Rep σ L H):σ.f (L .ZJ)=some (.list (Zm3 L H.ZJ.length)):=R.val .ZJ trivial
theorem Rep.lot(R:Rep σ L H){i:Nat}(h:i<H.ZJ.length):σ.f (L (.lot i))=some (.list ((Qe H i).map nA)):=R.val (.lot i) h
theorem Rep.merged(R:Rep σ L H):σ.f (L .merged)=some (.list (H.merged.map Zx4)):=R.val .merged trivial
theorem Rep.ZI(R:Rep σ L H):σ.f (L .ZI)=some (.list (H.ZI.map Zvz)):=R.val .ZI trivial
theorem Rep.ZH(R:Rep σ L H):σ.f (L .ZH)=some (.list (H.ZH.map nA)):=R.val .ZH trivial
theorem Rep.known(R:Rep σ L H):σ.f (L .known)=some (.dict (XJ H.known)):=R.val .known trivial
theorem Rep.hab(R:Rep σ L H):σ.f (L .hab)=some (.dict (QJ L H.abv)):=R.val .hab trivial
theorem Rep.abv(R:Rep σ L H){c:Nat}(h:c∈H.abv.map (·.1)):σ.f (L (.abv c))=some (.list ((Zr H c).map nA)):=R.val (.abv c) h
theorem Rep.waiting(R:Rep σ L H):σ.f (L .waiting)=some (.list (H.waiting.map nA)):=R.val .waiting trivial
theorem Rep.rows(R:Rep σ L H):σ.f (L .rows)=some (.list (H.rows.map ZT)):=R.val .rows trivial
theorem Rep.ne(R:Rep σ L H){f g:Fld}(hf:act H f)(hg:act H g)(h:f≠g):L f≠L g:=λq=>h (R.inj f g hf hg q)
end
noncomputable def Zst(par:List Nat)(k:Nat):Nat→Nat:=@Nat.rec (λZ=>Nat→Nat) (λa=>a) (λZ ih a=>if(par[a]?).getD a=a then a else ih ((par[a]?).getD a)) k
noncomputable def find(par:List Nat)(a:Nat):Nat:=Zst par (a+1) a
def Down(par:List Nat):Prop:=∀(i p:Nat),par[i]? = some p→p≤i
theorem Zhl{par:List Nat}{a p:Nat}(h:par[a]? = some p):(par[a]?).getD a=p:=by rw[h];rfl
theorem Zhk{par:List Nat}(hd:Down par){a:Nat}(h:(par[a]?).getD a≠a):(par[a]?).getD a<a:=by
 cases e:par[a]? with
 |none=>rw[e]at h;exact absurd rfl h
 |some p=>rw[e]at h;exact Nat.lt_of_le_of_ne (hd a p e) h
theorem Zss{par:List Nat}(hd:Down par):∀(k a:Nat),a<k→Zst par k a=Zst par (a+1) a:=by
 intro k
 induction k using Nat.strongRecOn with
 |ind k ih=>
  intro a h
  cases k with
  |zero=>exact absurd h (Nat.not_lt_zero a)
  |succ k=>
   show(if(par[a]?).getD a=a then a else Zst par k ((par[a]?).getD a))=if(par[a]?).getD a=a then a else Zst par a ((par[a]?).getD a)
   by_cases hp:(par[a]?).getD a=a
   ·rw[if_pos hp,if_pos hp]
   ·rw[if_neg hp,if_neg hp]
    have hlt:=Zhk hd hp
    rw[ih k (Z79 k) _ (Z73 hlt (Z8f h)),ih a h _ hlt]
theorem Zam{par:List Nat}(hd:Down par)(a:Nat):find par a=if(par[a]?).getD a=a then a else find par ((par[a]?).getD a):=by
 show(if(par[a]?).getD a=a then a else Zst par a ((par[a]?).getD a))=_
 by_cases hp:(par[a]?).getD a=a
 ·rw[if_pos hp,if_pos hp]
 ·rw[if_neg hp,if_neg hp];exact Zss hd a _ (Zhk hd hp)
theorem Zlk{par:List Nat}(hd:Down par){P:Nat→Nat→Prop}(h0:∀a,(par[a]?).getD a=a→P a a)(h1:∀a b,(par[a]?).getD a<a→P ((par[a]?).getD a) b→P a b)(a:Nat):P a (find par a):=by
 induction a using Nat.strongRecOn with
 |ind a ih=>
  rw[Zam hd]
  by_cases hp:(par[a]?).getD a=a
  ·rw[if_pos hp];exact h0 a hp
  ·rw[if_neg hp];have hlt:=Zhk hd hp;exact h1 a _ hlt (ih _ hlt)
theorem Zlj{par:List Nat}(hd:Down par)(a:Nat):find par a≤a:=Zlk hd (P:=λa b=>b≤a) (λa Z=>Z70 a) (λa b h q=>Z7z q (Z8e h)) a
theorem JK{par:List Nat}(hd:Down par)(a:Nat):(par[find par a]?).getD (find par a)=find par a:=Zlk hd (P:=λa b=>(par[b]?).getD b=b) (λa h=>h) (λa b Z q=>q) a
section
variable{j:Nat}{σ:St}{H:HC}{L:Fld→Nat}
theorem Zrn(hd:Down H.par)(R:Rep σ L H)(hl:H.par.length≤16000)(a:Nat):a<H.par.length→∀ν:Fm,ν "self"=some (.ref (L .YC))→ν "a"=some (nA a)→
  ∃n ν',Km j (.cmp .NotEq (.idx JT YG) YG) [.asg "a" (.idx JT YG)] n ν σ .next ν' σ∧ν' "a"=some (nA (find H.par a)):=by
 refine Zlk hd (P:=λa b=>a<H.par.length→∀ν:Fm,ν "self"=some (.ref (L .YC))→ν "a"=some (nA a)→
  ∃n ν',Km j (.cmp .NotEq (.idx JT YG) YG) [(.asg "a" (.idx JT YG))] n ν σ .next ν' σ∧ν' "a"=some (nA b)) (λa hp ha ν h1 h2=>?_) (λa b hp ih ha ν h1 h2=>?_) a
 ·obtain⟨p,hp'⟩:=Zbt ha
  have hpa:p=a:=(Zhl hp').symm.trans hp
  exact⟨0,ν,.stop (Zm (Yx (Z6 (Zb h1) R.JG) (Zb h2) (.lst (.ref R.uab) (Zaa hp') (Zh hl))) (Zb h2) ((ZR.ne (.int 0 _ _) ble).eqv (nT (by rw[hpa])))),h2⟩
 ·obtain⟨p,hp'⟩:=Zbt ha
  rw[Zhl hp']at hp ih
  have ev:∀ν:Fm,ν "self"=some (.ref (L .YC))→ν "a"=some (nA a)→EvE j (.idx JT YG) ν σ (nA p) σ:=λν h1 h2=>Yx (Z6 (Zb h1) R.JG) (Zb h2) (.lst (.ref R.uab) (Zaa hp') (Zh hl))
  obtain⟨n,ν',q1,q2⟩:=ih (Nat.lt_trans hp ha) (upd ν "a" (nA p)) (Za h1) (Zg ..)
  exact⟨n+1,ν',.turn (Zm (ev ν h1 h2) (Zb h2) ((ZR.ne (.int 0 _ _) ble).eqv (nF λq=>by injection q with q;exact Nat.ne_of_lt hp (Int.ofNat.inj q)))) (Qh (Yk (ev ν h1 h2))) q1,q2⟩
end
theorem Zq0:fnOf "is_op"=some (95,Zvu):=by kernel_rfl
theorem Zdc:fnOf "is_variable"=some (102,Zee):=by kernel_rfl
theorem Znr:fnOf "Bank.__init__"=some (121,Zh4):=by kernel_rfl
theorem Znp:fnOf "Bank.size"=some (128,Zh2):=by kernel_rfl
theorem Zb9:fnOf "Bank.take"=some (133,Zh1):=by kernel_rfl
theorem J5:fnOf "Bank.require"=some (140,Zdi):=by kernel_rfl
theorem Zsq:fnOf "Bank.op"=some (166,Znv):=by kernel_rfl
theorem Znq:fnOf "Bank.kids"=some (173,Zh3):=by kernel_rfl
theorem Ziu:fnOf "Unions.__init__"=some (227,Zej):=by kernel_rfl
theorem Zit:fnOf "Unions.make"=some (234,Zei):=by kernel_rfl
theorem Zis:fnOf "Unions.size"=some (241,Zeh):=by kernel_rfl
theorem Ziv:fnOf "Unions.find"=some (248,Zek):=by kernel_rfl
theorem Zb7:fnOf "Unions.merge"=some (255,Zdg):=by kernel_rfl
theorem Znn:fnOf "Heap.__init__"=some (309,Zhz):=by kernel_rfl
theorem Znl:fnOf "Heap.size"=some (316,Zhw):=by kernel_rfl
theorem Znm:fnOf "Heap.node"=some (321,Zhx):=by kernel_rfl
theorem Zdn:fnOf "Heap.add"=some (326,Zjv):=by kernel_rfl
theorem Zb8:fnOf "Heap.look_at"=some (338,Zdh):=by kernel_rfl
theorem Zno:fnOf "Heap.find"=some (345,Zh0):=by kernel_rfl
theorem Zli:fnOf "Heap.merge"=some (359,Zf1):=by kernel_rfl
theorem Zfu:fnOf "Heap.join"=some (366,Zhy):=by kernel_rfl
theorem Ziw:fnOf "Heap.settle"=some (373,Zel):=by kernel_rfl
theorem Zeb:fnOf "Heap.is_settled"=some (380,Za6):=by kernel_rfl
theorem J4:fnOf "check_reason"=some (434,Zde):=by kernel_rfl
theorem Zhn:fnOf "Written.__init__"=some (450,Zdf):=by kernel_rfl
theorem Zal:fnOf "Written.add"=some (458,Zeg):=by kernel_rfl
theorem Ji:fnOf "Written.merge"=some (466,Zcc):=by kernel_rfl
theorem Za1:fnOf "Written.settle"=some (474,Zbn):=by kernel_rfl
theorem Zdm:fnOf "row_text"=some (484,Zjs):=by kernel_rfl
theorem Jh:fnOf "number_of"=some (489,Zhr):=by kernel_rfl
theorem Q8:fnOf "same_of"=some (494,Znu):=by kernel_rfl
theorem Za0:fnOf "row_of"=some (499,Zq4):=by kernel_rfl
theorem Zlh:fnOf "Story.__init__"=some (513,Zf0):=by kernel_rfl
theorem Zlg:fnOf "Story.rows"=some (541,Zfz):=by kernel_rfl
theorem Zlf:fnOf "Story.text"=some (546,Zfy):=by kernel_rfl
theorem Qq:fnOf "Story.do"=some (560,Zju):=by kernel_rfl
theorem Zbc:fnOf "read_story"=some (581,Zfv):=by kernel_rfl
theorem Zea:fnOf "StoryFault.told"=some (85,Za4):=by kernel_rfl
theorem Znk:fnOf "_law_feed"=some (586,Zhu):=by kernel_rfl
theorem Zhm:fnOf "_law_dip"=some (593,Zjt):=by kernel_rfl
theorem Zle:fnOf "_law_close"=some (598,Zfw):=by kernel_rfl
theorem Znj:fnOf "_law_meet"=some (605,Zht):=by kernel_rfl
theorem Zd9:fnOf "_law_added"=some (610,Zfx):=by kernel_rfl
theorem Zir:fnOf "_law_merged"=some (615,Zef):=by kernel_rfl
theorem Qu:fnOf "_law_bent"=some (620,Zhv):=by kernel_rfl
theorem Zni:fnOf "_law_text"=some (625,Zhs):=by kernel_rfl
theorem Zd8:fnOf "_law_is_refused"=some (632,Za3):=by kernel_rfl
theorem Z5n:fnOf "law"=some (637,Z5q):=by kernel_rfl
end
section
section
variable{H:HC}
structure Core(H:HC):Prop where
 lw:H.ZL.length=H.nodes.length
 ld:H.ZP.length=H.nodes.length
 lp:H.par.length=H.nodes.length
 ll:H.ZJ.length=H.nodes.length
 down:Down H.par
 kids:∀(i:Nat)(nd:Nd),H.nodes[i]? = some nd→(∀k∈nd.2,k<i)∧nd.2.length≤2
 nodup:H.nodes.Nodup
 roots:∀c,c∈H.abv.map (·.1)↔H.par[c]? = some c
 QG:(H.abv.map (·.1)).Nodup
 Xp:∀p∈H.abv,∀n∈p.2,n<H.nodes.length
 QB:∀n∈H.waiting,n<H.nodes.length
 YU:∀p∈H.known,p.2<H.nodes.length
 count:H.merged.length+H.abv.length=H.nodes.length
 sum:(H.abv.map λp=>p.2.length).sum≤2*H.nodes.length
 XF:∀l∈H.ZJ,∀n∈l,n<H.nodes.length
 QZ:(H.abv.map λp=>(Qe H p.1).length).sum=H.nodes.length
structure YE(H:HC):Prop extends Core H where
 wait:H.known.length+H.waiting.length≤H.nodes.length+2*H.merged.length*H.nodes.length
 ZI:H.ZI.length≤H.rows.length+H.merged.length
 ZH:H.ZH.length=H.merged.length
structure Yv(H:HC):Prop where
 n:H.nodes.length≤63
 r:H.rows.length≤200
theorem X3{n:Nat}(h:n≤63):n≤16000:=Z7z h ble
theorem le2{n:Nat}(h:n≤2):n≤16000:=Z7z h ble
theorem Core.XT(O:Core H){a:Nat}(ha:a<H.nodes.length):find H.par a<H.nodes.length:=Z74 (Zlj O.down a) ha
theorem Core.JK(O:Core H){a:Nat}(ha:a<H.nodes.length):H.par[find H.par a]? = some (find H.par a):=by
 obtain⟨p,hp⟩:=Zbt (O.lp.symm▸O.XT ha)
 rw[hp,(Zhl hp).symm.trans (PL.JK O.down a)]
theorem Core.JL(O:Core H){a:Nat}(ha:a<H.nodes.length):find H.par a∈H.abv.map (·.1):=(O.roots _).mpr (O.JK ha)
theorem Zkh{α:Type}{f:α→Nat}:∀{l:List α}{a:α},a∈l→f a≤(l.map f).sum
 |x::l,a,h=>by
  rw[Z8o,List.sum_cons]
  rcases Z8k.mp h with rfl | h
  ·exact Z71 _ _
  ·exact Z7z (Zkh h) (Z72 _ _)
theorem Ztk{α:Type}{f:α→Nat}:∀{l:List α}{a b:α},a∈l→b∈l→a≠b→f a+f b≤(l.map f).sum
 |x::l,a,b,ha,hb,hne=>by
  rw[Z8o,List.sum_cons]
  rcases Z8k.mp ha with rfl | ha'
  ·rcases Z8k.mp hb with rfl | hb'
   ·exact absurd rfl hne
   ·exact Z76 (Zkh hb') _
  ·rcases Z8k.mp hb with rfl | hb'
   ·rw[Nat.add_comm];exact Z76 (Zkh ha') _
   ·exact Z7z (Ztk ha' hb' hne) (Z72 _ _)
theorem Core.two(O:Core H){a b:Nat}(ha:a∈H.abv.map (·.1))(hb:b∈H.abv.map (·.1))(hne:a≠b):(Qe H a).length+(Qe H b).length≤H.nodes.length:=by
 obtain⟨p,hp,rfl⟩:=Z8l.mp ha
 obtain⟨q,hq,rfl⟩:=Z8l.mp hb
 exact O.QZ▸Ztk (f:=λp:Nat×List Nat=>(Qe H p.1).length) hp hq (λe=>hne (by rw[e]))
theorem Core.UH(O:Core H)(S:Yv H):H.par.length≤16000:=O.lp.symm▸X3 S.n
noncomputable def ZV(H:HC)(nd:Nd):Nd:=(nd.1,nd.2.map (find H.par))
end
section
variable{j:Nat}{σ:St}{H:HC}{L:Fld→Nat}
theorem Zkm(R:Rep σ L H)(O:Core H)(S:Yv H){a:Nat}(ha:a<H.nodes.length):Zq (j+1) "Unions.find" [.ref (L .YC),nA a] σ (nA (find H.par a)) σ:=by
 obtain⟨n,ν',q1,q2⟩:=Zrn (j:=j) (ν:=upd (upd (λZ=>none) "self" (.ref (L .YC))) "a" (nA a)) O.down R (O.UH S) a (O.lp.symm▸ha) (by kernel_rfl) (by kernel_rfl)
 exact Zk Ziv rfl (Zc (Z05 q1) (Y6 ((Zb q2))))
theorem Zko(R:Rep σ L H)(O:Core H)(S:Yv H){a:Nat}(ha:a<H.nodes.length):Zq (j+2) "Heap.find" [.ref (L .h),nA a] σ (nA (find H.par a)) σ:=
 Zk Zno rfl (Y6 ((Y7 (Z6 ZD R.ZO) R.JG (es1 ZD) (Zkm R O S ha))))
theorem Zxn(R:Rep σ L H)(S:Yv H):Zq (j+1) "Bank.size" [.ref (L .YY)] σ (nA H.nodes.length) σ:=
 Zk Znp rfl (Y6 (((Y1 (es1 (Z6 ZD R.QW)) (.len (.lst (.ref R.nodes)) (Zh (X3 S.n)))).eqv (by rw[Z8i]))))
theorem Ze4(R:Rep σ L H)(S:Yv H):Zq (j+2) "Heap.size" [.ref (L .h)] σ (nA H.nodes.length) σ:=
 Zk Znl rfl (Y6 ((Y7 (Z6 ZD R.ZO) R.QW es0 (Zxn R S))))
theorem Znx{ν:Fm}{e i:PE}(R:Rep σ L H)(S:Yv H){n:Nat}{nd:Nd}(h:H.nodes[n]? = some nd)(he:EvE j e ν σ (.ref (L .YY)) σ)(hi:EvE j i ν σ (nA n) σ):EvE j (.idx (.att e "nodes") i) ν σ (Zu nd) σ:=
 Yx (Z6 he R.QW) hi (.lst (.ref R.nodes) (Zaa h) (Zh (X3 S.n)))
theorem Z3u(R:Rep σ L H)(S:Yv H){n:Nat}{nd:Nd}(h:H.nodes[n]? = some nd)(hk:nd.2.length≤2):Zq (j+1) "Bank.op" [.ref (L .YY),nA n] σ (.str nd.1) σ:=
 Zk Zsq rfl (Y6 ((Yx (Znx R S h ZD ZD) Zf (.tup (k:=0) rfl (Nat.succ_le_of_lt (Z74 (Zh hk) ble))))))
theorem Zxo(R:Rep σ L H)(S:Yv H){n:Nat}{nd:Nd}(h:H.nodes[n]? = some nd)(hk:nd.2.length≤2):Zq (j+1) "Bank.kids" [.ref (L .YY),nA n] σ (.tup (nd.2.map nA)) σ:=
 Zk Znq rfl (Y6 ((Qw (Znx R S h ZD ZD) Yb Yb Yb (.tup (i:=1) (Z70 1) (Z75 (Z8d _)) (Nat.succ_le_of_lt (Z74 (Zh hk) ble))))))
theorem Z0w(R:Rep σ L H)(O:Core H)(S:Yv H){n:Nat}{nd:Nd}(h:H.nodes[n]? = some nd):Zq (j+3) "Heap.node" [.ref (L .h),nA n] σ (Zu (ZV H nd)) σ:=by
 obtain⟨hk,hl⟩:=O.kids n nd h
 have hn:=Zaw h
 have hg:LcR (j+2) none ["kid"] [] (.mth QQ0 "find" [Xa]) (upd (upd (λZ=>none) "self" (.ref (L .h))) "n" (nA n)) ((nd.2.map nA).map λx=>[x]) [] σ ([]++nd.2.map λk=>nA (find H.par k)) σ:=
  Zbl Z3 (λk hk'=>Y7 (cl:="Written") ZD R.ZO (es1 ZD) (Zko R O S (Nat.lt_trans (hk k hk') hn))) (by rw[List.length_nil,Nat.zero_add];exact le2 hl)
 have e1:EvE (j+2) (.mth (.att QQ0 "bank") "kids" [YD]) (upd (upd (λZ=>none) "self" (.ref (L .h))) "n" (nA n)) σ (.tup (nd.2.map nA)) σ:=Y7 (Z6 ZD R.ZO) R.QW (es1 ZD) (Zxo R S h hl)
 refine Zk Znm rfl (Y6 ((EvM.eqv (Yu (Q3 (es1 (Y7 (Z6 ZD R.ZO) R.QW (es1 ZD) (Z3u R S h hl)))) (Y1 (es1 (Qx (es1 e1) (.tup _) hg)) (.tuple (.lst (.lst _)) (Zh (le2 hl)))) (.VI (Nat.succ_add _ _▸Nat.succ_le_of_lt (Z74 (by rw[List.length_nil,Nat.zero_add];exact Zh hl) ble)))) ?_)))
 show ZA.tup (ZA.str nd.1::_)=ZA.tup (ZA.str nd.1::List.map nA (List.map _ _))
 rw[List.map_map];rfl
end
end
section
section
variable{σ σ' σ'':St}{L L' L'':Fld→Nat}{H H' H'':HC}
structure Tr(σ:St)(L:Fld→Nat)(H:HC)(σ':St)(L':Fld→Nat)(H':HC):Prop where
 rep:Rep σ' L' H'
 n:σ.n≤σ'.n
 fr:∀id,id<σ.n→(∀f,act H f→L f≠id)→σ'.f id=σ.f id
 ids:∀f,act H' f→(∃g,act H g∧L' f=L g)∨σ.n≤L' f
 top:L' .h=L .h
theorem Tr.refl(R:Rep σ L H):Tr σ L H σ L H:=⟨R,Z70 _,λZ Z Z=>rfl,λf hf=>.inl ⟨f,hf,rfl⟩,rfl⟩
theorem Tr.trans(a:Tr σ L H σ' L' H')(b:Tr σ' L' H' σ'' L'' H''):Tr σ L H σ'' L'' H'' where
 rep:=b.rep
 n:=Z7z a.n b.n
 fr id h1 h2:=(b.fr id (Z73 h1 a.n) λf hf=>(a.ids f hf).elim (λ⟨g,hg,e⟩=>e▸h2 g hg) λe q=>absurd (q▸e) (Nat.not_le.mpr h1)).trans (a.fr id h1 h2)
 ids f hf:=(b.ids f hf).elim (λ⟨g,hg,e⟩=>(a.ids g hg).imp (λ⟨k,hk,e2⟩=>⟨k,hk,e.trans e2⟩) λe2=>e▸e2) λe=>.inr (Z7z a.n e)
 top:=b.top.trans a.top
theorem Yz{σ:St}{k:Nat}{o:ZK}(h:k<σ.n):(σ.new o).f k=σ.f k:=if_neg (Nat.ne_of_lt h)
theorem Qp{α β:Type}(f:α→β)(l:List α)(x:α):l.map f++[f x]=(l++[x]).map f:=by rw[List.map_append];rfl
theorem Tr.put(R:Rep σ L H)(f:Fld)(hf:act H f)(Xy:∀g,act H' g↔act H g)(hc:∀g,g≠f→act H g→cont L H' g=cont L H g):Tr σ L H (σ.put (L f) (cont L H' f)) L H' where
 rep:=⟨λg k hg hk=>R.inj g k ((Xy g).mp hg) ((Xy k).mp hk),λg hg=>R.lt g ((Xy g).mp hg),λg hg=>by
  have hg':=(Xy g).mp hg
  by_cases e:g=f
  ·rw[e];exact Zs ..
  ·exact(Z0 λq=>e (R.inj g f hg' hf q)).trans ((R.val g hg').trans (by rw[hc g e hg']))⟩
 n:=Z70 _
 fr id h1 h2:=Z0 λq=>h2 f hf q.symm
 ids g hg:=.inl ⟨g,(Xy g).mp hg,rfl⟩
 top:=rfl
theorem Tr.X6(R:Rep σ L H)(f:Fld)(hf:act H f)(Xy:∀g,act H' g↔act H g)(hc:∀g,g≠f→act H g→cont L H' g=cont L H g){o:ZK}(ho:o=cont L H' f):Tr σ L H (σ.put (L f) o) L H':=ho▸Tr.put R f hf Xy hc
section
variable(H)
noncomputable def Zsn(a b:Nat)(r:ZA):HC:={ H with ZI:=H.ZI++[(a,b,r)] }
noncomputable def Uw(g k:Nat):HC:={ H with par:=H.par.set g k }
noncomputable def Zld(g k:Nat):HC:={ H with ZJ:=H.ZJ.set k (Qe H k++Qe H g) }
noncomputable def Zpb(g k:Nat):HC:={ H with merged:=H.merged++[(k,g)] }
noncomputable def Zzw(g k:Nat):HC:=Zpb (Zld (Uw H g k) g k) g k
noncomputable def Zpc(i:Nat):HC:={ H with ZH:=H.ZH++[i] }
noncomputable def Z2d(l:List Nat):HC:={ H with waiting:=H.waiting++l }
end
theorem Tr.VE(R:Rep σ L H)(a b:Nat)(r:ZA):Tr σ L H (σ.put (L .ZI) (.list (H.ZI.map Zvz++[.tup [nA a,nA b,r]]))) L (Zsn H a b r):=
 Tr.X6 (H':=Zsn H a b r) R .ZI trivial (λZ=>Iff.rfl) (λfd hg Z=>by cases fd<;>first | rfl | exact absurd rfl hg) (Z81 ZK.list (Qp Zvz _ (a,b,r)))
theorem Tr.par(R:Rep σ L H)(g k:Nat):Tr σ L H (σ.put (L .uab) (.list ((H.par.map nA).set g (nA k)))) L (Uw H g k):=
 Tr.X6 (H':=Uw H g k) R .uab trivial (λZ=>Iff.rfl) (λfd hg Z=>by cases fd<;>first | rfl | exact absurd rfl hg) (Z81 ZK.list (List.map_set ..).symm)
theorem Tr.merged(R:Rep σ L H)(g k:Nat):Tr σ L H (σ.put (L .merged) (.list (H.merged.map Zx4++[.tup [nA k,nA g]]))) L (Zpb H g k):=
 Tr.X6 (H':=Zpb H g k) R .merged trivial (λZ=>Iff.rfl) (λfd hg Z=>by cases fd<;>first | rfl | exact absurd rfl hg) (Z81 ZK.list (Qp Zx4 _ (k,g)))
theorem Tr.ZH(R:Rep σ L H)(i:Nat):Tr σ L H (σ.put (L .ZH) (.list (H.ZH.map nA++[nA i]))) L (Zpc H i):=
 Tr.X6 (H':=Zpc H i) R .ZH trivial (λZ=>Iff.rfl) (λfd hg Z=>by cases fd<;>first | rfl | exact absurd rfl hg) (Z81 ZK.list (Qp nA _ i))
theorem Tr.wait(R:Rep σ L H)(l:List Nat):Tr σ L H (σ.put (L .waiting) (.list (H.waiting.map nA++l.map nA))) L (Z2d H l):=
 Tr.X6 (H':=Z2d H l) R .waiting trivial (λZ=>Iff.rfl) (λfd hg Z=>by cases fd<;>first | rfl | exact absurd rfl hg) (Z81 ZK.list (List.map_append ..).symm)
theorem Zd0{k g i:Nat}{l:List Nat}(hl:k<H.ZJ.length):Qe { H with ZJ:=H.ZJ.set k l } i=if i=k then l else Qe H i:=by
 show((H.ZJ.set k l)[i]?).getD []=_
 by_cases h:i=k
 ·rw[if_pos h,h,List.getElem?_set_self hl];rfl
 ·rw[if_neg h,List.getElem?_set_ne (Ne.symm h)];rfl
theorem Tr.ZJ(R:Rep σ L H){g k:Nat}(hk:k<H.ZJ.length):Tr σ L H (σ.put (L (.lot k)) (.list ((Qe H k).map nA++(Qe H g).map nA))) L (Zld H g k):=
 Tr.X6 R (.lot k) hk (λg=>by cases g<;>first | exact Iff.rfl | (show _<(List.set ..).length↔_;rw[List.length_set];exact Iff.rfl)) (λf hf ha=>by
  cases f with
  |ZJ=>show ZK.list (Zm3 L (List.set ..).length)=_;rw[List.length_set];rfl
  |lot i=>show ZK.list ((Qe _ i).map nA)=ZK.list ((Qe H i).map nA);rw[Zld,Zd0 (g:=g) hk,if_neg λq=>hf (by rw[q])]
  |_=>rfl) (by show _=ZK.list ((Qe _ k).map nA);rw[Zld,Zd0 (g:=g) hk,if_pos rfl,List.map_append])
end
section
variable{j:Nat}{σ:St}{H:HC}{L:Fld→Nat}
theorem Zyg{n i:Nat}(h:i<n):(Zm3 L n)[i]? = some (.ref (L (.lot i))):=by
 show((List.range n).map _)[i]? = _
 rw[List.getElem?_map,List.getElem?_range h];rfl
theorem Znw{ν:Fm}{x y a b:Nat}{e1 e2:PE}(h1:EvE j e1 ν σ (nA x) σ)(h2:EvE j e2 ν σ (nA y) σ):EvE j (.blt "sorted" [.lst [e1,e2]]) ν σ (.lst [nA (min x y),nA (max x y)]) σ:=by
 refine(Y1 (es1 (Qs (es2 h1 h2))) (.sorted (.lst _) (is:=[(x:Int),(y:Int)]) rfl ble)).eqv ?_
 rw[Zxf]
 by_cases h:(x:Int)≤y
 ·rw[if_pos h,Nat.min_eq_left (Int.ofNat_le.mp h),Nat.max_eq_right (Int.ofNat_le.mp h)];rfl
 ·have h':=Int.ofNat_le.mp (Int.le_of_lt (Int.not_le.mp h))
  rw[if_neg h,Nat.min_eq_right h',Nat.max_eq_left h'];rfl
theorem Zji{a b:Nat}(h:nA a=nA b):a=b:=by injection h with h;exact Int.ofNat.inj h
theorem Zi2(R:Rep σ L H)(O:Core H)(S:Yv H){a b x y:Nat}(ha:a<H.nodes.length)(hb:b<H.nodes.length)(hx:find H.par a=x)(hy:find H.par b=y):
  ExS (j+1) Ip (upd (upd (upd (λZ=>none) "self" (.ref (L .YC))) "a" (nA a)) "b" (nA b)) σ .next
   (upd (upd (upd (upd (upd (λZ=>none) "self" (.ref (L .YC))) "a" (nA a)) "b" (nA b)) "kept" (nA (min x y))) "gone" (nA (max x y))) σ:=
 Zmk (Znw (a:=a) (b:=b) (Y7 (cl:="Unions") ZD R.JG (es1 ZD) (hx▸Zkm R O S ha)) (Y7 (cl:="Unions") ZD R.JG (es1 ZD) (hy▸Zkm R O S hb))) (.lst (.lst _)) rfl
theorem Ztt(R:Rep σ L H)(O:Core H)(S:Yv H){a b x y:Nat}(ha:a<H.nodes.length)(hb:b<H.nodes.length)(hx:find H.par a=x)(hy:find H.par b=y)(hne:x≠y):
  ∃σ',Zq (j+2) "Unions.merge" [.ref (L .YC),nA a,nA b] σ (.tup [nA (min x y),nA (max x y)]) σ'∧Tr σ L H σ' L (Zzw H (max x y) (min x y)):=by
 have top:=Zi2 (j:=j) R O S ha hb hx hy
 have hrx:x∈H.abv.map (·.1):=hx▸O.JL ha
 have hry:y∈H.abv.map (·.1):=hy▸O.JL hb
 have hlx:x<H.nodes.length:=hx▸O.XT ha
 have hly:y<H.nodes.length:=hy▸O.XT hb
 have hlk:min x y<H.nodes.length:=Z74 (Nat.min_le_left ..) hlx
 have hlg:max x y<H.nodes.length:=Nat.max_lt.mpr ⟨hlx,hly⟩
 have hkg:min x y≠max x y:=λq=>hne (Nat.le_antisymm (Z7z (Nat.le_max_left x y) (q▸Nat.min_le_right x y)) (Z7z (Nat.le_max_right x y) (q▸Nat.min_le_left x y)))
 have UJ:(Qe H (min x y)).length+(Qe H (max x y)).length≤H.nodes.length:=by
  by_cases h:x≤y
  ·rw[Nat.min_eq_left h,Nat.max_eq_right h];exact O.two hrx hry hne
  ·have h:=Z8e (Nat.not_le.mp h);rw[Nat.min_eq_right h,Nat.max_eq_left h];exact O.two hry hrx hne.symm
 generalize min x y=k at*
 generalize max x y=g at*
 have T1:=Tr.par R g k
 have hk1:k<(Uw H g k).ZJ.length:=O.ll.symm▸hlk
 have hg1:g<(Uw H g k).ZJ.length:=O.ll.symm▸hlg
 have T2:=Tr.ZJ T1.rep (g:=g) hk1
 have T3:=Tr.merged T2.rep g k
 have lot:∀i,i<H.nodes.length→Va (σ.put (L .uab) (.list ((H.par.map nA).set g (nA k)))) (.ref (L .ZJ)) (nA i) (.ref (L (.lot i))):=λi hi=>.lst (.ref T1.rep.ZJ) (Zyg (O.ll.symm▸hi)) (by show(List.map ..).length≤_;exact Zh (List.length_range▸O.ll.symm▸X3 S.n))
 refine⟨_,Zk Zb7 rfl (Zc top (Zc (Zn (Zm ZD ZD ((ZR.eq (.int 0 k g) ble).eqv (dF λq=>hkg (Zji q)))))
  (Zc (Zr2 ZD (Z6 ZD R.JG) ZD (.list R.uab (Zyh (O.lp.symm▸hlg)) (Zh (O.UH S)))) (Zc (Qb (Qr (Yx (Z6 ZD T1.rep.JG) ZD (lot k hlk)) (.extend (T1.rep.lot hk1)) (es1 (Yx (Z6 ZD T1.rep.JG) ZD (lot g hlg)))
   (.extend (T1.rep.lot hk1) (T1.rep.lot hg1) (T1.rep.ne hg1 hk1 λq=>by injection q with q;exact hkg q.symm) (by rw[Z8i,Z8i];exact Z7z UJ (X3 S.n)))))
  (Zc (Qb (Qr (Z6 ZD T2.rep.JG) (.append T2.rep.merged) (es1 (Q3 (es2 ZD ZD))) (.append T2.rep.merged (Zh (Z7z (Nat.le_of_add_right_le (Z8c O.count)) (X3 S.n))))))
   (Y6 ((Q3 (es2 ZD ZD))))))))),(T1.trans T2).trans T3⟩
theorem Zmh(R:Rep σ L H)(O:Core H)(S:Yv H){a b x:Nat}(ha:a<H.nodes.length)(hb:b<H.nodes.length)(hx:find H.par a=x)(hy:find H.par b=x):
  Zq (j+2) "Unions.merge" [.ref (L .YC),nA a,nA b] σ .none σ:=
 Zk Zb7 rfl (Zc (Zi2 R O S ha hb hx hy) (Qz (Zbr (Zm ZD ZD ((ZR.eq (.int 0 (min x x:Nat) (max x x:Nat)) ble).eqv (dT (by rw[Nat.min_self,Nat.max_self])))) (Zau Zf))))
end
end
section
section
variable{β:Type}
noncomputable def JZ(g:Nat)(l:List (Nat×β)):List (Nat×β):=l.filter λp=>p.1 != g
noncomputable def QC(k:Nat)(b:β)(l:List (Nat×β)):List (Nat×β):=l.map λp=>if p.1=k then(k,b)else p
variable{l:List (Nat×β)}{g k c:Nat}{b:β}
theorem Zrc{v:β}:JZ g ((g,v)::l)=JZ g l:=List.filter_cons_of_neg (by rw[bne_self_eq_false];exact Z86)
theorem Zn0{p:Nat×β}(h:p.1≠g):JZ g (p::l)=p::JZ g l:=List.filter_cons_of_pos (bne_iff_ne.mpr h)
theorem Zkw{v:β}:QC k b ((k,v)::l)=(k,b)::QC k b l:=by show(if k=k then(k,b)else(k,v))::_=_;rw[if_pos rfl];rfl
theorem Zg5{p:Nat×β}(h:p.1≠k):QC k b (p::l)=p::QC k b l:=by show(if p.1=k then(k,b)else p)::_=_;rw[if_neg h];rfl
theorem Yd{p:Nat×β}(h:p.1≠c):(p::l).lookup c=l.lookup c:=by rw[List.lookup_cons,Z85.mpr (Ne.symm h)]
theorem Q6{v:β}:((c,v)::l).lookup c=some v:=by rw[List.lookup_cons,Z87]
theorem Zbh(h:c≠g):∀l:List (Nat×β),(JZ g l).lookup c=l.lookup c
 | []=>rfl
 | (a,v)::l=>by
  by_cases ha:a=g
  ·rw[ha,Zrc,Zbh h l,Yd λq=>h q.symm]
  ·rw[Zn0 ha]
   by_cases hc:a=c
   ·rw[hc,Q6,Q6]
   ·rw[Yd hc,Yd hc,Zbh h l]
theorem Ys(h:c≠k):∀l:List (Nat×β),(QC k b l).lookup c=l.lookup c
 | []=>rfl
 | (a,v)::l=>by
  by_cases ha:a=k
  ·rw[ha,Zkw,Yd λq=>h q.symm,Yd λq=>h q.symm,Ys h l]
  ·rw[Zg5 ha]
   by_cases hc:a=c
   ·rw[hc,Q6,Q6]
   ·rw[Yd hc,Yd hc,Ys h l]
theorem Q5:∀l:List (Nat×β),k∈l.map (·.1)→(QC k b l).lookup k=some b
 | (a,v)::l,h=>by
  by_cases ha:a=k
  ·rw[ha,Zkw,Q6]
  ·rw[Zg5 ha,Yd ha];exact Q5 l ((Z8k.mp h).resolve_left λq=>ha q.symm)
theorem Jf:(QC k b l).map (·.1)=l.map (·.1):=by
 rw[QC,List.map_map]
 refine List.map_congr_left λp Z=>?_
 show(if p.1=k then(k,b)else p).1=p.1
 by_cases h:p.1=k
 ·rw[if_pos h,h]
 ·rw[if_neg h]
theorem Zce:c∈(JZ g l).map (·.1)↔c∈l.map (·.1)∧c≠g:=
 ⟨λh=>(Z8l.mp h).elim λp q=>⟨Z8l.mpr ⟨p,(List.mem_filter.mp q.1).1,q.2⟩,q.2▸bne_iff_ne.mp (List.mem_filter.mp q.1).2⟩,
  λh=>(Z8l.mp h.1).elim λp q=>Z8l.mpr ⟨p,List.mem_filter.mpr ⟨q.1,bne_iff_ne.mpr (q.2▸h.2)⟩,q.2⟩⟩
theorem Zu4(h:c∈l.map (·.1))(hn:(l.map (·.1)).Nodup):∃v,(c,v)∈l∧l.lookup c=some v:=by
 induction l with
 |nil=>exact nomatch h
 |cons p l ih=>
  by_cases hc:p.1=c
  ·exact⟨p.2,hc▸Z8g,by rw[←hc];exact Q6⟩
  ·obtain⟨v,h1,h2⟩:=ih ((Z8k.mp h).resolve_left λq=>hc q.symm) (Z88.mp hn).2
   exact⟨v,Z8h _ h1,(Yd hc).trans h2⟩
end
noncomputable def Zat(L:Fld→Nat)(k n:Nat)(f:Fld):Nat:=@Fld.casesOn (λZ=>Nat) f (L .h) (L .YY) (L .YC) (L .nodes) (L .ZX) (L .ZL) (L .ZP) (L .uab) (L .ZJ) (λi=>L (.lot i)) (L .merged) (L .ZI) (L .ZH) (L .known) (L .hab) (λc=>if c=k then n else L (.abv c)) (L .waiting) (L .rows)
section
variable{σ σ':St}{L L':Fld→Nat}{H H':HC}{k n c g:Nat}
theorem Za8:Zat L k n (.abv k)=n:=if_pos rfl
theorem Ze7(h:c≠k):Zat L k n (.abv c)=L (.abv c):=if_neg h
theorem Zmj{f:Fld}:f≠.abv k→Zat L k n f=L f:=@Fld.casesOn (λf=>f≠.abv k→Zat L k n f=L f) f (λZ=>rfl) (λZ=>rfl) (λZ=>rfl) (λZ=>rfl) (λZ=>rfl) (λZ=>rfl) (λZ=>rfl) (λZ=>rfl) (λZ=>rfl) (λZ Z=>rfl) (λZ=>rfl) (λZ=>rfl) (λZ=>rfl) (λZ=>rfl) (λZ=>rfl) (λc h=>Ze7 λq=>h (by rw[q])) (λZ=>rfl) (λZ=>rfl)
theorem Tr.gen(R:Rep σ L H)(f0:Fld)(h1:L' f0=σ.n)(h2:∀f,f≠f0→L' f=L f)(R2:Fld.h≠f0)(hn:σ'.n=σ.n+1)(Xy:∀f,f≠f0→act H' f→act H f)(h0:σ'.f σ.n=some (cont L' H' f0))
  (hv:∀f,f≠f0→act H' f→act H f→σ'.f (L f)=some (cont L' H' f)) (hfr:∀id,id<σ.n→(∀f,act H f→L f≠id)→σ'.f id=σ.f id):Tr σ L H σ' L' H' where
 rep:=⟨λf g hf hg e=>by
  by_cases q1:f=f0
  ·by_cases q2:g=f0
   ·rw[q1,q2]
   ·rw[q1,h1,h2 g q2]at e;exact absurd e.symm (Nat.ne_of_lt (R.lt g (Xy g q2 hg)))
  ·by_cases q2:g=f0
   ·rw[q2,h1,h2 f q1]at e;exact absurd e (Nat.ne_of_lt (R.lt f (Xy f q1 hf)))
   ·rw[h2 f q1,h2 g q2]at e;exact R.inj f g (Xy f q1 hf) (Xy g q2 hg) e,
  λf hf=>by
  rw[hn]
  by_cases q:f=f0
  ·rw[q,h1];exact Z79 _
  ·rw[h2 f q];exact Nat.lt_succ_of_lt (R.lt f (Xy f q hf)),
  λf hf=>by
  by_cases q:f=f0
  ·rw[q,h1];exact h0
  ·rw[h2 f q];exact hv f q hf (Xy f q hf)⟩
 n:=hn▸Nat.le_succ _
 fr:=hfr
 ids f hf:=by
  by_cases q:f=f0
  ·exact .inr (q▸h1▸Z70 _)
  ·exact .inl ⟨f,Xy f q hf,h2 f q⟩
 top:=h2 _ R2
theorem Jx{l:List (Nat×List Nat)}:Zfd (QJ L l) (nA c):=⟨rfl,λe he=>(Z8l.mp he).elim λp q=>q.2▸rfl⟩
theorem Zcn{e:ZA×ZA}{es:List (ZA×ZA)}{k:ZA}(h:e.1=k):YW (e::es) k=some e.2:=by show Option.map _ (List.find? _ _)=_;rw[List.find?_cons_of_pos (p:=λe:ZA×ZA=>decide (e.1=k)) (dT h)];rfl
theorem Zd3{e:ZA×ZA}{es:List (ZA×ZA)}{k:ZA}(h:e.1≠k):YW (e::es) k=YW es k:=by show Option.map _ (List.find? _ _)=_;rw[List.find?_cons_of_neg (p:=λe:ZA×ZA=>decide (e.1=k)) (by rw[dF h];exact Z86)];rfl
theorem Zc4:∀{l:List (Nat×List Nat)},c∈l.map (·.1)→YW (QJ L l) (nA c)=some (.ref (L (.abv c)))
 |p::l,h=>by
  by_cases hc:p.1=c
  ·rw[←hc];exact Zcn rfl
  ·exact(Zd3 λq=>hc (Zji q)).trans (Zc4 ((Z8k.mp h).resolve_left λq=>hc q.symm))
theorem Zk2{a b:Nat}(h:a≠b):nA a≠nA b:=λq=>h (Zji q)
theorem Zrh{l:List (Nat×List Nat)}:Vh (QJ L l) (nA g)=QJ L (JZ g l):=by
 rw[Vh,QJ,List.filter_map]
 refine Z81 (List.map _) (List.filter_congr λp Z=>?_)
 show(!decide (nA p.1=nA g))=(p.1 != g)
 by_cases h:p.1=g
 ·rw[h,nT rfl,bne_self_eq_false]
 ·rw[nF (Zk2 h),bne_iff_ne.mpr h]
theorem Zzq{l:List (Nat×List Nat)}{b:List Nat}(h:k∈l.map (·.1)):Xx (QJ L l) (nA k) (.ref n)=QJ (Zat L k n) (QC k b l):=by
 rw[Xx,if_pos (by rw[Zc4 h];rfl),QJ,QJ,QC,List.map_map,List.map_map]
 refine List.map_congr_left λp Z=>?_
 show(if nA p.1=nA k then(nA p.1,ZA.ref n)else(nA p.1,.ref (L (.abv p.1))))=(nA (if p.1=k then(k,b)else p).1,ZA.ref (Zat L k n (.abv (if p.1=k then(k,b)else p).1)))
 by_cases q:p.1=k
 ·rw[if_pos q,if_pos (by rw[q]),Za8,q]
 ·rw[if_neg q,if_neg (Zk2 q),Ze7 q]
noncomputable def K0(H:HC)(g k:Nat):HC:={ H with abv:=QC k (Zr H k++Zr H g) (JZ g H.abv) }
theorem Zhi:c∈(K0 H g k).abv.map (·.1)↔c∈H.abv.map (·.1)∧c≠g:=by show c∈(QC ..).map (·.1)↔_;rw[Jf];exact Zce
theorem Zyt(hc:c≠g)(hk:c≠k):Zr (K0 H g k) c=Zr H c:=Z81 (λo:Option (List Nat)=>o.getD []) ((Ys hk _).trans (Zbh hc H.abv))
theorem Zvh(hk:k∈H.abv.map (·.1))(hne:k≠g):Zr (K0 H g k) k=Zr H k++Zr H g:=Z81 (λo:Option (List Nat)=>o.getD []) (Q5 _ (Zce.mpr ⟨hk,hne⟩))
theorem Tr.abv(R:Rep σ L H)(hk:k∈H.abv.map (·.1))(hne:k≠g):
  Tr σ L H (((σ.put (L .hab) (.dict (Vh (QJ L H.abv) (nA g)))).new (.list ((Zr H k).map nA++(Zr H g).map nA))).put (L .hab) (.dict (Xx (Vh (QJ L H.abv) (nA g)) (nA k) (.ref σ.n)))) (Zat L k σ.n) (K0 H g k):=by
 rw[Zrh,Zzq (b:=Zr H k++Zr H g) (Zce.mpr ⟨hk,hne⟩)]
 have RO:L .hab<σ.n:=R.lt .hab trivial
 refine Tr.gen R (.abv k) Za8 (λf=>Zmj) (λq=>nomatch q) rfl (λf=>@Fld.casesOn (λf=>f≠.abv k→act (K0 H g k) f→act H f) f (λZ h=>h) (λZ h=>h) (λZ h=>h) (λZ h=>h) (λZ h=>h) (λZ h=>h) (λZ h=>h) (λZ h=>h) (λZ h=>h) (λZ Z h=>h) (λZ h=>h) (λZ h=>h) (λZ h=>h) (λZ h=>h) (λZ h=>h) (λc Z h=>(Zhi.mp h).1) (λZ h=>h) λZ h=>h) ?_ (λf q hf' hf=>?_) λid h1 h2=>?_
 ·rw[Z0 (Nat.ne_of_gt RO)]
  refine(Yp ..).trans ?_
  show _=some (ZK.list ((Zr (K0 H g k) k).map nA))
  rw[Zvh hk hne,List.map_append]
 ·by_cases e:f=.hab
  ·rw[e];exact Zs ..
  ·have ne:L f≠L .hab:=λz=>e (R.inj f .hab hf trivial z)
   refine(Z0 ne).trans ((Yz (σ:=σ.put _ _) (R.lt f hf)).trans ((Z0 ne).trans ((R.val f hf).trans (Z81 some ?_))))
   clear ne hf
   revert q hf' e
   exact@Fld.casesOn (λf=>f≠.abv k→act (K0 H g k) f→f≠.hab→cont L H f=cont (Zat L k σ.n) (K0 H g k) f) f (λZ Z Z=>rfl) (λZ Z Z=>rfl) (λZ Z Z=>rfl) (λZ Z Z=>rfl) (λZ Z Z=>rfl) (λZ Z Z=>rfl) (λZ Z Z=>rfl) (λZ Z Z=>rfl) (λZ Z Z=>rfl) (λZ Z Z Z=>rfl) (λZ Z Z=>rfl) (λZ Z Z=>rfl) (λZ Z Z=>rfl) (λZ Z Z=>rfl) (λZ Z q=>absurd rfl q)
    (λc q h Z=>Z81 (λu=>ZK.list (List.map nA u)) (Zyt (Zhi.mp h).2 λz=>q (by rw[z])).symm) (λZ Z Z=>rfl) (λZ Z Z=>rfl)
 ·have ne:id≠L .hab:=λz=>h2 .hab trivial z.symm
  exact(Z0 ne).trans ((Yz (σ:=σ.put _ _) h1).trans (Z0 ne))
end
end
section
section
variable{j:Nat}{σ σ':St}{L:Fld→Nat}{H H':HC}
structure Room(H:HC):Prop where
 e:H.ZI.length≤15000
 w:H.waiting.length≤15000
 f:H.ZH.length≤15000
theorem Ku{n:Nat}(h:n≤15000):n≤16000:=Z7z h ble
theorem Core.VE(O:Core H)(a b:Nat)(r:ZA):Core (Zsn H a b r):=⟨O.lw,O.ld,O.lp,O.ll,O.down,O.kids,O.nodup,O.roots,O.QG,O.Xp,O.QB,O.YU,O.count,O.sum,O.XF,O.QZ⟩
noncomputable def Qy(H:HC)(a b:Nat)(r:ZA)(g k:Nat):HC:=⟨H.nodes,H.ZL,H.ZP,H.par.set g k,H.ZJ.set k (Qe H k++Qe H g),H.merged++[(k,g)],H.ZI++[(a,b,r)],H.ZH++[H.ZI.length],H.known,QC k (Zr H k++Zr H g) (JZ g H.abv),H.waiting++Zr H g,H.rows⟩
theorem Zyr(H:HC)(a b:Nat)(r:ZA)(g k:Nat):K0 (Z2d (Zpc (Zzw (Zsn H a b r) g k) H.ZI.length) (Zr H g)) g k=Qy H a b r g k:=rfl
theorem Core.Vc(O:Core H)(c:Nat):(Zr H c).length≤2*H.nodes.length:=by
 unfold Zr
 cases e:H.abv.lookup c with
 |none=>exact Z8d _
 |some l=>exact Z7z (Zkh (f:=λp:Nat×List Nat=>p.2.length) (J2 e)) O.sum
theorem Zpv(O:Core H)(S:Yv H)(c:Nat):(Zr H c).length≤126:=Z7z (O.Vc c) (Nat.mul_le_mul_left 2 S.n)
theorem Z26(O:Core H)(S:Yv H):H.abv.length≤16000:=Z7z (O.count▸Z72 _ _) (X3 S.n)
theorem Core.Xv(O:Core H){a b x y:Nat}(ha:a<H.nodes.length)(hb:b<H.nodes.length)(hx:find H.par a=x)(hy:find H.par b=y)(hne:x≠y):min x y∈H.abv.map (·.1)∧max x y∈H.abv.map (·.1)∧min x y<max x y:=by
 have hrx:x∈H.abv.map (·.1):=hx▸O.JL ha
 have hry:y∈H.abv.map (·.1):=hy▸O.JL hb
 by_cases h:x≤y
 ·rw[Nat.min_eq_left h,Nat.max_eq_right h];exact⟨hrx,hry,Nat.lt_of_le_of_ne h hne⟩
 ·have h':=Nat.not_le.mp h;rw[Nat.min_eq_right (Z8e h'),Nat.max_eq_left (Z8e h')];exact⟨hry,hrx,h'⟩
theorem Zv7{ν:Fm}{r:ZA}{a b:Nat}(R:Rep σ L H)(B:Room H)(hs:ν "self"=some (.ref (L .h)))(ha:ν "a"=some (nA a))(hb:ν "b"=some (nA b))(hr:ν "reason"=some r):
  ExS j (.exp (.mth (.att QQ0 "edges") "append" [.tup [YG,.loc "b",Xe]])) ν σ .next ν (σ.put (L .ZI) (.list (H.ZI.map Zvz++[.tup [nA a,nA b,r]]))):=
 Qb (Qr (Z6 (Zb hs) R.ZO) (.append R.ZI) (es1 (Q3 (es3 (Zb ha) (Zb hb) (Zb hr)))) (.append R.ZI (Zh (Ku B.e))))
theorem Z6y{σ:St}{i k:Nat}{o o' v:ZK}(hl:i<σ.n)(hne:i≠k)(h:σ.f i=some v):((σ.put k o).new o').f i=some v:=(Yz (σ:=σ.put k o) hl).trans ((Z0 hne).trans h)
theorem Z37{σ:St}{k:Nat}{o o':ZK}(hl:k<σ.n):((σ.put k o).new o').f k=some o:=(Yz (σ:=σ.put k o) hl).trans (Zs ..)
theorem Ztz(R:Rep σ L H)(O:Core H)(S:Yv H)(B:Room H){a b x y:Nat}{r:ZA}(ha:a<H.nodes.length)(hb:b<H.nodes.length)(hx:find H.par a=x)(hy:find H.par b=y)(hne:x≠y):
  ∃σ' L',Zq (j+3) "Heap.join" [.ref (L .h),nA a,nA b,r] σ (.bool true) σ'∧Tr σ L H σ' L' (Qy H a b r (max x y) (min x y)):=by
 have T1:=Tr.VE R a b r
 obtain⟨σ2,hm,T2⟩:=Ztt (j:=j) T1.rep (O.VE a b r) ⟨S.n,S.r⟩ ha hb hx hy hne
 obtain⟨hk,hg,hlt⟩:=O.Xv ha hb hx hy hne
 generalize min x y=k at*
 generalize max x y=g at*
 have T3:=Tr.ZH T2.rep H.ZI.length
 have T4:=Tr.wait T3.rep (Zr H g)
 have T5:=Tr.abv (g:=g) T4.rep hk (Nat.ne_of_lt hlt)
 refine⟨_,_,?_,Zyr H a b r g k▸(((T1.trans T2).trans T3).trans T4).trans T5⟩
 refine Zk Zfu rfl (Zc (Zv7 R B (by kernel_rfl) (by kernel_rfl) (by kernel_rfl) (by kernel_rfl)) (Zc (Yk (Y7 (Z6 ZD T1.rep.ZO) T1.rep.JG (es2 ZD ZD) hm))
  (Zc (Zn (Zm ZD Zf (.isT [nA k,nA g]))) (Zc (Zmk ZD (.tup [nA k,nA g]) rfl) ?_))))
 refine Zc (Qb (Qr (Z6 ZD T2.rep.ZO) (.append T2.rep.ZH) (es1 ((Yu (Y1 (es1 (Z6 ZD T2.rep.ZO)) (.len (.lst (.ref T2.rep.ZI)) (Zh ?_))) Zf (.VQ _ 1)).eqv (w:=nA H.ZI.length) ?_)) (.append T2.rep.ZH (Zh (Ku B.f))))) ?_
 ·show(H.ZI++[_]).length≤_
  rw[Z8j];exact Z7z (Z77 B.e _) ble
 ·rw[Z8i]
  show ZA.int (((H.ZI++[(a,b,r)]).length:Nat)-1)=_
  rw[Z8j,List.length_singleton]
  exact Z81 ZA.int (Int.add_sub_cancel (H.ZI.length:Int) 1)
 have gw:L (.abv g)≠L .waiting:=T3.rep.ne hg trivial λq=>nomatch q
 refine Zc (Qb (Qr (Z6 ZD T3.rep.ZO) (.extend T3.rep.waiting) (es1 (Yx (Z6 ZD T3.rep.ZO) ZD (.dict T3.rep.hab Jx (Zc4 hg)))) (.extend T3.rep.waiting (T3.rep.abv hg) gw
  (by rw[Z8i,Z8i];exact Z7z (Nat.add_le_add B.w (Zpv O S g)) ble)))) ?_
 have kab:L (.abv k)≠L .hab:=T4.rep.ne hk trivial λq=>nomatch q
 have gab:L (.abv g)≠L .hab:=T4.rep.ne hg trivial λq=>nomatch q
 have hab:L .h≠L .hab:=T4.rep.ne trivial trivial λq=>nomatch q
 refine Zc (Zr2 (Z7l (Yx (Z6 ZD T4.rep.ZO) ZD (.dict T4.rep.hab Jx (Zc4 hk)))
  (Qr (Z6 ZD T4.rep.ZO) (.Uy T4.rep.hab) (es1 ZD) (.Uy T4.rep.hab Jx rfl (Zh (l:=H.abv) (Z26 O S)) (Zc4 hg)))
  (.ref ((Z0 kab).trans (T4.rep.abv hk))) (.ref ((Z0 gab).trans (T4.rep.abv hg))) (by rw[Z8i,Z8i];exact Z7z (Nat.add_le_add (Zpv O S k) (Zpv O S g)) ble))
  (Z6 ZD (Z6y (T4.rep.lt .h trivial) hab T4.rep.ZO)) ZD
  (.dict (k:=nA k) (Z37 (T4.rep.lt .hab trivial)) (by rw[Zrh];exact Jx) (Z7z (List.length_filter_le _ _) (Zh (l:=H.abv) (Z26 O S))))) (Y6 (Zf))
theorem Zru(R:Rep σ L H)(O:Core H)(S:Yv H)(B:Room H){a b x:Nat}{r:ZA}(ha:a<H.nodes.length)(hb:b<H.nodes.length)(hx:find H.par a=x)(hy:find H.par b=x):
  ∃σ',Zq (j+3) "Heap.join" [.ref (L .h),nA a,nA b,r] σ (.bool false) σ'∧Tr σ L H σ' L (Zsn H a b r):=
 have T1:=Tr.VE R a b r
 ⟨_,Zk Zfu rfl (Zc (Zv7 R B (by kernel_rfl) (by kernel_rfl) (by kernel_rfl) (by kernel_rfl)) (Zc (Yk (Y7 (Z6 ZD T1.rep.ZO) T1.rep.JG (es2 ZD ZD) (Zmh T1.rep (O.VE a b r) ⟨S.n,S.r⟩ ha hb hx hy)))
  (Qz (Zbr (Zm ZD Zf .isN) (Zau Zf))))),T1⟩
end
end
section
section
variable{β:Type}{F F':Nat×β→Nat}{b v:β}{l:List (Nat×β)}{g k:Nat}
theorem Zfc{p:Nat×β}(h:p∈l):p.1∈l.map (·.1):=List.mem_map_of_mem h
theorem Zu3{q p:Nat×β}(h1:q.1∉l.map (·.1))(hp:p∈l):p.1≠q.1:=λe=>h1 (by rw[←e];exact Zfc hp)
theorem Zy6(h:g∉l.map (·.1)):JZ g l=l:=List.filter_eq_self.mpr λr hr=>bne_iff_ne.mpr λq=>h (by rw[←q];exact Zfc hr)
theorem Zxx(h:k∉l.map (·.1)):QC k b l=l:=by
 refine(List.map_congr_left (g:=id) λr hr=>?_).trans (List.map_id _)
 show(if r.1=k then(k,b)else r)=r
 rw[if_neg λq:r.1=k=>h (by rw[←q];exact Zfc hr)]
theorem Zki:∀{l:List (Nat×β)},(l.map (·.1)).Nodup→(g,v)∈l→((JZ g l).map F).sum+F (g,v)=(l.map F).sum
 |q::l,hn,h=>by
  obtain⟨h1,h2⟩:=Z88.mp hn
  rw[Z8o,List.sum_cons]
  rcases Z8k.mp h with rfl | h
  ·rw[Zrc,Zy6 h1,Nat.add_comm]
  ·rw[Zn0 (Zu3 h1 h).symm,Z8o,List.sum_cons,Z8a,Zki h2 h]
theorem Z16(hF:∀q∈l,F' q=F q):(l.map F').sum=(l.map F).sum:=by rw[List.map_congr_left hF]
theorem Zkg:∀{l:List (Nat×β)},(l.map (·.1)).Nodup→(k,v)∈l→(∀q∈l,q.1≠k→F' q=F q)→((QC k b l).map F').sum+F (k,v)=(l.map F).sum+F' (k,b)
 |q::l,hn,h,hF=>by
  obtain⟨h1,h2⟩:=Z88.mp hn
  rw[Z8o,List.sum_cons]
  rcases Z8k.mp h with rfl | h
  ·rw[Zkw,Zxx h1,Z8o,List.sum_cons,Z16 λq hq=>hF q (Z8h _ hq) (Zu3 h1 hq),Nat.add_right_comm,Nat.add_comm (F' _),Nat.add_right_comm]
  ·have ne:q.1≠k:=(Zu3 h1 h).symm
   rw[Zg5 ne,Z8o,List.sum_cons,hF q Z8g ne,Z8a,Z8a,Zkg h2 h λr hr=>hF r (Z8h _ hr)]
theorem Zui(h:(l.map (·.1)).Nodup):((JZ g l).map (·.1)).Nodup:=List.Nodup.sublist (List.Sublist.map _ List.filter_sublist) h
end
theorem Zpy{α:Type}(l:List α):(l.map λZ=>1).sum=l.length:=by rw[List.map_const',List.sum_replicate_nat,Nat.mul_one]
section
variable{H:HC}{a b g k:Nat}{r:ZA}
theorem Zqj(O:Core H){i n:Nat}(h:n∈Qe H i):n<H.nodes.length:=by
 unfold Qe at h
 cases e:H.ZJ[i]? with
 |none=>rw[e]at h;exact nomatch h
 |some l=>rw[e]at h;exact O.XF l (Z89 e) n h
theorem Zf9(O:Core H){c n:Nat}(h:n∈Zr H c):n<H.nodes.length:=by
 unfold Zr at h
 cases e:H.abv.lookup c with
 |none=>rw[e]at h;exact nomatch h
 |some l=>rw[e]at h;exact O.Xp _ (J2 e) n h
theorem Core.join(O:Core H)(hg:g∈H.abv.map (·.1))(hk:k∈H.abv.map (·.1))(hlt:k<g):Core (Qy H a b r g k):=by
 obtain⟨vg,g1,g2⟩:=Zu4 hg O.QG
 obtain⟨vk,k1,k2⟩:=Zu4 hk O.QG
 have hne:=Nat.ne_of_lt hlt
 have ug:Zr H g=vg:=Z81 (λo:Option (List Nat)=>o.getD []) g2
 have uk:Zr H k=vk:=Z81 (λo:Option (List Nat)=>o.getD []) k2
 have hgl:g<H.par.length:=Zaw ((O.roots g).mp hg)
 have hkl:k<H.ZJ.length:=by rw[O.ll,←O.lp];exact Zaw ((O.roots k).mp hk)
 have hkd:(k,vk)∈JZ g H.abv:=List.mem_filter.mpr ⟨k1,bne_iff_ne.mpr hne⟩
 have hnd:=Zui (g:=g) O.QG
 exact
  {lw:=O.lw,ld:=O.ld,kids:=O.kids,nodup:=O.nodup,YU:=O.YU
   lp:=(List.length_set ..).trans O.lp
   ll:=(List.length_set ..).trans O.ll
   down:=λi p hp=>by
    rw[show(Qy H a b r g k).par=H.par.set g k from rfl,List.getElem?_set]at hp
    by_cases e:g=i
    ·rw[if_pos e,if_pos hgl]at hp;exact e▸Z8q hp▸Z8e hlt
    ·rw[if_neg e]at hp;exact O.down i p hp
   roots:=λc=>by
    rw[show(Qy H a b r g k).par=H.par.set g k from rfl,List.getElem?_set]
    refine(Zhi (H:=H)).trans ?_
    by_cases e:g=c
    ·rw[if_pos e,if_pos hgl];exact⟨λh=>absurd e.symm h.2,λh=>absurd (Z8q h) (e▸hne)⟩
    ·rw[if_neg e];exact⟨λh=>(O.roots c).mp h.1,λh=>⟨(O.roots c).mpr h,Ne.symm e⟩⟩
   QG:=by show((QC ..).map (·.1)).Nodup;rw[Jf];exact hnd
   Xp:=λp hp n hn=>by
    obtain⟨q,hq,rfl⟩:=Z8l.mp hp
    by_cases e:q.1=k
    ·rw[if_pos e]at hn
     exact(List.mem_append.mp hn).elim (λh=>Zf9 (H:=H) O h) λh=>Zf9 (H:=H) O h
    ·rw[if_neg e]at hn;exact O.Xp q (List.mem_filter.mp hq).1 n hn
   QB:=λn hn=>(List.mem_append.mp hn).elim (O.QB n) λh=>Zf9 O h
   count:=by
    show(H.merged++[(k,g)]).length+(QC ..).length=_
    have:=Zki (F:=λZ=>1) O.QG g1
    rw[Zpy,Zpy]at this
    rw[QC,Z8i,Z8j,List.length_singleton,Z8a,Nat.add_comm 1]
    exact(Z81 _ this).trans O.count
   sum:=by
    show((QC k (Zr H k++Zr H g) (JZ g H.abv)).map λp=>p.2.length).sum≤_
    have h1:=Zki (F:=λp:Nat×List Nat=>p.2.length) O.QG g1
    have h2:=Zkg (F:=λp:Nat×List Nat=>p.2.length) (F':=λp:Nat×List Nat=>p.2.length) (b:=Zr H k++Zr H g) hnd hkd (λq Z Z=>rfl)
    rw[Z8j,ug,uk,Nat.add_comm vk.length,←Z8a,h1]at h2
    rw[ug,uk,Nat.add_right_cancel h2]
    exact O.sum
   XF:=λl hl n hn=>(List.mem_or_eq_of_mem_set hl).elim (λh=>O.XF l h n hn) λh=>by
    rw[h]at hn
    exact(List.mem_append.mp hn).elim (λh=>Zqj (H:=H) O h) λh=>Zqj (H:=H) O h
   QZ:=by
    show((QC k (Zr H k++Zr H g) (JZ g H.abv)).map λp=>(Qe (Zld H g k) p.1).length).sum=_
    have h1:=Zki (F:=λp:Nat×List Nat=>(Qe H p.1).length) O.QG g1
    have h2:=Zkg (F:=λp:Nat×List Nat=>(Qe H p.1).length) (F':=λp:Nat×List Nat=>(Qe (Zld H g k) p.1).length) (b:=Zr H k++Zr H g) hnd hkd
     (λq Z hq=>by rw[Zld,Zd0 (g:=g) hkl,if_neg hq])
    have h3:(Qe (Zld H g k) k).length=(Qe H g).length+(Qe H k).length:=by rw[Zld,Zd0 (g:=g) hkl,if_pos rfl,Z8j,Nat.add_comm]
    rw[h3,←Z8a,h1]at h2
    exact(Nat.add_right_cancel h2).trans O.QZ }
end
end
noncomputable def tbM(m:Nat):SetTable:=⟨m,#[],#[],0,true,0,true⟩
noncomputable def adv(m:Nat)(p:SetTable.Probe):SetTable.Probe:=(tbM m).advance p
noncomputable def rs(m:Nat)(x:Nat×Nat):SetTable.Probe:=⟨x.1,SetTable.runEnd m x.1-x.1,x.1,x.2,none⟩
noncomputable def lp0(m:Nat)(h:Int):Nat×Nat:=(SetTable.bits h % (m+1),SetTable.bits h)
noncomputable def stp(m:Nat)(p:SetTable.Probe)(n:Nat):SetTable.Probe:=@Nat.rec (λZ=>SetTable.Probe) p (λZ q=>adv m q) n
noncomputable def lps(m:Nat)(x:Nat×Nat)(n:Nat):Nat×Nat:=@Nat.rec (λZ=>Nat×Nat) x (λZ y=>SetTable.leap m y.1 y.2) n
theorem Zto(m:Nat)(p:SetTable.Probe)(a:Nat):∀b,stp m p (a+b)=stp m (stp m p a) b
 |0=>rfl
 |b+1=>Z81 (adv m) (Zto m p a b)
theorem Zo2(m:Nat)(x:Nat×Nat)(a:Nat):∀b,lps m x (a+b)=lps m (lps m x a) b
 |0=>rfl
 |b+1=>Z81 (λy:Nat×Nat=>SetTable.leap m y.1 y.2) (Zo2 m x a b)
theorem Zyf(m:Nat)(x:Nat×Nat)(a:Nat):lps m x (a+1)=lps m (SetTable.leap m x.1 x.2) a:=(Z81 (lps m x) (Nat.add_comm a 1)).trans (Zo2 m x 1 a)
theorem Z23(m j k i q:Nat):adv m ⟨j,k+1,i,q,none⟩=⟨j+1,k,i,q,none⟩:=by
 unfold adv SetTable.advance
 rw[if_pos (Nat.succ_pos k)];rfl
theorem Zzo(m j i q:Nat):adv m ⟨j,0,i,q,none⟩=rs m (SetTable.leap m i q):=by
 unfold adv SetTable.advance
 rw[if_neg (Nat.lt_irrefl 0)];rfl
theorem Ztm(m i q:Nat):∀(d j k:Nat),stp m ⟨j,d+k,i,q,none⟩ d=⟨j+d,k,i,q,none⟩
 |0,j,k=>by rw[Nat.zero_add];rfl
 |d+1,j,k=>by
  show adv m (stp m ⟨j,d+1+k,i,q,none⟩ d)=_
  rw[Z8a d 1 k,Nat.add_comm 1 k,Ztm m i q d j (k+1),Z23];rfl
theorem Z3l(m:Nat)(x:Nat×Nat):stp m (rs m x) (SetTable.runEnd m x.1-x.1+1)=rs m (SetTable.leap m x.1 x.2):=by
 show adv m (stp m ⟨x.1,SetTable.runEnd m x.1-x.1+0,x.1,x.2,none⟩ (SetTable.runEnd m x.1-x.1))=_
 rw[Ztm,Zzo]
theorem Z33(m i:Nat):SetTable.runEnd m i-i≤9:=by
 unfold SetTable.runEnd
 split<;>lia
theorem Ztn(m:Nat):∀(k:Nat)(x:Nat×Nat),∃n,n≤10*k∧stp m (rs m x) n=rs m (lps m x k)
 |0,x=>⟨0,Z8d _,rfl⟩
 |k+1,x=>by
  obtain⟨n,h1,h2⟩:=Ztn m k (SetTable.leap m x.1 x.2)
  have:=Z33 m x.1
  exact⟨SetTable.runEnd m x.1-x.1+1+n,by lia,by rw[Zto,Z3l,h2,Zyf]⟩
def Zkb(m:Nat):Prop:=m=7
noncomputable def it(m i k:Nat):Nat:=@Nat.rec (λZ=>Nat) i (λZ y=>(y*5+1) % (m+1)) k
noncomputable def orb(m:Nat):Nat→List Nat
 |0=>[0]
 |k+1=>@List.casesOn Nat (λZ=>List Nat) (orb m k) [] λy l=>((y*5+1) % (m+1))::y::l
theorem Zub(m:Nat):∀k,∃l,orb m k=it m 0 k::l∧∀c∈it m 0 k::l,∃b,b≤k∧it m 0 b=c
 |0=>⟨[],rfl,λc hc=>⟨0,Z70 _,(Z8m.mp hc).symm⟩⟩
 |k+1=>by
  obtain⟨l,h1,h2⟩:=Zub m k
  refine⟨it m 0 k::l,by unfold orb;rw[h1];rfl,λc hc=>?_⟩
  rcases Z8k.mp hc with rfl | hc
  ·exact⟨k+1,Z70 _,rfl⟩
  ·exact(h2 c hc).elim λb hb=>⟨b,Nat.le_succ_of_le hb.1,hb.2⟩
theorem Zqr(m i a:Nat):∀b,it m i (a+b)=it m (it m i a) b
 |0=>rfl
 |b+1=>Z81 (λy=>(y*5+1) % (m+1)) (Zqr m i a b)
noncomputable def Z39(m:Nat):Bool:=(List.range (m+1)).all ((orb m m).contains ·)&&((orb m (m+1)).head? == some 0)
theorem Z1n{m:Nat}(h:Zkb m):Z39 m=true:=by
 rw[show m=7 from h];kernel_rfl
theorem Zym{m:Nat}(h:Zkb m){i c:Nat}(hi:i≤m)(hc:c≤m):∃k,k≤m+1∧it m i k=c:=by
 have ho:=Z1n h
 unfold Z39 at ho
 obtain⟨h1,h2⟩:=Bool.and_eq_true_iff.mp ho
 have hm:∀x,x≤m→∃b,b≤m∧it m 0 b=x:=λx hx=>by
  obtain⟨l,e1,e2⟩:=Zub m m
  exact e2 x (e1▸List.contains_iff_mem.mp (List.all_eq_true.mp h1 x (List.mem_range.mpr (Nat.lt_succ_of_le hx))))
 have h0:it m 0 (m+1)=0:=by
  obtain⟨l,e1,e2⟩:=Zub m (m+1)
  rw[e1]at h2
  exact Z8q (Z84 h2)
 obtain⟨a,ha,rfl⟩:=hm i hi
 obtain⟨b,hb,rfl⟩:=hm c hc
 by_cases hab:a≤b
 ·exact⟨b-a,by lia,by rw[←Zqr,Nat.add_sub_of_le hab]⟩
 ·refine⟨m+1-a+b,by lia,?_⟩
  rw[Zqr,←Zqr m 0 a,show a+(m+1-a)=m+1 by lia,h0]
theorem Z48(m:Nat)(x:Nat×Nat):∀n,(lps m x n).2=x.2 / 32 ^ n
 |0=>by rw[Nat.pow_zero,Nat.div_one];rfl
 |n+1=>by
  show(lps m x n).2 / 32=_
  rw[Z48 m x n,Nat.div_div_eq_div_mul,Nat.pow_succ]
theorem Zqi(m i:Nat):∀n,lps m (i,0) n=(it m i n,0)
 |0=>rfl
 |n+1=>by
  show SetTable.leap m (lps m (i,0) n).1 (lps m (i,0) n).2=_
  rw[Zqi m i n];unfold SetTable.leap;rw[Nat.zero_div,Nat.add_zero];rfl
theorem Z49(m:Nat)(x:Nat×Nat)(n:Nat):(lps m x (n+1)).1≤m:=Z8f (Nat.mod_lt _ (Nat.succ_pos m))
theorem Z2t(h:Int):SetTable.bits h<2 ^ 64:=by unfold SetTable.bits;lia
theorem Z7o{m:Nat}(hm:Zkb m)(h:Int){c:Nat}(hc:c≤m):∃k,k<SetTable.turns m∧(lps m (lp0 m h) k).1=c:=by
 have h0:(lps m (lp0 m h) 13).2=0:=(Z48 m _ 13).trans (Nat.div_eq_of_lt (Nat.lt_trans (Z2t h) (by decide)))
 obtain⟨k,hk,e⟩:=Zym hm (i:=(lps m (lp0 m h) 13).1) (Z49 m _ 12) hc
 refine⟨13+k,by unfold SetTable.turns;lia,?_⟩
 have:lps m (lp0 m h) 13=((lps m (lp0 m h) 13).1,0):=by rw[←h0]
 rw[Zo2,this,Zqi];exact e
theorem Zb2{α:Type}[DecidableEq α]:∀{l m:List α},l.Nodup→(∀x∈l,x∈m)→l.length≤m.length
 | [],m,_,_=>Z8d _
 |a::l,m,h,hs=>by
  have ha:a∈m:=hs a Z8g
  have ih:=Zb2 (l:=l) (m:=m.erase a) (Z88.mp h).2 λx hx=>
   have hne:x≠a:=λe=>(Z88.mp h).1 (e▸hx)
   (List.mem_erase_of_ne hne).mpr (hs x (Z8h _ hx))
  rw[List.length_erase_of_mem ha]at ih
  have:=List.length_pos_of_mem ha
  rw[Z8p];lia
theorem hole{S:List Nat}{m:Nat}(h:S.length≤m):∃c,c≤m∧c∉S:=Classical.byContradiction λq=>by
 have:=Zb2 (m:=S) (List.nodup_range (n:=m+1)) λx hx=>Classical.byContradiction λhn=>q ⟨x,Z8f (List.mem_range.mp hx),hn⟩
 rw[List.length_range]at this
 lia
structure Zcj(m:Nat)(h:Int)(S:Nat→Prop)(n:Nat):Prop where
 lt:n<10*SetTable.turns m
 free:¬S (stp m (rs m (lp0 m h)) n).j
 taken:∀k,k<n→S (stp m (rs m (lp0 m h)) k).j
theorem least{P:Nat→Prop}:∀n,P n→∃k,k≤n∧P k∧∀i,i<k→¬P i
 |0,h=>⟨0,Z70 _,h,λZ h=>nomatch h⟩
 |n+1,h=>Classical.byCases (λq:∃i,i≤n∧P i=>q.elim λi hi=>let⟨k,h1,h2⟩:=least i hi.2;⟨k,by lia,h2⟩) λq=>⟨n+1,Z70 _,h,λi hi hp=>q ⟨i,Z8f hi,hp⟩⟩
theorem Zyx{m:Nat}{h:Int}{S:Nat→Prop}{n:Nat}(hn:n<10*SetTable.turns m)(hf:¬S (stp m (rs m (lp0 m h)) n).j):∃k,k≤n∧Zcj m h S k:=by
 obtain⟨k,h1,h2,h3⟩:=least (P:=λn=>¬S (stp m (rs m (lp0 m h)) n).j) n hf
 exact⟨k,h1,Z74 h1 hn,h2,λi hi=>Classical.not_not.mp (h3 i hi)⟩
theorem first{m:Nat}(hm:Zkb m)(h:Int){S:List Nat}(hS:S.length≤m):∃n,Zcj m h (·∈S) n:=by
 obtain⟨c,hc,hn⟩:=hole hS
 obtain⟨k,hk,e⟩:=Z7o hm h hc
 obtain⟨n,h1,h2⟩:=Ztn m k (lp0 m h)
 obtain⟨k,Z,hk⟩:=Zyx (m:=m) (h:=h) (S:=(·∈S)) (n:=n) (by lia) (by rw[h2];show(lps m (lp0 m h) k).1∉S;rwa[e])
 exact⟨k,hk⟩
section
abbrev K5(xs:Array Nat):Prop:=xs.toList.Pairwise (· < ·)
theorem K5.lt{xs:Array Nat}(h:K5 xs){i k a b:Nat}(hi:xs[i]? = some a)(hk:xs[k]? = some b)(hik:i<k):a<b:=by
 rw[←Z8s]at hi hk
 obtain⟨h1,e1⟩:=Z8w.mp hi
 obtain⟨h2,e2⟩:=Z8w.mp hk
 exact e1▸e2▸List.pairwise_iff_getElem.mp h i k h1 h2 hik
theorem Z46{lo hi:Nat}(h:lo<hi):lo≤(lo+hi) / 2:=by lia
theorem Z45{lo hi:Nat}(h:lo<hi):(lo+hi) / 2<hi:=by lia
theorem Zlx{xs:Array Nat}{j:Nat}(hr:K5 xs):∀(fuel lo hi:Nat),lo≤hi→hi≤xs.size→hi-lo≤fuel→(∀i a,i<lo→xs[i]? = some a→a<j)→(∀i a,hi≤i→xs[i]? = some a→j≤a)→
  SetTable.below.go xs j fuel lo hi≤xs.size∧(∀i a,i<SetTable.below.go xs j fuel lo hi→xs[i]? = some a→a<j)∧∀i a,SetTable.below.go xs j fuel lo hi≤i→xs[i]? = some a→j≤a
 |0,lo,hi,h1,h2,h3,h4,h5=>by
  have:lo=hi:=Nat.le_antisymm h1 (Nat.sub_eq_zero_iff_le.mp (Nat.le_zero.mp h3))
  subst this
  exact⟨h2,h4,h5⟩
 |fuel+1,lo,hi,h1,h2,h3,h4,h5=>by
  by_cases hlt:lo<hi
  ·have g1:=Z46 hlt
   have g2:=Z45 hlt
   have eq:SetTable.below.go xs j (fuel+1) lo hi=if xs.getD ((lo+hi) / 2) j<j then SetTable.below.go xs j fuel ((lo+hi) / 2+1) hi else SetTable.below.go xs j fuel lo ((lo+hi) / 2):=if_pos hlt
   rw[eq]
   generalize(lo+hi) / 2=m at g1 g2
   have hx:xs[m]? = some (xs.getD m j):=by rw[Array.getD_eq_getD_getElem?,Z8t (Z73 g2 h2)];rfl
   by_cases hd:xs.getD m j<j
   ·rw[if_pos hd]
    refine Zlx hr fuel (m+1) hi g2 h2 (Z8f (Z73 (Nat.sub_lt_sub_left (Z74 g1 g2) (Nat.lt_succ_of_le g1)) h3)) (λi a hq ha=>?_) h5
    by_cases e:i=m
    ·rw[e,hx]at ha;exact Z8q ha▸hd
    ·exact Nat.lt_trans (hr.lt ha hx (Nat.lt_of_le_of_ne (Z8f hq) e)) hd
   ·rw[if_neg hd]
    refine Zlx hr fuel lo m g1 (Z7z (Z8e g2) h2) (Z8f (Z73 (Nat.sub_lt_sub_right g1 g2) h3)) h4 λi a hq ha=>?_
    by_cases e:i=m
    ·rw[e,hx]at ha;exact Z8q ha▸Nat.not_lt.mp hd
    ·exact Z7z (Nat.not_lt.mp hd) (Z8e (hr.lt hx ha (Nat.lt_of_le_of_ne hq (Ne.symm e))))
  ·have eq:SetTable.below.go xs j (fuel+1) lo hi=lo:=if_neg hlt
   have:lo=hi:=Nat.le_antisymm h1 (Nat.not_lt.mp hlt)
   subst this
   rw[eq]
   exact⟨h2,h4,h5⟩
theorem Zgl{xs:Array Nat}(hr:K5 xs)(j:Nat):SetTable.below xs j≤xs.size∧(∀i a,i<SetTable.below xs j→xs[i]? = some a→a<j)∧∀i a,SetTable.below xs j≤i→xs[i]? = some a→j≤a:=
 Zlx hr xs.size 0 xs.size (Z8d _) (Z70 _) (Z70 _) (λZ Z h=>nomatch h) λi a h e=>absurd (Array.getElem?_eq_some_iff.mp e).1 (Nat.not_lt.mpr h)
theorem Zzn{xs:Array Nat}(hr:K5 xs){i j:Nat}(h:xs[i]? = some j):SetTable.below xs j=i:=by
 obtain⟨h1,h2,h3⟩:=Zgl hr j
 refine Nat.le_antisymm (Nat.not_lt.mp λq=>Nat.lt_irrefl _ (h2 i j q h)) (Nat.not_lt.mp λq=>?_)
 have hl:=(Array.getElem?_eq_some_iff.mp h).1
 have hx:xs[SetTable.below xs j]? = some _:=Z8t (Nat.lt_trans q hl)
 exact Nat.lt_irrefl _ (Z73 (hr.lt hx h q) (h3 _ _ (Z70 _) hx))
theorem Zz8{α:Type}{xs:Array α}{j:α}:j∈xs.toList↔∃i:Nat,xs[i]? = some j:=by
 rw[List.mem_iff_getElem?]
 exact⟨λ⟨i,h⟩=>⟨i,Z8s▸h⟩,λ⟨i,h⟩=>⟨i,Z8s.symm▸h⟩⟩
structure YP(t:SetTable)(es:Array (Int×Value)):Prop where
 mask:Zkb t.mask
 dum:t.dummies=#[]
 len:t.place.size=es.size
 few:es.size≤t.mask
 rise:K5 t.place
variable{t:SetTable}{es:Array (Int×Value)}
theorem YP.live(T:YP t es){i j:Nat}(h:t.place[i]? = some j):t.slot j=.live i:=by
 unfold SetTable.slot
 rw[Zzn T.rise h]
 dsimp only
 rw[h,Z87,if_pos rfl]
theorem YP.empty(T:YP t es){j:Nat}(h:j∉t.place.toList):t.slot j=.empty:=by
 unfold SetTable.slot
 rw[T.dum]
 dsimp only
 rw[if_neg λq=>h (Zz8.mpr ⟨_,Z84 q⟩)]
 rfl
theorem YP.fits(T:YP t es):t.fits es.size=true:=by
 unfold SetTable.fits SetTable.fill
 rw[T.dum,T.len,Z87]
 exact Z82 T.few
theorem YP.first(T:YP t es)(h:Int):∃n,Zcj t.mask h (·∈t.place.toList) n:=PL.first T.mask h (by rw[Z8u,T.len];exact T.few)
noncomputable abbrev pth(t:SetTable)(h:Int)(n:Nat):SetTable.Probe:=stp t.mask (rs t.mask (lp0 t.mask h)) n
theorem Zw0(m:Nat)(p:SetTable.Probe):(adv m p).dummy=p.dummy:=by
 unfold adv SetTable.advance
 split<;>rfl
theorem Zme(m:Nat)(x:Nat×Nat):∀n,(stp m (rs m x) n).dummy=none
 |0=>rfl
 |n+1=>(Zw0 m _).trans (Zme m x n)
theorem YP.KG(T:YP t es)(f:Nat→Int){h g:Int}{F:Nat}(hne:∀i,(f i==g)=false)(hF:Zcj t.mask h (·∈t.place.toList) F):∀(d n fuel:Nat),n+d=F→d<fuel→SetTable.probe.go t f g fuel (pth t h n)=some (.empty (pth t h F).j none)
 |0,n,fuel+1,hn,hf=>by
  obtain rfl:n=F:=hn
  unfold SetTable.probe.go
  rw[T.empty hF.free]
  dsimp only
  rw[Zme]
 |d+1,n,fuel+1,hn,hf=>by
  obtain⟨i,hi⟩:=Zz8.mp (hF.taken n (by lia))
  unfold SetTable.probe.go
  rw[T.live hi]
  dsimp only
  rw[if_neg (by rw[hne];exact Z86)]
  exact T.KG f hne hF d (n+1) fuel (by lia) (by lia)
theorem YP.put(T:YP t es){h:Int}{x:Value}{n:Nat}(hF:Zcj t.mask h (·∈t.place.toList) n)(hm:es.size+1≤t.mask):
  YP (t.put (pth t h n).j).1 (SetTable.insertAt es (t.put (pth t h n).j).2 (h,x))∧(t.put (pth t h n).j).1.mask=t.mask:=by
 obtain⟨b1,b2,b3⟩:=Zgl T.rise (pth t h n).j
 unfold SetTable.put
 generalize hp:SetTable.below t.place (pth t h n).j=p at b1 b2 b3
 generalize hj:(pth t h n).j=j at b1 b2 b3
 have hno:j∉t.place.toList:=hj▸hF.free
 have hd:SetTable.has t.dummies j=false:=by rw[T.dum];rfl
 dsimp only
 rw[hd,if_neg (λq=>nomatch q)]
 refine⟨⟨T.mask,T.dum,?_,?_,?_⟩,rfl⟩
 ·rw[←Z8u,←Z8u,(SetTable.insertAt_perm ..).length_eq,(SetTable.insertAt_perm ..).length_eq,Z8u,Z8u,Array.size_push,Array.size_push,T.len]
 ·rw[←Z8u,(SetTable.insertAt_perm ..).length_eq,Z8u,Array.size_push];exact hm
 ·show List.Pairwise _ (SetTable.insertAt t.place p j).toList
  rw[SetTable.toList_insertAt]
  have hr:=T.rise
  unfold K5 at hr
  rw[←List.take_append_drop p t.place.toList]at hr
  obtain⟨r1,r2,r3⟩:=List.pairwise_append.mp hr
  have hlo:∀a∈t.place.toList.take p,a<j:=λa ha=>by
   obtain⟨i,hi⟩:=List.mem_iff_getElem?.mp ha
   rw[List.getElem?_take]at hi
   split at hi
   ·exact b2 i a ‹_› (Z8s▸hi)
   ·exact nomatch hi
  refine List.pairwise_append.mpr ⟨r1,List.pairwise_cons.mpr ⟨λb hb=>?_,r2⟩,λa ha b hb=>?_⟩
  ·obtain⟨i,hi⟩:=List.mem_iff_getElem?.mp hb
   rw[List.getElem?_drop]at hi
   exact Nat.lt_of_le_of_ne (b3 (p+i) b (Z71 _ _) (Z8s▸hi)) λe=>hno (e▸List.mem_of_mem_drop hb)
  ·rcases Z8k.mp hb with rfl | hb
   ·exact hlo a ha
   ·exact r3 a ha b hb
end
end PL
end
section
open PySem PySem.W PyProof.Rows
open scoped Classical
namespace PL
section
section
variable{M:Model}{A:Around}{α:Type}{Q:α→Shared→Prop}{E:Value→Shared→Prop}{s:Shared}{c:Prop}[Decidable c]{a b:Sem α}
theorem wpI(h:c)(k:wpAny M A a Q E s):wpAny M A (if c then a else b) Q E s:=eqE (if_pos h) k
theorem wpN(h:¬c)(k:wpAny M A b Q E s):wpAny M A (if c then a else b) Q E s:=eqE (if_neg h) k
end
variable{t:SetTable}{es:Array (Int×Value)}
theorem YP.fill(T:YP t es):t.fill=es.size:=by unfold SetTable.fill;rw[T.dum,T.len];rfl
theorem YP.plain(T:YP t es)(b:Bool):YP { t with plain:=b } es:=⟨T.mask,T.dum,T.len,T.few,T.rise⟩
end
section
variable{X:Cx}{W:Wd}{σ:St}{s:Shared}{A:Around}{E:Value→Shared→Prop}
theorem F2.perm{α β:Type}{R:α→β→Prop}{as as':List α}(p:as'.Perm as):∀{bs:List β},F2 R as bs→∃bs':List β,bs'.Perm bs∧F2 R as' bs':=by
 induction p with
 |nil=>exact λh=>⟨_,.refl _,h⟩
 |@cons a l l' _ ih=>
  intro bs h
  rcases bs with Z | ⟨b,bs⟩
  ·exact h.elim
  ·obtain⟨bs',p,r⟩:=ih h.2
   exact⟨b::bs',p.cons b,h.1,r⟩
 |swap a b l=>
  intro bs h
  rcases bs with Z | ⟨c,Z | ⟨d,bs⟩⟩
  ·exact h.elim
  ·exact h.2.elim
  ·exact⟨d::c::bs,.swap ..,h.2.1,h.1,h.2.2⟩
 |trans _ _ i1 i2=>
  intro bs h
  obtain⟨b1,p1,r1⟩:=i2 h
  obtain⟨b2,p2,r2⟩:=i1 r1
  exact⟨b2,p2.trans p1,r2⟩
structure Gg(X:Cx)(W:Wd)(e:Int×Value)(c:ZA):Prop where
 val:ZE W e.2 c
 hash:e.1=Zd5 X.w c
structure XM(X:Cx)(W:Wd)(h:Heap)(S:Addr)(led:Bool)(es:Array (Int×Value))(t:SetTable)(cs:List ZA):Prop where
 obj:∃ep,h.get? S=some { cls:=.type "set",dict:=none,data:=.set es ep t }
 tab:YP t es
 ents:F2 (Gg X W) es.toList cs
 nodup:cs.Nodup
 led:t.led=led
theorem XM.state{S:Addr}{led:Bool}{es:Array (Int×Value)}{t:SetTable}{cs:List ZA}(C:XM X W s.heap S led es t cs){Q:(Array (Int×Value)×Nat×SetTable)→Shared→Prop}(h:∀ep,Q (es,ep,t) s):wpAny (model pp X.w) A (setState S) Q E s:=
 C.obj.elim λep ho=>wpAny_setState_of ho rfl C.tab.fits (h ep)
structure XB(X:Cx)(W:Wd)(h:Heap)(S:Addr)(led:Bool)(cs:List ZA):Prop where
 ex:∃es t,XM X W h S led es t cs∧es.size*5<t.mask*3
theorem XM.store{S:Addr}{led:Bool}{es es':Array (Int×Value)}{t t':SetTable}{cs cs':List ZA}{h:Heap}(C:XM X W h S led es t cs)(T:YP t' es')(r:F2 (Gg X W) es'.toList cs')(nd:cs'.Nodup)(hl:t'.led=led):
  XM X W (h.update S (Obj.putSet es' t')) S led es' t' cs':=
 ⟨C.obj.elim λep ho=>⟨ep+1,Heap.get?_update_self (Obj.putSet es' t') ho rfl⟩,T,r,nd,hl⟩
theorem Zvq{n:Nat}(h:n≤64):n≤sizeLine:=by rw[sizeLine_eq];lia
structure Zgm(X:Cx)(W:Wd)(S:Addr)(led:Bool)(cs:List ZA)(c:ZA)(h:Heap)(h':Heap):Prop where
 same:Heap.SameBut S h h'
 set:∃cs',XB X W h' S led cs'∧∀x,x∈cs'↔x=c∨x∈cs
theorem XM.size{S:Addr}{led:Bool}{es:Array (Int×Value)}{t:SetTable}{cs:List ZA}{h:Heap}(C:XM X W h S led es t cs):es.size=cs.length:=C.ents.size
structure JD(X:Cx)(W:Wd)(led:Bool)(cs:List ZA)(c:ZA)(es1:Array (Int×Value))(t1:SetTable)(cs1:List ZA):Prop where
 tab:YP t1 es1
 ents:F2 (Gg X W) es1.toList cs1
 nodup:cs1.Nodup
 led:t1.led=led
 load:es1.size*5<t1.mask*3
 size:es1.size≤64
 mem:∀x,x∈cs1↔x=c∨x∈cs
 one:es1.size=cs.length+1
theorem JD.plain{led:Bool}{cs cs1:List ZA}{c:ZA}{es1:Array (Int×Value)}{t1:SetTable}(P:JD X W led cs c es1 t1 cs1)(b:Bool):JD X W led cs c es1 { t1 with plain:=b } cs1:=⟨P.tab.plain b,P.ents,P.nodup,P.led,P.load,P.size,P.mem,P.one⟩
theorem XM.put{S:Addr}{led:Bool}{es:Array (Int×Value)}{t:SetTable}{cs:List ZA}{h:Heap}(C:XM X W h S led es t cs)(hl:es.size*5<t.mask*3)(hz:cs.length<4){c:ZA}{x:Value}(hc:c∉cs)(hv:ZE W x c){F:Nat}(hF:Zcj t.mask (Zd5 X.w c) (·∈t.place.toList) F):
  ∃cs1,JD X W led cs c (SetTable.insertAt es (t.put (pth t (Zd5 X.w c) F).j).2 (Zd5 X.w c,x)) (t.put (pth t (Zd5 X.w c) F).j).1 cs1:=by
 obtain⟨T,hm⟩:=C.tab.put (x:=x) hF (by have:=C.tab.mask;unfold Zkb at this;lia)
 have hp:=SetTable.insertAt_perm es (t.put (pth t (Zd5 X.w c) F).j).2 (Zd5 X.w c,x)
 rw[Array.toList_push]at hp
 obtain⟨cs1,p1,r1⟩:=F2.perm hp (C.ents.append (F2.one ⟨hv,rfl⟩))
 have hsz:(SetTable.insertAt es (t.put (pth t (Zd5 X.w c) F).j).2 (Zd5 X.w c,x)).size=cs.length+1:=by
  rw[←Z8u,hp.length_eq,Z8j,Z8u,C.size];rfl
 have p2:cs1.Perm (c::cs):=p1.trans (List.perm_append_singleton c cs)
 refine⟨cs1,T,r1,p2.nodup_iff.mpr (Z88.mpr ⟨hc,C.nodup⟩),C.led,?_,hsz▸Z7z hz (Z78 rfl),λx=>(p2.mem_iff).trans Z8k,hsz⟩
 have hm7:t.mask=7:=C.tab.mask
 rw[hsz,hm,hm7];lia
section
variable{S:Addr}{led:Bool}{es es1:Array (Int×Value)}{t t1:SetTable}{cs cs1:List ZA}{c:ZA}
theorem JD.done(P:JD X W led cs c es1 t1 cs1){h:Heap}(C:XM X W h S led es t cs):Zgm X W S led cs c h (h.update S (Obj.putSet es1 t1)):=
 ⟨.update ..,cs1,⟨_,_,C.store P.tab P.ents P.nodup P.led,P.load⟩,P.mem⟩
theorem JD.loose(P:JD X W led cs c es1 t1 cs1):t1.tooFull=false:=Z83 (by rw[P.tab.fill];exact Nat.not_le.mpr P.load)
end
end
section
variable{X:Cx}{W:Wd}{σ:St}{s:Shared}{A:Around}{E:Value→Shared→Prop}
theorem YP.freeSlot{t:SetTable}{es:Array (Int×Value)}(T:YP t es){h:Int}{F:Nat}(hF:Zcj t.mask h (·∈t.place.toList) F):t.freeSlot h=some ((pth t h F).j,false):=by
 unfold SetTable.freeSlot
 generalize hp:SetTable.probe t _ _ _=met
 obtain rfl:_=met:=(T.KG (λZ=>h+1) (g:=h) (λi=>Z85.mpr (by lia)) hF F 0 (10*SetTable.turns t.mask) (Nat.zero_add _) hF.lt).symm.trans hp
 rfl
theorem YP.layNew{t:SetTable}{es:Array (Int×Value)}(T:YP t es){h:Int}{x:Value}{F:Nat}(hF:Zcj t.mask h (·∈t.place.toList) F)(T1:YP (t.put (pth t h F).j).1 (SetTable.insertAt es (t.put (pth t h F).j).2 (h,x))):
  PySem.layNew t es h x=(SetTable.insertAt es (t.put (pth t h F).j).2 (h,x),(t.put (pth t h F).j).1,false,false):=by
 unfold PySem.layNew
 rw[T.freeSlot hF]
 dsimp only
 unfold SetTable.orStandIn
 rw[T1.fits,if_pos rfl];rfl
theorem Zns{v:Value}{k:ZA}(h:ZS k v):v.scannable=true:=ZS.cases (C:=λZ v=>v.scannable=true) h (λZ Z=>rfl) λZ Z=>rfl
theorem Zsv{es:List (Int×Value)}{cs:List ZA}(r:F2 (Gg X W) es cs)(hf:∀c∈cs,c.flat=true):ElemsOf (flK X) es:=λe he=>
 let⟨c,hc,rc⟩:=r.Xd he
 have hi:=Yj (Jj rc.val (hf c hc))
 ⟨⟨c,Jj rc.val (hf c hc),rc.hash.trans (Zec hi).symm⟩,Zns hi⟩
theorem Zg2{S:Addr}{led:Bool}{es es1:Array (Int×Value)}{t t1:SetTable}{cs cs1:List ZA}{c:ZA}(C:XM X W s.heap S led es t cs)(P:JD X W led cs c es1 t1 cs1){m:Sem (Option Bool)}{Q:Option Bool→Shared→Prop}(h:∀h' b,Zgm X W S led cs c s.heap h'→Q (some b) { s with heap:=h' }):
  wpAny (model pp X.w) A (do
    storeSet S es1 t1
    if(!false&&t1.tooFull)=true then m
     else pure (some true)) Q E s:=by
 refine Z8z (C.obj.elim λep ho=>wpAny_storeSet_of ho rfl ?_ (Zvq P.size))
 rw[P.loose]
 exact Z80 (h _ true (P.done C))
theorem Zzp{S:Addr}{led:Bool}{cs:List ZA}{k:ZA}{v:Value}(C:XB X W s.heap S led cs)(hv:ZE W v k)(hf:k.flat=true)(ht:∀c∈cs,c.flat=true)
  (hz:cs.length<4) {Q:Bool→Shared→Prop} (h:∀h' b,Zgm X W S led cs k s.heap h'→Q b { s with heap:=h' }):wpAny (model pp X.w) A (setAddHashed S v (Zf8 X.w k)) Q E s:=by
 obtain⟨es,t,C,hl⟩:=C.ex
 have hi:=Jj hv hf
 have hk:=Yj hi
 have hsc:=Zns hk
 have hel:=Zsv C.ents ht
 have hb:es.size<scanBound:=C.size▸Nat.lt_trans hz (Z78 rfl)
 have hh:=Zec (w:=X.w) hk
 by_cases hm:k∈cs
 ·obtain⟨e,he,re⟩:=C.ents.X8 hm
  have hr:∃j,es.toList.findIdx? (λe=>(flK X).is k e.2)=some j:=Option.isSome_iff_exists.mp ((Option.isSome_iff_ne_none).mpr λq=>nomatch (Jj re.val hf).symm.trans (List.findIdx?_eq_none_iff.mp q e he))
  obtain⟨j,hr⟩:=hr
  unfold setAddHashed setAddHashedIn setAddByScan
  refine wpAny_holding (Z8z (C.state λep=>wpI (byScan_of hsc hb hel) (Z8z (Z8z (wpAny_rule (Z8z (C.obj.elim λep ho=>wpAny_setScan_of (knd:=flK X) hi ho rfl C.tab.fits hel ?_)))))))
  exact eqE hr (Z80 (Z80 (h s.heap false ⟨.refl _ _,cs,⟨_,_,C,hl⟩,λx=>⟨.inr,λq=>q.elim (λe=>e▸hm) id⟩⟩)))
 ·have hr:es.toList.findIdx? (λe=>(flK X).is k e.2)=none:=List.findIdx?_eq_none_iff.mpr λe he=>(Bool.not_eq_true _).mp λq=>by
   obtain⟨c,hc,rc⟩:=C.ents.Xd he
   exact hm (Zq3 (Yj q) (Yj (Jj rc.val (ht c hc)))▸hc)
  obtain⟨F,hF⟩:=C.tab.first (Zd5 X.w k)
  have hp:∃es1 t1 cs1,layNew t es (Zd5 X.w k) v=(es1,t1,false,false)∧JD X W led cs k es1 t1 cs1:=(C.put hl hz hm hv hF).elim λcs1 P=>⟨_,_,cs1,C.tab.layNew hF P.tab,P⟩
  obtain⟨es1,t1,cs1,hL,P⟩:=hp
  rw[←hh]at hL
  unfold setAddHashed setAddHashedIn setAddByScan
  refine wpAny_holding (Z8z (C.state λep=>wpI (byScan_of hsc hb hel) (Z8z (Z8z (wpAny_rule (Z8z (C.obj.elim λep ho=>wpAny_setScan_of (knd:=flK X) hi ho rfl C.tab.fits hel ?_)))))))
  refine eqE hr ?_
  dsimp only
  refine eqE hL (Z8z (Z80 ?_))
  dsimp only
  by_cases hp:t1.plain=true
  ·refine wpI hp (eqE (hashByValue_scannable 8 hsc) (Z8z (Z80 ?_)))
   cases plainKind v with
   |true=>exact Zg2 C P λh' b G=>Z80 (h h' b G)
   |false=>exact Zg2 C (P.plain false) λh' b G=>Z80 (h h' b G)
  ·exact wpN hp (Z8z (Z80 (Zg2 C P λh' b G=>Z80 (h h' b G))))
end
section
variable{X:Cx}{W:Wd}{σ:St}{s:Shared}{A:Around}{E:Value→Shared→Prop}
theorem Z02{S:Addr}{led:Bool}{cs:List ZA}{c:ZA}{v:Value}(C:XB X W s.heap S led cs)(hv:ZE W v c)(hc:c.flat=true)(ht:∀c∈cs,c.flat=true)(hz:cs.length<4)
  {Q:Bool→Shared→Prop} (h:∀h' tk b,s.toks≤tk→Zgm X W S led cs c s.heap h'→Q b { s with heap:=h',toks:=tk }):wpAny (model pp X.w) A (setAdd S v) Q E s:=by
 unfold setAdd
 exact wpAny_holding (Z8z ((flK X).pyHash (Jj hv hc) (Zzp (s:={ s with toks:=s.toks+1 }) C hv hc ht hz λh' b G=>h h' _ b (Nat.le_succ _) G)))
structure Upd(X:Cx)(W:Wd)(σ:St)(S:Addr)(led:Bool)(xs:List ZA)(i:Nat)(s:Shared):Prop where
 inv:Inv X W σ s
 set:∃cs,XB X W s.heap S led cs∧∀x,x∈cs↔x∈xs.take i
theorem XB.move{S:Addr}{led:Bool}{cs:List ZA}{h h':Heap}(C:XB X W h S led cs)(hk:∀o,h.get? S=some o→h'.get? S=some o):XB X W h' S led cs:=
 let⟨es,t,C,hl⟩:=C.ex
 ⟨es,t,⟨C.obj.elim λep ho=>⟨ep,hk _ ho⟩,C.tab,C.ents,C.nodup,C.led⟩,hl⟩
theorem XB.nodup{S:Addr}{led:Bool}{cs:List ZA}{h:Heap}(C:XB X W h S led cs):cs.Nodup:=let⟨_,_,C,_⟩:=C.ex;C.nodup
theorem Inv.moved(I:Inv X W σ s){wr:List Addr}{s':Shared}(m:Moved wr (λa b=>b=a) s s')(hw:∀a∈wr,W a=.free):Inv X W σ s':=by
 obtain⟨h',g',d',tk',os'⟩:=s'
 obtain rfl:g'=s.gens:=m.gens
 obtain rfl:d'=s.drawn:=m.drawn
 obtain rfl:os'=s.os:=m.os
 exact I.grow (s:=s) (h':=h') (tk:=tk') λa o ha e=>m.heap a o (λq=>ha (hw a q)) e
theorem Zk3{α:Type}{xs:List α}{i:Nat}{x:α}(h:xs[i]? = some x)(c:α):c∈xs.take (i+1)↔c=x∨c∈xs.take i:=by
 rw[List.take_add_one,h,List.mem_append,Or.comm]
 exact or_congr_left Z8m
variable{I fp wr:List Addr}{n:Nat}{P:Nat→Value→Prop}{St:Nat→Shared→Prop}{R:Result→Shared→Prop}
theorem Zoe{it:Addr}{fp wr:List Addr}{S:Addr}{led:Bool}{xs:List ZA}(Wk:WalksS pp X.w A.in1 it fp wr (λa b=>b=a) xs.length (λi v=>∃c,xs[i]? = some c∧ZE W v c) St)(hSf:S∉fp)(hS:W S=.free)(hw:∀a∈wr,W a=.free)
  (hk:∀c∈xs,c.flat=true) (hz:xs.length≤3):
  ∀(k i:Nat)(s:Shared),xs.length-i=k→i≤xs.length→St i s→Upd X W σ S led xs i s→(∀s',Moved (S::wr) (λa b=>b=a) s s'→Upd X W σ S led xs xs.length s'→R (.ok (.ret .none)) s')→
   codeAny (model pp X.w) A (.builtin "set.update.loop" ⟨[.ref S,.ref it],[]⟩) R s:=by
 have hSw:S∉wr:=λh=>hSf (Wk.sub _ h)
 have VA:∀b∈wr,b∈S::wr:=λb hb=>Z8h _ hb
 intro k
 induction k with
 |zero=>
  intro i s hk' hi hst U hR
  obtain rfl:i=xs.length:=Nat.le_antisymm hi (Nat.sub_eq_zero_iff_le.mp hk')
  refine codeAny_builtin F.entry_set_update_loop ?_
  rw[Around.under_plainId F.plain_set_update_loop _]
  show wpAny _ A.in1 (pyNext (.ref it) >>= _) _ _ s
  refine Z8z (Wk.done s _ _ hst λs' hm=>?_)
  show wpAny _ A.in1 (ret Value.none) _ _ s'
  exact Z80 (hR s' (hm.mono VA) ⟨U.inv.moved hm hw,let⟨cs,C,h⟩:=U.set;⟨cs,C.move λo e=>hm.heap S o hSw e,h⟩⟩)
 |succ k ih=>
  intro i s hk' hi hst U hR
  have hlt:i<xs.length:=Nat.lt_of_sub_eq_succ hk'
  refine codeAny_builtin F.entry_set_update_loop ?_
  rw[Around.under_plainId F.plain_set_update_loop _]
  show wpAny _ A.in1 (pyNext (.ref it) >>= _) _ _ s
  refine Z8z (Wk.item i s _ _ hlt hst λv s' hP R4 hm=>?_)
  obtain⟨c,hc,hv⟩:=hP
  obtain⟨cs,C,hcs⟩:=U.set
  have I':=U.inv.moved hm hw
  have UM:∀x∈cs,x∈xs:=λx hx=>List.mem_of_mem_take ((hcs x).mp hx)
  have hlen:cs.length<4:=Z74 (Zb2 C.nodup UM) (Nat.lt_succ_of_le hz)
  show wpAny _ A.in1 (holding [v] (setAdd S v) >>= _) _ _ s'
  refine Z8z (wpAny_holding (Z02 (C.move λo e=>hm.heap S o hSw e) hv (hk c (Z89 hc)) (λx hx=>hk x (UM x hx)) hlen λh' tk Z htk G=>?_))
  obtain⟨cs',C',RP⟩:=G.set
  refine Z80 ⟨plainId_quiet F.plain_set_update_loop _,ih (i+1) _ ((Nat.sub_succ ..).trans (Z81 Nat.pred hk')) hlt (Wk.frame _ s' _ _ R4 htk λb hb o e=>(G.same.2 b λq=>hSf (q▸hb)).trans e) ⟨I'.grow λa o ha e=>(G.same.2 a λq=>ha (q▸hS)).trans e,cs',C',λx=>(RP x).trans ((or_congr_right (hcs x)).trans (Zk3 hc x).symm)⟩ λs'' RK U''=>?_⟩
  exact hR s'' (Moved.trans (λZ Z Z h1 h2=>h2.trans h1) ((hm.mono VA).then_heap htk λb o hb e=>(G.same.2 b λq=>hb (q▸Z8g)).trans e) RK) U''
end
section
variable{X:Cx}{W:Wd}{σ:St}{s:Shared}{A:Around}{E:Value→Shared→Prop}
noncomputable def byT(X:Cx):Bool:=X.w.params.followText "set-order"
noncomputable abbrev nst(X:Cx):Obj:={ cls:=.type "set",dict:=none,data:=.set #[] 0 (.fresh 0 0 (!byT X)) }
theorem Zy9(a:Value){Q₁:Value→Shared→Prop}(h:Q₁ (.ref s.heap.objs.size) { s with heap:=s.heap.push (nst X) }):
  codeAny (model pp X.w) A (.call (.builtin "set.__new__") ⟨[.type "set",a],[]⟩) (wants Q₁ E) s:=by
 refine codeAny_of_tree ?_
 show wpAny _ A.in1 (do checkBuiltinCall "set.__new__" ⟨[.type "set",a],[]⟩;again (.builtin "set.__new__" ⟨[.type "set",a],[]⟩)) _ _ s
 refine Z8z (wpAny_of_eq (F.newCall_set_1 a) (Z80 ⟨plainId_quiet F.plain_set_new _,codeAny_builtin F.entry_set_new ?_⟩))
 rw[Around.under_plainId F.plain_set_new _]
 unfold Builtin.«set.__new__» Builtin.Frozenset.newClass
 have VA:=sub_set_self
 obtain⟨hp,g,d,tk,os⟩:=s
 dsimp only
 wp_walk
 refine wpAny_askSetting (Z80 ?_)
 dsimp only
 simp only[newObj]
 refine Z8z (wpAny_alloc (Z80 ?_))
 exact Z80 h
theorem Zvk{h:Heap}{S:Addr}{led:Bool}(ho:h.get? S=some { cls:=.type "set",dict:=none,data:=.set #[] 0 (.fresh 0 0 led) }):XB X W h S led []:=
 ⟨#[],.fresh 0 0 led,⟨⟨0,ho⟩,⟨rfl,rfl,rfl,Z8d _,.nil⟩,trivial,.nil,rfl⟩,Nat.lt_of_sub_eq_succ rfl⟩
set_option maxRecDepth 100000 in
set_option maxHeartbeats 3200000 in
theorem Zzd{l:Addr}{items:Array Value}{xs:List ZA}{Q:Value→Shared→Prop}(I:Inv X W σ s)(hh:A.handled=none)(hl:s.heap.IsList l items)(hr:ZF W items.toList xs)(hk:∀c∈xs,c.flat=true)(hz:xs.length≤3)
  (h:∀s' cs,Inv X W σ s'→W s.heap.objs.size=.free→XB X W s'.heap s.heap.objs.size (!byT X) cs→(∀x,x∈cs↔x∈xs)→Q (.ref s.heap.objs.size) s'):
  wpAny (model pp X.w) A (call (.type "set") [.ref l]) Q E s:=by
 obtain⟨c,tl,UL⟩:=F.called_set.mro
 have hmade:=F.called_set.made
 have VA:=F.called_set.sub
 refine wpAny_call (codeAny_of_tree ?_)
 show wpAny _ _ (callAny (.type "set") _) _ _ _
 refine Z80 ⟨Code.quiet_builtin _ (by decide +kernel),codeAny_builtin F.entry_type_call ?_⟩
 rw[Around.under_plain (weight_type_call_type "set" [.ref l] []) rfl]
 have h1:=F.called_set.notType
 have h2:=F.called_set.canCreate
 have hct:=F.typeCall_set_1 (.ref l)
 repeat (any_goals (first | assumption | wp_step))
 refine codeAny_mono (Zy9 (X:=X) (.ref l) (E:=E) (Q₁:=λobj s₁=>obj=.ref s.heap.objs.size∧s₁={ s with heap:=s.heap.push (nst X) }) ⟨rfl,rfl⟩) λr s₁ hr'=>?_
 cases r with
 |error e=>exact hr'
 |ok fl=>
  cases fl with
  |ret obj=>
   obtain⟨rfl,rfl⟩:=hr'
   have hS:(s.heap.push (nst X)).get? s.heap.objs.size=some (nst X):=Z8y _ rfl
   have hT:Shared.TypeIs { s with heap:=s.heap.push (nst X) } (.ref s.heap.objs.size) "set":=⟨_,hS,rfl⟩
   have hli:=F.called_set.init.lookup
   have hbi:=F.called_set.init.bind (.ref s.heap.objs.size)
   repeat (any_goals (first | assumption | wp_step))
   have hf:=I.free (a:=s.heap.objs.size) (Z70 _)
   refine codeAny_mono (codeAny_call_builtin (R:=wants (λr s₂=>r=.none∧Upd X W σ s.heap.objs.size (!byT X) xs xs.length s₂) E) F.called_set.init.plain F.entry_set_init (check_set_init_1 hT ?_)) λr₂ s₂ hr₂=>?_
   ·obtain⟨ol,hol,hcl,nl,hdl⟩:=hl
    obtain⟨ocls,Dw,odata,Gq⟩:=ol
    simp only at hcl hdl
    subst hcl;subst hdl
    have RE:(s.heap.push (nst X)).get? l=some { cls:=.type "list",dict:=Dw,data:=.seq items nl,slots:=Gq }:=Z8x _ hol
    have hsls:=F.sub_list_set
    have hslf:=F.sub_list_frozenset
    have hne:(Value.type "list"==Value.type "dict")=false:=by decide
    have hl1:(s.heap.push (nst X)).IsList l items:=⟨_,RE,rfl,nl,rfl⟩
    unfold Builtin.«set.__init__» noKeywords Builtin.Frozenset.updateFrom
    generalize hPI:pyIter=PI
    wp_walk
    subst hPI
    refine wpAny_pyIter_list hl1 ?_
    refine Z8z (wpAny_runValue ?_)
    have hlS:l<s.heap.objs.size:=Heap.lt_size hol
    have hh3:A.in1.in1.in1.handled=none:=by simp[hh]
    have RJ:l≠(s.heap.push (nst X)).objs.size:=by
     rw[Heap.size_push];exact Nat.ne_of_lt (Nat.lt_succ_of_lt hlS)
    have hSf:s.heap.objs.size ∉ [(s.heap.push (nst X)).objs.size,l]:=by
     rw[Heap.size_push];simp only[Z8k,List.not_mem_nil,or_false,not_or]
     exact⟨Nat.ne_of_lt (Z79 _),Nat.ne_of_gt hlS⟩
    have hfl:∀a∈[(s.heap.push (nst X)).objs.size],W a=.free:=λa ha=>by
     rw[Z8m.mp ha,Heap.size_push];exact I.free (Nat.le_succ _)
    have hP:∀(i:Nat)(v:Value),items[i]? = some v→∃c,xs[i]? = some c∧ZE W v c:=λi v hv=>hr.get' (Z8s.trans hv)
    have Wk:=WalksS.imp (prog:=pp) (w:=X.w) (Walks.list hh3 (s.heap.push (nst X)).objs.size l RJ items).toS hP
    rw[hr.size]at Wk
    have I2:Inv X W σ { s with heap:=(s.heap.push (nst X)).push { cls:=.type "list_iterator",data:=.fields #[.ref l,.int 0 0] } }:=I.keeps (tk:=s.toks) λa o e=>Z8x _ (Z8x _ e)
    refine Zoe (led:=!byT X) (σ:=σ) Wk hSf hf hfl hk hz (xs.length-0) 0 _ rfl (Z8d _) ⟨⟨_,Z8y _ rfl,rfl,rfl⟩,hl1.push _⟩
     ⟨I2,[],Zvk (Z8x _ hS),λx=>.rfl⟩ λs' hm U=>?_
    exact Z80 (Z80 ⟨rfl,U⟩)
   ·cases r₂ with
    |error e=>exact hr₂
    |ok fl₂=>
     cases fl₂ with
     |ret r=>
      obtain⟨rfl,U⟩:=hr₂
      repeat (any_goals (first | assumption | wp_step))
      obtain⟨cs,C,hcs⟩:=U.set
      exact h _ cs U.inv hf C λx=>by rw[hcs,List.take_length]
     |_=>exact hr₂.elim
  |_=>exact hr'.elim
end
section
theorem Zz2:Manifest.owners.lookup (String.ofList ['r','o','t','a','r','e','t','i','_','t','e','s'].reverse)=some Manifest.sig_set_iterator:=by kernel_rfl
theorem Y9:Slot "set_iterator" "__next__" "set_iterator.__next__":=
 .of (owner:="set_iterator") (n:="__next__") (by rw[typeLookup_type,builtinLookup_eq_fast];kernel_rfl) (by decide +kernel) (by decide +kernel) (by decide +kernel)
  (by first | exact .inl (by decide +kernel) | exact .inr (by decide +kernel)) (by rw[isSubtype_type];kernel_rfl)
theorem Zem:entryFor table "set_iterator.__next__"=some Builtin.«set_iterator.__next__»:=entryFor_of_tree (by kernel_rfl)
theorem Zf5(a:Value):argsOk "set_iterator.__next__" ⟨[a],[]⟩:=by
 unfold argsOk;rw[signature?_of (id:="set_iterator.__next__") (n:=['_','_','t','x','e','n','_','_']) (o:=['r','o','t','a','r','e','t','i','_','t','e','s']) (by kernel_rfl) Zz2];kernel_rfl
theorem Zfo:Slot "set_iterator" "__iter__" "set_iterator.__iter__":=
 .of (owner:="set_iterator") (n:="__iter__") (by rw[typeLookup_type,builtinLookup_eq_fast];kernel_rfl) (by decide +kernel) (by decide +kernel) (by decide +kernel)
  (by first | exact .inl (by decide +kernel) | exact .inr (by decide +kernel)) (by rw[isSubtype_type];kernel_rfl)
theorem Zln:entryFor table "set_iterator.__iter__"=some Builtin.«dict_keyiterator.__iter__»:=
 entryFor_alias (id':="dict_keyiterator.__iter__") (by kernel_rfl) rfl (by decide +kernel) (by kernel_rfl)
theorem Zob(a:Value):argsOk "set_iterator.__iter__" ⟨[a],[]⟩:=by
 unfold argsOk;rw[signature?_of (id:="set_iterator.__iter__") (n:=['_','_','r','e','t','i','_','_']) (o:=['r','o','t','a','r','e','t','i','_','t','e','s']) (by kernel_rfl) Zz2];kernel_rfl
theorem Ziy:entryFor table "set.__iter__"=some Builtin.«frozenset.__iter__»:=
 entryFor_alias (id':="frozenset.__iter__") (by kernel_rfl) rfl (by decide +kernel) (by kernel_rfl)
variable{M:Model}{A:Around}{E:Value→Shared→Prop}
theorem Zl6{src:Source}{n:Nat}{Q:Nat→Shared→Prop}{s:Shared}(hn:n≠0)(h:∀k d,k<n→Q k { s with drawn:=d }):wpAny M A (choose src n) Q E s:=λΓ p hΓ=>by
 show Sem.wp M Γ (.choose src n .pure) _ _ p s
 rw[Sem.wp_choose]
 exact⟨hn,h _ _ (Nat.mod_lt _ (Nat.pos_of_ne_zero hn))⟩
theorem Zjw{α:Type}{l:List α}{i:Nat}(h:i<l.length):(l[i]::l.eraseIdx i).Perm l:=by
 have e:l.take i++l[i]::l.drop (i+1)=l:=by rw[←List.drop_eq_getElem_cons h,List.take_append_drop]
 have p:=(List.perm_middle (a:=l[i]) (l₁:=l.take i) (l₂:=l.drop (i+1))).symm
 rw[e]at p
 rwa[List.eraseIdx_eq_take_drop_succ]
theorem Zj0{α:Type}:∀(n:Nat)(xs:List α){s:Shared}{Q:List α→Shared→Prop},xs.length≤n→(∀ys d,ys.Perm xs→Q ys { s with drawn:=d })→wpAny M A (drawOrder n xs) Q E s
 |0,xs,s,Q,hn,h=>by
  obtain rfl:=List.eq_nil_of_length_eq_zero (Nat.le_zero.mp hn)
  exact Z80 (h [] s.drawn (.refl _))
 |n+1,[],s,Q,hn,h=>Z80 (h [] s.drawn (.refl _))
 |n+1,x::xs,s,Q,hn,h=>by
  refine Z8z (m:=choose .order (x::xs).length) (Zl6 (Nat.succ_ne_zero _) λk d hk=>?_)
  refine eqE (Z8v hk) ?_
  refine Z8z (Zj0 n _ ?_ λys d' hp=>Z80 (h _ d' ?_))
  ·rw[List.length_eraseIdx_of_lt hk];exact Nat.sub_le_of_le_add hn
  ·exact(hp.cons _).trans (Zjw hk)
theorem Zmp{α:Type}(next:Nat→Nat):∀(fuel k:Nat)(left:List α)(out:Array α),left.length≤fuel→(pickOrder.go next fuel k left out).toList.Perm (out.toList++left)
 |0,k,left,out,h=>by
  rw[List.eq_nil_of_length_eq_zero (Nat.le_zero.mp h),List.append_nil];exact .refl _
 |fuel+1,k,left,out,h=>by
  cases left with
  |nil=>rw[List.append_nil];exact .refl _
  |cons x xs=>
   have hk:next k % (x::xs).length<(x::xs).length:=Nat.mod_lt _ (Nat.succ_pos _)
   show(match(x::xs)[next k % (x::xs).length]? with | some y=>pickOrder.go next fuel (k+1) ((x::xs).eraseIdx (next k % (x::xs).length)) (out.push y) | none=>out).toList.Perm _
   refine eqE (Z8v hk) ?_
   refine(Zmp next fuel (k+1) _ _ ?_).trans ?_
   ·rw[List.length_eraseIdx_of_lt hk];exact Nat.sub_le_of_le_add h
   ·rw[Array.toList_push,Z8n]
    exact(Zjw hk).append_left _
theorem Zin{α:Type}(next:Nat→Nat)(xs:Array α):(pickOrder next xs).toList.Perm xs.toList:=Zmp next xs.size 0 xs.toList #[] (Z8c Z8u)
end
section
variable{X:Cx}{W:Wd}{σ:St}{s:Shared}{A:Around}{E:Value→Shared→Prop}
noncomputable abbrev siO(S:Addr)(first:Value)(i n ep:Nat):Obj:={ cls:=.type "set_iterator",data:=.fields #[first,.int i 0,.ref S,.int n 0,.int ep 0] }
noncomputable abbrev seO(es:Array (Int×Value))(ep:Nat)(t:SetTable):Obj:={ cls:=.type "set",dict:=none,data:=.set es ep t }
inductive Road(X:Cx)(S:Addr)(es:Array (Int×Value))(ep:Nat)(t:SetTable)(ord:List (Int×Value))(T:Addr)(h:Heap)(i:Nat):Value→Prop where
 |text (hb:byT X=true) (k:Nat) (e:ord=(pickOrder (X.w.params.setOrder S ep) es).toList):Road X S es ep t ord T h i (.int k 0)
 |place (hb:byT X=false) (hp:(!t.plain&&decide (es.size > 1))=false) (hl:t.led=true) (e:ord=es.toList) (k:Nat) (hk:SetTable.below t.place k=i):Road X S es ep t ord T h i (.int k 0)
 |drawn (ps:List Nat) (ht:h.IsTuple T (ps.map λ(p:Nat)=>rawInt p).toArray) (e:ord=ps.map λp=>es.getD p (0,.none)) (hp:∀p∈ps,p<es.size):Road X S es ep t ord T h i (.ref T)
@[elab_as_elim]theorem Road.el{S:Addr}{es:Array (Int×Value)}{ep:Nat}{t:SetTable}{ord:List (Int×Value)}{T:Addr}{h:Heap}{i:Nat}{motive:Value→Prop}{v:Value}(r:Road X S es ep t ord T h i v)(h1:∀k:Nat,byT X=true→ord=(pickOrder (X.w.params.setOrder S ep) es).toList→motive (.int k 0))
  (h2:∀k:Nat,byT X=false→(!t.plain&&decide (es.size > 1))=false→t.led=true→ord=es.toList→SetTable.below t.place k=i→motive (.int k 0))
  (h3:∀ps:List Nat,h.IsTuple T (ps.map λ(p:Nat)=>rawInt p).toArray→(ord=ps.map λp=>es.getD p (0,.none))→(∀p∈ps,p<es.size)→motive (.ref T)):motive v:=
 Road.casesOn (motive:=λv Z=>motive v) r (λhb k e=>h1 k hb e) (λhb hp hl e k hk=>h2 k hb hp hl e hk) h3
theorem Zvb{n:Nat}:¬(((n:Int) != (n:Int))=true):=by rw[bne_self_eq_false];exact Z86
theorem Zo0{n:Nat}:¬((n != (n:Int).toNat)=true):=by rw[Int.toNat_natCast,bne_self_eq_false];exact Z86
structure U0(X:Cx)(I S:Addr)(es:Array (Int×Value))(ep:Nat)(t:SetTable)(ord:List (Int×Value))(T:Addr)(i:Nat)(s:Shared):Prop where
 it:∃first,s.heap.get? I=some (siO S first i es.size ep)∧Road X S es ep t ord T s.heap i first
 set:s.heap.get? S=some (seO es ep t)
theorem Road.move{S:Addr}{es:Array (Int×Value)}{ep:Nat}{t:SetTable}{ord:List (Int×Value)}{T:Addr}{h h':Heap}{i:Nat}{v:Value}(r:Road X S es ep t ord T h i v)(hT:∀o,h.get? T=some o→h'.get? T=some o):Road X S es ep t ord T h' i v:=by
 cases r with
 |text hb k e=>exact .text hb k e
 |place hb hp hl e k hk=>exact .place hb hp hl e k hk
 |drawn ps ht e hp=>exact .drawn ps (ht.at hT) e hp
theorem Zgx{I S:Addr}{first:Value}{i n ep:Nat}(h:s.heap.get? I=some (siO S first i n ep)):s.TypeIs (.ref I) "set_iterator":=⟨_,h,rfl⟩
theorem Zcy{Q:Bool→Shared→Prop}(h:Q (byT X) s):wpAny (model pp X.w) A setsByText Q E s:=Z8z (wpAny_askSetting (Z80 h))
theorem Zl8{S:Addr}{es:Array (Int×Value)}{ep:Nat}{t:SetTable}(hS:s.heap.get? S=some (seO es ep t))(hf:t.fits es.size=true)(hb:byT X=true){Q:Array (Int×Value)→Shared→Prop}(h:Q (pickOrder (X.w.params.setOrder S ep) es) s):wpAny (model pp X.w) A (setWalk S) Q E s:=by
 unfold setWalk
 refine Z8z (wpAny_setState_of hS rfl hf (Z8z (Zcy ?_)))
 rw[hb]
 exact Z8z (wpAny_askSetting (Z80 h))
theorem Zt1{I S:Addr}{first:Value}{i n ep:Nat}{x:Value}{P:PySem.Fin→Shared→Prop}(ho:s.heap.get? I=some (siO S first i n ep))(h:∀h',Heap.SameBut I s.heap h'→h'.get? I=some (siO S first (i+1) n ep)→P (.done (.ret x)) { s with heap:=h' }):
  wpAny (model pp X.w) A (do setField (.ref I) 1 (rawInt ((i:Int)+1));ret x) P E s:=
 Z8z (wpAny_setField_rec ho (Nat.lt_of_sub_eq_succ rfl) λh' g hs=>Z80 (h h' hs g))
theorem Zp8{I S:Addr}{first Vn:Value}{i n ep:Nat}{x:Value}{P:PySem.Fin→Shared→Prop}(ho:s.heap.get? I=some (siO S first i n ep))(h:∀h',Heap.SameBut I s.heap h'→h'.get? I=some (siO S Vn (i+1) n ep)→P (.done (.ret x)) { s with heap:=h' }):
  wpAny (model pp X.w) A (do setField (.ref I) 0 Vn;setField (.ref I) 1 (rawInt ((i:Int)+1));ret x) P E s:=
 Z8z (wpAny_setField_rec ho (Nat.lt_of_sub_eq_succ rfl) λh1 g1 hs1=>Zt1 (s:={ s with heap:=h1 }) (first:=Vn) g1 λh' hs g=>h h' (hs1.trans hs) g)
theorem Zs8{xs:Array Nat}(hr:K5 xs){i j:Nat}(h:xs[i]? = some j):SetTable.below xs (j+1)=i+1:=by
 obtain⟨h1,h2,h3⟩:=Zgl hr (j+1)
 have hi:=(Array.getElem?_eq_some_iff.mp h).1
 refine Nat.le_antisymm (Nat.not_lt.mp λq=>?_) (Nat.not_le.mp λq=>Nat.lt_irrefl _ (Nat.lt_of_succ_le (h3 i j q h)))
 have hl:=Z73 q h1
 have hx:xs[i+1]? = some xs[i+1]:=Z8t hl
 exact absurd (hr.lt h hx (Z79 i)) (Nat.not_lt.mpr (Z8f (h2 (i+1) _ q hx)))
theorem Zx6{I S:Addr}{i:Nat}{es:Array (Int×Value)}{ep:Nat}{t:SetTable}{ord:List (Int×Value)}{T:Addr}(hIS:S≠I)(hIT:T≠I)(T0:YP t es)(hlen:ord.length=es.size){Q:Option Value→Shared→Prop}(st:U0 X I S es ep t ord T i s){e:Int×Value}(he:ord[i]? = some e)
  (h:∀h',Heap.SameBut I s.heap h'→U0 X I S es ep t ord T (i+1) { s with heap:=h' }→Q (some e.2) { s with heap:=h' }):wpAny (model pp X.w) A (pyNext (.ref I)) Q E s:=by
 obtain⟨⟨first,ho,hr⟩,hS⟩:=st
 refine Z8z (wpAny_attempt (wpAny_callSpecial?_slot (name:=Str.ofString "__next__") (Zgx ho) Y9
  (wpAny_call_entry Y9 (Zgx ho) Zem ?_ (Zf5 _))))
 refine Z8z (m:=slotArgs _ _ _) (Z80 ?_)
 refine Z8z (wpAny_fieldsOf ho rfl ?_)
 dsimp only
 refine Z8z (wpAny_setEntries_of hS rfl T0.fits (wpN Zvb ?_))
 have e1:(pickOrder (X.w.params.setOrder S ep) es)[i]? = (pickOrder (X.w.params.setOrder S ep) es).toList[i]?:=Z8s.symm
 revert ho
 refine hr.el (λk hb e' ho=>?_) (λk hb hp hl e' hk ho=>?_) λps ht e' hp ho=>?_
 ·refine Z8z (m:=setNext S _ _ _) (Z8z (wpAny_setState_of hS rfl T0.fits (Z8z (Zcy (wpI hb (wpN Zo0 (Z8z (Zl8 hS T0.fits hb (Z80 ?_)))))))))
  refine eqE (e1.trans (e'▸he)) ?_
  exact Zp8 ho λh' hs g=>⟨_,rfl,Z80 (h h' hs ⟨⟨_,g,.text hb _ e'⟩,(hs.2 S hIS).trans hS⟩)⟩
 ·refine Z8z (m:=setNext S _ _ _) (Z8z (wpAny_setState_of hS rfl T0.fits (Z8z (Zcy (wpN (λq=>nomatch hb.symm.trans q) (wpN (λq=>nomatch hp.symm.trans q) ?_))))))
  refine Z8z (show wpAny _ _ (if(!t.led&&!es.isEmpty)=true then unsupported _ else pure ()) _ _ _ from wpN (by rw[hl];exact Z86) (Z80 ?_))
  have hei:es[i]? = some e:=by rw[←Z8s,←e'];exact he
  obtain⟨j,hpl⟩:∃j,t.place[i]? = some j:=⟨_,Z8t (T0.len▸(Array.getElem?_eq_some_iff.mp hei).1)⟩
  refine eqE (show SetTable.below t.place (k:Int).toNat=i from hk) ?_
  dsimp only
  refine eqE hei (eqE hpl ?_)
  exact Z80 (Zp8 ho λh' hs g=>⟨_,rfl,Z80 (h h' hs ⟨⟨_,g,.place hb hp hl e' (j+1) (Zs8 T0.rise hpl)⟩,(hs.2 S hIS).trans hS⟩)⟩)
 ·obtain⟨oT,hoT,Z,nT,hdT⟩:=ht
  have hpi:∃p,ps[i]? = some p∧es.getD p (0,.none)=e:=by
   rw[e',List.getElem?_map]at he
   exact Z8r.mp he
  obtain⟨p,hpp,hpe⟩:=hpi
  have hpl:=hp p (Z89 hpp)
  have hep:es[p]? = some e:=by rw[←hpe,Array.getD_eq_getD_getElem?,Z8t hpl];rfl
  refine Z8z (m:=seqItems? (.ref T)) (wpAny_seqItems hoT hdT ?_)
  dsimp only
  refine eqE (show(ps.map λ(p:Nat)=>rawInt p).toArray[(i:Int).toNat]? = some (rawInt p)by rw[Int.toNat_natCast,List.getElem?_toArray,List.getElem?_map,hpp];rfl) ?_
  refine Z8z (m:=setNextDrawn S _ _) (Z8z (wpAny_setState_of hS rfl T0.fits (wpN Zo0 ?_)))
  refine eqE (show es[(p:Int).toNat]? = some e from hep) ?_
  exact Z80 (Zt1 ho λh' hs g=>⟨_,rfl,Z80 (h h' hs ⟨⟨_,g,.drawn ps ⟨oT,(hs.2 T hIT).trans hoT,‹_›,nT,hdT⟩ e' hp⟩,(hs.2 S hIS).trans hS⟩)⟩)
end
section
variable{X:Cx}{W:Wd}{σ:St}{s:Shared}{A:Around}{E:Value→Shared→Prop}
theorem Zoj{B:Around}{Q:Option Value→Shared→Prop}{P:PySem.Fin→Shared→Prop}(hh:A.handled=none)(h:∀h',(∀a o,s.heap.get? a=some o→h'.get? a=some o)→Q none { s with heap:=h' }):
  wpAny (model pp X.w) A (do let e ←newExc (.type "StopIteration") [];raiseNew e) P (λe s'=>wpAny (model pp X.w) B (do let b ←isInstance e (.type "StopIteration");if b=true then pure none else throw e) Q E s') s:=by
 refine Z8z ?_
 simp only[newExc,newTuple]
 refine Z8z (wpAny_newObj_type ?_ (by size_fits))
 refine Z8z (m:=firstArgMember _ _) (wpAny_of_eq (a:=Value.none) (by first | rfl | (simp only[firstArgMember];rfl)) ?_)
 refine wpAny_newObj_type ?_ (by size_fits)
 refine Z8z (wpAny_handled (eqE hh ?_))
 refine Z8z (Z80 (wpAny_throw ?_))
 refine Z8z (wpAny_isInstance (T:="StopIteration") (b:=true) ⟨_,Z8y _ rfl,rfl⟩ isSubtype_stop ?_)
 exact Z80 (h _ λa o e=>Z8x _ (Z8x _ e))
theorem Zx7{I S:Addr}{es:Array (Int×Value)}{ep:Nat}{t:SetTable}{ord:List (Int×Value)}{T:Addr}(hh:A.handled=none)(T0:YP t es)(hlen:ord.length=es.size){Q:Option Value→Shared→Prop}(st:U0 X I S es ep t ord T es.size s)
  (h:∀h',(∀a o,a≠I→s.heap.get? a=some o→h'.get? a=some o)→Q none { s with heap:=h' }):wpAny (model pp X.w) A (pyNext (.ref I)) Q E s:=by
 obtain⟨⟨first,ho,hr⟩,hS⟩:=st
 refine Z8z (wpAny_attempt (wpAny_callSpecial?_slot (name:=Str.ofString "__next__") (Zgx ho) Y9
  (wpAny_call_entry Y9 (Zgx ho) Zem ?_ (Zf5 _))))
 refine Z8z (m:=slotArgs _ _ _) (Z80 ?_)
 refine Z8z (wpAny_fieldsOf ho rfl ?_)
 dsimp only
 refine Z8z (wpAny_setEntries_of hS rfl T0.fits (wpN Zvb ?_))
 have GJ:∀{h1:Heap},Heap.SameBut I s.heap h1→∀h',(∀a o,h1.get? a=some o→h'.get? a=some o)→Q none { s with heap:=h' }:=λhs h' hk=>h h' λa o ha e=>hk a o ((hs.2 a ha).trans e)
 have hno:ord[es.size]? = none:=List.getElem?_eq_none (Z8c hlen)
 revert ho
 refine hr.el (λk hb e' ho=>?_) (λk hb hp hl e' hk ho=>?_) λps ht e' hp ho=>?_
 ·refine Z8z (m:=setNext S _ _ _) (Z8z (wpAny_setState_of hS rfl T0.fits (Z8z (Zcy (wpI hb (wpN Zo0 (Z8z (Zl8 hS T0.fits hb (Z80 ?_)))))))))
  refine eqE (show(pickOrder (X.w.params.setOrder S ep) es)[(es.size:Int).toNat]? = none from Z8s.symm.trans (e'▸hno)) ?_
  exact Z8z (wpAny_setField_rec ho (Nat.lt_of_sub_eq_succ rfl) λh1 Z hs=>Zoj (s:={ s with heap:=h1 }) (A:=A.in1) hh (GJ hs))
 ·refine Z8z (m:=setNext S _ _ _) (Z8z (wpAny_setState_of hS rfl T0.fits (Z8z (Zcy (wpN (λq=>nomatch hb.symm.trans q) (wpN (λq=>nomatch hp.symm.trans q) ?_))))))
  refine Z8z (show wpAny _ _ (if(!t.led&&!es.isEmpty)=true then unsupported _ else pure ()) _ _ _ from wpN (by rw[hl];exact Z86) (Z80 ?_))
  refine eqE (show SetTable.below t.place (k:Int).toNat=es.size from hk) ?_
  dsimp only
  refine eqE (Array.getElem?_eq_none (xs:=es) (Z70 _)) ?_
  exact Z80 (Z8z (wpAny_setField_rec ho (Nat.lt_of_sub_eq_succ rfl) λh1 Z hs=>Zoj (s:={ s with heap:=h1 }) (A:=A.in1) hh (GJ hs)))
 ·obtain⟨oT,hoT,Z,nT,hdT⟩:=ht
  refine Z8z (m:=seqItems? (.ref T)) (wpAny_seqItems hoT hdT ?_)
  dsimp only
  refine eqE (show(ps.map λ(p:Nat)=>rawInt p).toArray[(es.size:Int).toNat]? = none by rw[Int.toNat_natCast,List.getElem?_toArray];exact List.getElem?_eq_none (by rw[Z8i,←hlen,e',Z8i];exact Z70 _)) ?_
  exact Z8z (wpAny_setField_rec ho (Nat.lt_of_sub_eq_succ rfl) λh1 g1 hs=>Z8z (wpAny_setField_rec (s:={ s with heap:=h1 }) g1 (Nat.lt_of_sub_eq_succ rfl) λh2 Z hs2=>Zoj (s:={ s with heap:=h2 }) (A:=A.in1) hh (GJ (hs.trans hs2))))
theorem Ztc{I S T:Addr}{es:Array (Int×Value)}{ep:Nat}{t:SetTable}{ord:List (Int×Value)}(hh:A.handled=none)(hIS:S≠I)(hIT:T≠I)(T0:YP t es)(hlen:ord.length=es.size):
  WalksS pp X.w A I [I,S,T] [I] (λa b=>b=a) es.size (λi v=>∃e,ord[i]? = some e∧v=e.2) (U0 X I S es ep t ord T) where
 sub:=λb hb=>Z8k.mpr (.inl (Z8m.mp hb))
 grefl:=λZ=>rfl
 gtrans:=λZ Z Z h1 h2=>h2.trans h1
 frame:=λi s h' tk st Z hk=>⟨let⟨f,e,r⟩:=st.it;⟨f,hk I Z8g _ e,r.move (hk T (Z8h _ (Z8h _ Z8g)))⟩,hk S (Z8h _ Z8g) _ st.set⟩
 item:=λi s Q E hi st hQ=>by
  have he:ord[i]? = some ord[i]:=Z8v (hlen▸hi)
  exact Zx6 hIS hIT T0 hlen st he λh' hs st'=>hQ _ _ ⟨_,he,rfl⟩ st' ⟨λb o hb e=>(hs.2 b λq=>hb (q▸Z8g)).trans e,rfl,rfl,rfl,Z70 _⟩
 done:=λs Q E st hQ=>Zx7 hh T0 hlen st λh' hk=>hQ _ ⟨λb o hb e=>hk b o (λq=>hb (q▸Z8g)) e,rfl,rfl,rfl,Z70 _⟩
 self:=λi s Q E st hQ=>let⟨f,e,r⟩:=st.it;wpAny_pyIter_slot (Zgx e) Zfo (wpAny_call_entry Zfo (Zgx e) Zln (Z80 ⟨_,rfl,"set_iterator",_,Zgx e,Y9.lookup,hQ⟩) (Zob _))
end
section
variable{X:Cx}{W:Wd}{σ:St}{s:Shared}{A:Around}{E:Value→Shared→Prop}
theorem Zkq{S:Addr}{es:Array (Int×Value)}{ep:Nat}{t:SetTable}(h:s.heap.get? S=some (seO es ep t)):s.TypeIs (.ref S) "set":=⟨_,h,rfl⟩
theorem Zuz{es:Array (Int×Value)}{d:Int×Value}:(List.range es.size).map (λp=>es.getD p d)=es.toList:=by
 refine List.ext_getElem? λi=>?_
 rw[List.getElem?_map,Z8s (xs:=es)]
 by_cases h:i<es.size
 ·rw[List.getElem?_range h,Z8t h,Option.map_some,Array.getD_eq_getD_getElem?,Z8t h];rfl
 ·rw[Array.getElem?_eq_none (Nat.not_lt.mp h),List.getElem?_eq_none (by rw[List.length_range];exact Nat.not_lt.mp h)];rfl
theorem Zs7(xs:Array Nat)(hr:K5 xs):SetTable.below xs 0=0:=by
 obtain⟨h1,h2,Z⟩:=Zgl hr 0
 refine Nat.eq_zero_of_not_pos λq=>?_
 exact Nat.not_lt_zero _ (h2 0 _ q (Z8t (Z73 q h1)))
theorem Zb4(h:Heap)(o:Obj):h.objs.size<(h.push o).objs.size:=by rw[Heap.size_push];exact Z79 _
theorem Zyl{S:Addr}{es:Array (Int×Value)}{ep:Nat}{t:SetTable}(hS:s.heap.get? S=some (seO es ep t))(T0:YP t es)(DF:t.led=!byT X)(hz:es.size≤64){Q:Value→Shared→Prop}
  (h:∀h' d I T ord,ord.Perm es.toList→U0 X I S es ep t ord T 0 { s with heap:=h',drawn:=d }→(∀a o,s.heap.get? a=some o→h'.get? a=some o)→I<h'.objs.size→s.heap.objs.size≤I→(T=S∨s.heap.objs.size≤T)→T≠I→Q (.ref I) { s with heap:=h',drawn:=d }):
  wpAny (model pp X.w) A (pyIter (.ref S)) Q E s:=by
 refine wpAny_pyIter_slot (Zkq hS) F.slot_set_iter (wpAny_call_entry F.slot_set_iter (Zkq hS) Ziy ?_ (F.args_set_iter_1 _))
 refine Z8z (m:=Builtin.Frozenset.slot0 _ _) (Z80 (a:=S) ?_)
 refine Z8z (m:=Builtin.Frozenset.sizeOf S) (Z8z (wpAny_setEntries_of hS rfl T0.fits (Z80 ?_)))
 refine Z8z (m:=setDrawn S) (Z8z (wpAny_setState_of hS rfl T0.fits (Z8z (Zcy ?_))))
 have hlt:=Heap.lt_size hS
 refine Z80 ?_
 split
 ·rename_i q
  refine Z8z (Zj0 es.size (List.range es.size) (Z8c List.length_range) λps d hp=>?_)
  have hps:∀p∈ps,p<es.size:=λp h=>List.mem_range.mp (hp.mem_iff.mp h)
  have hlen:ps.length≤64:=by rw[hp.length_eq,List.length_range];exact hz
  refine Z8z (wpAny_newTuple ?_ (by rw[Z8i];exact Zvq hlen))
  have hS1:(s.heap.push { cls:=.type "tuple",data:=.seq (ps.map λ(p:Nat)=>rawInt p).toArray }).get? S=some (seO es ep t):=Z8x _ hS
  refine Z8z (wpAny_setEpoch_of hS1 rfl T0.fits ?_)
  refine Z8z (m:=newFields _ _) (wpAny_newObj_type (Z80 ⟨_,rfl,"set_iterator",_,⟨_,Z8y _ rfl,rfl⟩,Y9.lookup,?_⟩) (by size_fits))
  refine h _ d _ s.heap.objs.size (ps.map λp=>es.getD p (0,.none)) ((hp.map _).trans (.of_eq Zuz)) ⟨⟨.ref s.heap.objs.size,Z8y _ rfl,.drawn ps ⟨_,Z8x _ (Z8y _ rfl),rfl,0,rfl⟩ rfl hps⟩,Z8x _ hS1⟩ (λa o e=>Z8x _ (Z8x _ e)) (Zb4 _ _) (Z8e (Zb4 _ _)) (.inr (Z70 _)) (Nat.ne_of_lt (Zb4 _ _))
 ·rename_i q
  refine Z8z (Z80 ?_)
  refine Z8z (wpAny_setEpoch_of hS rfl T0.fits ?_)
  refine Z8z (m:=newFields _ _) (wpAny_newObj_type (Z80 ⟨_,rfl,"set_iterator",_,⟨_,Z8y _ rfl,rfl⟩,Y9.lookup,?_⟩) (by size_fits))
  have fin:∀ord,ord.Perm es.toList→Road X S es ep t ord S (s.heap.push (siO S (.int 0 0) 0 es.size ep)) 0 (.int 0 0)→Q (.ref s.heap.objs.size) { s with heap:=s.heap.push (siO S (.int 0 0) 0 es.size ep) }:=λord p r=>
   h _ s.drawn _ S ord p ⟨⟨_,Z8y _ rfl,r⟩,Z8x _ hS⟩ (λa o e=>Z8x _ e) (Zb4 _ _) (Z70 _) (.inl rfl) (Nat.ne_of_lt hlt)
  cases hb:byT X with
  |true=>exact fin _ (Zin _ _) (.text hb 0 rfl)
  |false=>
   rw[hb]at q DF
   exact fin _ (.refl _) (.place hb ((Bool.not_eq_true _).mp q) DF rfl 0 (Zs7 _ T0.rise))
end
section
variable{X:Cx}{W:Wd}{σ:St}{s:Shared}{A:Around}{E:Value→Shared→Prop}
theorem Zoh:isSubtype (.type "set") (.type "set")=pure true:=by rw[isSubtype_type];kernel_rfl
theorem Zyp{S:Addr}{Q:Bool→Shared→Prop}(hT:s.TypeIs (.ref S) "set")(h:Q false s):wpAny (model pp X.w) A (Builtin.List.listLengthHint (.ref S)) Q E s:=by
 refine Z8z (wpAny_specialOf hT F.slot_set_len.lookup ?_)
 dsimp only
 refine eqE (show splitId "set.__len__"=some ("set","__len__")by decide +kernel) ?_
 refine Z8z (wpAny_isInstance (b:=true) hT Zoh (wpN (λq=>nomatch q) (wpI (by decide +kernel) ?_)))
 exact Z8z (wpAny_typeOf hT (Z80 h))
theorem Zpj{S:Addr}{cs:List ZA}(I:Inv X W σ s)(C:XB X W s.heap S (!byT X) cs)(hh:A.handled=none)(hz:cs.length≤64){Q:List Value→Shared→Prop}
  (h:∀s' acc cs',Inv X W σ s'→cs'.Perm cs→ZF W acc cs'→Q acc s'):wpAny (model pp X.w) A (collect (.ref S)) Q E s:=by
 obtain⟨es,t,C,hl⟩:=C.ex
 obtain⟨ep,ho⟩:=C.obj
 have hlt:=Heap.lt_size ho
 refine Z8z (wpAny_runValue (codeAny_builtin F.entry_proto_collect ?_))
 rw[Around.under_plainId F.plain_proto_collect _]
 show wpAny _ A.in1 (newList [] >>= λl=>again (.builtin "list.__iadd__" ⟨[l,.ref S],[]⟩)) _ _ s
 refine Z8z (wpAny_newObj_type ?_)
 refine Z80 ⟨plainId_quiet F.plain_list_iadd _,codeAny_builtin F.entry_list_iadd ?_⟩
 rw[Around.under_plainId F.plain_list_iadd _]
 have hL:(s.heap.push (seqObj "list" ([]:List Value).toArray 0)).get? s.heap.objs.size=some (seqObj "list" ([]:List Value).toArray 0):=Z8y _ rfl
 have hS1:(s.heap.push (seqObj "list" ([]:List Value).toArray 0)).get? S=some (seO es ep t):=Z8x _ ho
 have h1:Builtin.List.listSameRef (.ref s.heap.objs.size) (.ref S)=false:=Z85.mpr (Nat.ne_of_gt hlt)
 show wpAny _ A.in1 (Builtin.List.listExtendWith (.ref s.heap.objs.size) (.ref S) (.ref s.heap.objs.size)) _ _ _
 refine Z8z (wpAny_typeOf (Zkq hS1) ?_)
 refine wpN (by rw[h1];decide) ?_
 have hsz:es.size≤64:=C.size▸hz
 refine Z8z (Zyl hS1 C.tab C.led hsz λh2 d it T ord hp st hk hI1 hI2 hT1 hT2=>?_)
 have hL2:=hk _ _ hL
 refine Z8z (wpAny_holding (Zyp (Zkq st.set) (wpI (by decide +kernel) (Z8z (wpAny_rule ?_)))))
 refine Z8z (m:=Builtin.List.listTouch _) (Z8z (listUpdate_at hL2 rfl ?_ (Z8d _) (Z72 _ _)))
 have hL3:=get?_update_seq hL2 (·.push Value.none)
 refine listUpdate_at (s:={ s with heap:=h2.update s.heap.objs.size _,drawn:=d }) hL3 rfl ?_ (by rw[sizeLine_eq];exact Z78 rfl) (Z8d _)
 obtain⟨e4,hL4⟩:∃e,((h2.update s.heap.objs.size (Obj.mapSeq (·.push Value.none))).update s.heap.objs.size (Obj.mapSeq (·.pop))).get? s.heap.objs.size=some (seqObj "list" #[] e):=⟨_,get?_update_seq hL3 (·.pop)⟩
 have hsb:=(Heap.SameBut.update h2 s.heap.objs.size (Obj.mapSeq (·.push Value.none))).trans (Heap.SameBut.update _ s.heap.objs.size (Obj.mapSeq (·.pop)))
 generalize(h2.update s.heap.objs.size (Obj.mapSeq (·.push Value.none))).update s.heap.objs.size (Obj.mapSeq (·.pop))=h4 at hL4 hsb
 have hit:s.heap.objs.size≠it:=Nat.ne_of_lt (Z73 (Zb4 _ _) hI2)
 have hLT:s.heap.objs.size≠T:=hT1.elim (λe=>e▸Nat.ne_of_gt hlt) λe=>Nat.ne_of_lt (Z73 (Zb4 _ _) e)
 have Kx:s.heap.objs.size ∉ [it,S,T]:=λq=>by
  rcases Z8k.mp q with q | q
  ·exact hit q
  rcases Z8k.mp q with q | q
  ·exact Nat.ne_of_gt hlt q
  ·exact hLT (Z8m.mp q)
 have hlen:ord.length=es.size:=hp.length_eq.trans Z8u
 have Wk:=Ztc (X:=X) (A:=A.in1) (ep:=ep) hh (Nat.ne_of_lt (Nat.lt_trans hlt (Z73 (Zb4 _ _) hI2))) hT2 C.tab hlen
 have hfr:∀a∈s.heap.objs.size::[it],W a=.free:=λa ha=>by
  rcases Z8k.mp ha with rfl | ha
  ·exact I.free (Z70 _)
  ·rw[Z8m.mp ha];exact I.free (Z7z (Z8e (Zb4 _ _)) hI2)
 have I4:Inv X W σ { s with heap:=h4,drawn:=d }:=(I.drew d).grow (h':=h4) (tk:=s.toks) λa o ha e=>(hsb.2 a λq=>ha (q▸hfr _ Z8g)).trans (hk a o (Z8x _ e))
 refine Z80 ⟨plainId_quiet F.plain_extend_loop _,codeAny_extend_loopS Wk (Zvq hsz) _ Kx _ es.size 0 _ #[] e4 rfl (Z8d _) (Wk.frame 0 { s with heap:=h2,drawn:=d } h4 s.toks st (Z70 _) λb hb o e=>(hsb.2 b λq=>Kx (q▸hb)).trans e) hL4 (ItemsOf.nil _) λs' Ih c' hm hS' DX=>?_⟩
 refine Z8z (wpAny_load hS' (Z80 ?_))
 obtain⟨cs',p1,r1⟩:=F2.perm hp C.ents
 have DW:Ih.toList=ord.map (·.2):=List.ext_getElem? λi=>by
  rw[Z8s,List.getElem?_map]
  cases hq:Ih[i]? with
  |none=>rw[List.getElem?_eq_none (by rw[hlen,←DX.1];exact Array.getElem?_eq_none_iff.mp hq)];rfl
  |some v=>obtain⟨e,he,rfl⟩:=DX.2 i v hq;rw[he];rfl
 rw[DW]
 exact h s' _ cs' (I4.moved hm hfr) p1 (List.map_id cs'▸F2.map (g:=id) (λe c r=>r.val) r1)
end
section
noncomputable def TW(lt:Nat→Nat→Bool)(n:Nat){α:Type}(t:KasT α):(α→Prop)→Prop:=@KasT.rec α (λZ=>(α→Prop)→Prop) (λa Q=>Q a) (λi j Z ih Q=>i<n∧j<n∧ih (lt i j) Q) t
section
variable{lt:Nat→Nat→Bool}{n:Nat}{α β:Type}
theorem TW.mono{Q Q':α→Prop}:∀{t:KasT α},TW lt n t Q→(∀a,Q a→Q' a)→TW lt n t Q'
 | .ret a,h,hq=>hq a h
 | .ask i j k,h,hq=>⟨h.1,h.2.1,TW.mono (t:=k (lt i j)) h.2.2 hq⟩
theorem TW.wp{cmp:Nat→Nat→(Bool→Shared→Prop)→Shared→Prop}{s:Shared}(hc:∀i j C,i<n→j<n→C (lt i j) s→cmp i j C s){Q:α→Shared→Prop}:∀{t:KasT α},TW lt n t (λa=>Q a s)→t.kasWp cmp Q s
 | .ret a,h=>h
 | .ask i j k,h=>hc i j _ h.1 h.2.1 (TW.wp hc (t:=k (lt i j)) h.2.2)
end
structure SO(lt:Nat→Nat→Bool)(n:Nat):Prop where
 irr:∀i,lt i i=false
 tr:∀i j k,lt i j=true→lt j k=true→lt i k=true
 tot:∀i j,i<n→j<n→i≠j→lt i j=true∨lt j i=true
abbrev Pm(n:Nat)(p:Array Nat):Prop:=p.toList.Perm (List.range n)
variable{lt:Nat→Nat→Bool}{n:Nat}{p:Array Nat}
theorem Pm.size(P:Pm n p):p.size=n:=by rw[←Z8u,P.length_eq,List.length_range]
theorem Pm.get(P:Pm n p){i:Nat}(h:i<n):p[i]? = some (p.getD i 0):=by
 have:=P.size.symm▸h
 rw[Array.getD_eq_getD_getElem?,Z8t this];rfl
theorem Pm.bd(P:Pm n p){i:Nat}(h:i<n):p.getD i 0<n:=List.mem_range.mp (P.mem_iff.mp (List.mem_iff_getElem?.mpr ⟨i,Z8s.trans (P.get h)⟩))
abbrev ltA(lt:Nat→Nat→Bool)(p:Array Nat)(i j:Nat):Prop:=lt (p.getD i 0) (p.getD j 0)=true
abbrev Srt(lt:Nat→Nat→Bool)(p:Array Nat)(m:Nat):Prop:=∀i j,i<j→j<m→ltA lt p i j
theorem Rw:kas_sort 2=.ask 1 0 λc=>.ret (if c=true then #[1,0]else #[0,1]):=Z81 (KasT.ask 1 0) (funext λc=>by cases c<;>kernel_rfl)
theorem Z0q(O:SO lt n)(hn:n=2):TW lt n (kas_sort n) λq=>Pm n q∧Srt lt q n:=by
 subst hn
 rw[Rw]
 refine(show 1<2∧0<2∧(Pm 2 _∧Srt lt _ 2)from⟨by decide,by decide,?_⟩:_)
 have one:∀{q:Array Nat},ltA lt q 0 1→Srt lt q 2:=λh i j hij hj=>by
  obtain rfl:j=1:=Nat.le_antisymm (Z8f hj) (Z74 (Z8d i) hij)
  rw[Nat.lt_one_iff.mp hij];exact h
 cases h:lt 1 0 with
 |true=>exact⟨List.Perm.swap 0 1 [],one h⟩
 |false=>exact⟨.refl _,one ((O.tot 0 1 (by decide) (by decide) (by decide)).resolve_right λq=>nomatch h.symm.trans q)⟩
end
section
variable{prog:Program}{w:World}{A:Around}{E:Value→Shared→Prop}{s:Shared}
theorem UG{n:Nat}(h:n<64):n≤sizeLine:=by rw[sizeLine_eq];lia
theorem Zxr{a:Addr}{vs:List Value}{n:Nat}{κ:SortKind}{lt:Nat→Nat→Bool}{P:PySem.Fin→Shared→Prop}(ho:s.heap.get? a=some (seqObj "list" vs.toArray n))(h64:vs.length<64)(h22:vs.length≤2)(O:SO lt vs.length)
  (hk:∀{h':Heap}{Q:SortKind→Shared→Prop},(∀b o,b≠a→s.heap.get? b=some o→h'.get? b=some o)→2≤vs.length→Q κ { s with heap:=h' }→wpAny (model prog w) A (keyKind' vs.toArray) Q E { s with heap:=h' })
  (hc:∀{h':Heap}{Q:Bool→Shared→Prop}{i j:Nat},(∀b o,b≠a→s.heap.get? b=some o→h'.get? b=some o)→i<vs.length→j<vs.length→Q (lt i j) { s with heap:=h' }→wpAny (model prog w) A (keyLt' κ (vs.getD i .none) (vs.getD j .none)) Q (λZ Z=>False) { s with heap:=h' })
  (h:∀h' p e,Pm vs.length p→Srt lt p vs.length→(∀b o,b≠a→s.heap.get? b=some o→h'.get? b=some o)→h'.get? a=some (seqObj "list" (p.toList.map λi=>vs.getD i Value.none).toArray e)→P (.done (.ret .none)) { s with heap:=h' }):
  wpAny (model prog w) A (Builtin.«list.sort» ⟨[.ref a],[]⟩) P E s:=by
 have ha:=Heap.lt_size ho
 obtain⟨e1,h1⟩:∃e1,(s.heap.update a (Obj.mapSeq λZ=>(#[]:Array Value))).get? a=some (seqObj "list" #[] e1):=⟨_,get?_update_seq ho λZ=>#[]⟩
 rw[list_sort_plain]
 refine Z8z (listItems_at ho rfl ?_)
 refine Z8z (listUpdate_at ho rfl ?_ (UG h64) (Z8d _))
 refine Z8z (seqEpoch_at h1 rfl ?_)
 refine Z8z (wpAny_newTuple ?_ (UG h64))
 refine Z8z (wpAny_newList ?_ (Z8d _))
 refine wpAny_holding ?_
 have h6:(((s.heap.update a (Obj.mapSeq λZ=>(#[]:Array Value))).push (seqObj "tuple" vs.toArray 0)).push (seqObj "list" #[] 0)).get? a=some (seqObj "list" #[] e1):=
  Z8x _ (Z8x _ h1)
 have keep:∀b o,b≠a→s.heap.get? b=some o→(((s.heap.update a (Obj.mapSeq λZ=>(#[]:Array Value))).push (seqObj "tuple" vs.toArray 0)).push (seqObj "list" #[] 0)).get? b=some o:=λb o hb e=>
  Z8x _ (Z8x _ ((Heap.get?_update_ne _ _ _ _ hb).trans e))
 show wpAny (model prog w) A _ P E { s with heap:=((s.heap.update a (Obj.mapSeq λZ=>(#[]:Array Value))).push (seqObj "tuple" vs.toArray 0)).push (seqObj "list" #[] 0) }
 generalize((s.heap.update a (Obj.mapSeq λZ=>(#[]:Array Value))).push (seqObj "tuple" vs.toArray 0)).push (seqObj "list" #[] 0)=h7 at h6 keep
 dsimp only
 have fin:∀(st':SortSt),failedOf st'=none→(∃p,Pm vs.length p∧Srt lt p vs.length∧(arrOf st').map (·.2)=(p.toList.map λi=>vs.getD i Value.none).toArray)→wpAny (model prog w) A (do
   let touched:=(←seqEpoch a) != e1
   Builtin.List.listUpdate (.ref a) λZ=>(arrOf st').map (·.2)
   if let some e:=failedOf st' then rule "list.sort.comparison-raised";throw e
   if touched then rule "list.sort.modified";raiseError "ValueError" "list modified during sort"
   ret .none) P E { s with heap:=h7 }:=λst' hf ⟨p,P1,S1,ha⟩=>by
  have hz:(p.toList.map λi=>vs.getD i Value.none).toArray.size=vs.length:=by rw[List.size_toArray,Z8i,Z8u,P1.size]
  refine Z8z (seqEpoch_at h6 rfl ?_)
  refine Z8z (listUpdate_at h6 rfl ?_ (Z8d _) (by rw[ha,hz];exact Nat.le_succ_of_le (UG h64)))
  rw[hf,ha]
  simp only[bne_self_eq_false,Bool.false_eq_true,if_false]
  exact Z80 (h _ p _ P1 S1 (λb o hb e=>(Heap.get?_update_ne _ _ _ _ hb).trans (keep b o hb e)) (get?_update_seq h6 _))
 by_cases h2:vs.toArray.size<2
 ·rw[if_pos h2,if_pos h2]
  refine Z8z (Z80 ?_)
  rw[StateT.run_pure]
  refine Z8z (Z80 (fin _ rfl ⟨(List.range vs.length).toArray,.refl _,λi j hij hj=>?_,?_⟩))
  ·rw[List.size_toArray]at h2;omega
  ·show(vs.toArray.zip vs.toArray).map (·.2)=_
   refine(Z81 (Array.map (·.2)) (kas_range (pairsOf vs)).symm).trans ?_
   rw[pairsOf_size]
   apply Array.toList_inj.mp
   rw[Array.map_map,Array.toList_map]
   exact List.map_congr_left λi Z=>by show(kas_item (pairsOf vs) i).2=_;rw[kas_item_eq]
 ·rw[if_neg h2,if_neg h2]
  rw[List.size_toArray]at h2
  have h2:=Nat.not_lt.mp h2
  refine Z8z (hk keep h2 ?_)
  have est:SortSt.mk' κ (vs.toArray.zip vs.toArray) #[] 7 none=kas_st κ (pairsOf vs) (List.toArray (List.range vs.length)):=by
   have e:=kas_range (pairsOf vs)
   rw[pairsOf_size]at e
   show SortSt.mk' κ (pairsOf vs) #[] 7 none=SortSt.mk' κ ((List.toArray (List.range vs.length)).map (kas_item (pairsOf vs))) #[] 7 none
   rw[e]
  have run:=kas_runs (prog:=prog) (w:=w) (A:=A) (E:=E) (κ:=κ) (it:=pairsOf vs) (s:={ s with heap:=h7 }) (G:=λp s'=>s'={ s with heap:=h7 }∧Pm vs.length p∧Srt lt p vs.length) (Q:=λZ st' s'=>s'={ s with heap:=h7 }∧∃p:Array Nat,arrOf st'=p.map (kas_item (pairsOf vs))∧failedOf st'=none∧Pm vs.length p∧Srt lt p vs.length)
   h2 h64 (λp' st' s' a1 a2 a3 a4=>⟨a4.1,p',a2,a3,a4.2⟩) (TW.wp (lt:=lt) (n:=vs.length) (λi j C hi hj hC=>by unfold kas_cmp;rw[kas_item_eq,kas_item_eq];exact hc keep hi hj hC) ((Z0q O (Nat.le_antisymm h22 h2)).mono λp hp=>⟨rfl,hp⟩))
  rw[←est]at run
  refine Z8z (wpAny_mono run ?_ λZ Z e=>e)
  rintro⟨⟨⟩,st'⟩ s' ⟨rfl,p,har,hf,P1,S1⟩
  refine fin st' hf ⟨p,P1,S1,?_⟩
  apply Array.toList_inj.mp
  rw[har,Array.map_map,Array.toList_map]
  exact List.map_congr_left λi Z=>by show(kas_item (pairsOf vs) i).2=_;rw[kas_item_eq]
end
section
variable{X:Cx}{W:Wd}{σ:St}{s:Shared}{A:Around}{E:Value→Shared→Prop}
theorem Z5b(a:List Nat):¬a<a:=List.lt_irrefl a
theorem Z69{a b c:List Nat}(h:a<b)(k:b<c):a<c:=List.lt_trans h k
theorem Z5a{a b:List Nat}(h:a≠b):a<b∨b<a:=Classical.byCases .inl λq=>Classical.byCases .inr λq'=>absurd (List.le_antisymm (List.not_lt.mp q') (List.not_lt.mp q)) h
structure Ord(κ:Type)(R:κ→κ→Bool):Prop where
 irr:∀a,R a a=false
 tr:∀a b c,R a b=true→R b c=true→R a c=true
 tot:∀a b,a≠b→R a b=true∨R b a=true
theorem Zua:Ord Nat λa b=>decide (a<b):=⟨λa=>Z83 (Nat.lt_irrefl a),λa b c h k=>Z82 (Nat.lt_trans (of_decide_eq_true h) (of_decide_eq_true k)),λa b h=>(Nat.lt_or_gt_of_ne h).imp Z82 Z82⟩
theorem Z1m:Ord CS λa b=>decide (a<b):=⟨λa=>Z83 (Z5b a),λa b c h k=>Z82 (Z69 (of_decide_eq_true h) (of_decide_eq_true k)),λa b h=>(Z5a h).imp Z82 Z82⟩
theorem Ord.uniq{κ:Type}{R:κ→κ→Bool}(O:Ord κ R):∀{l m:List κ},l.Pairwise (R · ·=true)→m.Pairwise (R · ·=true)→(∀x,x∈l↔x∈m)→l=m
 | [],[],_,_,_=>rfl
 | [],b::m,_,_,h=>nomatch (h b).mpr Z8g
 |a::l,[],_,_,h=>nomatch (h a).mp Z8g
 |a::l,b::m,hl,hm,h=>by
  obtain⟨l1,l2⟩:=List.pairwise_cons.mp hl
  obtain⟨m1,m2⟩:=List.pairwise_cons.mp hm
  have nn:∀{x y:κ},R x y=true→R y x=true→False:=λp q=>nomatch (O.irr _).symm.trans (O.tr _ _ _ p q)
  have ne:∀{x y:κ},R x y=true→x≠y:=λp e=>by subst e;exact nomatch (O.irr _).symm.trans p
  have e:a=b:=by
   rcases Z8k.mp ((h a).mp Z8g)with e | ha
   ·exact e
   rcases Z8k.mp ((h b).mpr Z8g)with e | hb
   ·exact e.symm
   exact(nn (l1 b hb) (m1 a ha)).elim
  subst e
  rw[O.uniq l2 m2 λx=>⟨λq=>(Z8k.mp ((h x).mp (Z8h _ q))).resolve_left λe=>ne (l1 x q) e.symm,λq=>(Z8k.mp ((h x).mpr (Z8h _ q))).resolve_left λe=>ne (m1 x q) e.symm⟩]
end
structure Kd(κ:Type)(R:κ→κ→Bool)(f:κ→ZA)(sk:SortKind):Prop where
 ord:Ord κ R
 kin:∀x,(f x).flat=true
 inj:∀x y,f x=f y→x=y
 kind:∀{X:Cx}{W:Wd}{σ:St}{s:Shared}{A:Around}{E:Value→Shared→Prop}{vs:List Value}{xs:List κ}{Q:SortKind→Shared→Prop},Inv X W σ s→ZF W vs (xs.map f)→2≤vs.length→Q sk s→wpAny (model pp X.w) A (keyKind' vs.toArray) Q E s
 cmp:∀{X:Cx}{W:Wd}{σ:St}{s:Shared}{A:Around}{u v:Value}{x y:κ}{Q:Bool→Shared→Prop},Inv X W σ s→ZE W u (f x)→ZE W v (f y)→Q (R x y) s→wpAny (model pp X.w) A (keyLt' sk u v) Q (λZ Z=>False) s
theorem Z5f:Kd Nat (λa b=>decide (a<b)) nA oneType' where
 ord:=Zua
 kin x:=rfl
 inj x y h:=Int.ofNat.inj (by injection h)
 kind {X W σ s A E vs xs Q} I r h2 h:=kas_kind (T:=.type "int") h2 (λv hv=>by
  obtain⟨c,hc,rc⟩:=r.Xd hv
  obtain⟨n,Z,rfl⟩:=Z8l.mp hc
  obtain⟨t,rfl⟩:=rc
  exact .of_pure rfl) (by decide) (by decide) h
 cmp {X W σ s A u v x y Q} I hu hv h:=by
  obtain⟨t,rfl⟩:=hu
  obtain⟨t',rfl⟩:=hv
  refine kat_lt_int ?_
  rw[show decide ((x:Int)<y)=decide (x<y)from decide_eq_decide.mpr Int.ofNat_lt]
  exact h
theorem Zu5:Kd CS (λa b=>decide (a<b)) .str oneType' where
 ord:=Z1m
 kin x:=rfl
 inj x y h:=by injection h
 kind {X W σ s A E vs xs Q} I r h2 h:=kas_kind (T:=.type "str") h2 (λv hv=>by
  obtain⟨c,hc,rc⟩:=r.Xd hv
  obtain⟨n,Z,rfl⟩:=Z8l.mp hc
  obtain⟨t,rfl⟩:=rc
  exact .of_pure rfl) (by decide) (by decide) h
 cmp {X W σ s A u v x y Q} I hu hv h:=by
  obtain⟨t,rfl⟩:=hu
  obtain⟨t',rfl⟩:=hv
  exact kas_lt_str h
theorem Zjm:∀{a b:List Nat},a.map nA=b.map nA→a=b
 | [],[],_=>rfl
 |x::a,y::b,h=>by
  obtain⟨h1,h2⟩:=List.cons.inj h
  rw[show x=y from Int.ofNat.inj (by injection h1),Zjm h2]
 | [],_::_,h=>nomatch h
 |_::_,[],h=>nomatch h
theorem Zg8{a b:Nd}(h:Zu a=Zu b):a=b:=by
 injection h with h
 obtain⟨h1,h2⟩:=List.cons.inj h
 injection h1 with h1
 exact Prod.ext h1 (Zjm h2)
theorem Zuj(nd:Nd):(Zu nd).isKey=true:=by
 show List.all (ZA.str nd.1::nd.2.map nA) ZA.flat=true
 rw[List.all_cons,List.all_map]
 exact List.all_eq_true.mpr λZ Z=>rfl
end PL
end
section
open PySem
open scoped Classical
namespace PL
section
section
variable{l:List (Nd×Nat)}{c:Nd}{n:Nat}
theorem Zd2:∀{l:List (Nd×Nat)},YW (XJ l) (Zu c)=(l.lookup c).map nA
 | []=>rfl
 | (a,v)::l=>by
  by_cases h:a=c
  ·rw[h,List.lookup_cons,Z87];exact Zcn rfl
  ·rw[List.lookup_cons,Z85.mpr (Ne.symm h)];exact(Zd3 λq=>h (Zg8 q)).trans Zd2
theorem Zqn(h:l.lookup c=none):Xx (XJ l) (Zu c) (nA n)=XJ (l++[(c,n)]):=by
 rw[Xx,if_neg (by rw[Zd2,h];exact Z86),XJ,XJ,List.map_append];rfl
theorem Zay:Zfd (XJ l) (Zu c):=⟨Zuj c,λe he=>(Z8l.mp he).elim λp q=>q.2▸rfl⟩
end
noncomputable def Zip:ZA:=.tup [.str [108,105,107,101]]
section
variable(H:HC)
noncomputable def Zsm(key:Nd)(n:Nat):HC:={ H with known:=H.known++[(key,n)] }
noncomputable def Zy(key:Nd)(n:Nat):Nat:=(H.known.lookup key).getD n
noncomputable def Z4(key:Nd)(n:Nat):HC:=@Option.casesOn _ (λZ=>HC) (H.known.lookup key) (Zsm H key n) λZ=>H
noncomputable def GR(key:Nd)(n:Nat):HC:=Qy (Z4 H key n) (Zy H key n) n Zip (max (find H.par (Zy H key n)) (find H.par n)) (min (find H.par (Zy H key n)) (find H.par n))
noncomputable def Zd6(n:Nat)(nd:Nd):HC:=if find H.par (Zy H (ZV H nd) n)=find H.par n then Z4 H (ZV H nd) n else GR H (ZV H nd) n
end
structure X5(H H1:HC):Prop where
 par:H1.par=H.par
 nodes:H1.nodes=H.nodes
 abv:H1.abv=H.abv
 waiting:H1.waiting=H.waiting
 merged:H1.merged=H.merged
 ZI:H1.ZI=H.ZI
 ZH:H1.ZH=H.ZH
 rows:H1.rows=H.rows
 known:H1.known.length≤H.known.length+1
 core:Core H1
section
variable{j:Nat}{σ σ':St}{L L':Fld→Nat}{H H':HC}{key:Nd}{n:Nat}{nd:Nd}
theorem Core.known(O:Core H)(hn:n<H.nodes.length):X5 H (Z4 H key n):=by
 unfold Z4
 cases H.known.lookup key with
 |some v=>exact⟨rfl,rfl,rfl,rfl,rfl,rfl,rfl,rfl,Nat.le_succ _,O⟩
 |none=>exact⟨rfl,rfl,rfl,rfl,rfl,rfl,rfl,rfl,Z8c Z8j,{ O with YU:=λp hp=>(List.mem_append.mp hp).elim (O.YU p) λh=>by rw[Z8m.mp h];exact hn }⟩
theorem X5.small(K:X5 H H')(S:Yv H):Yv H':=⟨K.nodes▸S.n,K.rows▸S.r⟩
theorem X5.room(K:X5 H H')(B:Room H):Room H':=⟨K.ZI▸B.e,K.waiting▸B.w,K.ZH▸B.f⟩
theorem Tr.Gz(R:Rep σ L H)(key:Nd)(n:Nat):Tr σ L H (σ.put (L .known) (.dict (XJ (H.known++[(key,n)])))) L (Zsm H key n):=
 Tr.X6 (H':=Zsm H key n) R .known trivial (λZ=>Iff.rfl) (λfd hg Z=>by cases fd<;>first | rfl | exact absurd rfl hg) rfl
theorem Core.XS(O:Core H)(hn:n<H.nodes.length):Zy H key n<H.nodes.length:=by
 unfold Zy
 cases e:H.known.lookup key with
 |none=>exact hn
 |some v=>exact O.YU _ (J2 e)
theorem Zsh{ν:Fm}(R:Rep σ L H)(hkl:H.known.length≤16000)(hs:ν "self"=some (.ref (L .h)))(hn:ν "n"=some (nA n))(Um:Zq j "Heap.node" [.ref (L .h),nA n] σ (Zu key) σ):
  ∃σ1,Tr σ L H σ1 L (Z4 H key n)∧EvE j (.mth (.att QQ0 "known") "setdefault" [.mth QQ0 "node" [YD],YD]) ν σ (nA (Zy H key n)) σ1:=by
 have es:JF j ν [.mth QQ0 "node" [YD],YD] σ [Zu key,nA n] σ:=es2 (Y7 (Zb hs) R.ZO (es1 (Zb hn)) Um) (Zb hn)
 have gt:=Zd2 (c:=key) (l:=H.known)
 unfold Z4 Zy
 cases e:H.known.lookup key with
 |some v=>rw[e]at gt;exact⟨σ,Tr.refl R,Qr (Z6 (Zb hs) R.ZO) (.Xs R.known) es (.VT R.known Zay rfl (Zh hkl) gt)⟩
 |none=>rw[e]at gt;exact⟨_,Tr.Gz R key n,Qr (Z6 (Zb hs) R.ZO) (.Xs R.known) es (Zqn e▸.VU R.known Zay rfl (Zh hkl) gt)⟩
theorem Zty(R:Rep σ L H)(O:Core H)(S:Yv H)(B:Room H)(hkl:H.known.length≤16000)(hn:H.nodes[n]? = some nd):
  ∃σ' L',Zq (j+4) "Heap.look_at" [.ref (L .h),nA n] σ .none σ'∧Tr σ L H σ' L' (Zd6 H n nd):=by
 have hnl:=Zaw hn
 have hol:=O.XS (key:=ZV H nd) hnl
 have Um:=Z0w (j:=j) R O S hn
 unfold Zd6
 generalize ZV H nd=key at*
 obtain⟨σ1,T1,e1⟩:=Zsh (ν:=upd (upd (λZ=>none) "self" (.ref (L .h))) "n" (nA n)) R hkl (by kernel_rfl) (by kernel_rfl) Um
 have K:=O.known (key:=key) hnl
 have f1:=Zko (j:=j+1) T1.rep K.core (K.small S) (a:=Zy H key n) (K.nodes▸hol)
 have f2:=Zko (j:=j+1) T1.rep K.core (K.small S) (a:=n) (K.nodes▸hnl)
 rw[K.par]at f1 f2
 have run:∀{p:Bool},ZR σ1 .NotEq (nA (find H.par (Zy H key n))) (nA (find H.par n)) p→EvE (j+3) (.cmp .NotEq (.mth QQ0 "find" [.loc "other"]) (.mth QQ0 "find" [YD]))
   (upd (upd (upd (λZ=>none) "self" (.ref (L .h))) "n" (nA n)) "other" (nA (Zy H key n))) σ1 (.bool p) σ1:=λh=>Zm (Y7 ZD T1.rep.ZO (es1 ZD) f1) (Y7 ZD T1.rep.ZO (es1 ZD) f2) h
 by_cases he:find H.par (Zy H key n)=find H.par n
 ·rw[if_pos he]
  exact⟨σ1,L,Zk Zb8 rfl (Zc (Yk e1) (Zc (Zn (run ((ZR.ne (.int 0 _ _) ble).eqv (nT (by rw[he]))))) Zas)),T1⟩
 ·rw[if_neg he]
  obtain⟨σ2,L2,hj,T2⟩:=Ztz (r:=Zip) (j:=j) T1.rep K.core (K.small S) (K.room B) (a:=Zy H key n) (b:=n) (K.nodes▸hol) (K.nodes▸hnl) (by rw[K.par]) (by rw[K.par]) he
  exact⟨σ2,L2,Zk Zb8 rfl (Zc (Yk e1) (Zc (Zby (run ((ZR.ne (.int 0 _ _) ble).eqv (nF (Zk2 he)))) (Qh (Qb (Y7 ZD T1.rep.ZO (es3 ZD ZD (Q3 (es1 Zf))) hj)))) Zas)),T1.trans T2⟩
end
end
section
section
variable{H H':HC}{n:Nat}{nd:Nd}{key:Nd}
structure Z6m(H H1:HC):Prop where
 ok:YE H1
 nodes:H1.nodes=H.nodes
 rows:H1.rows=H.rows
 less:(H1.waiting=H.waiting∧H1.abv.length=H.abv.length)∨H1.abv.length<H.abv.length
theorem Ztd{kn k w u n m:Nat}(hw:k+w+1≤n+2*m*n)(hk:kn≤k+1)(hu:u≤2*n):kn+(w+u)≤n+2*(m+1)*n:=by
 rw[Nat.mul_add,Nat.add_mul];lia
theorem Zd{α:Type}(l:List α)(x:α):(l++[x]).length=l.length+1:=Z8j
theorem Core.look(O:Core H)(hn:n<H.nodes.length)(hw:H.known.length+H.waiting.length+1≤H.nodes.length+2*H.merged.length*H.nodes.length)(he:H.ZI.length≤H.rows.length+H.merged.length)(hf:H.ZH.length=H.merged.length):Z6m H (Zd6 H n nd):=by
 have hol:=O.XS (key:=ZV H nd) hn
 unfold Zd6
 generalize ZV H nd=key at*
 have K:=O.known (key:=key) hn
 by_cases h:find H.par (Zy H key n)=find H.par n
 ·rw[if_pos h]
  exact⟨⟨K.core,by rw[K.waiting,K.merged,K.nodes];exact Z7z (Z77 K.known _) (Nat.add_right_comm ..▸hw),by rw[K.ZI,K.rows,K.merged];exact he,by rw[K.ZH,K.merged];exact hf⟩,K.nodes,K.rows,.inl ⟨K.waiting,by rw[K.abv]⟩⟩
 ·rw[if_neg h]
  unfold GR
  have O1:=K.core
  obtain⟨hk,hg,hlt⟩:=O1.Xv (a:=Zy H key n) (b:=n) (K.nodes▸hol) (K.nodes▸hn) (by rw[K.par]) (by rw[K.par]) h
  generalize max (find H.par (Zy H key n)) (find H.par n)=g at*
  generalize min (find H.par (Zy H key n)) (find H.par n)=k at*
  have O2:=O1.join (a:=Zy H key n) (b:=n) (r:=Zip) hg hk hlt
  have c1:H.merged.length+1+(Qy (Z4 H key n) (Zy H key n) n Zip g k).abv.length=H.nodes.length:=by
   rw[←K.merged,←K.nodes,←Zd _ (k,g)];exact O2.count
  have c2:=O.count
  have u1:=O1.Vc g
  rw[K.nodes]at u1
  refine⟨⟨O2,?_,?_,?_⟩,K.nodes,K.rows,.inr ?_⟩
  ·show(Z4 H key n).known.length+((Z4 H key n).waiting++Zr _ g).length≤(Z4 H key n).nodes.length+2*((Z4 H key n).merged++[(k,g)]).length*(Z4 H key n).nodes.length
   rw[Zd,Z8j,K.waiting,K.nodes,K.merged]
   exact Ztd hw K.known u1
  ·show((Z4 H key n).ZI++[_]).length≤(Z4 H key n).rows.length+((Z4 H key n).merged++[(k,g)]).length
   rw[Zd,Zd,K.ZI,K.rows,K.merged];exact Z75 he
  ·show((Z4 H key n).ZH++[_]).length=((Z4 H key n).merged++[(k,g)]).length
   rw[Zd,Zd,K.ZH,K.merged,hf]
  ·exact Nat.lt_of_add_lt_add_left (n:=H.merged.length) (by rw[c2,←c1,Z8a];exact Nat.add_lt_add_left (Nat.lt_add_of_pos_left Nat.one_pos) _)
noncomputable def Kz(H:HC)(ws:List Nat):HC:={ H with waiting:=ws }
inductive QK:HC→HC→Prop
 |done {H:HC} (h:H.waiting=[]):QK H H
 |turn {H H':HC} {ws:List Nat} {n:Nat} {nd:Nd} (h:H.waiting=ws++[n]) (hn:H.nodes[n]? = some nd) (hr:QK (Zd6 (Kz H ws) n nd) H'):QK H H'
theorem Core.pop(O:Core H){ws:List Nat}(h:H.waiting=ws++[n]):Core (Kz H ws):={ O with QB:=λm hm=>O.QB m (by rw[h];exact List.mem_append_left _ hm) }
theorem YE.step(O:YE H){ws:List Nat}(h:H.waiting=ws++[n]):Z6m (Kz H ws) (Zd6 (Kz H ws) n nd):=
 Core.look (O.toCore.pop h) (O.QB n (by rw[h];exact List.mem_append_right _ Z8g)) (by have:=O.wait;rw[h,Zd]at this;exact this) O.ZI O.ZH
structure Zij(H H':HC):Prop where
 go:QK H H'
 ok:YE H'
 nodes:H'.nodes=H.nodes
 rows:H'.rows=H.rows
 none:H'.waiting=[]
theorem Zop:∀(r w:Nat){H:HC},YE H→H.abv.length≤r→H.waiting.length≤w→∃H',Zij H H':=by
 intro r
 induction r with
 |zero=>
  intro w H O h1 h2
  rcases List.eq_nil_or_concat H.waiting with e | ⟨ws,n,e⟩
  ·exact⟨H,.done e,O,rfl,rfl,e⟩
  ·rw[List.concat_eq_append]at e
   have:=O.toCore.JL (O.QB n (by rw[e];exact List.mem_append_right _ Z8g))
   rw[List.length_eq_zero_iff.mp (Nat.le_zero.mp h1)]at this
   exact nomatch this
 |succ r ih=>
  intro w
  induction w with
  |zero=>intro H O h1 h2;have e:=List.length_eq_zero_iff.mp (Nat.le_zero.mp h2);exact⟨H,.done e,O,rfl,rfl,e⟩
  |succ w ihw=>
   intro H O h1 h2
   rcases List.eq_nil_or_concat H.waiting with e | ⟨ws,n,e⟩
   ·exact⟨H,.done e,O,rfl,rfl,e⟩
   ·rw[List.concat_eq_append]at e
    obtain⟨nd,hnd⟩:=Zbt (O.QB n (by rw[e];exact List.mem_append_right _ Z8g))
    have K:=O.step (nd:=nd) e
    have key:∃H',Zij (Zd6 (Kz H ws) n nd) H':=K.less.elim (λd=>ihw K.ok (d.2▸h1) (by rw[d.1];rw[e,Zd]at h2;exact Nat.le_of_succ_le_succ h2)) λd=>ih _ K.ok (Z8f (Z73 d h1)) (Z70 _)
    exact key.elim λH' s=>⟨H',.turn e hnd s.go,s.ok,s.nodes.trans K.nodes,s.rows.trans K.rows,s.none⟩
noncomputable def Zhh(H:HC):HC:=open Classical in if h:∃H',Zij H H' then choose h else H
theorem YE.settle(O:YE H):Zij H (Zhh H):=by
 have hex:=Zop _ _ O (Z70 _) (Z70 _)
 rw[Zhh,dif_pos hex]
 exact Classical.choose_spec hex
structure Z6i(H:HC):Prop extends Room H where
 k:H.known.length≤16000
theorem YE.room(O:YE H)(S:Yv H):Z6i H:=by
 have hm:H.merged.length≤63:=Z7z (O.count▸Z71 _ _) S.n
 have h4:H.known.length+H.waiting.length≤9000:=Z7z O.wait (Z7z (Nat.add_le_add S.n (Nat.mul_le_mul (Nat.mul_le_mul_left 2 hm) S.n)) ble)
 exact⟨⟨Z7z O.ZI (Z7z (Nat.add_le_add S.r hm) ble),Z7z (Z72 _ _) (Z7z h4 ble),O.ZH▸Z7z hm ble⟩,Z7z (Z71 _ _) (Z7z h4 ble)⟩
end
section
variable{j:Nat}{σ σ':St}{L L':Fld→Nat}{H H':HC}{n:Nat}{ν:Fm}
theorem Tr.pop(R:Rep σ L H)(ws:List Nat):Tr σ L H (σ.put (L .waiting) (.list (ws.map nA))) L (Kz H ws):=
 Tr.X6 (H':=Kz H ws) R .waiting trivial (λZ=>Iff.rfl) (λfd hg Z=>by cases fd<;>first | rfl | exact absurd rfl hg) rfl
theorem Zpg(R:Rep σ L H)(B:Z6i H)(hν:ν "self"=some (.ref (L .h))):EvE j (.blt "len" [Vt]) ν σ (nA H.waiting.length) σ:=
 (Y1 (es1 (Z6 (Zb hν) R.ZO)) (.len (.lst (.ref R.waiting)) (Zh (Ku B.w)))).eqv (by rw[Z8i])
theorem Zoo(h:QK H H'):∀{σ:St}{L:Fld→Nat}{ν:Fm},YE H→Yv H→Rep σ L H→ν "self"=some (.ref (L .h))→
  ∃k σ' L',Km (j+4) (.cmp .Gt (.blt "len" [Vt]) QQ6) [.exp (.mth QQ0 "look_at" [.mth Vt "pop" []])] k ν σ .next ν σ'∧Tr σ L H σ' L' H':=by
 induction h with
 |done h=>
  intro σ L ν O S R hν
  exact⟨0,σ,L,.stop (Zm (Zpg R (O.room S) hν) Zf ((ZR.gt _ 0).eqv (dF (by rw[h];exact Int.lt_irrefl 0)))),Tr.refl R⟩
 |@turn H H' ws n nd h hn _ ih=>
  intro σ L ν O S R hν
  have B:=O.room S
  have T1:=Tr.pop R ws
  have K:=O.step (nd:=nd) h
  have hw:ws.length<16000:=Z73 (Z79 _) (Z7z (Z8c (Zd ws n).symm) (h▸Ku B.w))
  obtain⟨σ2,L2,hl,T2⟩:=Zty (j:=j) T1.rep (O.toCore.pop h) ⟨S.n,S.r⟩ ⟨B.e,Z7z (Nat.le_succ _) (Z7z (Z8c (Zd ws n).symm) (h▸B.w)),B.f⟩ B.k hn
  obtain⟨k,σ3,L3,h3,T3⟩:=ih K.ok ⟨K.nodes▸S.n,K.rows▸S.r⟩ T2.rep (ν:=ν) (by rw[T2.top];exact hν)
  have vw:σ.f (L .waiting)=some (.list (ws.map nA++[nA n])):=by rw[Qp,←h];exact R.waiting
  exact⟨k+1,σ3,L3,.turn (Zm (Zpg R B hν) Zf ((ZR.gt _ 0).eqv (dT (by rw[h,Zd];exact Int.natCast_pos.mpr (Nat.succ_pos _))))) (Qh (Qb (Y7 (Zb hν) R.ZO (es1 (Qr (Z6 (Zb hν) R.ZO) (.pop vw) es0 (.pop vw (by rw[Z8i];exact hw)))) hl))) h3,(T1.trans T2).trans T3⟩
theorem Zmi(R:Rep σ L H)(O:YE H)(S:Yv H):∃σ' L',Zq (j+5) "Heap.settle" [.ref (L .h)] σ .none σ'∧Tr σ L H σ' L' (Zhh H):=
 have⟨k,σ1,L1,h1,T1⟩:=Zoo (j:=j) O.settle.go (ν:=upd (λZ=>none) "self" (.ref (L .h))) O S R (by kernel_rfl)
 ⟨σ1,L1,Zk Ziw rfl (Zc (Z05 h1) Zas),T1⟩
end
end
section
section
variable{j:Nat}{σ:St}{ν:Fm}{e:PE}{ifs:List PE}{α:Type}{p q:α→ZA}{x:String}
theorem Zax{g:Option (Nat×List ZA)}{t:α→Bool}(hst:Jy g σ):∀{l:List α}{acc:List ZA},(∀u∈l,Ko j (upd (hide ν) x (p u)) ifs σ (t u) σ∧(t u=true→EvE j e (upd (hide ν) x (p u)) σ (q u) σ))→acc.length+l.length≤16000→LcR j g [x] ifs e ν ((l.map p).map λx=>[x]) acc σ (acc++(l.filter t).map q) σ
 | [],acc,_,_=>by rw[List.map_nil,List.map_nil,List.filter_nil,List.map_nil,List.append_nil];exact .nil hst
 |u::l,acc,h,hl=>by
  rw[Z8o,Z8o]
  rw[Z8p,Nat.add_succ]at hl
  obtain⟨h1,h2⟩:=h u Z8g
  have hr:∀w∈l,_:=λw hw=>h w (Z8h _ hw)
  cases ht:t u with
  |true=>
   rw[List.filter_cons_of_pos ht,Z8o,List.append_cons]
   exact .keep hst rfl (ht▸h1) (h2 ht) (Z74 (Z71 _ _) hl) (Zax hst hr (by rw[Z8j];exact(Nat.succ_add _ _).symm▸hl))
  |false=>
   rw[List.filter_cons_of_neg (by rw[ht];exact Z86)]
   exact .skip hst rfl (ht▸h1) (Zax hst hr (Z8e hl))
theorem Zu2{g:Option (Nat×List ZA)}(hst:Jy g σ){l:List α}(h:∀u∈l,Ko j (upd (hide ν) x (p u)) ifs σ false σ)(hl:l.length≤16000):LcR j g [x] ifs e ν ((l.map p).map λx=>[x]) [] σ [] σ:=by
 have:=Zax (e:=e) (q:=p) (t:=λZ=>false) hst (acc:=[]) (λu hu=>⟨h u hu,λq=>nomatch q⟩) (by rw[List.length_nil,Nat.zero_add];exact hl)
 rwa[List.filter_eq_nil_iff.mpr λZ Z=>Z86,List.map_nil,List.append_nil]at this
theorem Zqy{b:List PS}{P:Fm→Prop}(hu:∀ν v,P ν→P (upd ν x v)):∀{l:List α}{ν:Fm},(∀u∈l,∀ν,P ν→ExB j b (upd ν x (p u)) σ .next (upd ν x (p u)) σ)→P ν→∃ν',JN j none [x] b ((l.map p).map λx=>[x]) ν σ .next ν' σ∧P ν'
 | [],ν,_,hP=>⟨ν,.nil Z3,hP⟩
 |u::l,ν,h,hP=>
  have⟨ν',q1,q2⟩:=Zqy hu (λw hw=>h w (Z8h _ hw)) (hu ν (p u) hP)
  ⟨ν',.turn Z3 rfl (h u Z8g ν hP) q1,q2⟩
end
noncomputable def Zrg:CS:=[40,41,91,93,123,125,44,58]
structure Z4d(c:Nat):Prop where
 ascii:c<128
 space:Zco c=false
 bad:Zrg.contains c=false
structure Xi(op:CS):Prop where
 ne:op≠[]
 len:op.length≤1000
 signs:∀c∈op,Z4d c
section
variable{j:Nat}{σ σ':St}{L L':Fld→Nat}{H H':HC}{ν:Fm}
theorem Zdq(op:CS):op.map (λc=>[ZA.str [c]])=(op.map λc=>ZA.str [c]).map λx=>[x]:=by rw[List.map_map];rfl
theorem Ze5{op:CS}(h:Xi op):Zq (j+1) "is_op" [.str op] σ (.bool true) σ:=by
 have hc:LcR j none ["sign"] [Dg] (.loc "sign") (upd (λZ=>none) "text" (.str op)) (op.map λc=>[.str [c]]) [] σ [] σ:=by
  rw[Zdq]
  exact Zu2 Z3 (λc hc=>.no (Zbf ((Qr ZD (.isspace [c]) es0 (.isspace (h.signs c hc).ascii)).eqv (by rw[(h.signs c hc).space])) ((Zm ZD Zf (.inS c _)).eqv (by rw[show List.contains [40,41,91,93,123,125,44,58] c=false from(h.signs c hc).bad])))) (Z7z h.len ble)
 exact Zk Zq0 rfl (Y6 (Zw ((Zm ZD Zf (.ne (.str 0 op []) ble)).eqv (by rw[nF λq=>h.ne (by injection q)])) ((Zm (Qx (es1 ZD) (.str λc hc=>(h.signs c hc).ascii) hc) (Qs es0) (.eqL (n:=0) (.lst _) (.lst _) (λZ i a b h=>nomatch h) ble)).eqv (by rw[dT rfl]))))
theorem Zjb{op:CS}(h:Xi op)(hq:op.head?≠some 63){x:ZA}:Zq (j+2) "Bank.require" [x,.str op] σ .none σ:=by
 cases op with
 |nil=>exact absurd rfl h.ne
 |cons c r=>
  exact Zk J5 rfl (Zc (Zn (Zbf (Zao (p:=true) (ZY (es1 ZD) (Ze5 h))) ((Zm (Yx ZD Zf (.str (k:=0) (t:=c::r) rfl (Z7z h.len ble))) Zf (.eq (.str 0 [c] [63]) ble)).eqv (by rw[dF λq=>hq (by injection q with q;rw[(List.cons.inj q).1];rfl)])))) Zas)
noncomputable def Ye(H:HC)(nd:Nd):Option Nat:=H.nodes.zipIdx.lookup nd
theorem Zdu{nd:Nd}:∀{l:List Nd}{k i:Nat},(l.zipIdx k).lookup nd=some i→∃d,i=k+d∧l[d]? = some nd
 | [],_,_,h=>nomatch h
 |x::l,k,i,h=>by
  rw[List.zipIdx_cons,List.lookup_cons]at h
  by_cases e:nd=x
  ·rw[beq_iff_eq.mpr e]at h;exact⟨0,(Z8q h).symm,by rw[e];rfl⟩
  ·rw[Z85.mpr e]at h
   obtain⟨d,h1,h2⟩:=Zdu h
   exact⟨d+1,by rw[h1,Z8a,Nat.add_comm 1],h2⟩
theorem Zav{nd:Nd}{i:Nat}(h:Ye H nd=some i):H.nodes[i]? = some nd:=by
 obtain⟨d,h1,h2⟩:=Zdu h
 rw[h1,Nat.zero_add];exact h2
theorem Yy{nd:Nd}(h:Ye H nd=none):nd∉H.nodes:=λhm=>by
 have:∀{l:List Nd}{k:Nat},nd∈l→(l.zipIdx k).lookup nd≠none:=by
  intro l
  induction l with
  |nil=>intro k h;exact nomatch h
  |cons x l ih=>
   intro k h
   rw[List.zipIdx_cons,List.lookup_cons]
   by_cases e:nd=x
   ·rw[beq_iff_eq.mpr e];exact Option.some_ne_none _
   ·rw[Z85.mpr e];exact ih ((Z8k.mp h).resolve_left e)
 exact this hm h
theorem Zg6{l:List Nd}:Gs l=XJ l.zipIdx:=rfl
theorem Zv4{nd:Nd}(hk:nd.2.length≤2)(ho:ν "op"=some (.str nd.1))(hks:ν "kids"=some (.tup (nd.2.map nA))):EvE j (.bin .Add (.tup [.loc "op"]) (.blt "tuple" [.loc "kids"])) ν σ (Zu nd) σ:=
 Yu (Q3 (es1 (Zb ho))) (Y1 (es1 (Zb hks)) (.tuple (.tup _) (Zh (le2 hk)))) (.VI (x:=[.str nd.1]) (y:=nd.2.map nA) (by rw[Z8i];exact Z7z (Z76 hk 1) ble))
theorem Zlq{nd:Nd}{p:Bool}(R:Rep σ L H)(hs:ν "self"=some (.ref (L .YY)))(hn:ν "node"=some (Zu nd))(h:(Ye H nd).isSome=p):EvE j (.cmp .In (.loc "node") (.att QQ0 "numbers")) ν σ (.bool p) σ:=
 (Zm (Zb hn) (Z6 (Zb hs) R.QW) (.inD R.ZX (Zg6▸Zay) rfl)).eqv (by rw[Zg6,Zd2,Option.isSome_map,←h];rfl)
theorem Zol(R:Rep σ L H){i:Nat}{nd:Nd}(hi:Ye H nd=some i)(hk:nd.2.length≤2):Zq (j+1) "Bank.take" [.ref (L .YY),.str nd.1,.tup (nd.2.map nA)] σ (nA i) σ:=
 Zk Zb9 rfl (Zc (Yk (Zv4 hk (by kernel_rfl) (by kernel_rfl))) (Qz (Zbr (Zlq R (by kernel_rfl) (by kernel_rfl) (by rw[hi];rfl)) (Zau (Yx (Z6 ZD R.QW) ZD (.dict R.ZX (Zg6▸Zay) (by rw[Zg6,Zd2,show List.lookup nd _=some i from hi];rfl)))))))
end
end
section
noncomputable def mx(l:List Int):Int:=@List.casesOn _ (λZ=>Int) l 0 λi is=>is.foldl max i
section
variable(H:HC)
noncomputable def Zs3(ws:List Int)(ks:List Nat):List Int:=ks.map λk=>(ws[k]?).getD 0
noncomputable def wOf(ks:List Nat):Int:=1+(Zs3 H.ZL ks).sum
noncomputable def dOf(ks:List Nat):Int:=1+mx (Zs3 H.ZP ks++[0])
noncomputable def hNd(nd:Nd):HC:={ H with nodes:=H.nodes++[nd] }
noncomputable def hW(w:Int):HC:={ H with ZL:=H.ZL++[w] }
noncomputable def hD(d:Int):HC:={ H with ZP:=H.ZP++[d] }
noncomputable def Z2e(nd:Nd):HC:=⟨H.nodes++[nd],H.ZL++[wOf H nd.2],H.ZP++[dOf H nd.2],H.par,H.ZJ,H.merged,H.ZI,H.ZH,H.known,H.abv,H.waiting,H.rows⟩
theorem Zyq(nd:Nd):hD (hW (hNd H nd) (wOf H nd.2)) (dOf H nd.2)=Z2e H nd:=rfl
end
section
variable{j:Nat}{σ σ':St}{L L':Fld→Nat}{H H':HC}{ν:Fm}
theorem Tr.nd(R:Rep σ L H)(nd:Nd):Tr σ L H ((σ.put (L .ZX) (.dict (XJ (H.nodes.zipIdx++[(nd,H.nodes.length)])))).put (L .nodes) (.list (H.nodes.map Zu++[Zu nd]))) L (hNd H nd) where
 rep:=⟨R.inj,R.lt,λf hf=>by
  by_cases e2:f=.nodes
  ·rw[e2];exact(Zs ..).trans (Z81 some (Z81 ZK.list (Qp Zu _ nd)))
  ·refine(Z0 λq=>e2 (R.inj f .nodes hf trivial q)).trans ?_
   by_cases e1:f=.ZX
   ·rw[e1];exact(Zs ..).trans (Z81 some (Z81 (λl=>ZK.dict (XJ l)) (by show _=(H.nodes++[nd]).zipIdx;rw[List.zipIdx_append,Nat.zero_add];rfl)))
   ·refine(Z0 λq=>e1 (R.inj f .ZX hf trivial q)).trans ((R.val f hf).trans (Z81 some ?_))
    revert e1 e2
    clear hf
    exact@Fld.casesOn (λf=>f≠.nodes→f≠.ZX→cont L H f=cont L (hNd H nd) f) f (λZ Z=>rfl) (λZ Z=>rfl) (λZ Z=>rfl) (λq Z=>absurd rfl q) (λZ q=>absurd rfl q) (λZ Z=>rfl) (λZ Z=>rfl) (λZ Z=>rfl) (λZ Z=>rfl) (λZ Z Z=>rfl) (λZ Z=>rfl) (λZ Z=>rfl) (λZ Z=>rfl) (λZ Z=>rfl) (λZ Z=>rfl) (λZ Z Z=>rfl) (λZ Z=>rfl) (λZ Z=>rfl)⟩
 n:=Z70 _
 fr id h1 h2:=(Z0 λq=>h2 .nodes trivial q.symm).trans (Z0 λq=>h2 .ZX trivial q.symm)
 ids g hg:=.inl ⟨g,hg,rfl⟩
 top:=rfl
theorem Tr.weight(R:Rep σ L H)(w:Int):Tr σ L H (σ.put (L .ZL) (.list (H.ZL.map .int++[.int w]))) L (hW H w):=
 Tr.X6 (H':=hW H w) R .ZL trivial (λZ=>Iff.rfl) (λfd hg Z=>by cases fd<;>first | rfl | exact absurd rfl hg) (Z81 ZK.list (Qp ZA.int _ w))
theorem Tr.depth(R:Rep σ L H)(w:Int):Tr σ L H (σ.put (L .ZP) (.list (H.ZP.map .int++[.int w]))) L (hD H w):=
 Tr.X6 (H':=hD H w) R .ZP trivial (λZ=>Iff.rfl) (λfd hg Z=>by cases fd<;>first | rfl | exact absurd rfl hg) (Z81 ZK.list (Qp ZA.int _ w))
theorem UU{nd:Nd}(hk:nd.2.length≤2)(hn:ν "node"=some (Zu nd)):EvE j Vu ν σ (.tup (nd.2.map nA)) σ:=
 Qw (Zb hn) Yb Yb Yb (.tup (i:=1) (xs:=.str nd.1::nd.2.map nA) (Z70 1) (Z75 (Z8d _)) (Nat.succ_le_of_lt (Z74 (Zh hk) ble)))
theorem Z5y{col:String}{fid:Nat}{ws:List Int}{nd:Nd}(R:Rep σ L H)(hs:ν "self"=some (.ref (L .YY)))(hn:ν "node"=some (Zu nd))(hm:bfm L col=some (.ref fid))(hf:σ.f fid=some (.list (ws.map .int)))(hat:J9.contains ("Bank",col)=true)(hl:ws.length≤16000)(hk:nd.2.length≤2)(hkl:∀k∈nd.2,k<ws.length):
  EvE j (.comp (.idx (.att QQ0 col) Xa) ["kid"] 0 [Vu] []) ν σ (.lst ((Zs3 ws nd.2).map .int)) σ:=by
 have hg:LcR j none ["kid"] [] (.idx (.att QQ0 col) Xa) ν ((nd.2.map nA).map λx=>[x]) [] σ ([]++nd.2.map λk=>.int ((ws[k]?).getD 0)) σ:=
  Zbl Z3 (λk hk'=>(Zbt (hkl k hk')).elim λw hw=>Yx (Z5z (Zb (Za (J3 hs))) R.QW hm hat) (Zb (Zg ..)) (.lst (.ref hf) ((Zaa hw).trans (by rw[hw];rfl)) (Zh hl))) (by rw[List.length_nil,Nat.zero_add];exact le2 hk)
 exact(Qx (es1 (UU hk hn)) (.tup _) hg).eqv (by rw[Zs3,List.map_map];rfl)
theorem Z13(l:List Int):∃i is,l++[0]=i::is:=by
 cases l with
 |nil=>exact⟨_,_,rfl⟩
 |cons i is=>exact⟨_,_,rfl⟩
theorem Zom(R:Rep σ L H)(O:Core H)(S:Yv H){nd:Nd}(hop:Xi nd.1)(hq:nd.1.head?≠some 63)(hi:Ye H nd=none)(hk:nd.2.length≤2)(hkl:∀k∈nd.2,k<H.nodes.length):
  ∃σ',Zq (j+3) "Bank.take" [.ref (L .YY),.str nd.1,.tup (nd.2.map nA)] σ (nA H.nodes.length) σ'∧Tr σ L H σ' L (Z2e H nd):=by
 have T2:=Tr.nd R nd
 have T3:=Tr.weight T2.rep (wOf H nd.2)
 have T4:=Tr.depth T3.rep (dOf H nd.2)
 have l16:=X3 S.n
 have nb:L .YY≠L .ZX:=R.ne trivial trivial λq=>nomatch q
 have nn:L .nodes≠L .ZX:=R.ne trivial trivial λq=>nomatch q
 obtain⟨ν1,hν1⟩:∃ν1:Fm,ν1=upd (upd (upd (upd (λZ=>none) "self" (.ref (L .YY))) "op" (.str nd.1)) "kids" (.tup (nd.2.map nA))) "node" (Zu nd):=⟨_,rfl⟩
 have n1:ν1 "self"=some (.ref (L .YY))∧ν1 "node"=some (Zu nd):=by rw[hν1];exact⟨by kernel_rfl,by kernel_rfl⟩
 have n1o:ν1 "op"=some (.str nd.1):=by rw[hν1];kernel_rfl
 obtain⟨ν2,Us,ns,nn2⟩:=Zqy (j:=j+2) (σ:=σ) (b:=[IH]) (x:="kid") (p:=nA) (l:=nd.2) (P:=λν=>ν "self"=some (.ref (L .YY))∧ν "node"=some (Zu nd))
  (λν v h=>⟨Za h.1,Za h.2⟩) (λk hk' ν h=>Qh (Zn (Zao (p:=true) (Zcv Zf (Zb (Zg ..)) ((ZR.le 0 k).eqv (dT (Int.natCast_nonneg k))) (Y1 (es1 (Z6 (Zb (Za h.1)) R.QW)) (.len (.lst (.ref R.nodes)) (Zh l16))) ((ZR.lt k _).eqv (dT (by rw[Z8i];exact Int.ofNat_lt.mpr (hkl k hk')))))))) n1
 obtain⟨m0,ms,hms⟩:=Z13 (Zs3 H.ZP nd.2)
 have hdo:dOf H nd.2=1+ms.foldl max m0:=by rw[dOf,hms];rfl
 have Gl:∀{σ1:St}{ν:Fm}{l:List Nd},ν "self"=some (.ref (L .YY))→σ1.f (L .YY)=some (.inst "Bank" 4 (bfm L))→σ1.f (L .nodes)=some (.list (l.map Zu))→l.length≤16000→EvE (j+2) VK ν σ1 (nA l.length) σ1:=
  λhs hb hn hl=>(Y1 (es1 (Z6 (Zb hs) hb)) (.len (.lst (.ref hn)) (Zh hl))).eqv (by rw[Z8i])
 have T:=(T2.trans T3).trans T4
 rw[Zyq]at T
 refine⟨_,Zk Zb9 rfl (Zc (Yk (Zv4 hk (by kernel_rfl) (by kernel_rfl))) ?_),T⟩
 show QH _ _ (upd (upd (upd (upd (λZ=>none) "self" (.ref (L .YY))) "op" (.str nd.1)) "kids" (.tup (nd.2.map nA))) "node" (Zu nd)) _ _ _
 rw[←hν1]
 refine Zc (Zn (Zlq R n1.1 n1.2 (by rw[hi];rfl))) (Zc (Qb (Y7 (Zb n1.1) R.QW (es1 (Zb n1o)) (Zjb hop hq))) (Zc (Zkt (es1 (UU hk n1.2)) (.tup _) Us)
  (Zc (Zr2 (Gl ns R.QW R.nodes l16) (Z6 (Zb ns) R.QW) (Zb nn2) (Zqn hi▸.dict (k:=Zu nd) R.ZX (Zg6▸Zay) (Zh (by rw[List.length_zipIdx];exact l16))))
  (Zc (Qb (Qr (Z6 (Zb ns) ((Z0 nb).trans R.QW)) (.append ((Z0 nn).trans R.nodes)) (es1 (Zb nn2)) (.append ((Z0 nn).trans R.nodes) (Zh l16))))
  (Zc (Qb (Qr (Z6 (Zb ns) T2.rep.QW) (.append T2.rep.ZL) (es1 (Yu Zf (Y1 (es1 (Z5y (fid:=L .ZL) T2.rep ns nn2 (by kernel_rfl) T2.rep.ZL (by kernel_rfl) (O.lw.symm▸l16) hk λk h=>O.lw.symm▸hkl k h)) (.sum rfl)) (.Kc 1 _))) (.append T2.rep.ZL (Zh (O.lw.symm▸l16)))))
  (Zc (Qb (Qr (Z6 (Zb ns) T3.rep.QW) (.append T3.rep.ZP) (es1 (EvM.eqv (w:=.int (dOf H nd.2)) (Yu Zf (Y1 (es1 (Yu (Z5y (fid:=L .ZP) T3.rep ns nn2 (by kernel_rfl) T3.rep.ZP (by kernel_rfl) (O.ld.symm▸l16) hk λk h=>O.ld.symm▸hkl k h) (Qs (es1 Zf)) (.XA (.lst _) (.lst _) (y:=[.int 0]) ?_))) (.max (i:=m0) (is:=ms) ?_)) (.Kc 1 _)) (Z81 ZA.int hdo.symm))) (.append T3.rep.ZP (Zh (O.ld.symm▸l16)))))
  (Y6 ((Yu (Gl ns T4.rep.QW T4.rep.nodes ?_) Zf (.VQ _ 1)).eqv ?_))))))))
 ·rw[Z8i,Zs3,Z8i];exact Z7z (Z77 hk _) ble
 ·rw[←hms,List.map_append];rfl
 ·show(H.nodes++[nd]).length≤_
  rw[Zd];exact Z7z (Z75 S.n) ble
 ·show ZA.int (((H.nodes++[nd]).length:Nat)-1)=_
  rw[Zd];exact Z81 ZA.int (Int.add_sub_cancel (H.nodes.length:Int) 1)
end
end
end PL
end
section
open PySem PySem.W PyProof.Rows
open scoped Classical
namespace PL
section
section
variable{κ:Type}{R:κ→κ→Bool}{f:κ→ZA}{zs xs:List κ}
noncomputable def ltZ(R:κ→κ→Bool)(zs:List κ)(i j:Nat):Bool:=@Option.casesOn _ (λZ=>Bool) zs[i]? false λa=>@Option.casesOn _ (λZ=>Bool) zs[j]? false λb=>R a b
theorem Zjn{i j:Nat}{a b:κ}(h:zs[i]? = some a)(k:zs[j]? = some b):ltZ R zs i j=R a b:=by unfold ltZ;rw[h,k]
theorem Zk6{i j:Nat}(h:ltZ R zs i j=true):∃a b,zs[i]? = some a∧zs[j]? = some b∧R a b=true:=by
 cases hi:zs[i]? with
 |none=>unfold ltZ at h;rw[hi]at h;exact nomatch h
 |some a=>
  cases hj:zs[j]? with
  |none=>unfold ltZ at h;rw[hi,hj]at h;exact nomatch h
  |some b=>exact⟨a,b,rfl,rfl,(Zjn hi hj).symm.trans h⟩
theorem Ord.so(O:Ord κ R)(hn:zs.Nodup):SO (ltZ R zs) zs.length where
 irr i:=(Bool.not_eq_true _).mp λh=>by
  obtain⟨a,b,h1,h2,h3⟩:=Zk6 h
  obtain rfl:=Z8q (h1.symm.trans h2)
  exact nomatch (O.irr _).symm.trans h3
 tr i j k h h':=by
  obtain⟨a,b,h1,h2,h3⟩:=Zk6 h
  obtain⟨b',c,k1,k2,k3⟩:=Zk6 h'
  obtain rfl:=Z8q (h2.symm.trans k1)
  exact(Zjn h1 k2).trans (O.tr _ _ _ h3 k3)
 tot i j hi hj h:=by
  have h1:=Z8v hi
  have h2:=Z8v hj
  refine(O.tot zs[i] zs[j] λe=>h ((List.getElem?_inj hi hn).mp (h1.trans ((Z81 some e).trans h2.symm)))).imp (λq=>(Zjn h1 h2).trans q) λq=>(Zjn h2 h1).trans q
theorem Z0a:∀{cs:List ZA},(∀c∈cs,c∈xs.map f)→∃zs:List κ,cs=zs.map f
 | [],_=>⟨[],rfl⟩
 |c::cs,h=>by
  obtain⟨zs,rfl⟩:=Z0a (cs:=cs) λx hx=>h x (Z8h _ hx)
  obtain⟨z,Z,rfl⟩:=Z8l.mp (h c Z8g)
  exact⟨z::zs,rfl⟩
theorem Zxy:∀(zs:List κ),(List.range zs.length).filterMap (zs[·]?)=zs:=λzs=>by
 have:=filterMap_getElem?_range zs.toArray
 simpa using this
theorem F2.picks{W:Wd}{us:List Value}(h:ZF W us (zs.map f)):∀{l:List Nat},(∀i∈l,i<zs.length)→ZF W (l.map λi=>us.getD i .none) ((l.filterMap (zs[·]?)).map f)
 | [],_=>trivial
 |i::l,hl=>by
  obtain⟨z,h1⟩:∃z,zs[i]? = some z:=⟨_,Z8v (hl i Z8g)⟩
  obtain⟨u,hu,r⟩:=h.get (i:=i) (b:=f z) (by rw[List.getElem?_map,h1];rfl)
  rw[List.filterMap_cons_some (b:=z) h1,Z8o,Z8o]
  exact⟨by rw[List.getD_eq_getElem?_getD,hu];exact r,F2.picks h λj hj=>hl j (Z8h _ hj)⟩
theorem Zxe{p:Array Nat}(P:Pm zs.length p)(S:Srt (ltZ R zs) p zs.length):(p.toList.filterMap (zs[·]?)).Pairwise (R · ·=true):=by
 refine List.pairwise_filterMap.mpr (List.pairwise_iff_getElem.mpr λi j hi hj hij b hb b' hb'=>?_)
 rw[Z8u,P.size]at hi hj
 have hg:∀{i}(h:i<zs.length)(h':i<p.toList.length),p.toList[i]=p.getD i 0:=λh h'=>by
  have:=(Z8v h').symm.trans (Z8s.trans (P.get h))
  exact Z8q this
 rw[hg hi]at hb
 rw[hg hj]at hb'
 exact(Zjn (R:=R) hb hb').symm.trans (S i j hij hj)
end
variable{κ:Type}{R:κ→κ→Bool}{f:κ→ZA}{sk:SortKind}{xs ys:List κ}
theorem Zim{s:Shared}{M:Model}{A:Around}{E:Value→Shared→Prop}{vs:List Value}{Q:Value→Shared→Prop}(h:Q (.ref s.heap.objs.size) { s with heap:=s.heap.push (seqObj "list" vs.toArray 0) })(hz:vs.length≤sizeLine):wpAny M A (newList vs) Q E s:=wpAny_newList h hz
theorem Zry{X:Cx}{W:Wd}{σ:St}{s:Shared}{A:Around}{E:Value→Shared→Prop}{Q:Value→Shared→Prop}(D:Kd κ R f sk){S:Addr}{cs:List ZA}(I:Inv X W σ s)(C:XB X W s.heap S (!byT X) cs)(hm:∀c,c∈cs↔c∈xs.map f)(hh:A.handled=none)(hz:xs.length≤2)
  (h1:ys.Pairwise (R · ·=true)) (h2:∀y,y∈ys↔y∈xs) (h:Pst X W σ (.lst (ys.map f)) Q):wpAny (model pp X.w) A (call (.builtin "sorted") [.ref S]) Q E s:=by
 have hlen:cs.length≤2:=Z7z (Zb2 C.nodup λc hc=>(hm c).mp hc) (by rw[Z8i];exact hz)
 refine Calls.call_function_entry kind_sorted plain_sorted entry_sorted (args_sorted1 _) ?_
 unfold Builtin.«sorted»
 refine Z8z (m:=checkCount "sorted" 1 1 _) (Z80 ?_)
 refine Z8z (Zpj (A:=A.in1) I C hh (Z7z hlen (Z78 rfl)) λs' acc cs' I' hp hr=>?_)
 obtain⟨zs,rfl⟩:=Z0a (xs:=xs) (f:=f) (cs:=cs') λc hc=>(hm c).mp (hp.mem_iff.mp hc)
 have hzn:zs.Nodup:=(List.pairwise_map.mp (hp.nodup_iff.mpr C.nodup)).imp λh e=>h (Z81 f e)
 have hzm:∀z,z∈zs↔z∈xs:=λz=>by
  have:=hp.mem_iff (a:=f z)
  rw[hm]at this
  exact⟨λq=>let⟨_,q1,q2⟩:=Z8l.mp (this.mp (Z8l.mpr ⟨z,q,rfl⟩));D.inj _ _ q2▸q1,λq=>let⟨_,q1,q2⟩:=Z8l.mp (this.mpr (Z8l.mpr ⟨z,q,rfl⟩));D.inj _ _ q2▸q1⟩
 have hal:acc.length=zs.length:=hr.length.trans (Z8i f)
 have hzl:zs.length≤2:=by rw[←Z8i (f:=f),hp.length_eq];exact hlen
 have DH:acc.length<64:=hal▸Z74 hzl (by decide)
 refine Z8z (Zim ?_ (UG DH))
 have hL:(s'.heap.push (seqObj "list" acc.toArray 0)).get? s'.heap.objs.size=some (seqObj "list" acc.toArray 0):=Z8y _ rfl
 have hI:∀{h':Heap},(∀b o,b≠s'.heap.objs.size→(s'.heap.push (seqObj "list" acc.toArray 0)).get? b=some o→h'.get? b=some o)→Inv X W σ { s' with heap:=h' }:=λhk=>I'.grow (tk:=s'.toks) λa o ha e=>hk a o (λq=>ha (q▸I'.free (Z70 _))) (Z8x _ e)
 have O:=D.ord.so hzn
 rw[←hal]at O
 refine Z8z (wpAny_holding (wpAny_call_entry slot_list_sort ⟨_,hL,rfl⟩ entry_list_sort (Zxr (lt:=ltZ R zs) (κ:=sk) hL DH (hal▸hzl) O (λhk h2 hq=>D.kind (hI hk) hr h2 hq) (λ{h' Q i j} hk hi hj hq=>?_) λh' p e P1 S1 hk hD=>⟨_,rfl,?_⟩) (args_list_sort _)))
 ·rw[hal]at hi hj
  have e1:=Z8v hi
  have e2:=Z8v hj
  obtain⟨u,hu,ru⟩:=hr.get (i:=i) (b:=f zs[i]) (by rw[List.getElem?_map,e1];rfl)
  obtain⟨v,hv,rv⟩:=hr.get (i:=j) (b:=f zs[j]) (by rw[List.getElem?_map,e2];rfl)
  rw[List.getD_eq_getElem?_getD,List.getD_eq_getElem?_getD,hu,hv]
  rw[Zjn e1 e2]at hq
  exact D.cmp (hI hk) ru rv hq
 ·rw[hal]at P1 S1
  have hys:p.toList.filterMap (zs[·]?)=ys:=D.ord.uniq (Zxe P1 S1) h1 λx=>by
   rw[(P1.filterMap _).mem_iff,Zxy,hzm,h2]
  have hf:=F2.picks hr (l:=p.toList) λi hi=>List.mem_range.mp (P1.mem_iff.mp hi)
  rw[hys]at hf
  refine Z80 ⟨_,rfl,?_⟩
  exact Pst.X2 (s:=s') (tk:=s'.toks) I' h (λa o ha=>hk a o (Nat.ne_of_lt (Heap.lt_size ha)) (Z8x _ ha)) (Z5 _) ⟨e,hD⟩ hf
end
section
section
variable{κ:Type}[DecidableEq κ]{R:κ→κ→Bool}
noncomputable def ins(R:κ→κ→Bool)(x:κ):List κ→List κ
 | []=>[x]
 |y::l=>if x=y then y::l else if R x y=true then x::y::l else y::ins R x l
noncomputable def Zxs(R:κ→κ→Bool)(xs:List κ):List κ:=xs.foldr (ins R) []
theorem Zo9{x c:κ}:∀{l:List κ},c∈ins R x l↔c=x∨c∈l
 | []=>Z8k
 |y::l=>by
  show c∈(if x=y then y::l else if R x y=true then x::y::l else y::ins R x l)↔_
  by_cases h:x=y
  ·subst h;rw[if_pos rfl];exact⟨.inr,λq=>q.elim (λe=>e▸Z8g) id⟩
  ·rw[if_neg h]
   by_cases r:R x y=true
   ·rw[if_pos r];exact Z8k
   ·rw[if_neg r,Z8k,Zo9,Z8k]
    exact⟨λq=>q.elim (λe=>.inr (.inl e)) λq=>q.imp id .inr,λq=>q.elim (λe=>.inr (.inl e)) λq=>q.imp id .inr⟩
theorem Zqu(O:Ord κ R){x:κ}:∀{l:List κ},l.Pairwise (R · ·=true)→(ins R x l).Pairwise (R · ·=true)
 | [],_=>List.pairwise_singleton _ _
 |y::l,h=>by
  obtain⟨h1,h2⟩:=List.pairwise_cons.mp h
  show(if x=y then y::l else if R x y=true then x::y::l else y::ins R x l).Pairwise _
  by_cases e:x=y
  ·rw[if_pos e];exact h
  ·rw[if_neg e]
   by_cases r:R x y=true
   ·rw[if_pos r]
    exact List.pairwise_cons.mpr ⟨λc hc=>(Z8k.mp hc).elim (λe=>e▸r) λhc=>O.tr _ _ _ r (h1 c hc),h⟩
   ·rw[if_neg r]
    exact List.pairwise_cons.mpr ⟨λc hc=>(Zo9.mp hc).elim (λq=>q▸(O.tot x y e).resolve_left r) (h1 c),Zqu O h2⟩
theorem Zgz{c:κ}:∀{xs:List κ},c∈Zxs R xs↔c∈xs
 | []=>Iff.rfl
 |x::xs=>Zo9.trans ((or_congr_right Zgz).trans Z8k.symm)
theorem Ze6(O:Ord κ R):∀(xs:List κ),(Zxs R xs).Pairwise (R · ·=true)
 | []=>.nil
 |x::xs=>Zqu O (Ze6 O xs)
end
theorem Z0h:BN "set" (.type "set"):=⟨rfl,by kernel_rfl,by kernel_rfl,.inr ⟨_,rfl⟩⟩
theorem Zn9:BN "sorted" (.builtin "sorted"):=⟨rfl,by kernel_rfl,by kernel_rfl,.inl ⟨_,rfl⟩⟩
section
variable{j:Nat}{e:PE}{ν:Fm}{σ σ1:St}{x:ZA}
theorem Zq6{κ:Type}[DecidableEq κ]{R:κ→κ→Bool}{f:κ→ZA}{sk:SortKind}(D:Kd κ R f sk){xs:List κ}(h:EvE j e ν σ x σ1)(hx:LOf σ1 x (xs.map f))(hl:xs.length≤2):EvE j (.sset e) ν σ (.lst ((Zxs R xs).map f)) σ1:=
 .plain (λh=>Zcf h) λ{X y env own W A st E Q} hf c hq=>Zaq hf λp as ps hg h2=>by
 refine PyProof.Rows.Call_Name rfl (Zmw c.frm c.inv hg Zn9 (Zfh (K:=X.K) Zn9.call (Zo h2) ?_))
 refine Z2 (Q:=λas=>wpAny _ _ (spliced (backTo _ (starEach as env))) _ E st) h2 λz r hz=>?_
 have hn:=(ZC hz).1
 have hz:=(ZC hz).2
 have hr:=(ZC hz).2
 have hz:=(ZC hz).1
 rw[Qj hn,Z8 hr]
 refine Calls.spliced_cons (Zaq (C:=λz=>wpAny _ _ (eval z env) _ E st) hz λp' as' ps' hg' h2'=>?_)
 refine PyProof.Rows.Call_Name rfl (Zmw c.frm c.inv hg' Z0h (Zfh (K:=X.K) Z0h.call (Zo h2') (Jm (.cons h (.nil _)) h2' c λW1 cvs s1 l1 I1 hv=>⟨I1.kin,?_⟩)))
 obtain⟨v,rest,rfl,hv1,hv2⟩:=F2.cons_right hv
 rw[F2.QL hv2]
 obtain⟨a,rfl,us,hus,hur⟩:=I1.listOf hv1 hx
 refine Zzd I1 c.room.h0 hus.isList hur (λc hc=>let⟨q,_,e⟩:=Z8l.mp hc;e▸D.kin q) (by rw[Z8i];exact Nat.le_succ_of_le hl) λs2 cs I2 hS C hm=>?_
 exact Calls.spliced_nil ⟨I2.kin,Zry D I2 C hm c.room.h0 hl (Ze6 D.ord xs) (λy=>Zgz) (hq.le l1)⟩
noncomputable def VV(ns:List Nat):List Nat:=Zxs (λa b=>decide (a<b)) ns
theorem Zkr{ns:List Nat}{c:Nat}:c∈VV ns↔c∈ns:=Zgz
theorem Zr1{ns:List Nat}:(VV ns).Nodup:=(Ze6 Zua ns).imp λh=>Nat.ne_of_lt (of_decide_eq_true h)
theorem Zqa{ns:List Nat}:(VV ns).length≤ns.length:=Zb2 Zr1 λx=>Zkr.mp
theorem Zsx{ns:List Nat}(h:EvE j e ν σ x σ1)(hx:LOf σ1 x (ns.map nA))(hl:ns.length≤2):EvE j (.sset e) ν σ (.lst ((VV ns).map nA)) σ1:=Zq6 Z5f h hx hl
theorem Zsw(h:EvE j e ν σ x σ1)(hx:LOf σ1 x []):EvE j (.sset e) ν σ (.lst []) σ1:=Zq6 (xs:=[]) Zu5 h hx (Z8d _)
theorem Zjy{a:CS}(h:EvE j e ν σ x σ1)(hx:LOf σ1 x [.str a]):EvE j (.sset e) ν σ (.lst [.str a]) σ1:=Zq6 (xs:=[a]) Zu5 h hx (Z78 rfl)
end
end
end PL
end
section
open PySem
open scoped Classical
namespace PL
section
noncomputable def Zg1(L:Fld→Nat)(k n:Nat)(f:Fld):Nat:=@Fld.casesOn (λZ=>Nat) f (L .h) (L .YY) (L .YC) (L .nodes) (L .ZX) (L .ZL) (L .ZP) (L .uab) (L .ZJ) (λi=>if i=k then n else L (.lot i)) (L .merged) (L .ZI) (L .ZH) (L .known) (L .hab) (λc=>L (.abv c)) (L .waiting) (L .rows)
section
variable(H:HC)
noncomputable def hUp:HC:={ H with par:=H.par++[H.par.length] }
noncomputable def GS:HC:={ H with ZJ:=H.ZJ++[[H.ZJ.length]] }
noncomputable def Z5m:HC:=⟨H.nodes,H.ZL,H.ZP,H.par++[H.par.length],H.ZJ++[[H.ZJ.length]],H.merged,H.ZI,H.ZH,H.known,H.abv,H.waiting,H.rows⟩
noncomputable def Uv(n:Nat):HC:={ H with abv:=H.abv++[(n,[])] }
noncomputable def Zaz(nd:Nd):HC:=⟨H.nodes++[nd],H.ZL++[wOf H nd.2],H.ZP++[dOf H nd.2],H.par++[H.par.length],H.ZJ++[[H.ZJ.length]],H.merged,H.ZI,H.ZH,H.known,H.abv++[(H.nodes.length,[])],H.waiting,H.rows⟩
theorem Zys(nd:Nd):Uv (Z5m (Z2e H nd)) H.nodes.length=Zaz H nd:=rfl
noncomputable def Zc7(n c:Nat):HC:=⟨H.nodes,H.ZL,H.ZP,H.par,H.ZJ,H.merged,H.ZI,H.ZH,H.known,QC c (Zr H c++[n]) H.abv,H.waiting,H.rows⟩
end
noncomputable def Zpa(n:Nat)(cs:List Nat)(H:HC):HC:=cs.foldl (λH c=>Zc7 H n c) H
section
variable{σ σ':St}{L L':Fld→Nat}{H H':HC}{k n c:Nat}
theorem Zg0:Zg1 L k n (.lot k)=n:=if_pos rfl
theorem Zjf{i:Nat}(h:i≠k):Zg1 L k n (.lot i)=L (.lot i):=if_neg h
theorem Zt3{f:Fld}:f≠.lot k→Zg1 L k n f=L f:=@Fld.casesOn (λf=>f≠.lot k→Zg1 L k n f=L f) f (λZ=>rfl) (λZ=>rfl) (λZ=>rfl) (λZ=>rfl) (λZ=>rfl) (λZ=>rfl) (λZ=>rfl) (λZ=>rfl) (λZ=>rfl) (λi h=>Zjf λq=>h (by rw[q])) (λZ=>rfl) (λZ=>rfl) (λZ=>rfl) (λZ=>rfl) (λZ=>rfl) (λZ Z=>rfl) (λZ=>rfl) (λZ=>rfl)
theorem Tr.up(R:Rep σ L H):Tr σ L H (σ.put (L .uab) (.list (H.par.map nA++[nA H.par.length]))) L (hUp H):=
 Tr.X6 (H':=hUp H) R .uab trivial (λZ=>Iff.rfl) (λfd hg Z=>by cases fd<;>first | rfl | exact absurd rfl hg) (Z81 ZK.list (Qp nA _ _))
theorem Z4p{σ:St}{i k:Nat}{o o':ZK}{v}(hl:i<σ.n)(hne:i≠k)(h:σ.f i=some v):((σ.new o).put k o').f i=some v:=(Z0 hne).trans ((Yz hl).trans h)
theorem Zse:Zm3 (Zg1 L n k) (n+1)=Zm3 L n++[.ref k]:=by
 show(List.range (n+1)).map _=_
 rw[List.range_succ,List.map_append,List.map_singleton,Zg0]
 exact Z81 (·++_) (List.map_congr_left λi hi=>Z81 ZA.ref (Zjf (Nat.ne_of_lt (List.mem_range.mp hi))))
theorem Zm4{i:Nat}{l:List Nat}(h:i<H.ZJ.length):((H.ZJ++[l])[i]?).getD []=Qe H i:=Z81 (λo:Option (List Nat)=>o.getD []) (List.getElem?_append_left h)
theorem Zm5{l:List Nat}:((H.ZJ++[l])[H.ZJ.length]?).getD []=l:=by rw[List.getElem?_append_right (Z70 _),Nat.sub_self];rfl
theorem Tr.lot(R:Rep σ L H):Tr σ L H ((σ.new (.list [nA H.ZJ.length])).put (L .ZJ) (.list (Zm3 L H.ZJ.length++[.ref σ.n]))) (Zg1 L H.ZJ.length σ.n) (GS H):=by
 have hl:L .ZJ<σ.n:=R.lt .ZJ trivial
 refine Tr.gen R (.lot H.ZJ.length) Zg0 (λf=>Zt3) (λq=>nomatch q) rfl (λf=>@Fld.casesOn (λf=>f≠.lot H.ZJ.length→act (GS H) f→act H f) f (λZ h=>h) (λZ h=>h) (λZ h=>h) (λZ h=>h) (λZ h=>h) (λZ h=>h) (λZ h=>h) (λZ h=>h) (λZ h=>h)
  (λi q h=>Nat.lt_of_le_of_ne (Z8f (show i<H.ZJ.length+1 by rw[←Zd H.ZJ [H.ZJ.length]];exact h)) λz=>q (by rw[z])) (λZ h=>h) (λZ h=>h) (λZ h=>h) (λZ h=>h) (λZ h=>h) (λZ Z h=>h) (λZ h=>h) (λZ h=>h)) ?_ (λf q hf' hf=>?_) λid h1 h2=>(Z0 λz=>h2 .ZJ trivial z.symm).trans (Yz h1)
 ·refine(Z0 (Nat.ne_of_gt hl)).trans ((Yp ..).trans (Z81 some ?_))
  show ZK.list [nA H.ZJ.length]=ZK.list ((((H.ZJ++[[H.ZJ.length]])[H.ZJ.length]?).getD []).map nA)
  rw[Zm5];rfl
 ·by_cases e:f=.ZJ
  ·rw[e]
   refine(Zs ..).trans (Z81 some ?_)
   show _=ZK.list (Zm3 _ (H.ZJ++[[H.ZJ.length]]).length)
   rw[Zd,Zse]
  ·refine Z4p (R.lt f hf) (λz=>e (R.inj f .ZJ hf trivial z)) ((R.val f hf).trans (Z81 some ?_))
   clear hf'
   revert q hf e
   exact@Fld.casesOn (λf=>f≠.lot H.ZJ.length→act H f→f≠.ZJ→cont L H f=cont (Zg1 L H.ZJ.length σ.n) (GS H) f) f (λZ Z Z=>rfl) (λZ Z Z=>rfl) (λZ Z Z=>rfl) (λZ Z Z=>rfl) (λZ Z Z=>rfl) (λZ Z Z=>rfl) (λZ Z Z=>rfl) (λZ Z Z=>rfl) (λZ Z q=>absurd rfl q)
    (λi q h Z=>Z81 (λl=>ZK.list (List.map nA l)) (Zm4 h).symm) (λZ Z Z=>rfl) (λZ Z Z=>rfl) (λZ Z Z=>rfl) (λZ Z Z=>rfl) (λZ Z Z=>rfl) (λZ Z Z Z=>rfl) (λZ Z Z=>rfl) (λZ Z Z=>rfl)
theorem Zsf{l:List (Nat×List Nat)}{v:List Nat}(h:c∈l.map (·.1)):(l++[(n,v)]).lookup c=l.lookup c:=by
 induction l with
 |nil=>exact nomatch h
 |cons p l ih=>
  rw[List.cons_append]
  by_cases e:p.1=c
  ·rw[List.lookup_cons,List.lookup_cons,e,Z87]
  ·rw[Yd e,Yd e];exact ih ((Z8k.mp h).resolve_left λq=>e q.symm)
theorem Zsg{l:List (Nat×List Nat)}{v:List Nat}(h:n∉l.map (·.1)):(l++[(n,v)]).lookup n=some v:=by
 induction l with
 |nil=>exact Q6
 |cons p l ih=>rw[List.cons_append,Yd λe:p.1=n=>h (by rw[←e];exact Z8g)];exact ih λq=>h (Z8h _ q)
theorem Zpr{l:List (Nat×List Nat)}(h:n∉l.map (·.1)):QJ (Zat L n k) l=QJ L l:=List.map_congr_left λp hp=>by rw[Ze7 λe:p.1=n=>h (by rw[←e];exact Zfc hp)]
theorem Tr.use(R:Rep σ L H)(hn:n∉H.abv.map (·.1)):Tr σ L H ((σ.new (.list [])).put (L .hab) (.dict (QJ L H.abv++[(nA n,.ref σ.n)]))) (Zat L n σ.n) (Uv H n):=by
 have hl:L .hab<σ.n:=R.lt .hab trivial
 have hk:∀c,c∈(Uv H n).abv.map (·.1)↔c∈H.abv.map (·.1)∨c=n:=λc=>by show c∈(H.abv++[(n,[])]).map (λp:Nat×List Nat=>p.1)↔_;rw[List.map_append,List.mem_append];exact or_congr Iff.rfl Z8m
 refine Tr.gen R (.abv n) Za8 (λf=>Zmj) (λq=>nomatch q) rfl (λf=>@Fld.casesOn (λf=>f≠.abv n→act (Uv H n) f→act H f) f (λZ h=>h) (λZ h=>h) (λZ h=>h) (λZ h=>h) (λZ h=>h) (λZ h=>h) (λZ h=>h) (λZ h=>h) (λZ h=>h)
  (λZ Z h=>h) (λZ h=>h) (λZ h=>h) (λZ h=>h) (λZ h=>h) (λZ h=>h) (λc q h=>((hk c).mp h).resolve_right λz=>q (by rw[z])) (λZ h=>h) (λZ h=>h)) ?_ (λf q hf' hf=>?_) λid h1 h2=>(Z0 λz=>h2 .hab trivial z.symm).trans (Yz h1)
 ·refine(Z0 (Nat.ne_of_gt hl)).trans ((Yp ..).trans (Z81 some ?_))
  show ZK.list []=ZK.list ((((H.abv++[(n,[])]).lookup n).getD []).map nA)
  rw[Zsg hn];rfl
 ·by_cases e:f=.hab
  ·rw[e]
   refine(Zs ..).trans (Z81 some (Z81 ZK.dict ?_))
   show _=List.map _ (H.abv++[(n,[])])
   rw[List.map_append]
   exact congr (Z81 HAppend.hAppend (Zpr hn).symm) (by show _=[(nA n,ZA.ref (Zat L n σ.n (.abv n)))];rw[Za8])
  ·refine Z4p (R.lt f hf) (λz=>e (R.inj f .hab hf trivial z)) ((R.val f hf).trans (Z81 some ?_))
   clear hf'
   revert q hf e
   exact@Fld.casesOn (λf=>f≠.abv n→act H f→f≠.hab→cont L H f=cont (Zat L n σ.n) (Uv H n) f) f (λZ Z Z=>rfl) (λZ Z Z=>rfl) (λZ Z Z=>rfl) (λZ Z Z=>rfl) (λZ Z Z=>rfl) (λZ Z Z=>rfl) (λZ Z Z=>rfl) (λZ Z Z=>rfl) (λZ Z Z=>rfl)
    (λZ Z Z Z=>rfl) (λZ Z Z=>rfl) (λZ Z Z=>rfl) (λZ Z Z=>rfl) (λZ Z Z=>rfl) (λZ Z q=>absurd rfl q) (λc q h Z=>Z81 (λl=>ZK.list (List.map nA l)) (Z81 (λo:Option (List Nat)=>o.getD []) (Zsf h).symm)) (λZ Z Z=>rfl) (λZ Z Z=>rfl)
theorem Zw3{l l':List (Nat×List Nat)}(h:l.map (·.1)=l'.map (·.1)):QJ L l=QJ L l':=by
 have e:∀l:List (Nat×List Nat),QJ L l=(l.map (·.1)).map λc=>(nA c,.ref (L (.abv c))):=λl=>by rw[List.map_map];rfl
 rw[e,e,h]
theorem Tr.Gm(R:Rep σ L H)(hc:c∈H.abv.map (·.1)):Tr σ L H (σ.put (L (.abv c)) (.list ((Zr H c).map nA++[nA n]))) L (Zc7 H n c):=
 Tr.X6 (H':=Zc7 H n c) R (.abv c) hc (λf=>@Fld.casesOn (λf=>act (Zc7 H n c) f↔act H f) f Iff.rfl Iff.rfl Iff.rfl Iff.rfl Iff.rfl Iff.rfl Iff.rfl Iff.rfl Iff.rfl (λZ=>Iff.rfl) Iff.rfl Iff.rfl Iff.rfl Iff.rfl Iff.rfl (λd=>by show d∈(QC ..).map (·.1)↔_;rw[Jf];exact Iff.rfl) Iff.rfl Iff.rfl)
  (λf q Z=>@Fld.casesOn (λf=>f≠.abv c→cont L (Zc7 H n c) f=cont L H f) f (λZ=>rfl) (λZ=>rfl) (λZ=>rfl) (λZ=>rfl) (λZ=>rfl) (λZ=>rfl) (λZ=>rfl) (λZ=>rfl) (λZ=>rfl) (λZ Z=>rfl) (λZ=>rfl) (λZ=>rfl) (λZ=>rfl) (λZ=>rfl) (λZ=>Z81 ZK.dict (Zw3 Jf))
   (λd q=>Z81 (λo:Option (List Nat)=>ZK.list ((o.getD []).map nA)) (Ys (λz=>q (by rw[z])) _)) (λZ=>rfl) (λZ=>rfl) q)
  ((Z81 ZK.list (Qp nA _ n)).trans (Z81 (λo:Option (List Nat)=>ZK.list ((o.getD []).map nA)) (Q5 (b:=Zr H c++[n]) _ hc).symm))
end
end
section
section
variable{H:HC}{nd:Nd}{n c:Nat}
theorem Zdr{α:Type}{l:List α}{x y:α}{i:Nat}(h:(l++[x])[i]? = some y):l[i]? = some y∨(i=l.length∧y=x):=by
 by_cases hi:i<l.length
 ·rw[List.getElem?_append_left hi]at h;exact .inl h
 ·have e:i=l.length:=Nat.le_antisymm (Z8f (show i<l.length+1 by rw[←Zd l x];exact Zaw h)) (Nat.le_of_not_lt hi)
  rw[e,List.getElem?_append_right (Z70 _),Nat.sub_self]at h
  exact .inr ⟨e,(Z8q h).symm⟩
theorem Ql{α:Type}{l:List α}{x y:α}:y∈l++[x]↔y∈l∨y=x:=List.mem_append.trans (or_congr Iff.rfl Z8m)
theorem Zjh{α:Type}{l:List α}{x:α}(h:l.Nodup)(hx:x∉l):(l++[x]).Nodup:=List.nodup_append.mpr ⟨h,Z88.mpr ⟨List.not_mem_nil,List.nodup_nil⟩,λa ha b hb e=>hx (by rw[←Z8m.mp hb,←e];exact ha)⟩
theorem Core.Vg(O:Core H)(h:c∈H.abv.map (·.1)):c<H.nodes.length:=O.lp▸Zaw ((O.roots c).mp h)
theorem Core.GY(O:Core H)(hn:nd∉H.nodes)(hk:nd.2.length≤2)(hkl:∀k∈nd.2,k<H.nodes.length):Core (Zaz H nd):=by
 have Kx:H.nodes.length∉H.abv.map (·.1):=λh=>Nat.lt_irrefl _ (O.Vg h)
 have up:∀{m:Nat},m<H.nodes.length→m<(H.nodes++[nd]).length:=λh=>by rw[Zd];exact Nat.lt_succ_of_lt h
 have top:H.nodes.length<(H.nodes++[nd]).length:=by rw[Zd];exact Z79 _
 exact
  {lw:=by show(H.ZL++[_]).length=(H.nodes++[nd]).length;rw[Zd,Zd,O.lw]
   ld:=by show(H.ZP++[_]).length=(H.nodes++[nd]).length;rw[Zd,Zd,O.ld]
   lp:=by show(H.par++[_]).length=(H.nodes++[nd]).length;rw[Zd,Zd,O.lp]
   ll:=by show(H.ZJ++[_]).length=(H.nodes++[nd]).length;rw[Zd,Zd,O.ll]
   down:=λi p h=>(Zdr h).elim (O.down i p) λe=>Z8c (e.2.trans e.1.symm)
   kids:=λi nd' h=>(Zdr h).elim (O.kids i nd') λe=>by rw[e.1,e.2];exact⟨hkl,hk⟩
   nodup:=Zjh O.nodup hn
   roots:=λc=>by
    show c∈(H.abv++[(H.nodes.length,[])]).map (λp:Nat×List Nat=>p.1)↔(H.par++[H.par.length])[c]? = some c
    rw[List.map_append,List.map_singleton,Ql]
    constructor
    ·rintro(h | h)
     ·have:=(O.roots c).mp h
      rw[List.getElem?_append_left (Zaw this)];exact this
     ·rw[h,←O.lp,List.getElem?_append_right (Z70 _),Nat.sub_self];rfl
    ·exact λh=>(Zdr h).imp (O.roots c).mpr λe=>e.2.trans O.lp
   QG:=by
    show((H.abv++[(H.nodes.length,[])]).map λp:Nat×List Nat=>p.1).Nodup
    rw[List.map_append];exact Zjh O.QG Kx
   Xp:=λp hp n hn'=>(Ql.mp hp).elim (λh=>up (O.Xp p h n hn')) λe=>by rw[e]at hn';exact nomatch hn'
   QB:=λn h=>up (O.QB n h)
   YU:=λp h=>up (O.YU p h)
   count:=by show H.merged.length+(H.abv++[_]).length=(H.nodes++[nd]).length;rw[Zd,Zd,←Z8a,O.count]
   sum:=by
    show((H.abv++[(H.nodes.length,[])]).map λp:Nat×List Nat=>p.2.length).sum≤2*(H.nodes++[nd]).length
    rw[List.map_append,List.sum_append,Zd]
    exact Z7z O.sum (Nat.mul_le_mul_left 2 (Nat.le_succ _))
   XF:=λl h n hn'=>(Ql.mp h).elim (λh=>up (O.XF l h n hn')) λe=>by rw[e,O.ll]at hn';rw[Z8m.mp hn'];exact top
   QZ:=by
    show((H.abv++[(H.nodes.length,[])]).map λp:Nat×List Nat=>(Qe (Zaz H nd) p.1).length).sum=(H.nodes++[nd]).length
    rw[List.map_append,List.sum_append,Zd,List.map_congr_left (l:=H.abv) (f:=λp:Nat×List Nat=>(Qe (Zaz H nd) p.1).length) (g:=λp:Nat×List Nat=>(Qe H p.1).length) λp hp=>Z81 List.length (Zm4 (O.ll.symm▸O.Vg (Zfc hp))),O.QZ]
    show _+((((H.ZJ++[[H.ZJ.length]])[H.nodes.length]?).getD []).length+0)=_
    rw[←O.ll,Zm5];rfl }
noncomputable def KD(H:HC):Nat:=(H.abv.map λp=>p.2.length).sum
theorem Core.Gm(O:Core H)(hc:c∈H.abv.map (·.1))(hn:n<H.nodes.length)(hs:KD H+1≤2*H.nodes.length):Core (Zc7 H n c)∧KD (Zc7 H n c)=KD H+1:=by
 obtain⟨v,h1,h2⟩:=Zu4 hc O.QG
 have u:Zr H c=v:=Z81 (λo:Option (List Nat)=>o.getD []) h2
 have UJ:KD (Zc7 H n c)=KD H+1:=by
  have:=Zkg (F:=λp:Nat×List Nat=>p.2.length) (F':=λp:Nat×List Nat=>p.2.length) (b:=Zr H c++[n]) O.QG h1 (λq Z Z=>rfl)
  rw[Zd,u,Nat.add_comm v.length,←Z8a]at this
  have:=Nat.add_right_cancel this
  rw[←u]at this
  exact this
 have hk:((Zc7 H n c).abv.map (·.1))=H.abv.map (·.1):=Jf
 exact⟨{ O with
  roots:=λd=>by rw[hk];exact O.roots d
  QG:=by rw[hk];exact O.QG
  Xp:=λp hp m hm=>by
   obtain⟨q,hq,rfl⟩:=Z8l.mp hp
   by_cases e:q.1=c
   ·rw[if_pos e]at hm
    exact(Ql.mp hm).elim (Zf9 O) λe=>e▸hn
   ·rw[if_neg e]at hm;exact O.Xp q hq m hm
  count:=(Z81 (H.merged.length+·) (Z8i ..)).trans O.count
  sum:=Z7z (Z8c UJ) hs
  QZ:=by
   have:∀l:List (Nat×List Nat),(l.map λp=>(Qe H p.1).length)=(l.map (·.1)).map λi=>(Qe H i).length:=λl=>by rw[List.map_map];rfl
   show((Zc7 H n c).abv.map λp:Nat×List Nat=>(Qe H p.1).length).sum=_
   rw[this,hk,←this];exact O.QZ },UJ⟩
theorem Zjo{cs:List Nat}:Zpa n (c::cs) H=Zpa n cs (Zc7 H n c):=rfl
structure Z28(H H':HC):Prop where
 core:Core H'
 nodes:H'.nodes=H.nodes
 rows:H'.rows=H.rows
 par:H'.par=H.par
 merged:H'.merged=H.merged
 ZI:H'.ZI=H.ZI
 ZH:H'.ZH=H.ZH
 known:H'.known=H.known
 waiting:H'.waiting=H.waiting
theorem Core.uses:∀{cs:List Nat}{H:HC},Core H→(∀c∈cs,c∈H.abv.map (·.1))→n<H.nodes.length→KD H+cs.length≤2*H.nodes.length→Z28 H (Zpa n cs H)
 | [],H,O,_,_,_=>⟨O,rfl,rfl,rfl,rfl,rfl,rfl,rfl,rfl⟩
 |c::cs,H,O,hc,hn,hs=>by
  rw[Z8p,Nat.add_comm cs.length,←Z8a]at hs
  obtain⟨O1,h1⟩:=O.Gm (hc c Z8g) hn (Z7z (Z71 _ _) hs)
  rw[Zjo]
  have U:=Core.uses (cs:=cs) O1 (λd hd=>by show d∈(QC ..).map (·.1);rw[Jf];exact hc d (Z8h _ hd)) hn (h1.symm▸hs)
  exact⟨U.core,U.nodes,U.rows,U.par,U.merged,U.ZI,U.ZH,U.known,U.waiting⟩
noncomputable def Zgr(H:HC)(nd:Nd):List Nat:=VV (nd.2.map (find (Zaz H nd).par))
noncomputable def Y5(H:HC)(nd:Nd):HC:=Zpa H.nodes.length (Zgr H nd) (Zaz H nd)
theorem Zgq(O:Core (Zaz H nd))(hkl:∀k∈nd.2,k<H.nodes.length):∀c∈Zgr H nd,c∈(Zaz H nd).abv.map (·.1):=λc hc=>by
 obtain⟨k,hk,rfl⟩:=Z8l.mp (Zkr.mp hc)
 exact O.JL (by show k<(H.nodes++[nd]).length;rw[Zd];exact Nat.lt_succ_of_lt (hkl k hk))
theorem Core.UC(O:Core H)(hn:nd∉H.nodes)(hk:nd.2.length≤2)(hkl:∀k∈nd.2,k<H.nodes.length):Z28 (Zaz H nd) (Y5 H nd):=by
 have O0:=O.GY hn hk hkl
 refine O0.uses (Zgq O0 hkl) (by show _<(H.nodes++[nd]).length;rw[Zd];exact Z79 _) ?_
 have h1:KD (Zaz H nd)=KD H:=by show((H.abv++[(_,[])]).map λp:Nat×List Nat=>p.2.length).sum=_;rw[List.map_append,List.sum_append];rfl
 rw[h1]
 show _≤2*(H.nodes++[nd]).length
 rw[Zd]
 exact Nat.add_le_add O.sum (Z7z Zqa (by rw[Z8i];exact hk))
end
section
variable{j:Nat}{σ:St}{H:HC}{L:Fld→Nat}{ν:Fm}{n:Nat}{nd:Nd}
theorem Zxj(R:Rep σ L H)(h1:H.par.length≤15000)(h2:H.ZJ.length≤15000):
  ∃σ' L',Zq (j+1) "Unions.make" [.ref (L .YC)] σ (nA H.par.length) σ'∧Tr σ L H σ' L' (Z5m H):=by
 have T1:=Tr.up R
 have T2:=Tr.lot T1.rep
 refine⟨_,_,Zk Zit rfl (Zc (Qb (Qr (Z6 ZD R.JG) (.append R.uab) (es1 ((Y1 (es1 (Z6 ZD R.JG)) (.len (.lst (.ref R.uab)) (Zh (Ku h1)))).eqv (w:=nA H.par.length) (by rw[Z8i]))) (.append R.uab (Zh (Ku h1)))))
  (Zc (Qb (Qr (Z6 ZD T1.rep.JG) (.append T1.rep.ZJ) (es1 (Zsy (es1 ((Y1 (es1 (Z6 ZD T1.rep.JG)) (.len (.lst (.ref T1.rep.ZJ)) ?_)).eqv (w:=nA H.ZJ.length) ?_)))) (.append ((Yz (T1.rep.lt .ZJ trivial)).trans T1.rep.ZJ) ?_)))
  (Y6 ((Yu (Y1 (es1 (Z6 ZD T2.rep.JG)) (.len (.lst (.ref T2.rep.uab)) ?_)) Zf (.VQ _ 1)).eqv ?_)))),T1.trans T2⟩
 ·exact Zh (List.length_range▸Ku h2)
 ·exact Z81 nA ((Z8i ..).trans List.length_range)
 ·exact Zh (List.length_range▸Ku h2)
 ·exact Zh (by show(H.par++[_]).length≤_;rw[Zd];exact Z7z (Z75 h1) ble)
 ·rw[Z8i]
  show ZA.int (((H.par++[H.par.length]).length:Nat)-1)=_
  rw[Zd];exact Z81 ZA.int (Int.add_sub_cancel (H.par.length:Int) 1)
theorem Zpu:∀{cs:List Nat}{H:HC}{σ:St}{ν:Fm},Rep σ L H→(∀c∈cs,c∈H.abv.map (·.1))→(∀c,(Zr H c).length+cs.length≤15000)→ν "self"=some (.ref (L .h))→ν "n"=some (nA n)→
  ∃σ' ν',JN j none ["c"] [.exp (.mth (.idx JT (.loc "c")) "append" [YD])] ((cs.map nA).map λx=>[x]) ν σ .next ν' σ'∧Tr σ L H σ' L (Zpa n cs H)∧ν' "self"=some (.ref (L .h))∧ν' "n"=some (nA n)
 | [],H,σ,ν,R,_,_,h1,h2=>⟨σ,ν,.nil Z3,Tr.refl R,h1,h2⟩
 |c::cs,H,σ,ν,R,hk,hb,h1,h2=>by
  have hc:=hk c Z8g
  have T1:=Tr.Gm (n:=n) R hc
  have hb':∀d,(Zr (Zc7 H n c) d).length+cs.length≤15000:=λd=>by
   have hd:=hb d
   rw[Z8p,Nat.add_comm cs.length,←Z8a]at hd
   by_cases e:d=c
   ·rw[e]at hd ⊢
    rw[show Zr (Zc7 H n c) c=Zr H c++[n]from Z81 (λo:Option (List Nat)=>o.getD []) (Q5 _ hc),Zd];exact hd
   ·rw[show Zr (Zc7 H n c) d=Zr H d from Z81 (λo:Option (List Nat)=>o.getD []) (Ys e _)]
    exact Z7z (Z77 (Nat.le_succ _) _) hd
  obtain⟨σ2,ν2,g1,T2,g2,g3⟩:=Zpu (cs:=cs) T1.rep (λd hd=>by show d∈(QC ..).map (·.1);rw[Jf];exact hk d (Z8h _ hd)) hb' (ν:=upd ν "c" (nA c)) (Za h1) (Za h2)
  exact⟨σ2,ν2,.turn Z3 rfl (Qh (Qb (Qr (Yx (Z6 (Zb (Za h1)) R.ZO) (Zb (Zg ..)) (.dict R.hab Jx (Zc4 hc))) (.append (R.abv hc)) (es1 (Zb (Za h2))) (.append (R.abv hc) (Zh (Ku (Z7z (Z71 _ _) (hb c)))))))) g1,T1.trans T2,g2,g3⟩
theorem Zp2(R:Rep σ L H)(h:H.par.length≤16000):Zq (j+1) "Unions.size" [.ref (L .YC)] σ (nA H.par.length) σ:=
 Zk Zis rfl (Y6 ((Y1 (es1 (Z6 ZD R.JG)) (.len (.lst (.ref R.uab)) (Zh h))).eqv (by rw[Z8i])))
theorem Zrv(R:Rep σ L H)(O:Core H)(S:Yv H){i:Nat}(hi:Ye H nd=some i)(hk:nd.2.length≤2):Zq (j+2) "Heap.add" [.ref (L .h),.str nd.1,.tup (nd.2.map nA)] σ (nA i) σ:=
 Zk Zdn rfl (Zc (Yk (Y7 (Z6 ZD R.ZO) R.QW (es2 ZD ZD) (Zol R hi hk))) (Qz (Zbr (Zm ZD (Y7 (Z6 ZD R.ZO) R.JG es0 (Zp2 R (O.UH S))) ((ZR.lt i _).eqv (dT (Int.ofNat_lt.mpr (O.lp.symm▸Zaw (Zav hi)))))) (Zau ZD))))
end
end
section
section
variable{j:Nat}{σ:St}{H:HC}{L:Fld→Nat}{ν:Fm}{n:Nat}{nd:Nd}
theorem Zw2{l:List (Nat×List Nat)}(h:n∉l.map (·.1)):YW (QJ L l) (nA n)=none:=by
 induction l with
 |nil=>rfl
 |cons p l ih=>exact(Zd3 λq=>h (by rw[←Zji q];exact Z8g)).trans (ih λq=>h (Z8h _ q))
theorem Zzr{l:List (Nat×List Nat)}{v:ZA}(h:n∉l.map (·.1)):Xx (QJ L l) (nA n) v=QJ L l++[(nA n,v)]:=by
 rw[Xx,if_neg (by rw[Zw2 h];exact Z86)]
theorem K3.eqv{id:Nat}{k v:ZA}{o o':ZK}(h:K3 σ id k v o)(e:o=o'):K3 σ id k v o':=e▸h
structure Wg(j:Nat)(σ:St)(L:Fld→Nat)(H:HC)(nd:Nd)(σ':St)(L':Fld→Nat):Prop where
 call:Zq j "Heap.add" [.ref (L .h),.str nd.1,.tup (nd.2.map nA)] σ (nA H.nodes.length) σ'
 tr:Tr σ L H σ' L' (Zd6 (Y5 H nd) H.nodes.length nd)
theorem Z1w(O:Core H)(hi:Ye H nd=none)(hk:nd.2.length≤2)(hkl:∀k∈nd.2,k<H.nodes.length):(Y5 H nd).nodes[H.nodes.length]? = some nd:=by
 rw[(O.UC (Yy hi) hk hkl).nodes]
 show(H.nodes++[nd])[H.nodes.length]? = _
 rw[List.getElem?_append_right (Z70 _),Nat.sub_self];rfl
theorem Zrw(R:Rep σ L H)(O:YE H)(S:Yv H)(S1:H.nodes.length≤62)(hop:Xi nd.1)(hq:nd.1.head?≠some 63)(hi:Ye H nd=none)(hk:nd.2.length≤2)(hkl:∀k∈nd.2,k<H.nodes.length):∃σ' L',Wg (j+5) σ L H nd σ' L':=by
 have hnm:=Yy hi
 have B:=O.room S
 obtain⟨σ1,ht,T1⟩:=Zom (j:=j+1) R O.toCore S hop hq hi hk hkl
 have n15:H.nodes.length≤15000:=Z7z S1 ble
 have hz:=Zp2 (j:=j+3) T1.rep (O.UH S)
 obtain⟨σ2,L2,hm,T2⟩:=Zxj (j:=j+3) T1.rep (O.lp.symm▸n15) (O.ll.symm▸n15)
 have Kx:H.nodes.length∉H.abv.map (·.1):=λh=>Nat.lt_irrefl _ (O.toCore.Vg h)
 have T3:=Tr.use (n:=H.nodes.length) T2.rep Kx
 rw[Zys]at T3
 have O3:=O.toCore.GY hnm hk hkl
 have U:=O.toCore.UC hnm hk hkl
 have hn3:(Zaz H nd).nodes.length≤63:=by show(H.nodes++[nd]).length≤63;rw[Zd];exact Z75 S1
 have S3:Yv (Zaz H nd):=⟨hn3,S.r⟩
 have RN:∀k∈nd.2,k<(Zaz H nd).nodes.length:=λk h=>by show k<(H.nodes++[nd]).length;rw[Zd];exact Nat.lt_succ_of_lt (hkl k h)
 have hcl:(Zgr H nd).length≤2:=Z7z Zqa (by rw[Z8i];exact hk)
 have e3:Zat L2 H.nodes.length σ2.n .h=L .h:=T3.top.trans (T2.top.trans T1.top)
 obtain⟨σ4,ν4,Us,T4,n4s,n4n⟩:=Zpu (j:=j+4) (n:=H.nodes.length) (cs:=Zgr H nd) (ν:=upd (upd (upd (upd (λZ=>none) "self" (.ref (L .h))) "op" (.str nd.1)) "numbers" (.tup (nd.2.map nA))) "n" (nA H.nodes.length)) T3.rep (Zgq O3 hkl)
  (λc=>Z7z (Nat.add_le_add (Zpv O3 S3 c) hcl) ble) (e3.symm▸by kernel_rfl) (by kernel_rfl)
 have S4:Yv (Y5 H nd):=⟨by rw[U.nodes];exact hn3,by rw[U.rows];exact S.r⟩
 have B4:Room (Y5 H nd):=⟨by rw[U.ZI];exact B.e,by rw[U.waiting];exact B.w,by rw[U.ZH];exact B.f⟩
 have K4:(Y5 H nd).known.length≤16000:=by rw[U.known];exact B.k
 obtain⟨σ5,L5,hlk,T5⟩:=Zty (j:=j) (n:=H.nodes.length) (nd:=nd) T4.rep U.core S4 B4 K4 (Z1w O.toCore hi hk hkl)
 rw[e3]at hlk n4s
 have r2:=T2.rep.ZO
 rw[T2.top.trans T1.top]at r2
 have r3:=T3.rep.ZO
 rw[e3]at r3
 have r4:=T4.rep.ZO
 rw[e3]at r4
 have hL2:L .h<σ2.n:=(T2.top.trans T1.top)▸T2.rep.lt .h trivial
 have hf:LcR (j+4) none ["kid"] [] (.mth QQ0 "find" [Xa]) (upd (upd (upd (upd (λZ=>none) "self" (.ref (L .h))) "op" (.str nd.1)) "numbers" (.tup (nd.2.map nA))) "n" (nA H.nodes.length)) ((nd.2.map nA).map λx=>[x]) [] ((σ2.new (.list [])).put (L2 .hab) (.dict (QJ L2 H.abv++[(nA H.nodes.length,.ref σ2.n)])))
   ([]++nd.2.map λk=>nA (find (Zaz H nd).par k)) ((σ2.new (.list [])).put (L2 .hab) (.dict (QJ L2 H.abv++[(nA H.nodes.length,.ref σ2.n)]))):=
  Zbl Z3 (λk hk'=>Y7 (cl:="Written") ZD r3 (es1 ZD) (e3▸Zko T3.rep O3 S3 (RN k hk'))) (by rw[List.length_nil,Nat.zero_add];exact le2 hk)
 refine⟨σ5,L5,Zk Zdn rfl (Zc (Yk (Y7 (Z6 ZD R.ZO) R.QW (es2 ZD ZD) ht)) (Zc (Zn (Zm ZD (Y7 (Z6 ZD T1.rep.ZO) T1.rep.JG es0 hz) ((ZR.lt H.nodes.length H.par.length).eqv (dF (by rw[O.lp];exact Int.lt_irrefl _)))))
  (Zc (Qb (Y7 (Z6 ZD T1.rep.ZO) T1.rep.JG es0 hm))
  (Zc (Zr2 (Zsy es0) (Z6 ZD ((Yz hL2).trans r2)) ZD (K3.eqv (.dict (k:=nA H.nodes.length) ((Yz (T2.rep.lt .hab trivial)).trans T2.rep.hab) Jx (Zh (l:=H.abv) (Z26 O.toCore S))) (Z81 ZK.dict (Zzr Kx))))
  (Zc (Zkt (es1 (Zsx (ns:=nd.2.map (find (Zaz H nd).par)) (Qx (es1 ZD) (.tup (nd.2.map nA)) hf) (by rw[List.map_map];exact .lst _) (by rw[Z8i];exact Z7z hk ble))) (.lst _) Us)
  (Zc (Qb (Y7 (Zb n4s) r4 (es1 (Zb n4n)) hlk)) (Y6 (Zb n4n)))))))),(((T1.trans T2).trans T3).trans T4).trans T5⟩
end
end
section
section
variable{j:Nat}{σ σ1 σ2 σ':St}{L L':Fld→Nat}{H:HC}{ν ν':Fm}{nd:Nd}{q m:String}{es:List PE}{r:ZA}{id k:Nat}{cl:String}{mm:Fm}{vs:List ZA}{p:PS}{ps:List PS}{n:String}
structure Zl5(j:Nat)(ps:List PS)(ν:Fm)(σ:St)(r:ZA)(σ':St):Prop where
 ex:∃fl ν',BdB j ps ν σ fl ν' σ'∧Zr4 fl=r
theorem QH.sup(h:QH j ps ν σ r σ'):Zl5 j ps ν σ r σ':=h.ex.elim λfl h=>h.elim λμ h=>⟨fl,μ,h.1.bd,h.2⟩
theorem Zgo(h1:ExS j p ν σ .next ν' σ1)(h2:Zl5 j ps ν' σ1 r σ2):Zl5 j (p::ps) ν σ r σ2:=h2.ex.elim λfl h=>h.elim λμ h=>⟨fl,μ,Z2z h1 h.1,h.2⟩
theorem Z0l{v:ZA}(S:GZ j ν σ q m es v σ' id cl k mm vs σ1)(h2:Zl5 j ps ν σ' r σ2):Zl5 j (.exp (.sup q m es)::ps) ν σ r σ2:=h2.ex.elim λfl h=>h.elim λμ h=>⟨fl,μ,Zwm S.jud h.1,h.2⟩
theorem Z3h{v:ZA}(S:GZ j ν σ q m es v σ' id cl k mm vs σ1)(h2:Zl5 j ps (upd ν n v) σ' r σ2):Zl5 j (.asg n (.sup q m es)::ps) ν σ r σ2:=h2.ex.elim λfl h=>h.elim λμ h=>⟨fl,μ,Z57 S.jud h.1,h.2⟩
theorem Z6r(S:GZ j ν σ q m es r σ' id cl k mm vs σ1):Zl5 j (.ret (.sup q m es)::ps) ν σ r σ':=⟨_,_,Z56 S.jud,rfl⟩
theorem Zj5{e:Addr×Fn}(hq:fnOf q=some e)(hb:Zv e.2.params vs (λZ=>none)=some ν)(h:Zl5 j e.2.body ν σ r σ1)(hs:Zda.lookup q=some "Written":=by kernel_rfl):Zq (j+1) q vs σ r σ1:=h.ex.elim λfl h=>h.elim λμ h=>h.2▸Zlt hs hq hb h.1
end
end
section
noncomputable def Jn(H:HC)(nd:Nd):HC:=Zd6 (Y5 H nd) H.nodes.length nd
noncomputable def JY(H:HC)(r:Row):HC:=⟨H.nodes,H.ZL,H.ZP,H.par,H.ZJ,H.merged,H.ZI,H.ZH,H.known,H.abv,H.waiting,H.rows++[r]⟩
noncomputable def Jr(H:HC):HC:=Zhh (if H.waiting=[]then H else JY H .settle)
noncomputable def Q7(H:HC)(a b:Nat)(r:Reason):HC:=
 if find H.par a=find H.par b then Zsn (JY H (.same a b r)) a b (Z7 r)
 else Qy (JY H (.same a b r)) a b (Z7 r) (max (find H.par a) (find H.par b)) (min (find H.par a) (find H.par b))
noncomputable def Kc(H:HC)(nd:Nd):Nat:=(Ye H nd).getD H.nodes.length
noncomputable def Xn(H:HC)(nd:Nd):HC:=@Option.casesOn _ (λZ=>HC) (Ye H nd) (JY (Jn H nd) (.add nd.1 nd.2)) λZ=>H
structure U9(H:HC)(nd:Nd):Prop where
 op:Xi nd.1
 q:nd.1.head?≠some 63
 two:nd.2.length≤2
 lt:∀k∈nd.2,k<H.nodes.length
structure Z1p(many:Nat)(p:CS×Nat):Prop where
 op:Xi p.1
 q:p.1.head? = some 63
 lt:p.2<many
noncomputable def Reason.word(r:Reason):CS:=@Reason.casesOn (λZ=>CS) r (λw=>w) λw Z=>w
noncomputable def Reason.ps(r:Reason):List (CS×Nat):=@Reason.casesOn (λZ=>List (CS×Nat)) r (λZ=>[]) λZ ps=>ps
structure Zey(many:Nat)(r:Reason):Prop where
 word:Xi r.word
 len:r.ps.length≤100
 places:∀p∈r.ps,Z1p many p
section
variable{H:HC}{nd:Nd}
structure Z6q(H:HC)(nd:Nd):Prop where
 ok:YE (Jn H nd)
 nodes:(Jn H nd).nodes=H.nodes++[nd]
 rows:(Jn H nd).rows=H.rows
theorem Zxa{k w n m:Nat}(h:k+w≤n+2*m*n):k+w+1≤(n+1)+2*m*(n+1):=by
 rw[Nat.mul_add];lia
theorem YE.added(O:YE H)(hn:nd∉H.nodes)(hk:nd.2.length≤2)(hkl:∀k∈nd.2,k<H.nodes.length):Z6q H nd:=by
 have U:=O.toCore.UC hn hk hkl
 have K:=U.core.look (n:=H.nodes.length) (nd:=nd) (by rw[U.nodes];show _<(H.nodes++[nd]).length;rw[Zd];exact Z79 _)
  (by rw[U.known,U.waiting,U.nodes,U.merged];show H.known.length+H.waiting.length+1≤(H.nodes++[nd]).length+2*H.merged.length*(H.nodes++[nd]).length;rw[Zd];exact Zxa O.wait)
  (by rw[U.ZI,U.rows,U.merged];exact O.ZI) (by rw[U.ZH,U.merged];exact O.ZH)
 exact⟨K.ok,K.nodes.trans U.nodes,K.rows.trans U.rows⟩
theorem YE.row(O:YE H)(r:Row):YE (JY H r):=⟨⟨O.lw,O.ld,O.lp,O.ll,O.down,O.kids,O.nodup,O.roots,O.QG,O.Xp,O.QB,O.YU,O.count,O.sum,O.XF,O.QZ⟩,O.wait,Z7z O.ZI (Z77 (by show _≤(H.rows++[r]).length;rw[Zd];exact Nat.le_succ _) _),O.ZH⟩
theorem YE.X0(O:YE H):Zij (if H.waiting=[]then H else JY H .settle) (Jr H):=by
 unfold Jr
 by_cases h:H.waiting=[]
 ·rw[if_pos h];exact O.settle
 ·rw[if_neg h];exact(O.row .settle).settle
structure Z3b(H H':HC)(r:Row):Prop where
 ok:YE H'
 nodes:H'.nodes=H.nodes
 rows:H'.rows=H.rows++[r]
theorem YE.merge(O:YE H){a b:Nat}(ha:a<H.nodes.length)(hb:b<H.nodes.length)(r:Reason):Z3b H (Q7 H a b r) (.same a b r):=by
 unfold Q7
 have Or:=O.row (.same a b r)
 by_cases h:find H.par a=find H.par b
 ·rw[if_pos h]
  exact⟨⟨Or.toCore.VE a b _,O.wait,by
   show(H.ZI++[_]).length≤(H.rows++[_]).length+H.merged.length
   rw[Zd,Zd,Nat.add_right_comm];exact Z75 O.ZI,O.ZH⟩,rfl,rfl⟩
 ·rw[if_neg h]
  obtain⟨hk,hg,hlt⟩:=O.toCore.Xv ha hb rfl rfl h
  generalize max (find H.par a) (find H.par b)=g at*
  generalize min (find H.par a) (find H.par b)=k at*
  refine⟨⟨Or.toCore.join (a:=a) (b:=b) (r:=Z7 r) hg hk hlt,?_,?_,?_⟩,rfl,rfl⟩
  ·show H.known.length+(H.waiting++Zr H g).length≤H.nodes.length+2*(H.merged++[(k,g)]).length*H.nodes.length
   rw[Zd,Z8j,←Z8a,Nat.mul_add,Nat.add_mul,←Z8a]
   exact Nat.add_le_add O.wait (O.toCore.Vc g)
  ·show(H.ZI++[_]).length≤(H.rows++[_]).length+(H.merged++[(k,g)]).length
   rw[Zd,Zd,Zd];exact Z75 (Z7z O.ZI (Z77 (Nat.le_succ _) _))
  ·show(H.ZH++[_]).length=(H.merged++[(k,g)]).length
   rw[Zd,Zd,O.ZH]
structure Wl(H H':HC)(i:Nat):Prop where
 ok:YE H'
 lt:i<H'.nodes.length
 ge:H.nodes.length≤H'.nodes.length
 nodes:H'.nodes.length≤H.nodes.length+1
 rows:H'.rows.length≤H.rows.length+1
theorem YE.Xn(O:YE H)(h:U9 H nd):Wl H (PL.Xn H nd) (Kc H nd):=by
 unfold PL.Xn Kc
 cases e:Ye H nd with
 |some i=>exact⟨O,Zaw (Zav e),Z70 _,Nat.le_succ _,Nat.le_succ _⟩
 |none=>
  have A:=O.added (Yy e) h.two h.lt
  have en:(Jn H nd).nodes.length=H.nodes.length+1:=by rw[A.nodes,Zd]
  refine⟨A.ok.row _,?_,?_,Z8c en,?_⟩
  ·show H.nodes.length<(Jn H nd).nodes.length;rw[en];exact Z79 _
  ·show H.nodes.length≤(Jn H nd).nodes.length;rw[en];exact Nat.le_succ _
  ·show((Jn H nd).rows++[_]).length≤_;rw[A.rows,Zd];exact Z70 _
end
section
variable{j:Nat}{σ σ':St}{L:Fld→Nat}{H:HC}{nd:Nd}
theorem Tr.row(R:Rep σ L H)(r:Row):Tr σ L H (σ.put (L .rows) (.list (H.rows.map ZT++[ZT r]))) L (JY H r):=
 Tr.X6 (H':=JY H r) R .rows trivial (λZ=>Iff.rfl) (λfd hg Z=>by cases fd<;>first | rfl | exact absurd rfl hg) (Z81 ZK.list (Qp ZT _ r))
theorem Zts(R:Rep σ L H)(O:YE H)(S1:H.nodes.length≤62)(S2:H.rows.length≤190)(h:U9 H nd):
  ∃σ' L',Zq (j+6) "Written.add" [.ref (L .h),.str nd.1,.tup (nd.2.map nA)] σ (nA (Kc H nd)) σ'∧Tr σ L H σ' L' (Xn H nd):=by
 have S:Yv H:=⟨Nat.le_succ_of_le S1,Z7z S2 ble⟩
 have hz:=Ze4 (j:=j+3) R S
 unfold Xn Kc
 cases e:Ye H nd with
 |some i=>
  have ha:=Zrv (j:=j+3) R O.toCore S e h.two
  exact⟨σ,L,Zj5 Zal rfl (Zgo (Yk (Y7 (cl:="Written") ZD R.ZO es0 hz)) (Z3h ⟨by kernel_rfl,R.ZO,by kernel_rfl,es2 ZD ZD,ha⟩ (QH.sup (Zc (Zn (Zm (Y7 (cl:="Written") ZD R.ZO es0 hz) ZD ((ZR.gt H.nodes.length H.nodes.length).eqv (dF (Int.lt_irrefl _))))) (Y6 ZD))))),Tr.refl R⟩
 |none=>
  obtain⟨σ1,L1,N⟩:=Zrw (j:=j) R O S S1 h.op h.q e h.two h.lt
  have A:=O.added (Yy e) h.two h.lt
  have T1:Tr σ L H σ1 L1 (Jn H nd):=N.tr
  have S':Yv (Jn H nd):=⟨by rw[A.nodes,Zd];exact Z75 S1,by rw[A.rows];exact S.r⟩
  have hz1:=Ze4 (j:=j+3) T1.rep S'
  have T2:=Tr.row T1.rep (.add nd.1 nd.2)
  have r1:=T1.rep.ZO
  rw[T1.top]at r1 hz1
  exact⟨_,L1,Zj5 Zal rfl (Zgo (Yk (Y7 (cl:="Written") ZD R.ZO es0 hz)) (Z3h ⟨by kernel_rfl,R.ZO,by kernel_rfl,es2 ZD ZD,N.call⟩ (QH.sup (Zc (Zby (Zm (Y7 (cl:="Written") ZD r1 es0 hz1) ZD ((ZR.gt (Jn H nd).nodes.length H.nodes.length).eqv (dT (by rw[A.nodes,Zd];exact Int.ofNat_lt.mpr (Z79 _)))))
   (Qh (Qb (Qr (Z6 ZD r1) (.append T1.rep.rows) (es1 (Q3 (es3 Zf ZD (Y1 (es1 ZD) (.tuple (.tup _) (Zh (le2 h.two))))))) (.append T1.rep.rows (Zh (Z7z S'.r ble))))))) (Y6 ZD))))),T1.trans T2⟩
theorem Zrs(R:Rep σ L H)(O:YE H)(S:Yv H):Zq (j+1) "Heap.is_settled" [.ref (L .h)] σ (.bool (decide (H.waiting=[]))) σ:=
 Zk Zeb rfl (Y6 (Zm (Zpg R (O.room S) (by kernel_rfl)) Zf ((ZR.eq (.int 0 (H.waiting.length:Nat) 0) ble).eqv (Zeo ⟨λq=>List.length_eq_zero_iff.mp (Zji (b:=0) q),λq=>by rw[q];rfl⟩))))
theorem Zja(R:Rep σ L H)(O:YE H)(S:Yv H)(S2:H.rows.length≤190):∃σ' L',Zq (j+6) "Written.settle" [.ref (L .h)] σ .none σ'∧Tr σ L H σ' L' (Jr H):=by
 have hz:=Zrs (j:=j+4) R O S
 unfold Jr
 by_cases h:H.waiting=[]
 ·rw[dT h]at hz
  rw[if_pos h]
  obtain⟨σ1,L1,h1,T1⟩:=Zmi (j:=j) R O S
  exact⟨σ1,L1,Zj5 Za1 rfl (Zgo (Zn (Zao (p:=true) (Y7 (cl:="Written") ZD R.ZO es0 hz))) (Z0l ⟨by kernel_rfl,R.ZO,by kernel_rfl,es0,h1⟩ (QH.sup Zas))),T1⟩
 ·rw[dF h]at hz
  rw[if_neg h]
  have T0:=Tr.row R .settle
  have S0:Yv (JY H .settle):=⟨S.n,by show(H.rows++[_]).length≤_;rw[Zd];exact Z7z (Z75 S2) ble⟩
  obtain⟨σ1,L1,h1,T1⟩:=Zmi (j:=j) T0.rep (O.row .settle) S0
  exact⟨σ1,L1,Zj5 Za1 rfl (Zgo (Zby (Zao (p:=false) (Y7 (cl:="Written") ZD R.ZO es0 hz)) (Qh (Qb (Qr (Z6 ZD R.ZO) (.append R.rows) (es1 (Q3 (es1 Zf))) (.append R.rows (Zh (Z7z S.r ble))))))) (Z0l ⟨by kernel_rfl,T0.rep.ZO,by kernel_rfl,es0,h1⟩ (QH.sup Zas))),T0.trans T1⟩
end
end
section
section
variable{j:Nat}{σ σ' σ1:St}{L L1:Fld→Nat}{H H1:HC}{ν:Fm}
theorem Zp4{v:CS}(h:Xi v)(hq:v.head? = some 63):Zq (j+1) "is_variable" [.tup [.str v]] σ (.bool true) σ:=by
 cases v with
 |nil=>exact nomatch hq
 |cons c r=>
  have hc:c=63:=Z8q hq
  rw[hc]at h ⊢
  exact Zk Zdc rfl (Y6 (Zw ((Zm (Y1 (es1 ZD) (.len (.tup [.str (63::r)]) ble)) Zf (.eq (.int 0 1 1) ble)).eqv (Z81 ZA.bool (dT rfl))) ((Zm (Qw (Yx ZD Zf (.tup (k:=0) (xs:=[.str (63::r)]) rfl ble)) Yb Yb Yb (.str (i:=1) (Z75 (Z8d _)) (Z7z h.len ble))) Zf (.eq (.str 0 _ _) ble)).eqv (Z81 ZA.bool (dT rfl)))))
theorem Znh{b:List PS}{x y:String}{α:Type}{p q:α→ZA}{P:Fm→Prop}(hu:∀ν v w,P ν→P (upd (upd ν x v) y w)):∀{l:List α}{ν:Fm},(∀u∈l,∀ν,P ν→ExB j b (upd (upd ν x (p u)) y (q u)) σ .next (upd (upd ν x (p u)) y (q u)) σ)→P ν→∃ν',JN j none [x,y] b (l.map λu=>[p u,q u]) ν σ .next ν' σ∧P ν'
 | [],ν,_,hP=>⟨ν,.nil Z3,hP⟩
 |u::l,ν,h,hP=>
  have⟨ν',q1,q2⟩:=Znh hu (λw hw=>h w (Z8h _ hw)) (hu ν (p u) (q u) hP)
  ⟨ν',.turn Z3 rfl (h u Z8g ν hP) q1,q2⟩
theorem Zag(ps:List (CS×Nat)):SrcR σ 1 [.tup (ps.map Zbk)] (ps.map λp=>[.str p.1,nA p.2]) none:=by
 have:(ps.map Zbk).map (Y2 true)=ps.map λp=>[.str p.1,nA p.2]:=by rw[List.map_map];rfl
 exact this▸.Dm λx hx=>(Z8l.mp hx).elim λp q=>q.2▸rfl
theorem Zp6{many:Nat}{r:Reason}(h:Zey many r):Zq (j+2) "check_reason" [Z7 r,nA many] σ .none σ:=by
 have hw:=Ze5 (j:=j) (σ:=σ) h.word
 cases r with
 |told w=>
  exact Zk J4 rfl (Zc (Zn (Zao (p:=true) (ZY (es1 (Yx ZD Zf (.tup (k:=1) (xs:=[.str [116,111,108,100],.str w]) rfl ble))) hw))) (Zc (Zkt (es1 (Zah ((Zm (Yx ZD Zf (.tup (k:=0) (xs:=[.str [116,111,108,100],.str w]) rfl ble)) Zf (.eq (.str 0 _ _) ble)).eqv (by rw[dF (λq=>nomatch q)])) (Q3 es0))) (Zag []) (.nil Z3)) Zas))
 |rule w ps=>
  obtain⟨ν1,Us,Z⟩:=Znh (j:=j+1) (σ:=σ) (b:=[Iy]) (x:="name") (y:="n") (p:=λp:CS×Nat=>.str p.1) (q:=λp=>nA p.2) (l:=ps)
   (P:=λν=>ν "many"=some (nA many)) (λν v w h=>Za (Za h)) (λp hp ν hm=>Qh (Zn (J7 (Zao (p:=true) (ZY (es1 (Q3 (es1 (Zb (Za (Zg ..)))))) (Zp4 (h.places p hp).op (h.places p hp).q))) (Zao (p:=true) (ZY (es1 (Zb (Za (Zg ..)))) (Ze5 (h.places p hp).op)))
    (Zao (p:=true) (Zcv Zf (Zb (Zg ..)) ((ZR.le 0 p.2).eqv (dT (Int.natCast_nonneg p.2))) (Zb (Za (Za hm))) ((ZR.lt p.2 many).eqv (dT (Int.ofNat_lt.mpr (h.places p hp).lt)))))))) (ν:=upd (upd (λZ=>none) "reason" (Z7 (.rule w ps))) "many" (nA many)) (by kernel_rfl)
  exact Zk J4 rfl (Zc (Zn (Zao (p:=true) (ZY (es1 (Yx ZD Zf (.tup (k:=1) (xs:=[.str [114,117,108,101],.str w,.tup (ps.map Zbk)]) rfl ble))) hw))) (Zc (Zkt (es1 (Zbg ((Zm (Yx ZD Zf (.tup (k:=0) (xs:=[.str [114,117,108,101],.str w,.tup (ps.map Zbk)]) rfl ble)) Zf (.eq (.str 0 _ _) ble)).eqv (Z81 ZA.bool (dT rfl)))
   (Yx ZD Zf (.tup (k:=2) (xs:=[.str [114,117,108,101],.str w,.tup (ps.map Zbk)]) rfl ble)))) (Zag ps) Us) Zas))
theorem Ztr(R:Rep σ L H)(O:YE H)(S:Yv H)(S2:H.rows.length≤190){a b:Nat}{r:Reason}(hr:Zey H.nodes.length r)(ha:a<H.nodes.length)(hb:b<H.nodes.length):
  ∃σ' L',Zq (j+6) "Written.merge" [.ref (L .h),nA a,nA b,Z7 r] σ (.bool (!decide (find H.par a=find H.par b))) σ'∧Tr σ L H σ' L' (Q7 H a b r):=by
 have hz:=Ze4 (j:=j+3) R S
 have T1:=Tr.row R (.same a b r)
 have Or:=O.row (.same a b r)
 have S0:Yv (JY H (.same a b r)):=⟨S.n,by show(H.rows++[_]).length≤_;rw[Zd];exact Z7z (Z75 S2) ble⟩
 have DL:∃σ2 L2,Zq (j+4) "Heap.join" [.ref (L .h),nA a,nA b,Z7 r] (σ.put (L .rows) (.list (H.rows.map ZT++[ZT (.same a b r)]))) (.bool (!decide (find H.par a=find H.par b))) σ2∧Tr (σ.put (L .rows) (.list (H.rows.map ZT++[ZT (.same a b r)]))) L (JY H (.same a b r)) σ2 L2 (Q7 H a b r):=by
  unfold Q7
  by_cases he:find H.par a=find H.par b
  ·rw[if_pos he,nT he]
   obtain⟨σ2,h2,T2⟩:=Zru (j:=j+1) (r:=Z7 r) T1.rep Or.toCore S0 (Or.room S0).toRoom (a:=a) (b:=b) ha hb rfl he.symm
   exact⟨σ2,L,h2,T2⟩
  ·rw[if_neg he,nF he]
   obtain⟨σ2,L2,h2,T2⟩:=Ztz (j:=j+1) (r:=Z7 r) T1.rep Or.toCore S0 (Or.room S0).toRoom (a:=a) (b:=b) ha hb rfl rfl he
   exact⟨σ2,L2,h2,T2⟩
 obtain⟨σ2,L2,hj,T2⟩:=DL
 have hmm:Zq (j+5) "Heap.merge" [.ref (L .h),nA a,nA b,Z7 r] (σ.put (L .rows) (.list (H.rows.map ZT++[ZT (.same a b r)]))) (.bool (!decide (find H.par a=find H.par b))) σ2:=Zk Zli rfl (Y6 (Y7 (cl:="Written") ZD T1.rep.ZO (es3 ZD ZD ZD) hj))
 have inb:∀{x:String}{k:Nat}{ν:Fm},ν "self"=some (.ref (L .h))→ν x=some (nA k)→k<H.nodes.length→EvE (j+5) (.not (.KS QQ6 .LtE (.loc x) .Lt Vs)) ν σ (.bool false) σ:=λ{x k ν} hs hx hk=>Zao (p:=true) (Zcv Zf (Zb hx) ((ZR.le 0 k).eqv (dT (Int.natCast_nonneg k))) (Y7 (Zb hs) R.ZO es0 hz) ((ZR.lt k H.nodes.length).eqv (dT (Int.ofNat_lt.mpr hk))))
 exact⟨σ2,L2,Zj5 Ji rfl (Zgo (Qb (ZY (es2 ZD (Y7 (cl:="Written") ZD R.ZO es0 hz)) (Zp6 hr))) (Zgo (Zn (Zbf (inb (by kernel_rfl) (by kernel_rfl) ha) (inb (by kernel_rfl) (by kernel_rfl) hb)))
  (Zgo (Qb (Qr (Z6 ZD R.ZO) (.append R.rows) (es1 (Q3 (.cons Zf (es3 ZD ZD ZD)))) (.append R.rows (Zh (Z7z S.r ble))))) (Z6r ⟨by kernel_rfl,T1.rep.ZO,by kernel_rfl,es3 ZD ZD ZD,hmm⟩)))),T1.trans T2⟩
end
end
section
noncomputable def doH(H:HC)(r:Row):HC:=@Row.casesOn (λZ=>HC) r (λop ks=>Xn H (op,ks)) (λa b r=>Q7 H a b r) (Jr H)
noncomputable def Qm:HC:=⟨[],[],[],[],[],[],[],[],[],[],[],[]⟩
theorem Zpd:YE Qm:=
 ⟨⟨rfl,rfl,rfl,rfl,λi p h=>(nomatch h),λi nd h=>(nomatch h),List.nodup_nil,λc=>⟨λh=>(nomatch h),λh=>(nomatch h)⟩,List.nodup_nil,λp h=>(nomatch h),λp h=>(nomatch h),λp h=>(nomatch h),rfl,Z70 _,λl h=>(nomatch h),rfl⟩,Z70 _,Z70 _,rfl⟩
section
variable{H:HC}{nd:Nd}
theorem QK.empty{H H':HC}(h:QK H H')(he:H.waiting=[]):H'=H:=by
 cases h with
 |done _=>rfl
 |turn h _ _=>rw[h]at he;exact absurd he (List.append_ne_nil_of_right_ne_nil _ (List.cons_ne_nil _ _))
end
end
section
structure YB(σ σ':St)(b:Nat)(o:ZK)(os:List ZK):Prop where
 n:σ'.n=σ.n+os.length
 self:σ'.f b=some o
 new:∀(i:Nat)(o':ZK),os[i]? = some o'→σ'.f (σ.n+i)=some o'
 old:∀i,i<σ.n→i≠b→σ'.f i=σ.f i
section
variable{j:Nat}{σ σ' σ1 σ2:St}{b k:Nat}{o o' o2 oB:ZK}{os osB:List ZK}{ν:Fm}{c n q:String}{m:Fm}{e:PE}
theorem YB.start(h:σ.f b=some o):YB σ σ b o []:=⟨rfl,h,λi o' q=>(nomatch q),λi Z Z=>rfl⟩
theorem YB.step(G:YB σ σ1 b o os)(hb:b<σ.n):YB σ ((σ1.new o').put b o2) b o2 (os++[o']) where
 n:=by rw[Zd];exact Z81 (·+1) G.n
 self:=Zs ..
 new i o3 h:=(Z0 (Nat.ne_of_gt (Z73 hb (Z71 _ _)))).trans ((Zdr h).elim (λh=>(Yz (G.n▸Nat.add_lt_add_left (Zaw h) _)).trans (G.new i o3 h)) λh=>by rw[h.1,←G.n,h.2];exact Yp ..)
 old i h1 h2:=(Z0 h2).trans ((Yz (G.n▸Z73 h1 (Z71 _ _))).trans (G.old i h1 h2))
theorem YB.inst(G:YB σ σ1 b o os)(hb:b<σ.n)(GB:YB (Zaj σ1 c) σ2 σ1.n oB osB):YB σ (σ2.put b o2) b o2 (os++oB::osB) where
 n:=by
  show σ2.n=_
  rw[GB.n,Z8j,Z8p]
  show σ1.n+1+osB.length=_
  rw[G.n,Z8a,Nat.add_comm 1,Z8a]
 self:=Zs ..
 new i o3 h:=by
  refine(Z0 (Nat.ne_of_gt (Z73 hb (Z71 _ _)))).trans ?_
  by_cases hi:i<os.length
  ·rw[List.getElem?_append_left hi]at h
   have hlt:σ.n+i<σ1.n:=G.n▸Nat.add_lt_add_left hi _
   exact(GB.old _ (Nat.lt_succ_of_lt hlt) (Nat.ne_of_lt hlt)).trans ((Yz hlt).trans (G.new i o3 h))
  ·obtain⟨d,rfl⟩:=Nat.exists_eq_add_of_le (Nat.le_of_not_lt hi)
   rw[List.getElem?_append_right (Z71 _ _),Nat.add_sub_cancel_left]at h
   rw[←Z8a,←G.n]
   cases d with
   |zero=>exact Z8q h▸GB.self
   |succ d=>rw[Nat.add_comm d,←Z8a];exact GB.new d o3 h
 old i h1 h2:=(Z0 h2).trans (by
  have hlt:i<σ1.n:=G.n▸Z73 h1 (Z71 _ _)
  exact(GB.old i (Nat.lt_succ_of_lt hlt) (Nat.ne_of_lt hlt)).trans ((Yz hlt).trans (G.old i h1 h2)))
structure Z6f(j:Nat)(ν:Fm)(σ σ1:St)(b:Nat)(n:String)(e:PE)(o:ZK)(os:List ZK)(σ2:St):Prop where
 run:ExS j (.sat QQ0 n e) ν σ1 .next ν σ2
 gr:YB σ σ2 b o os
theorem YB.YH(G:YB σ σ1 b (.inst c k m) os)(hb:b<σ.n)(hν:ν "self"=some (.ref b))(he:EvE j e ν σ1 (.ref σ1.n) (σ1.new o'))(hat:J9.contains (c,n)=true:=by kernel_rfl)(hk:Nat.blt k 100=true:=by kernel_rfl):
  ∃σ2,Z6f j ν σ σ1 b n e (.inst c (k+1) (upd m n (.ref (σ.n+os.length)))) (os++[o']) σ2:=
 ⟨_,G.n▸Z06 he (Zb hν) ((Yz (G.n▸Z73 hb (Z71 _ _))).trans G.self) hat hk,G.n▸G.step hb⟩
theorem Zvc(G:YB σ σ1 b o os)(hb:b<σ.n)(GB:YB (Zaj σ1 c) σ2 σ1.n oB osB):σ2.f b=some o:=
 have hlt:b<σ1.n:=G.n▸Z73 hb (Z71 _ _)
 (GB.old b (Nat.lt_succ_of_lt hlt) (Nat.ne_of_lt hlt)).trans ((Yz hlt).trans G.self)
theorem YB.Vx{d:String}(G:YB σ σ1 b (.inst c k m) os)(hb:b<σ.n)(hν:ν "self"=some (.ref b))(hc:Zq j q [.ref σ1.n] (Zaj σ1 d) .none σ2)(GB:YB (Zaj σ1 d) σ2 σ1.n oB osB)(hi:Zhg.lookup d=some (some q):=by kernel_rfl)(hat:J9.contains (c,n)=true:=by kernel_rfl)(hk:Nat.blt k 100=true:=by kernel_rfl):
  ∃σ3,Z6f j ν σ σ1 b n (.cls d []) (.inst c (k+1) (upd m n (.ref (σ.n+os.length)))) (os++oB::osB) σ3:=
 ⟨_,G.n▸Z06 (Z2n hi es0 hc) (Zb hν) (Zvc G hb GB) hat hk,G.n▸G.inst hb GB⟩
theorem Kk:EvE j (.new []) ν σ (.ref σ.n) (σ.new (.list [])):=Zsy es0
theorem GV:EvE j (.dct [] []) ν σ (.ref σ.n) (σ.new (.dict [])):=Z5x
theorem Zbx(b:Nat):upd (λZ=>none) "self" (ZA.ref b) "self"=some (.ref b):=Zg ..
noncomputable def Z59(i:Nat):Fm:=upd (upd (upd (upd (λZ=>none) "nodes" (.ref i)) "numbers" (.ref (i+1))) "weights" (.ref (i+2))) "depths" (.ref (i+3))
noncomputable def Z58:List ZK:=[.list [],.dict [],.list [],.list []]
noncomputable def Zzv(i:Nat):Fm:=upd (upd (upd (λZ=>none) "above" (.ref i)) "lots" (.ref (i+1))) "merged" (.ref (i+2))
noncomputable def Zzu:List ZK:=[.list [],.list [],.list []]
theorem Zxp(hb:b<σ.n)(hf:σ.f b=some (.inst "Bank" 0 λZ=>none)):∃σ',Zq (j+1) "Bank.__init__" [.ref b] σ .none σ'∧YB σ σ' b (.inst "Bank" 4 (Z59 σ.n)) Z58:=
 have⟨_,G1⟩:=(YB.start hf).YH (n:="nodes") (j:=j) hb (Zbx b) Kk
 have⟨_,G2⟩:=G1.gr.YH (n:="numbers") (j:=j) hb (Zbx b) GV
 have⟨_,G3⟩:=G2.gr.YH (n:="weights") (j:=j) hb (Zbx b) Kk
 have⟨_,G4⟩:=G3.gr.YH (n:="depths") (j:=j) hb (Zbx b) Kk
 ⟨_,Zk Znr rfl (Zc G1.run (Zc G2.run (Zc G3.run (Zc G4.run Zas)))),G4.gr⟩
theorem Zxk(hb:b<σ.n)(hf:σ.f b=some (.inst "Unions" 0 λZ=>none)):∃σ',Zq (j+1) "Unions.__init__" [.ref b] σ .none σ'∧YB σ σ' b (.inst "Unions" 3 (Zzv σ.n)) Zzu:=
 have⟨_,G1⟩:=(YB.start hf).YH (n:="above") (j:=j) hb (Zbx b) Kk
 have⟨_,G2⟩:=G1.gr.YH (n:="lots") (j:=j) hb (Zbx b) Kk
 have⟨_,G3⟩:=G2.gr.YH (n:="merged") (j:=j) hb (Zbx b) Kk
 ⟨_,Zk Ziu rfl (Zc G1.run (Zc G2.run (Zc G3.run Zas))),G3.gr⟩
end
end
section
noncomputable def VC(f:Fld):Nat:=@Fld.casesOn (λZ=>Nat) f 0 0 5 1 2 3 4 6 7 (λZ=>0) 8 9 10 11 12 (λZ=>0) 13 14
noncomputable def fAt(i:Nat):Fld:=[Fld.YY,.nodes,.ZX,.ZL,.ZP,.YC,.uab,.ZJ,.merged,.ZI,.ZH,.known,.hab,.waiting,.rows].getD i .h
noncomputable def XX(b i:Nat)(f:Fld):Nat:=@Fld.casesOn (λZ=>Nat) f b (i+0) (i+5) (i+1) (i+2) (i+3) (i+4) (i+6) (i+7) (λZ=>i) (i+8) (i+9) (i+10) (i+11) (i+12) (λZ=>i) (i+13) (i+14)
noncomputable def Z5j(i:Nat):List ZK:=((((((([]:List ZK)++.inst "Bank" 4 (Z59 (i+1))::Z58)++.inst "Unions" 3 (Zzv (i+5+1))::Zzu)++[.list []])++[.list []])++[.dict []])++[.dict []])++[.list []]
noncomputable def Z5k(i:Nat):Fm:=upd (upd (upd (upd (upd (upd (upd (λZ=>none) "bank" (.ref (i+0))) "unions" (.ref (i+5))) "edges" (.ref (i+9))) "forest" (.ref (i+10))) "known" (.ref (i+11))) "above" (.ref (i+12))) "waiting" (.ref (i+13))
theorem Zl3{f:Fld}{P:Fld→Prop}(hf:act Qm f)(h:P .h)(h0:P .YY)(h5:P .YC)(h1:P .nodes)(h2:P .ZX)(h3:P .ZL)(h4:P .ZP)(h6:P .uab)(h7:P .ZJ)(h8:P .merged)(h9:P .ZI)(h10:P .ZH)(h11:P .known)(h12:P .hab)(h13:P .waiting)(h14:P .rows):P f:=
 @Fld.casesOn (λf=>act Qm f→P f) f (λZ=>h) (λZ=>h0) (λZ=>h5) (λZ=>h1) (λZ=>h2) (λZ=>h3) (λZ=>h4) (λZ=>h6) (λZ=>h7) (λi q=>absurd q (Nat.not_lt_zero i)) (λZ=>h8) (λZ=>h9) (λZ=>h10) (λZ=>h11) (λZ=>h12) (λc q=>absurd q List.not_mem_nil) (λZ=>h13) (λZ=>h14) hf
section
variable{j:Nat}{σ σ' σ1 σ2:St}{b k i:Nat}{f g:Fld}{ν:Fm}
theorem Zcm(hf:act Qm f)(h:f≠.h):XX b i f=i+VC f:=by
 revert h
 exact Zl3 (P:=λf=>f≠.h→XX b i f=i+VC f) hf (λq=>absurd rfl q) (λZ=>rfl) (λZ=>rfl) (λZ=>rfl) (λZ=>rfl) (λZ=>rfl) (λZ=>rfl) (λZ=>rfl) (λZ=>rfl) (λZ=>rfl) (λZ=>rfl) (λZ=>rfl) (λZ=>rfl) (λZ=>rfl) (λZ=>rfl) (λZ=>rfl)
theorem Zvv(hf:act Qm f)(h:f≠.h):fAt (VC f)=f:=by
 revert h
 exact Zl3 (P:=λf=>f≠.h→fAt (VC f)=f) hf (λq=>absurd rfl q) (λZ=>rfl) (λZ=>rfl) (λZ=>rfl) (λZ=>rfl) (λZ=>rfl) (λZ=>rfl) (λZ=>rfl) (λZ=>rfl) (λZ=>rfl) (λZ=>rfl) (λZ=>rfl) (λZ=>rfl) (λZ=>rfl) (λZ=>rfl) (λZ=>rfl)
theorem Z2i(f:Fld):VC f<15:=@Fld.casesOn (λf=>VC f<15) f ble ble ble ble ble ble ble ble ble (λZ=>ble) ble ble ble ble ble (λZ=>ble) ble ble
theorem Zvn(f:Fld):f=.h∨f≠.h:=Classical.em _
theorem Zx8(hb:b<i)(hf:act Qm f)(hg:act Qm g)(e:XX b i f=XX b i g):f=g:=by
 rcases Zvn f with q1 | q1
 ·rcases Zvn g with q2 | q2
  ·rw[q1,q2]
  ·rw[q1,Zcm hg q2]at e;exact absurd e (Nat.ne_of_lt (Z73 hb (Z71 _ _)))
 ·rcases Zvn g with q2 | q2
  ·rw[q2,Zcm hf q1]at e;exact absurd e.symm (Nat.ne_of_lt (Z73 hb (Z71 _ _)))
  ·rw[Zcm hf q1,Zcm hg q2]at e
   rw[←Zvv hf q1,←Zvv hg q2,Nat.add_left_cancel e]
theorem Z1t(hb:b<i)(hf:act Qm f):XX b i f<i+15:=by
 rcases Zvn f with q1 | q1
 ·rw[q1];exact Z73 hb (Z71 _ _)
 ·rw[Zcm hf q1];exact Nat.add_lt_add_left (Z2i f) i
theorem YB.rep(G:YB σ σ' b (.inst "Written" 8 (upd (Z5k σ.n) "rows" (.ref (σ.n+14)))) (Z5j σ.n++[.list []]))(hb:b<σ.n):Rep σ' (XX b σ.n) Qm where
 inj f g hf hg:=Zx8 hb hf hg
 lt f hf:=by rw[G.n];exact Z1t hb hf
 val f hf:=Zl3 (P:=λf=>σ'.f (XX b σ.n f)=some (cont (XX b σ.n) Qm f)) hf G.self (G.new 0 _ rfl) (G.new 5 _ rfl) (G.new 1 _ rfl) (G.new 2 _ rfl) (G.new 3 _ rfl) (G.new 4 _ rfl) (G.new 6 _ rfl) (G.new 7 _ rfl) (G.new 8 _ rfl) (G.new 9 _ rfl) (G.new 10 _ rfl) (G.new 11 _ rfl) (G.new 12 _ rfl) (G.new 13 _ rfl) (G.new 14 _ rfl)
theorem Zxm(hb:b<σ.n)(hf:σ.f b=some (.inst "Written" 0 λZ=>none)):∃σ',Zq (j+2) "Heap.__init__" [.ref b] σ .none σ'∧YB σ σ' b (.inst "Written" 7 (Z5k σ.n)) (Z5j σ.n):=by
 have G0:=YB.start hf
 obtain⟨σa,ca,GA⟩:=Zxp (j:=j) (σ:=Zaj σ "Bank") (b:=σ.n) (Z79 _) (Yp ..)
 obtain⟨σ1,G1⟩:=G0.Vx (n:="bank") hb (Zbx b) ca GA
 have n1:σ1.n=σ.n+5:=G1.gr.n
 obtain⟨σb,cb,GB⟩:=Zxk (j:=j) (σ:=Zaj σ1 "Unions") (b:=σ1.n) (Z79 _) (Yp ..)
 obtain⟨σ2,G2⟩:=G1.gr.Vx (n:="unions") hb (Zbx b) cb GB
 have G2':=G2.gr
 rw[show(Zaj σ1 "Unions").n=σ.n+5+1 from Z81 (·+1) n1]at G2'
 obtain⟨σ3,G3⟩:=G2'.YH (n:="edges") (j:=j+1) hb (Zbx b) Kk
 obtain⟨σ4,G4⟩:=G3.gr.YH (n:="forest") (j:=j+1) hb (Zbx b) Kk
 obtain⟨σ5,G5⟩:=G4.gr.YH (n:="known") (j:=j+1) hb (Zbx b) GV
 obtain⟨σ6,G6⟩:=G5.gr.YH (n:="above") (j:=j+1) hb (Zbx b) GV
 obtain⟨σ7,G7⟩:=G6.gr.YH (n:="waiting") (j:=j+1) hb (Zbx b) Kk
 exact⟨σ7,Zk Znn rfl (Zc G1.run (Zc G2.run (Zc G3.run (Zc G4.run (Zc G5.run (Zc G6.run (Zc G7.run Zas))))))),G7.gr⟩
structure Wi(j:Nat)(σ:St)(b:Nat)(σ':St):Prop where
 call:Zq j "Written.__init__" [.ref b] σ .none σ'
 rep:Rep σ' (XX b σ.n) Qm
 n:σ'.n=σ.n+15
 old:∀i,i<σ.n→i≠b→σ'.f i=σ.f i
theorem Zxi(hb:b<σ.n)(hf:σ.f b=some (.inst "Written" 0 λZ=>none)):∃σ',Wi (j+3) σ b σ':=by
 obtain⟨σ1,c1,G1⟩:=Zxm (j:=j) hb hf
 obtain⟨σ2,G2⟩:=G1.YH (n:="rows") (j:=j+2) hb (Zbx b) Kk
 exact⟨σ2,Zj5 Zhn rfl (Z0l ⟨Zbx b,hf,by kernel_rfl,es0,c1⟩ (QH.sup (Zc G2.run Zas))),G2.gr.rep hb,G2.gr.n,G2.gr.old⟩
end
end
section
theorem Zi8{c:Nat}:∀{w:CS},c∉w→Zp c w=[w]
 | [],_=>rfl
 |x::r,h=>by
  have h1:x≠c:=λe=>h (e▸Z8g)
  rw[Zp,if_neg h1,Zi8 λq=>h (Z8h _ q)]
theorem Zkl{c:Nat}{r:CS}:∀{w:CS},c∉w→Zp c (w++c::r)=w::Zp c r
 | [],_=>if_pos rfl
 |x::w,h=>by
  have h1:x≠c:=λe=>h (e▸Z8g)
  rw[List.cons_append,Zp,if_neg h1,Zkl λq=>h (Z8h _ q)]
theorem Zl{c w v:CS}{ws:List CS}:Yg c (w::v::ws)=w++(c++Yg c (v::ws)):=Z8n ..
theorem Zi9{c:Nat}:∀{w:CS}{ws:List CS},(∀u∈w::ws,c∉u)→Zp c (Yg [c] (w::ws))=w::ws
 |w,[],h=>Zi8 (h w Z8g)
 |w,v::ws,h=>by rw[Zl];exact(Zkl (h w Z8g)).trans (Z81 (w::·) (Zi9 λu hu=>h u (Z8h _ hu)))
theorem Zdj{c:Nat}:∀{ws:List CS},(∀w∈ws,c∉w)→Zp c (ws.map (·++[c])).flatten=ws++[[]]
 | [],_=>rfl
 |w::ws,h=>by
  rw[Z8o,List.flatten_cons,Z8n]
  exact(Zkl (h w Z8g)).trans (Z81 (w::·) (Zdj λu hu=>h u (Z8h _ hu)))
theorem Zla{v c:CS}{vs:List CS}:∀{ws:List CS}{w:CS},Yg c (w::ws++v::vs)=Yg c (w::ws)++(c++Yg c (v::vs))
 | [],w=>Zl
 |u::ws,w=>by
  rw[List.cons_append,List.cons_append,Zl,Zl,←List.cons_append,Zla,Z8n,Z8n]
theorem Zu6{k:Nat}{c:CS}:∀{ws:List CS},(∀w∈ws,w.length≤k)→(Yg c ws).length≤(k+c.length)*ws.length
 | [],_=>Z8d _
 | [w],h=>Z7z (h w Z8g) (Z7z (Z71 _ _) (Z8c (Nat.mul_one _).symm))
 |w::v::ws,h=>by
  rw[Zl,Z8j,Z8j,←Z8a,Z8p,Nat.mul_succ,Nat.add_comm ((k+c.length)*_)]
  exact Nat.add_le_add (Z77 (h w Z8g) _) (Zu6 λu hu=>h u (Z8h _ hu))
theorem Zqp{x:Nat}{c:CS}(hc:x∉c):∀{ws:List CS},(∀w∈ws,x∉w)→x∉Yg c ws
 | [],_=>List.not_mem_nil
 | [w],h=>h w Z8g
 |w::v::ws,h=>by
  rw[Zl]
  exact λq=>(List.mem_append.mp q).elim (h w Z8g) λq=>(List.mem_append.mp q).elim hc (Zqp hc λu hu=>h u (Z8h _ hu))
noncomputable def Jc:CS:=[48,49,50,51,52,53,54,55,56,57]
structure Z7t(w:CS)(n:Nat):Prop where
 len:w.length≤2
 ne:w≠[]
 digits:∀c∈w,Jc.contains c=true
 zero:w.head?≠some 48∨w=[48]
 val:Zrm w 0=some n
noncomputable def Rp(w:CS)(n:Nat):Bool:=Nat.ble w.length 2&&(w != []&&(w.all (λc=>Jc.contains c)&&((w.head? != some 48 || w==[48])&&Zrm w 0==some n)))
theorem Z1r:∀n:Nat,n<100→Rp (ZQ n) n=true:=by decide +kernel
theorem Zfr{n:Nat}(h:n<100):Z7t (ZQ n) n:=by
 obtain⟨h1,h⟩:=ZC (Z1r n h)
 have h2:=(ZC h).1
 have h:=(ZC h).2
 have h3:=(ZC h).1
 have h:=(ZC h).2
 have h4:=(ZC h).1
 have h5:=(ZC h).2
 exact⟨Z78 h1,bne_iff_ne.mp h2,List.all_eq_true.mp h3,(Bool.or_eq_true_iff.mp h4).imp bne_iff_ne.mp Z84,Z84 h5⟩
theorem Zgi{c:Nat}(h:Jc.contains c=true):c<128∧c≠32∧c≠10:=by
 have:∀c∈Jc,c<128∧c≠32∧c≠10:=by decide
 exact this c (List.contains_iff_mem.mp h)
section
variable{j:Nat}{σ:St}{ν:Fm}
theorem Ztv{n:Nat}(hn:n<100){row:ZA}:Zq (j+1) "number_of" [.str (ZQ n),row] σ (nA n) σ:=by
 have h:=Zfr hn
 generalize ZQ n=w at h
 cases w with
 |nil=>exact absurd rfl h.ne
 |cons c r=>
  have l16:(c::r).length≤16000:=Z7z h.len ble
  have hc:LcR j none ["sign"] [U2] (.loc "sign") (upd (upd (λZ=>none) "word" (.str (c::r))) "row" row) ((c::r).map λc=>[.str [c]]) [] σ [] σ:=by
   rw[Zdq]
   exact Zu2 Z3 (λd hd=>.no ((Zm (Zb (Zg ..)) Zf (.Gu d Jc)).eqv (Z81 ZA.bool (by rw[h.digits d hd];rfl)))) l16
  refine Zk Jh rfl (Zc (Zn (J7 ((Zm (Y1 (es1 ZD) (.Ug l16)) Zf (.gt _ 9)).eqv (w:=.bool false) ?_) ((Zm ZD Zf (.eq (.str 0 (c::r) []) ble)).eqv (Z81 ZA.bool (dF λq=>nomatch q))) ((Zm (Qx (es1 ZD) (.str λd hd=>(Zgi (h.digits d hd)).1) hc) (Qs es0) (.neL (n:=0) (.lst _) (.lst _) (λZ i a b h=>nomatch h) ble)).eqv (Z81 ZA.bool (nT rfl)))))
   (Zc (Zn ?_) (Y6 (Y1 (es1 ZD) (.GC h.val h.ne (Z7z h.len ble))))))
  ·exact Z81 ZA.bool (dF (Int.not_lt.mpr (Int.ofNat_le.mpr (Z7z h.len ble))))
  ·have c0:EvE j (.idx Xf QQ6) (upd (upd (λZ=>none) "word" (.str (c::r))) "row" row) σ (.str [c]) σ:=Yx ZD Zf (.str (k:=0) (t:=c::r) rfl l16)
   by_cases hc0:c=48
   ·have e:c::r=[48]:=h.zero.resolve_left λq=>q (by rw[hc0];rfl)
    exact Zw ((Zm c0 Zf (.eq (.str 0 [c] [48]) ble)).eqv (Z81 ZA.bool (dT (by rw[hc0])))) ((Zm ZD Zf (.ne (.str 0 (c::r) [48]) ble)).eqv (Z81 ZA.bool (nT (by rw[e]))))
   ·exact Jb ((Zm c0 Zf (.eq (.str 0 [c] [48]) ble)).eqv (Z81 ZA.bool (dF λq=>hc0 (by injection q with q;exact(List.cons.inj q).1))))
end
end
section
structure okW(w:CS):Prop where
 op:Xi w
 len:w.length≤5
noncomputable def YJ:CS:=[97,100,100]
noncomputable def Y0:CS:=[115,97,109,101]
noncomputable def Zx:CS:=[115,101,116,116,108,101]
noncomputable def Zf6:CS:=[116,111,108,100]
noncomputable def Zc6:CS:=[114,117,108,101]
noncomputable def sX:CS:=[63,120]
noncomputable def sY:CS:=[63,121]
noncomputable def plW(ps:List (CS×Nat)):List CS:=@List.rec _ (λZ=>List CS) [] (λp Z ih=>p.1::ZQ p.2::ih) ps
noncomputable def Zot(r:Reason):List CS:=@Reason.casesOn (λZ=>List CS) r (λw=>[Zf6,w]) λw ps=>Zc6::w::plW ps
noncomputable def Yi(r:Row):List CS:=@Row.casesOn (λZ=>List CS) r (λop ks=>YJ::op::ks.map λ(k:Nat)=>ZQ k) (λa b r=>Y0::ZQ a::ZQ b::Zot r) [Zx]
noncomputable def Ze(r:Row):CS:=Yg [32] (Yi r)
inductive K7:List (CS×Nat)→Prop
 |zero:K7 []
 |one {n:Nat} (h:n<100):K7 [(sX,n)]
inductive YV:Reason→Prop
 |told {w:CS} (h:okW w):YV (.told w)
 |rule {w:CS} {ps:List (CS×Nat)} (h:okW w) (hp:K7 ps):YV (.rule w ps)
inductive Jq:Row→Prop
 |add {op:CS} {ks:List Nat} (h1:okW op) (h2:ks.length≤2) (h3:∀k∈ks,k<100):Jq (.add op ks)
 |same {a b:Nat} {r:Reason} (h1:a<100) (h2:b<100) (h3:YV r):Jq (.same a b r)
 |settle:Jq .settle
structure Zvi(w:CS):Prop where
 len:w.length≤6
 sp:32∉w
 nl:10∉w
theorem okW.good{w:CS}(h:okW w):Zvi w:=⟨Nat.le_succ_of_le h.len,λq=>absurd (h.op.signs 32 q).space (by decide),λq=>absurd (h.op.signs 10 q).space (by decide)⟩
theorem Zgj{n:Nat}(hn:n<100):Zvi (ZQ n):=
 have h:=Zfr hn
 ⟨Z7z h.len ble,λq=>(Zgi (h.digits 32 q)).2.1 rfl,λq=>(Zgi (h.digits 10 q)).2.2 rfl⟩
noncomputable def Z7i(w:CS):Bool:=Nat.ble w.length 6&&(!w.contains 32&&!w.contains 10)
theorem Zcr{w:CS}(h:Z7i w=true):Zvi w:=by
 have h1:=(ZC h).1
 have h:=(ZC h).2
 have h2:=(ZC h).1
 have h3:=(ZC h).2
 exact⟨Z78 h1,λq=>absurd (List.contains_iff_mem.mpr q) (by rw[Bool.not_eq_true']at h2;rw[h2];exact Z86),λq=>absurd (List.contains_iff_mem.mpr q) (by rw[Bool.not_eq_true']at h3;rw[h3];exact Z86)⟩
structure QR(n:Nat)(ws:List CS):Prop where
 all:∀w∈ws,Zvi w
 len:ws.length≤n
section
variable{n m:Nat}{w:CS}{ws:List CS}{r:Reason}{ps:List (CS×Nat)}
theorem QR.nil:QR n []:=⟨λw h=>(nomatch h),Z8d _⟩
theorem QR.cons(h:Zvi w)(t:QR n ws):QR (n+1) (w::ws):=⟨List.forall_mem_cons.mpr ⟨h,t.all⟩,Z75 t.len⟩
theorem QR.up(t:QR n ws)(h:Nat.ble n m=true):QR m ws:=⟨t.all,Z7z t.len (Z78 h)⟩
theorem K7.good(h:K7 ps):QR 4 (plW ps):=by
 cases h with
 |zero=>exact .nil
 |one h=>exact .up (.cons (Zcr rfl) (.cons (Zgj h) (.nil (n:=0)))) rfl
theorem YV.good(h:YV r):QR 6 (Zot r):=by
 cases h with
 |told h=>exact .up (.cons (Zcr rfl) (.cons h.good (.nil (n:=0)))) rfl
 |rule h hp=>exact .cons (Zcr rfl) (.cons h.good hp.good)
theorem Zdy{r:Row}(h:Jq r):QR 9 (Yi r):=by
 cases h with
 |settle=>exact .up (.cons (Zcr rfl) (.nil (n:=0))) rfl
 |add h1 h2 h3=>exact .up (n:=4) (.cons (Zcr rfl) (.cons h1.good ⟨λw hw=>(Z8l.mp hw).elim λk hk=>hk.2▸Zgj (h3 k hk.1),Zh h2⟩)) rfl
 |same h1 h2 h3=>exact .cons (Zcr rfl) (.cons (Zgj h1) (.cons (Zgj h2) h3.good))
theorem J0{r:Row}(h:Jq r):(Ze r).length≤63:=Z7z (Zu6 λw hw=>((Zdy h).all w hw).len) (Nat.mul_le_mul_left 7 (Zdy h).len)
theorem Zku(r:Row):∃w ws,Yi r=w::ws:=by cases r<;>exact⟨_,_,rfl⟩
theorem Zkv{r:Row}(h:Jq r):Zp 32 (Ze r)=Yi r:=by
 have hg:=Zdy h
 obtain⟨w,ws,e⟩:=Zku r
 rw[Ze,e]
 exact Zi9 λu hu=>(hg.all u (e▸hu)).sp
theorem Qc{r:Row}(h:Jq r):10∉Ze r:=Zqp (by decide) λw hw=>((Zdy h).all w hw).nl
end
noncomputable def plT(p:CS×Nat):CS:=p.1++([32]++(ZQ p.2++[]))
theorem Zyk{w:CS}{ws:List CS}(ps:List (CS×Nat)):Yg [32] (w::ws++ps.map plT)=Yg [32] (w::ws++plW ps):=by
 have h:∀(p:CS×Nat) (ps:List (CS×Nat)),Yg [32] ((p::ps).map plT)=Yg [32] (plW (p::ps)):=by
  intro p ps
  induction ps generalizing p with
  |nil=>show p.1++([32]++(ZQ p.2++[]))=p.1++[32]++ZQ p.2;rw[List.append_nil,Z8n]
  |cons q ps ih=>
   show Yg [32] (plT p::plT q::ps.map plT)=Yg [32] (p.1::ZQ p.2::plW (q::ps))
   rw[Zl]
   refine(Z81 (λt=>plT p++([32]++t)) (ih q)).trans ?_
   rw[Zl]
   show _=p.1++([32]++Yg [32] (ZQ p.2::q.1::ZQ q.2::plW ps))
   rw[Zl,plT,List.append_nil,Z8n,Z8n];rfl
 cases ps with
 |nil=>rfl
 |cons p ps=>exact Zla.trans ((Z81 (λt=>Yg [32] (w::ws)++([32]++t)) (h p ps)).trans Zla.symm)
section
variable{j:Nat}{σ:St}{ν:Fm}{e:PE}{α:Type}{p q r:α→ZA}{x y:String}
theorem Zo3{g:Option (Nat×List ZA)}(hst:Jy g σ):∀{l:List α}{acc:List ZA},(∀u∈l,EvE j e (upd (upd (hide ν) x (p u)) y (q u)) σ (r u) σ)→acc.length+l.length≤16000→LcR j g [x,y] [] e ν (l.map λu=>[p u,q u]) acc σ (acc++l.map r) σ
 | [],acc,_,_=>by rw[List.map_nil,List.map_nil,List.append_nil];exact .nil hst
 |u::l,acc,h,hl=>by
  rw[Z8o,Z8o,List.append_cons]
  rw[Z8p,Nat.add_succ]at hl
  exact .keep hst rfl (.nil _) (h u Z8g) (Z74 (Z71 _ _) hl) (Zo3 hst (λw hw=>h w (Z8h _ hw)) (by rw[Z8j];exact(Nat.succ_add _ _).symm▸hl))
theorem lc0{n k:Nat}(h:n≤k)(hk:Nat.ble k 16000=true:=by rfl):([]:List ZA).length+n≤16000:=by rw[List.length_nil,Nat.zero_add];exact Z7z h (Z78 hk)
noncomputable def YQ(n:Nat):ZA:=.str (ZQ n)
theorem Zjx{n:Nat}(hn:n<100)(h:EvE j e ν σ (nA n) σ):EvE j (.blt "str" [e]) ν σ (YQ n) σ:=Y1 (es1 h) (.V5 (Z73 hn ble))
theorem Z5c{ks:List Nat}(hk:∀k∈ks,k<100)(hl:ks.length≤2):LcR j none ["n"] [] (.blt "str" [YD]) ν ((ks.map nA).map λx=>[x]) [] σ ([]++ks.map YQ) σ:=
 Zbl Z3 (λk hk'=>Zjx (hk k hk') (Zb (Zg ..))) (lc0 hl)
structure PlR(ps:List (CS×Nat)):Prop where
 len:ps.length≤2
 num:∀p∈ps,p.2<100
 word:∀p∈ps,p.1.length≤6
theorem K7.all{ps:List (CS×Nat)}(h:K7 ps):PlR ps:=by
 cases h with
 |zero=>exact⟨Z8d _,λp h=>(nomatch h),λp h=>(nomatch h)⟩
 |one h=>exact⟨ble,λp q=>Z8m.mp q▸h,λp q=>Z8m.mp q▸ble⟩
theorem Z7b{ps:List (CS×Nat)}(h:PlR ps):LcR j none ["name","n"] [] (.fst [.fld (.loc "name"),Ke,.fld YD]) ν (ps.map λp=>[.str p.1,nA p.2]) [] σ ([]++ps.map λp=>.str (plT p)) σ:=
 Zo3 Z3 (λp hp=>Zs0 (.fld (Zb (Za (Zg ..))) (.str _ (Z7z (h.word p hp) ble)) (.txt (.fld (Zb (Zg ..)) (.int (Z73 (h.num p hp) ble)) (.nil _))))
  (by rw[plT,Z8j,Z8j,List.append_nil];exact Z7z (Nat.add_le_add (h.word p hp) (Z76 (Zfr (h.num p hp)).len 1)) ble)) (lc0 h.len)
end
end
section
section
variable{j:Nat}{σ:St}{ν:Fm}{e:PE}{xs:List ZA}{x y:ZA}{a b k:Nat}
theorem ZZ(he:EvE j e ν σ (.tup xs) σ)(k:Nat)(h:xs[k]? = some x)(hl:xs.length≤16000):EvE j (.idx e (.cst (.int k))) ν σ x σ:=Yx he Zf (.tup h hl)
theorem Y8(he:EvE j e ν σ (.lst xs) σ)(k:Nat)(h:xs[k]? = some x)(hl:xs.length≤16000):EvE j (.idx e (.cst (.int k))) ν σ x σ:=Yx he Zf (.lst (.lst _) h hl)
theorem Zap{s t:CS}(he:EvE j e ν σ (.str s) σ)(h:s=t):EvE j (.cmp .Eq e (.cst (.str t))) ν σ (.bool true) σ:=(Zm he Zf (.eq (.str 0 s t) ble)).eqv (Z81 ZA.bool (dT (by rw[h])))
theorem Zbs{s t:CS}(he:EvE j e ν σ (.str s) σ)(h:s≠t:=by decide):EvE j (.cmp .Eq e (.cst (.str t))) ν σ (.bool false) σ:=(Zm he Zf (.eq (.str 0 s t) ble)).eqv (Z81 ZA.bool (dF λq=>h (by injection q)))
theorem Zpi{s t:CS}(he:EvE j e ν σ (.str s) σ)(h:s=t):EvE j (.cmp .NotEq e (.cst (.str t))) ν σ (.bool false) σ:=(Zm he Zf (.ne (.str 0 s t) ble)).eqv (Z81 ZA.bool (nT (by rw[h])))
theorem Zlp{s t:CS}(he:EvE j e ν σ (.str s) σ)(h:s≠t:=by decide):EvE j (.cmp .NotEq e (.cst (.str t))) ν σ (.bool true) σ:=(Zm he Zf (.ne (.str 0 s t) ble)).eqv (Z81 ZA.bool (nF λq=>h (by injection q)))
theorem UW{ws:List CS}(he:EvE j e ν σ (.lst xs) σ)(hx:xs=ws.map .str)(h1:(Yg [32] ws).length≤16000)(h2:ws.length≤16000):EvE j (.mth Ke "join" [e]) ν σ (.str (Yg [32] ws)) σ:=Qr Zf (.join [32]) (es1 he) (.join hx h1 h2 (Z70 1))
theorem Zaf{r:Row}(h:Jq r):(Ze r).length≤16000:=Z7z (J0 h) ble
theorem Zck{r:Row}(h:Jq r):(Yi r).length≤16000:=Z7z (Zdy h).len ble
theorem Zk5(ks:List Nat):ks.map YQ=(ks.map λ(k:Nat)=>ZQ k).map ZA.str:=by rw[List.map_map];rfl
structure Z29(r:Reason)(k w:CS)(ts:List CS)(more:List ZA):Prop where
 eq:Z7 r=.tup (.str k::.str w::more)
 short:more.length≤1
 text:∀u us,Yg [32] ((u::us)++(k::w::ts))=Yg [32] ((u::us)++Zot r)
 len:ts.length≤2
theorem Zy0{r:Reason}(h:YV r)(hr:ν "reason"=some (Z7 r)):∃k w ts more,Z29 r k w ts more∧ExS j IG ν σ .next (upd ν "places" (.lst (ts.map .str))) σ:=by
 cases h with
 |told h=>exact⟨_,_,[],[],⟨rfl,Z8d _,λu us=>rfl,Z8d _⟩,Yk (Zah (Zbs (ZZ (xs:=[.str Zf6,.str _]) (Zb hr) 0 rfl ble)) (Qs es0))⟩
 |@rule w ps h hp=>
  have rr:EvE j Xe ν σ (.tup [.str Zc6,.str w,.tup (ps.map Zbk)]) σ:=Zb hr
  refine⟨_,_,ps.map plT,[.tup (ps.map Zbk)],⟨rfl,Z70 _,λu us=>?_,by rw[Z8i];exact hp.all.len⟩,Yk (Zbg (Zap (ZZ rr 0 rfl ble) rfl) ((Qx (es1 (ZZ rr 2 rfl ble)) (Zag ps) (Z7b hp.all)).eqv ?_))⟩
  ·have:=Zyk (w:=u) (ws:=us++[Zc6,w]) ps
   rw[List.cons_append,Z8n]at this
   exact this.trans (Z81 (λl=>Yg [32] (u::l)) (Z8n us [Zc6,w] (plW ps)))
  ·show ZA.lst (ps.map λp=>ZA.str (plT p))=ZA.lst ((ps.map plT).map ZA.str)
   rw[List.map_map];rfl
theorem Zrt{r:Row}(h:Jq r):Zq (j+1) "row_text" [ZT r] σ (.str (Ze r)) σ:=by
 have hl:=Zaf h
 have hw:=Zck h
 cases h with
 |@add op ks h1 h2 h3=>
  have rr:EvE j QQ8 (upd (λZ=>none) "row" (ZT (.add op ks))) σ (.tup [.str YJ,.str op,.tup (ks.map nA)]) σ:=ZD
  refine Zk Zdm rfl (Qz (Zbr (Zap (ZZ rr 0 rfl ble) rfl) (Zau (UW (ws:=Yi (.add op ks)) (Yu (Qs (es2 Zf (ZZ rr 1 rfl ble))) (Qx (es1 (ZZ rr 2 rfl ble)) (.tup (ks.map nA)) (Z5c h3 h2)) (.XA (.lst _) (.lst _) ?_)) ?_ hl hw))))
  ·show 2+(List.map YQ ks).length≤_;rw[Z8i];exact Z7z (Z76 h2 2) ble
  ·show ZA.str YJ::ZA.str op::ks.map YQ=ZA.str YJ::ZA.str op::List.map ZA.str (List.map _ ks);rw[Zk5]
 |settle=>
  have rr:EvE j QQ8 (upd (λZ=>none) "row" (ZT .settle)) σ (.tup [.str Zx]) σ:=ZD
  exact Zk Zdm rfl (Zc (Zn (Zbs (ZZ rr 0 rfl ble))) (Qz (Zbr (Zap (ZZ rr 0 rfl ble) rfl) (Zau Zf))))
 |@same a b r h1 h2 h3=>
  obtain⟨k,w,ts,more,T,hp⟩:=Zy0 (j:=j) (σ:=σ) (ν:=upd (upd (λZ=>none) "row" (ZT (.same a b r))) "reason" (Z7 r)) h3 (by kernel_rfl)
  have rr:EvE j QQ8 (upd (λZ=>none) "row" (ZT (.same a b r))) σ (.tup [.str Y0,nA a,nA b,Z7 r]) σ:=ZD
  have rr2:EvE j QQ8 (upd (upd (upd (λZ=>none) "row" (ZT (.same a b r))) "reason" (Z7 r)) "places" (.lst (ts.map .str))) σ (.tup [.str Y0,nA a,nA b,Z7 r]) σ:=ZD
  have hr2:upd (upd (upd (λZ=>none) "row" (ZT (.same a b r))) "reason" (Z7 r)) "places" (.lst (ts.map .str)) "reason"=some (.tup (.str k::.str w::more)):=by rw[←T.eq];kernel_rfl
  have hm:(ZA.str k::.str w::more).length≤16000:=Z7z (Z75 (Z75 T.short)) ble
  have ht:Yg [32] ([Y0,ZQ a,ZQ b]++(k::w::ts))=Ze (.same a b r):=T.text Y0 [ZQ a,ZQ b]
  refine Zk Zdm rfl (Zc (Zn (Zbs (ZZ rr 0 rfl ble))) (Zc (Zn (Zbs (ZZ rr 0 rfl ble))) (Zc (Yk (ZZ rr 3 rfl ble)) (Zc hp (Y6 ((UW (ws:=[Y0,ZQ a,ZQ b]++(k::w::ts)) (Yu (Qs (.cons Zf (.cons (Zjx h1 (ZZ rr2 1 rfl ble)) (.cons (Zjx h2 (ZZ rr2 2 rfl ble)) (es2 (ZZ (Zb hr2) 0 rfl hm) (ZZ (Zb hr2) 1 rfl hm)))))) (Zb (Zg ..)) (.XA (.lst _) (.lst _) ?_)) rfl (ht▸hl) ?_).eqv (Z81 ZA.str ht)))))))
  ·show 5+(List.map ZA.str ts).length≤_;rw[Z8i];exact Z7z (Z76 T.len 5) ble
  ·show ts.length+5≤_;exact Z7z (Z77 T.len 5) ble
end
end
end PL
end
section
open PySem PySem.W
open scoped Classical
namespace PL
section
theorem Zcb{α:Type}(xs:List α)(a:Nat):∀k,((List.range k).map λi=>a+i).filterMap (xs[·]?)=(xs.drop a).take k
 |0=>rfl
 |k+1=>by
  rw[List.range_succ,List.map_append,List.filterMap_append,Zcb xs a k,List.take_add_one,List.getElem?_drop]
  refine Z81 (λl=>List.take k (List.drop a xs)++l) ?_
  cases h:xs[a+k]? with
  |none=>exact List.filterMap_cons_none h
  |some v=>exact List.filterMap_cons_some h
theorem Zr0(n:Nat)(lo hi:Option Int):Kr n lo hi none=(List.range (kms_hi hi n-kms_lo lo n)).map λi=>kms_lo lo n+i:=by
 unfold Kr
 rw[kms_bounds]
 exact PySem.sliceRange_one _ _
theorem Zdx{xs:List ZA}{lo hi:Option Int}:(Kr xs.length lo hi none).filterMap (xs[·]?)=(xs.drop (kms_lo lo xs.length)).take (kms_hi hi xs.length-kms_lo lo xs.length):=by rw[Zr0,Zcb]
theorem Zk9{k n:Nat}:(if(k:Int)<0 then n-(-(k:Int)).toNat else min (k:Int).toNat n)=min k n:=if_neg (Int.not_lt.mpr (Int.natCast_nonneg k))
theorem Zgb:(none:Option Int)≠some 0:=λq=>nomatch q
section
variable{j:Nat}{σ:St}{ν:Fm}{e:PE}{xs:List ZA}{x y:ZA}{a b k n:Nat}
theorem Zgc(hx:LOf σ x xs)(hk:k≤xs.length)(hl:xs.length≤16000):JR σ x (.int k) .none .none (.lst (xs.drop k)):=by
 have h:=JR.lst hx (some (k:Int)) none none Zgb hl
 rw[Zdx,show kms_lo (some (k:Int)) xs.length=k from(Zk9 (k:=k)).trans (Nat.min_eq_left hk),List.take_of_length_le (by rw[List.length_drop];exact Z70 _)]at h
 exact h
theorem Zzx(hx:LOf σ x xs)(hl:xs.length≤16000):JR σ x .none (.int k) .none (.lst (xs.take k)):=by
 have h:=JR.lst hx none (some (k:Int)) none Zgb hl
 rw[Zdx,show kms_hi (some (k:Int)) xs.length=min k xs.length from Zk9 (k:=k),show kms_lo none xs.length=0 from rfl,List.drop_zero,Nat.sub_zero,←List.take_eq_take_min]at h
 exact h
theorem Zp7(hx:LOf σ x xs)(hl:xs.length≤16000):JR σ x .none (.int (-1)) .none (.lst xs.dropLast):=by
 have h:=JR.lst hx none (some (-1)) none Zgb hl
 rw[Zdx,show kms_hi (some (-1)) xs.length=xs.length-1 from rfl,show kms_lo none xs.length=0 from rfl,List.drop_zero,Nat.sub_zero,←List.dropLast_eq_take]at h
 exact h
theorem Z03{n:Nat}(h:∀x∈xs,QX n x x)(i:Nat)(a b:ZA)(ha:xs[i]? = some a)(hb:xs[i]? = some b):QX n a b:=Z8q (ha.symm.trans hb)▸h a (Z89 ha)
theorem Zoz{σ:St}{v:ZA}(h:QX n v v)(hn:n≤20):ZR σ .NotEq v v false:=(ZR.ne h hn).eqv (nT rfl)
theorem Zuq(hx:LOf σ x xs)(hy:LOf σ y xs)(h:∀x∈xs,QX n x x)(hn:n≤20):ZR σ .NotEq x y false:=(ZR.neL hx hy (λZ=>Z03 h) hn).eqv (nT rfl)
theorem all_cons{α:Type}{P:α→Prop}{a:α}{l:List α}(h:P a)(t:∀x∈l,P x):∀x∈a::l,P x:=List.forall_mem_cons.mpr ⟨h,t⟩
theorem Zig{α:Type}{P:α→Prop}:∀x∈([]:List α),P x:=λx h=>nomatch h
theorem all_map{α β:Type}{P:β→Prop}{f:α→β}{l:List α}(h:∀x,P (f x)):∀x∈l.map f,P x:=λx hx=>(Z8l.mp hx).elim λa q=>q.2▸h a
theorem Zy1{row:ZA}(hn:n<100)(h:EvE (j+1) e ν σ (YQ n) σ)(hr:ν "row"=some row):EvE (j+1) (.fn "number_of" [e,QQ8]) ν σ (nA n) σ:=ZY (es2 h (Zb hr)) (Ztv hn)
end
end
section
section
variable{j:Nat}{σ:St}{ν:Fm}{e:PE}{x row:ZA}{a b:Nat}{w:CS}{ps:List (CS×Nat)}
structure Z6h(a b:Nat)(w:CS)(ps:List (CS×Nat))(xs:List ZA):Prop where
 h1:xs[1]? = some (YQ a)
 h2:xs[2]? = some (YQ b)
 h3:xs[3]? = some (.str Zc6)
 h4:xs[4]? = some (.str w)
 lt:4<xs.length
 len:xs.length≤16000
 odd:((xs.length:Nat):Int) % 2≠0
 s5:(Kr xs.length (some 5) none (some 2)).filterMap (xs[·]?)=ps.map λp=>.str p.1
 s6:(Kr xs.length (some 6) none (some 2)).filterMap (xs[·]?)=ps.map λp=>YQ p.2
 set:∀{j:Nat}{e:PE}{ν:Fm}{σ:St}{x:ZA},EvE j e ν σ x σ→LOf σ x (ps.map λp=>.str p.1)→EvE j (.sset e) ν σ (.lst (ps.map λp=>.str p.1)) σ
noncomputable def Z34(a b:Nat)(w:CS)(ps:List (CS×Nat)):List ZA:=(Y0::ZQ a::ZQ b::Zc6::w::plW ps).map .str
theorem K7.rule(h:K7 ps):Z6h a b w ps (Z34 a b w ps):=by
 cases h with
 |zero=>exact⟨rfl,rfl,rfl,rfl,ble,ble,by show((5:Nat):Int) % 2≠0;decide,by kernel_rfl,by kernel_rfl,Zsw⟩
 |one h=>exact⟨rfl,rfl,rfl,rfl,ble,ble,by show((7:Nat):Int) % 2≠0;decide,by kernel_rfl,by kernel_rfl,Zjy⟩
theorem Zkp{xs ys:List ZA}{k:Nat}(hl:xs.length≤16000)(h:(Kr xs.length (some (k:Int)) none (some 2)).filterMap (xs[·]?)=ys):JR σ (.lst xs) (.int k) .none (.int 2) (.lst ys):=h▸JR.lst (.lst xs) (some (k:Int)) none (some 2) (λq=>nomatch q) hl
theorem Z3f(ps:List (CS×Nat)):SrcR σ 4 [.lst (ps.map λp=>.str p.1),.lst (ps.map λp=>YQ p.2)] (ps.map λp=>[.str p.1,YQ p.2]) none:=by
 have h:((ps.map λp:CS×Nat=>ZA.str p.1).zip (ps.map λp=>YQ p.2)).map (λp=>[p.1,p.2])=ps.map λp=>[.str p.1,YQ p.2]:=by
  induction ps with
  |nil=>rfl
  |cons p ps ih=>exact Z81 (_::·) ih
 exact h▸.zip _ _
theorem Zjz{r:Reason}{xs:List ZA}(h1:a<100)(h2:b<100)(ew:EvE (j+1) YA ν σ (.lst xs) σ)(er:ν "row"=some row)(ee:ν "reason"=some (Z7 r))(x1:xs[1]? = some (YQ a))(x2:xs[2]? = some (YQ b))(hl:xs.length≤16000):
  EvE (j+1) (.tup [KW,.fn "number_of" [.idx YA QQ3,QQ8],.fn "number_of" [.idx YA JE,QQ8],Xe]) ν σ (ZT (.same a b r)) σ:=
 Q3 (.cons Zf (es3 (Zy1 h1 (Y8 ew 1 x1 hl) er) (Zy1 h2 (Y8 ew 2 x2 hl) er) (Zb ee)))
theorem Jp{xs:List ZA}(ew:EvE j e ν σ (.lst xs) σ)(hl:xs.length≤16000):EvE j (.blt "len" [e]) ν σ (nA xs.length) σ:=Y1 (es1 ew) (.len (.lst (.lst _)) hl)
theorem Zfn(h1:a<100)(h2:b<100)(P:PlR ps){xs:List ZA}(X:Z6h a b w ps xs):Zq (j+2) "same_of" [.lst xs,row] σ (ZT (.same a b (.rule w ps))) σ:=by
 have hl:=X.len
 have ew:EvE (j+1) YA (upd (upd (λZ=>none) "words" (.lst xs)) "row" row) σ (.lst xs) σ:=ZD
 have ew1:EvE (j+1) YA (upd (upd (upd (λZ=>none) "words" (.lst xs)) "row" row) "reason" (.tup [.str Zc6,.str w])) σ (.lst xs) σ:=ZD
 have hz:LcR (j+1) none ["name","word"] [] (.tup [.loc "name",VL]) (upd (upd (upd (upd (λZ=>none) "words" (.lst xs)) "row" row) "reason" (.tup [.str Zc6,.str w])) "names" (.lst (ps.map λp=>.str p.1))) (ps.map λp=>[.str p.1,YQ p.2]) [] σ ([]++ps.map Zbk) σ:=
  Zo3 Z3 (λp hp=>Q3 (es2 (Zb (Za (Zg ..))) (Zy1 (row:=row) (P.num p hp) (Zb (Zg ..)) (Za (Za (J3 (by kernel_rfl))))))) (lc0 P.len)
 refine Zk Q8 rfl (Zc (Zn (J7 ((Zm (Jp ew hl) Zf (.lt xs.length 5)).eqv (Z81 ZA.bool (dF (Int.not_lt.mpr (Int.ofNat_le.mpr X.lt))))) ((Zm (Yu (Jp ew hl) Zf (.KN _ 2 (by decide))) Zf (.eq (.int 0 _ 0) ble)).eqv (Z81 ZA.bool (dF λq=>X.odd (by injection q)))) (Jb (Zpi (Y8 ew 3 X.h3 hl) rfl))))
  (Zc (Yk (Q3 (es2 (Y8 ew 3 X.h3 hl) (Y8 ew 4 X.h4 hl))))
  (Zc (Zby (Zap (Y8 ew1 3 X.h3 hl) rfl) (Zes (Yk (Qw ew1 Yb Yb Yb (Zkp hl X.s5))) (Zes (Zn (Zm (Zb (Zg ..)) (X.set (Zb (Zg ..)) (.lst _)) (Zuq (n:=0) (.lst _) (.lst _) (all_map λZ=>.str _ _ _) ble)))
   (Qh (Yk (Yu (ZD (v:=.tup [.str Zc6,.str w])) (Q3 (es1 (Y1 (es1 (Qx (es2 (Zb (Zg ..)) (Qw ZD Yb Yb Yb (Zkp hl X.s6))) (Z3f ps) hz)) (.tuple (.lst (.lst _)) (Zh (le2 P.len)))))) (.VI ble))))))) (Y6 (Zjz (row:=row) (r:=.rule w ps) h1 h2 ZD (by kernel_rfl) (by kernel_rfl) X.h1 X.h2 hl)))))
theorem Z0v{r:Reason}(h1:a<100)(h2:b<100)(h:YV r):Zq (j+2) "same_of" [.lst ((Yi (.same a b r)).map .str),row] σ (ZT (.same a b r)) σ:=by
 cases h with
 |@told w h=>
  have ew:EvE (j+1) YA (upd (upd (λZ=>none) "words" (.lst [.str Y0,YQ a,YQ b,.str Zf6,.str w])) "row" row) σ (.lst [.str Y0,YQ a,YQ b,.str Zf6,.str w]) σ:=ZD
  have ew1:EvE (j+1) YA (upd (upd (upd (λZ=>none) "words" (.lst [.str Y0,YQ a,YQ b,.str Zf6,.str w])) "row" row) "reason" (.tup [.str Zf6,.str w])) σ (.lst [.str Y0,YQ a,YQ b,.str Zf6,.str w]) σ:=ZD
  exact Zk Q8 rfl (Zc (Zn (J7 ((Zm (Jp ew ble) Zf (.lt (5:Nat) 5)).eqv (Z81 ZA.bool (dF (by decide)))) ((Zm (Yu (Jp ew ble) Zf (.KN _ 2 (by decide))) Zf (.eq (.int 0 _ 0) ble)).eqv (Z81 ZA.bool (dF λq=>by injection q with q;exact absurd (show((5:Nat):Int) % 2=0 from q) (by decide))))
    (Zw (Zlp (Y8 ew 3 rfl ble)) (Zbf (Zpi (Y8 ew 3 rfl ble) rfl) ((Zm (Jp ew ble) Zf (.gt (5:Nat) 5)).eqv (Z81 ZA.bool (dF (by decide))))))))
   (Zc (Yk (Q3 (es2 (Y8 ew 3 rfl ble) (Y8 ew 4 rfl ble)))) (Zc (Zn (Zbs (Y8 ew1 3 rfl ble))) (Y6 (Zjz (row:=row) (r:=.told w) h1 h2 ew1 (by kernel_rfl) (by kernel_rfl) rfl rfl ble)))))
 |rule h hp=>exact Zfn h1 h2 hp.all hp.rule
theorem Zgw{r:Row}(h:Jq r):Zq (j+3) "row_of" [.str (Ze r),row] σ (ZT r) σ:=by
 have hl:((Yi r).map ZA.str).length≤16000:=Zh (Zck h)
 have ew:EvE (j+2) YA (upd (upd (upd (λZ=>none) "text" (.str (Ze r))) "row" row) "words" (.lst ((Yi r).map .str))) σ (.lst ((Yi r).map .str)) σ:=ZD
 have s1:ExS (j+2) (.asg "words" (.mth JM "split" [Ke])) (upd (upd (λZ=>none) "text" (.str (Ze r))) "row" row) σ .next (upd (upd (upd (λZ=>none) "text" (.str (Ze r))) "row" row) "words" (.lst ((Yi r).map .str))) σ:=
  Yk ((Qr ZD (.split _) (es1 Zf) (.split (Zaf h))).eqv (by rw[Zkv h]))
 refine Zk Za0 rfl (Zc s1 ?_)
 clear s1
 cases h with
 |@add op ks h1 h2 h3=>
  have hc:LcR (j+2) none ["word"] [] VL (upd (upd (upd (λZ=>none) "text" (.str (Ze (.add op ks)))) "row" row) "words" (.lst ((Yi (.add op ks)).map .str))) ((ks.map YQ).map λx=>[x]) [] σ ([]++ks.map nA) σ:=
   Zbl Z3 (λk hk=>Zy1 (row:=row) (j:=j+1) (h3 k hk) (Zb (Zg ..)) (Za (J3 (by kernel_rfl)))) (lc0 h2)
  have hs:JR σ (.lst ((Yi (.add op ks)).map .str)) (.int (2:Nat)) .none .none (.lst (ks.map YQ)):=Zk5 ks▸Zgc (k:=2) (.lst _) (Z75 (Z75 (Z8d _))) hl
  exact Qz (Zbr (Zw (Zap (Y8 ew 0 rfl hl) rfl) ((Zm (Jp ew hl) Zf (.gt _ 1)).eqv (Z81 ZA.bool (dT (Int.ofNat_lt.mpr (Nat.succ_lt_succ (Nat.succ_pos _))))))) (Zau (Q3 (es3 Zf (Y8 ew 1 rfl hl) (Y1 (es1 (Qx (es1 (Qw ew Yb Yb Yb hs)) (.lst _) hc)) (.tuple (.lst (.lst _)) (Zh (le2 h2))))))))
 |same h1 h2 h3=>exact Zc (Zn (Jb (Zbs (Y8 ew 0 rfl hl)))) (Qz (Zbr (Zap (Y8 ew 0 rfl hl) rfl) (Zau (ZY (es2 ew ZD) (Z0v (row:=row) h1 h2 h3)))))
 |settle=>exact Zc (Zn (Jb (Zbs (Y8 ew 0 rfl hl)))) (Zc (Zn (Zbs (Y8 ew 0 rfl hl))) (Zc (Zn (Zm ew (Qs (es1 Zf)) (Zuq (n:=0) (.lst _) (.lst _) (all_cons (.str _ _ _) Zig) ble))) (Y6 (Q3 (es1 Zf)))))
end
end
section
section
variable{n m:Nat}{nd:Nd}{H:HC}
inductive Zio(H:HC):Row→Prop
 |add {op:CS} {ks:List Nat} (h:U9 H (op,ks)) (hn:Ye H (op,ks)=none):Zio H (.add op ks)
 |same {a b:Nat} {r:Reason} (ha:a<H.nodes.length) (hb:b<H.nodes.length) (hr:Zey H.nodes.length r):Zio H (.same a b r)
 |settle (h:H.waiting≠[]):Zio H .settle
inductive JU:HC→Prop
 |nil:JU Qm
 |add {H:HC} {r:Row} (h:JU H) (hr:Zio H r) (hw:Jq r):JU (doH H r)
structure DoR(H:HC)(r:Row):Prop where
 ok:YE (doH H r)
 rows:(doH H r).rows=H.rows++[r]
 le:H.nodes.length≤(doH H r).nodes.length
theorem Zf2(O:YE H){r:Row}(h:Zio H r):DoR H r:=by
 cases h with
 |@add op ks h hn=>
  have A:=O.Xn h
  have B:=O.added (Yy hn) h.two h.lt
  exact⟨A.ok,by show(Xn H (op,ks)).rows=_;rw[Xn,hn];exact Z81 (·++_) B.rows,A.ge⟩
 |@same a b r ha hb hr=>
  have M:=O.merge ha hb r
  exact⟨M.ok,M.rows,Z8c (Z81 List.length M.nodes.symm)⟩
 |settle h=>
  have K:=O.X0
  rw[if_neg h]at K
  exact⟨K.ok,K.rows,Z8c (Z81 List.length K.nodes.symm)⟩
theorem JU.QO(h:JU H):YE H:=by
 induction h with
 |nil=>exact Zpd
 |add _ hr _ ih=>exact(Zf2 ih hr).ok
theorem JU.wf(h:JU H):∀r∈H.rows,Jq r:=by
 induction h with
 |nil=>exact Zig
 |add h hr hw ih=>
  rw[(Zf2 h.QO hr).rows]
  exact λr q=>(Ql.mp q).elim (ih r) λe=>e▸hw
end
noncomputable def Yc(rs:List Row):CS:=(rs.map λr=>Ze r++[10]).flatten
theorem Ze2{rs:List Row}(h:∀r∈rs,Jq r):(Yc rs).length≤64*rs.length:=by
 induction rs with
 |nil=>exact Z8d _
 |cons r rs ih=>
  show((Ze r++[10])++Yc rs).length≤_
  rw[Z8j,Zd,Z8p,Nat.mul_succ,Nat.add_comm]
  exact Nat.add_le_add (ih λq hq=>h q (Z8h _ hq)) (Z75 (J0 (h r Z8g)))
theorem Zd4:∀ws:List CS,Yg [] ws=ws.flatten
 | []=>rfl
 | [w]=>(List.append_nil w).symm
 |w::v::ws=>by rw[Zl,Zd4 (v::ws)];rfl
section
variable{j st:Nat}{σ σ':St}{L L':Fld→Nat}{H H':HC}{ν:Fm}{e:PE}{es:List PE}{vs:List ZA}{v:ZA}{q m:String}
structure Out(σ:St)(L:Fld→Nat)(H:HC)(id:Nat):Prop where
 lt:id<σ.n
 ne:∀f,act H f→L f≠id
theorem Tr.out(t:Tr σ L H σ' L' H'){id:Nat}(o:Out σ L H id):Out σ' L' H' id:=⟨Z73 o.lt t.n,λf hf e=>(t.ids f hf).elim (λ⟨g,hg,q⟩=>o.ne g hg (q.symm.trans e)) λq=>absurd o.lt (Nat.not_lt.mpr (e▸q))⟩
theorem Tr.same(t:Tr σ L H σ' L' H'){id:Nat}(o:Out σ L H id):σ'.f id=σ.f id:=t.fr id o.lt o.ne
structure Sty(σ:St)(st:Nat)(L:Fld→Nat)(H:HC):Prop where
 rep:Rep σ L H
 out:Out σ L H st
 obj:σ.f st=some (.inst "Story" 1 (upd (λZ=>none) "heap" (.ref (L .h))))
theorem Sty.step(s:Sty σ st L H)(t:Tr σ L H σ' L' H'):Sty σ' st L' H':=⟨t.rep,t.out s.out,by rw[t.same s.out,s.obj,t.top]⟩
theorem Zra(s:Sty σ st L H)(h:EvE j e ν σ (.ref st) σ):EvE j (.att e "heap") ν σ (.ref (L .h)) σ:=Z6 h s.obj
theorem Zq7(s:Sty σ st L H)(h:EvE j e ν σ (.ref st) σ):EvE j (.att (.att e "heap") "rows") ν σ (.ref (L .rows)) σ:=Z6 (Zra s h) s.rep.ZO
theorem Zfg(s:Sty σ st L H)(h:EvE j e ν σ (.ref st) σ)(hes:JF j ν es σ vs σ)(hc:Zq j q (.ref (L .h)::vs) σ v σ')(hm:hfm L m=none:=by kernel_rfl)(hq:Zba.lookup ("Written",m)=some q:=by kernel_rfl)(hfa:(fnA q).isSome=true:=by kernel_rfl):EvE j (.mth (.att e "heap") m es) ν σ v σ':=Zq9 (Zra s h) s.rep.ZO hm hq hes hc hfa
theorem Zlo(s:Sty σ st L H)(h:EvE j e ν σ (.ref st) σ)(hes:JF j ν es σ vs σ)(hc:Zq j q (.ref st::vs) σ v σ')(hm:upd (λZ=>none) "heap" (ZA.ref (L .h)) m=none:=by kernel_rfl)(hq:Zba.lookup ("Story",m)=some q:=by kernel_rfl)(hfa:(fnA q).isSome=true:=by kernel_rfl):EvE j (.mth e m es) ν σ v σ':=Zq9 h s.obj hm hq hes hc hfa
theorem Zxl(s:Sty σ st L H)(hl:H.rows.length≤200):Zq (j+1) "Story.rows" [.ref st] σ (.lst (H.rows.map ZT)) σ:=Zk Zlg rfl (Y6 (Y1 (es1 (Zq7 s ZD)) (.list (.ref s.rep.rows) (Zh (Z7z hl ble)))))
theorem Zp3(s:Sty σ st L H)(hw:∀r∈H.rows,Jq r)(hl:H.rows.length≤200):Zq (j+2) "Story.text" [.ref st] σ (.str (Yc H.rows)) σ:=by
 have hg:LcR (j+1) (some (L .rows,H.rows.map ZT)) ["row"] [] (.bin .Add (.fn "row_text" [QQ8]) (.cst (.str [10]))) (upd (λZ=>none) "self" (.ref st)) ((H.rows.map ZT).map λx=>[x]) [] σ ([]++H.rows.map λr=>.str (Ze r++[10])) σ:=
  Zbl (λp hp=>Z8q hp▸s.rep.rows) (λr hr=>Yu (ZY (es1 (Zb (Zg ..))) (Zrt (hw r hr))) Zf (.K2 (by show _+1≤_;exact Z7z (Z75 (J0 (hw r hr))) ble))) (lc0 hl)
 refine Zk Zlf rfl (Y6 ((Qr Zf (.join []) (es1 (Qx (es1 (Zq7 s ZD)) (.ref s.rep.rows) hg)) (.join (ys:=H.rows.map λr=>Ze r++[10]) ?_ ?_ ?_ (Z8d _))).eqv ?_))
 ·show List.map _ H.rows=List.map ZA.str (List.map _ H.rows);rw[List.map_map];rfl
 ·rw[Zd4];exact Z7z (Ze2 hw) (Z7z (Nat.mul_le_mul_left 64 hl) ble)
 ·rw[Z8i];exact Z7z hl ble
 ·rw[Zd4];rfl
end
end
section
section
variable{j st st2:Nat}{σ σ':St}{L L' L2:Fld→Nat}{H H' H2:HC}{ν ν' ν'':Fm}{r:Row}
theorem Z3s(s:Sty σ st L H)(O:YE H)(S1:H.nodes.length≤62)(S2:H.rows.length≤190)(h:Zio H r):∃σ' L',Zq (j+7) "Story.do" [.ref st,ZT r] σ .none σ'∧Tr σ L H σ' L' (doH H r):=by
 have S:Yv H:=⟨Nat.le_succ_of_le S1,Z7z S2 ble⟩
 have rr:EvE (j+6) QQ8 (upd (upd (λZ=>none) "self" (.ref st)) "row" (ZT r)) σ (ZT r) σ:=ZD
 cases h with
 |@add op ks h hn=>
  obtain⟨σ',L',hc,t⟩:=Zts (j:=j) s.rep O S1 S2 h
  have rr:EvE (j+6) QQ8 (upd (upd (λZ=>none) "self" (.ref st)) "row" (ZT (.add op ks))) σ (.tup [.str YJ,.str op,.tup (ks.map nA)]) σ:=rr
  exact⟨σ',L',Zk Qq rfl (Zc (Zby (Zap (ZZ rr 0 rfl ble) rfl) (Qh (Qb (Zfg s ZD (es2 (ZZ rr 1 rfl ble) (ZZ rr 2 rfl ble)) hc)))) Zas),t⟩
 |@same a b r ha hb hr=>
  obtain⟨σ',L',hc,t⟩:=Ztr (j:=j) s.rep O S S2 hr ha hb
  have rr:EvE (j+6) QQ8 (upd (upd (λZ=>none) "self" (.ref st)) "row" (ZT (.same a b r))) σ (.tup [.str Y0,nA a,nA b,Z7 r]) σ:=rr
  exact⟨σ',L',Zk Qq rfl (Zc (Zfq (Zbs (ZZ rr 0 rfl ble)) (Qh (Zby (Zap (ZZ rr 0 rfl ble) rfl) (Qh (Qb (Zfg s ZD (es3 (ZZ rr 1 rfl ble) (ZZ rr 2 rfl ble) (ZZ rr 3 rfl ble)) hc)))))) Zas),t⟩
 |settle h=>
  obtain⟨σ',L',hc,t⟩:=Zja (j:=j) s.rep O S S2
  have rr:EvE (j+6) QQ8 (upd (upd (λZ=>none) "self" (.ref st)) "row" (ZT .settle)) σ (.tup [.str Zx]) σ:=rr
  exact⟨σ',L',Zk Qq rfl (Zc (Zfq (Zbs (ZZ rr 0 rfl ble)) (Qh (Zfq (Zbs (ZZ rr 0 rfl ble)) (Qh (Qb (Zfg s ZD es0 hc)))))) Zas),t⟩
theorem Z5v{e:PE}{α:Type}{l:List α}{f:α→ZA}(he:EvE j e ν σ (.lst (l.map f)) σ)(hl:l.length≤16000):EvE j (.blt "len" [e]) ν σ (nA l.length) σ:=(Jp he (Zh hl)).eqv (by rw[Z8i])
structure Wf(j:Nat)(σ:St)(σ':St)(L:Fld→Nat):Prop where
 ev:∀ν,EvE j (.cls "Story" []) ν σ (.ref σ.n) σ'
 sty:Sty σ' σ.n L Qm
 n:σ.n≤σ'.n
 ge:∀f,act Qm f→σ.n≤L f
 old:∀id,id<σ.n→σ'.f id=σ.f id
theorem Z1u{b i k:Nat}{f:Fld}(hb:k<b)(hi:k<i)(hf:act Qm f):k<XX b i f:=by
 rcases Zvn f with q | q
 ·rw[q];exact hb
 ·rw[Zcm hf q];exact Z73 hi (Z71 _ _)
theorem Zlm(j:Nat)(σ:St):∃σ' L,Wf (j+4) σ σ' L:=by
 obtain⟨σ3,W⟩:=Zxi (j:=j) (σ:=Zaj (Zaj σ "Story") "Written") (b:=σ.n+1) (Z79 _) (Yp ..)
 have lt2:σ.n<σ.n+2:=Nat.lt_succ_of_lt (Z79 _)
 have ne1:∀id,id<σ.n→(Zaj (Zaj σ "Story") "Written").f id=σ.f id:=λid h=>(Yz (σ:=Zaj σ "Story") (Nat.lt_succ_of_lt h)).trans (Yz h)
 have f3:σ3.f σ.n=some (.inst "Story" 0 λZ=>none):=(W.old σ.n lt2 (Nat.ne_of_lt (Z79 _))).trans ((Yz (σ:=Zaj σ "Story") (Z79 _)).trans (Yp ..))
 have GG:∀f,act Qm f→σ.n<XX (σ.n+1) (σ.n+2) f:=λf hf=>Z1u (Z79 _) lt2 hf
 have hs:ExS (j+3) (.sat QQ0 "heap" (.cls "Written" [])) (upd (λZ=>none) "self" (.ref σ.n)) (Zaj σ "Story") .next _ _:=Z06 (Z2n (q:="Written.__init__") (by kernel_rfl) es0 W.call) (Zb (Zbx _)) f3
 have hlt:σ.n<σ3.n:=by rw[W.n];exact Z73 lt2 (Z71 _ _)
 exact⟨_,_,λν=>Z2n (q:="Story.__init__") (by kernel_rfl) es0 (Zk Zlh rfl (Zc hs Zas)),
  ⟨⟨W.rep.inj,W.rep.lt,λf hf=>(Z0 (Nat.ne_of_gt (GG f hf))).trans (W.rep.val f hf)⟩,⟨hlt,λf hf=>Nat.ne_of_gt (GG f hf)⟩,Zs ..⟩,Z8e hlt,λf hf=>Z8e (GG f hf),
  λid hid=>(Z0 (Nat.ne_of_lt hid)).trans ((W.old id (Nat.lt_trans hid lt2) (Nat.ne_of_lt (Nat.lt_succ_of_lt hid))).trans (ne1 id hid))⟩
end
end
end PL
end
section
open PySem PySem.W PyProof.Rows
open scoped Classical
namespace PL
section
variable{X:Cx}{W W':Wd}{σ σ':St}{s s':Shared}{A:Around}{E:Value→Shared→Prop}{M:Model}{l:List Env}
theorem Inv.lax(I:Inv X W σ s){h':Heap}{tk:Nat}(hk:∀a o,W a≠.free→(∀o',W a=.imm o' none→¬Lax X a o' none)→s.heap.get? a=some o→h'.get? a=some o)
  (hl:∀a o,s.heap.get? a=some o→∃sl,h'.get? a=some { o with slots:=sl }):Inv X W σ { s with heap:=h',toks:=tk } where
 base:=I.reb h' tk
 keep:=I.keep
 uq:=I.uq
 fid:=I.fid
 tag:=λa=>by
  have x:=I.tag a
  revert x
  have hd:∀id,∀d,W d=.dic id→∀o,s.heap.get? d=some o→h'.get? d=some o:=λid d hd o e=>hk d o (Znz hd) (λo' q=>nomatch hd.symm.trans q) e
  refine@Tag.casesOn (λt=>W a=t→TOK X W σ s.heap a t→TOK X W σ h' a t) (W a) (λZ Z=>trivial) (λo v e x=>⟨?_,x.2⟩) (λid e x=>?_) (λid e x=>⟨x.1,let⟨o,q⟩:=x.2.1;⟨o,hd id a e o q⟩,x.2.2⟩) rfl
  ·by_cases hx:Lax X a o v
   ·refine .inr ⟨hx,?_⟩
    rcases x.1 with q | ⟨Z,sl,q⟩
    ·exact hl a o q
    ·exact(hl a _ q).imp λZ z=>z
   ·exact .inl (hk a o (Znd e) (λo' q z=>hx (by rw[e]at q;injection q with q1 q2;rw[q1,q2];exact z)) (x.1.resolve_right λq=>hx q.1))
  ·obtain⟨o,h1,h2⟩:=x
   exact⟨o,h1,h2.YI (LeX.refl [] W) ZG.nil (λo' q=>hk a o' (Zmr e) (λo'' z=>nomatch e.symm.trans z) q) (hd id)⟩
theorem Zso(a:Addr):({}:Heap).get? a=none:=Heap.get?_none_of_le (Z8d _)
theorem FrP.has(I:Inv X W σ s){L:Addr}(h:FrP X W L):∃o,s.heap.get? L=some o∧∀vs,o.data≠.fields vs:=by
 obtain⟨o,e,q⟩:=h
 obtain⟨es,ep,hd⟩:=q.dict
 rcases(I.imp e).1 with z | ⟨Z,sl,z⟩
 ·exact⟨o,z,λvs q=>nomatch hd.symm.trans q⟩
 ·exact⟨_,z,λvs q=>nomatch hd.symm.trans q⟩
theorem Stk.fun(I:Inv X W σ s):∀{l:List Env},Stk X W l→s.heap.FunFrames ({}:Heap) l
 | [],_=>trivial
 |f::l,h=>by
  have e:=h f Z8g
  obtain⟨L,q,p⟩:=e.at'
  obtain⟨o,ho,hd⟩:=p.has I
  exact⟨by rw[e.kind];exact λq=>(nomatch q),⟨L,o,q,Zso L,ho,hd⟩,Stk.fun I λg hg=>h g (Z8h _ hg)⟩
theorem Stk.slots(I:Inv X W σ s)(h:Stk X W l){h1:Heap}(hx:Heap.SlotsOnly (l.filterMap (·.frame)) s.heap h1):Inv X W σ { s with heap:=h1 }:=
 I.lax (tk:=s.toks) (λa o Z hn e=>(hx.2.1 a λhm=>(List.mem_filterMap.mp hm).elim λf q=>(h f q.1).at'.elim λL z=>by
  rw[q.2]at z;rw[←Z8q z.1]at z;exact z.2.elim λo' z=>hn o' z.1 z.2).trans e) hx.2.2
theorem Zsp{fe env:Env}{rest:List Env}{L:Addr}{Q:Value→Shared→Prop}(hfr:A.frames=some (fe::rest))(he:fe.frame=env.frame)(hL:env.frame=some L)(I:Inv X W σ s)(hs:Stk X W (fe::rest))
  (h:∀h',Heap.SlotsOnly ((fe::rest).filterMap (·.frame)) s.heap h'→Q (.ref L) { s with heap:=h' }):wpAny M A (PySem.frameOf env) Q E s:=by
 unfold PySem.frameOf
 refine Z8z (wpAny_frameEnvs hfr ?_)
 have hdw:((fe::rest).dropWhile λx=>x.frame != env.frame)=fe::rest:=by simp[List.dropWhile,he]
 rw[hdw]
 unfold frameObject
 refine Z8z (Z8z (wpAny_readyFrames_fun (hs.fun I) λh₁ hs₁=>Z80 ?_))
 rw[he,hL]
 exact Z80 (h h₁ hs₁)
def Raw(h:Heap)(e:Addr):Prop:=∃oe vs,h.get? e=some oe∧oe.data=.fields vs∧vs[1]? = some .none
def Tb(W:Wd)(h:Heap)(e:Addr):Prop:=∃oe vs T oT ts mk,h.get? e=some oe∧(oe.data=.fields vs∧vs[1]? = some (.ref T))∧(T≠e∧W T=.free)∧h.get? T=some oT∧oT.data=.fields ts∧ts[3]? = some mk
def Fly(W:Wd)(h:Heap)(e:Addr):Prop:=Raw h e∨Tb W h e
structure Exc(X:Cx)(W:Wd)(σ:St)(e:Addr)(id:Nat)(c:String)(k:Nat)(cx:Bool×Bool)(m:Fm):Prop where
 raw:cx.2=false
 own:W e=.own id
 obj:σ.f id=some (.exc c k cx m)
 pos:0<k
theorem Zxz{id:Nat}{o:ZK}(h:σ.f id=some o):σ.put id o=σ:=by
 have:(λj=>if j=id then some o else σ.f j)=σ.f:=by
  funext j
  by_cases q:j=id
  ·rw[if_pos q,q,h]
  ·rw[if_neg q]
 show(⟨σ.n,_⟩:St)=σ
 rw[this]
section
variable{e:Addr}{id k:Nat}{c:String}{cx:Bool×Bool}{m:Fm}
theorem Zgf(h:0<k):KI (some (.exc c k cx m)):=λc' cx' m' q=>by injection q with q;injection q with _ q;exact absurd h (by rw[q];exact Nat.lt_irrefl _)
theorem Inv.GU(I:Inv X W σ s)(x:Exc X W σ e id c k cx m):K8 W s.heap e id c k cx m:=let⟨o,h1,h2⟩:=I.own x.own;by
 have:=Z8q (h1.symm.trans x.obj);subst this;exact h2
theorem Inv.Dr(I:Inv X W σ s)(x:Exc X W σ e id c k cx m){v:Value}:Inv X W σ { s with heap:=s.heap.update e (Obj.mapFields (·.setIfInBounds 1 v)) }:=by
 obtain⟨od,vs,h1,⟨h2,h3,Z⟩,h4⟩:=I.GU x
 have hd:({ cls:=.ref (QF c),dict:=od,data:=.fields vs }:Obj).data=.fields vs:=rfl
 have hg:=Heap.get?_update_self (Obj.mapFields (·.setIfInBounds 1 v)) h1 (Obj.isFreed_of_fields (Obj.data_mapFields hd (·.setIfInBounds 1 v)))
 have hsb:Heap.SameBut e s.heap (s.heap.update e (Obj.mapFields (·.setIfInBounds 1 v))):=.update ..
 have:=I.upd (tk:=s.toks) (o:=.exc c k cx m) x.own (.inl x.own) hsb ⟨_,hg⟩ ⟨od,vs.setIfInBounds 1 v,hg,⟨by rw[Array.size_setIfInBounds];exact h2,λq=>by rw[Array.getElem?_setIfInBounds_ne (by decide)];exact h3 q,λq=>nomatch x.raw.symm.trans q⟩,
  @Option.casesOn _ (λod=>U4 W s.heap id k m od→U4 W _ id k m od) od (λq=>q) (λd q=>⟨q.1,q.2.1,q.2.2.YI (LeX.refl [] W) ZG.nil λo' e'=>(hsb.2 d λz=>nomatch (z▸x.own:W d=.own id).symm.trans q.2.1).trans e'⟩) h4⟩ (Zgf x.pos)
 rwa[Zxz x.obj]at this
theorem Zq5{fe env:Env}{rest:List Env}{L:Addr}{oe:Obj}{vs:Array Value}{head:Value}{UQ:Bool}{Q:Unit→Shared→Prop}(hfr:A.frames=some (fe::rest))(hef:fe.frame=env.frame)(hf:env.frame=some L)(I:Inv X W σ s)(hs:Stk X W (fe::rest))
  (x:Exc X W σ e id c k cx m) (he:s.heap.get? e=some oe) (hd:oe.data=.fields vs) (hsz:1<vs.size) (h:∀s',Inv X W σ s'→Tb W s'.heap e→Q () s'):
  wpAny M A (do let a ←PySem.frameOf env;let pl ←entryPlaceOf L UQ;let b ←EntryCells.newEntry head a .none (rawInt L) .none pl;setField (.ref e) 1 b) Q E s:=by
 refine Z8z (Zsp hfr hef hf I hs λh₁ hs₁=>?_)
 have I1:=hs.slots I hs₁
 have he₁:h₁.get? e=some oe:=(hs₁.2.1 e λhm=>(List.mem_filterMap.mp hm).elim λf q=>(hs f q.1).at'.elim λL z=>by
  rw[q.2]at z;rw[←Z8q z.1]at z;exact z.2.elim λo' z=>nomatch x.own.symm.trans z.1).trans he
 refine Z8z (wpAny_entryPlaceOf λpl hpl=>?_)
 unfold EntryCells.newEntry newFields
 refine Z8z (wpAny_newObj_type ?_ (hpl.sizeOk5 _ _ _ _ _))
 have I2:=I1.keeps (h':=h₁.push { cls:=.type "traceback",dict:=none,data:=.fields ([head,.ref L,.none,rawInt L,.none]++(if pl.isEmpty then List.replicate 6 Value.none else pl)).toArray }) (tk:=s.toks) λa o e=>Z8x _ e
 have he₂:=Z8x (h:=h₁) { cls:=.type "traceback",dict:=none,data:=.fields ([head,.ref L,.none,rawInt L,.none]++(if pl.isEmpty then List.replicate 6 Value.none else pl)).toArray } he₁
 refine wpAny_setField he₂ hd hsz (h _ (I2.Dr x) ?_)
 have hTe:h₁.objs.size≠e:=Nat.ne_of_gt (Heap.lt_size he₁)
 have hd₃:=Obj.data_mapFields hd (·.setIfInBounds 1 (Value.ref h₁.objs.size))
 refine⟨_,_,h₁.objs.size,_,_,rawInt L,Heap.get?_update_self (Obj.mapFields (·.setIfInBounds 1 (Value.ref h₁.objs.size))) he₂ (Obj.isFreed_of_fields hd₃),⟨hd₃,by simp[hsz]⟩,⟨hTe,I1.free (Z70 _)⟩,
  (Heap.get?_update_other _ _ (Ne.symm hTe)).trans (Z8y h₁ rfl),rfl,?_⟩
 first | (simp;done) | (rcases hpl with rfl | ⟨Z,Z,Z,Z,Z,Z,Z,rfl⟩<;>simp)
theorem Zk1{fe env:Env}{rest:List Env}{L:Addr}{Q:Unit→Shared→Prop}(hfr:A.frames=some (fe::rest))(hef:fe.frame=env.frame)(hf:env.frame=some L)(I:Inv X W σ s)(hs:Stk X W (fe::rest))
  (x:Exc X W σ e id c k cx m) (hF:Fly W s.heap e) (h:∀s',Inv X W σ s'→Tb W s'.heap e→Q () s'):wpAny M A (noteFrame (.ref e) env) Q E s:=by
 unfold noteFrame
 simp only[hf]
 rcases hF with⟨oe,vs,he,hd,h1⟩ | ⟨oe,vs,T,oT,ts,mk,he,⟨hd,h1⟩,⟨hTe,hTW⟩,hT,hdT,h3⟩
 ·refine Z8z (wpAny_field he hd h1 ?_)
  rw[if_neg (by decide)]
  exact Zq5 hfr hef hf I hs x he hd (Array.getElem?_eq_some_iff.mp h1).1 h
 ·refine Z8z (wpAny_field he hd h1 ?_)
  rw[if_pos (show(Value.ref T != Value.none)=true from by simp)]
  refine Z8z (wpAny_field hT hdT h3 ?_)
  by_cases hm:(mk==rawInt L)=true
  ·rw[if_pos hm]
   exact Z80 (h s I ⟨oe,vs,T,oT,ts,mk,he,⟨hd,h1⟩,⟨hTe,hTW⟩,hT,hdT,h3⟩)
  ·rw[if_neg hm]
   refine Z8z (wpAny_setField hT hdT (Array.getElem?_eq_some_iff.mp h3).1 ?_)
   have other:∀b,b≠T→(s.heap.update T (Obj.mapFields (·.setIfInBounds 3 Value.none))).get? b=s.heap.get? b:=λb hb=>Heap.get?_update_other _ _ (Ne.symm hb)
   exact Zq5 hfr hef hf (I.grow (tk:=s.toks) λa o ha q=>(other a λz=>ha (z▸hTW)).trans q) hs x ((other e (Ne.symm hTe)).trans he) hd (Array.getElem?_eq_some_iff.mp h1).1 h
theorem J6{fr:Option Addr}{Q:Unit→Shared→Prop}(I:Inv X W σ s)(hF:Fly W s.heap e)(h:∀s',Inv X W σ s'→Fly W s'.heap e→(Tb W s.heap e→Tb W s'.heap e)→Q () s'):wpAny M A (setFlight (.ref e) fr) Q E s:=by
 unfold setFlight
 rcases hF with⟨oe,vs,he,hd,h1⟩ | ⟨oe,vs,T,oT,ts,mk,he,⟨hd,h1⟩,⟨hTe,hTW⟩,hT,hdT,h3⟩
 ·refine Z8z (wpAny_field he hd h1 ?_)
  rw[if_neg (by decide)]
  exact Z80 (h s I (.inl ⟨oe,vs,he,hd,h1⟩) id)
 ·have D9:3<ts.size:=(Array.getElem?_eq_some_iff.mp h3).1
  have other:∀b,b≠T→(s.heap.update T (Obj.mapFields (·.setIfInBounds 3 (fr.elim Value.none λf=>rawInt f)))).get? b=s.heap.get? b:=λb hb=>Heap.get?_update_other _ _ (Ne.symm hb)
  refine Z8z (wpAny_field he hd h1 ?_)
  rw[if_pos (show(Value.ref T != Value.none)=true from by simp)]
  have t:Tb W (s.heap.update T (Obj.mapFields (·.setIfInBounds 3 (fr.elim Value.none λf=>rawInt f)))) e:=
   ⟨oe,vs,T,_,_,_,(other e (Ne.symm hTe)).trans he,⟨hd,h1⟩,⟨hTe,hTW⟩,Heap.get?_update_self _ hT (Obj.isFreed_of_fields (Obj.data_mapFields hdT _)),Obj.data_mapFields hdT _,Z8t (by rw[Array.size_setIfInBounds];exact D9)⟩
  exact wpAny_setField hT hdT D9 (h _ (I.grow (tk:=s.toks) λa o ha q=>(other a λz=>ha (z▸hTW)).trans q) (.inr t) λZ=>t)
theorem Zsi{fe env:Env}{rest:List Env}{L:Addr}{Q:Unit→Shared→Prop}(hfr:A.frames=some (fe::rest))(hef:fe.frame=env.frame)(hf:env.frame=some L)(I:Inv X W σ s)(hs:Stk X W (fe::rest))
  (x:Exc X W σ e id c k cx m) (hF:Fly W s.heap e) (h:∀s',Inv X W σ s'→Tb W s'.heap e→Q () s'):wpAny M A (leaving env (.ref e)) Q E s:=by
 unfold leaving
 exact Z8z (Zk1 hfr hef hf I hs x hF λs1 I1 t1=>J6 (fr:=none) I1 (.inr t1) λs2 I2 Z t2=>h s2 I2 (t2 t1))
theorem Zmq{α:Type}{IT:String}{env:Env}{Q:α→Shared→Prop}(I:Inv X W σ s)(hF:Tb W s.heap e)(h:∀s',Inv X W σ s'→Tb W s'.heap e→E (.ref e) s'):wpAny M A (PySem.passOn IT (.ref e) env:Sem α) Q E s:=by
 unfold PySem.passOn
 have hF':=hF
 obtain⟨oe,vs,T,oT,ts,mk,he,⟨hd,h1⟩,⟨hTe,hTW⟩,hT,hdT,h3⟩:=hF
 refine Z8z (wpAny_field he hd h1 ?_)
 rw[if_neg (show ¬(Value.ref T==Value.none)=true from by simp)]
 exact Z8z (J6 I (.inr hF') λs2 I2 Z t2=>wpAny_throw (h s2 I2 (t2 hF')))
end
end
end PL
end
section
open PySem PySem.W PyProof.Rows PySem.Calls Builtin
open scoped Classical
set_option maxRecDepth 100000
namespace PL
section
structure Zw5(M:Model)(h:Heap)(C:Addr):Prop where
 obj:∃oc od cd sl,h.get? C=some ⟨oc,od,.cls cd,sl⟩∧cd.hasDel=false∧cd.mro=Jo C
 made:Looks M h (Bind.madeBy (.ref C)) (some "Exception.__new__")
 base:Looks M h (Bind.staticBase (.ref C)) (.ref C)
 sub:∀v b,(Jo C).contains v=b→Looks M h (isSubtype (.ref C) v) b
 call:Looks M h (specialOf (.ref C) "__call__") (some (.builtin "type.__call__"))
 typ:Looks M h (isInstance (.ref C) (.type "type")) true
theorem Zpf(C:Addr):(Jo C).contains (.ref C)=true:=by
 unfold Jo
 by_cases h:C=47
 ·rw[if_pos h,h];decide +kernel
 ·rw[if_neg h];simp
theorem Zh6(C:Addr):∃c l,Jo C=c::l:=by
 unfold Jo
 by_cases h:C=47
 ·rw[if_pos h];exact⟨_,_,rfl⟩
 ·rw[if_neg h];exact⟨_,_,rfl⟩
theorem Qv{C:Addr}{v:Value}{b:Bool}(h:∀a,v≠.ref a)(hb:([.ref 47,.type "Exception",.type "BaseException",.type "object"]:List Value).contains v=b):(Jo C).contains v=b:=by
 unfold Jo
 by_cases hc:C=47
 ·rw[if_pos hc];exact hb
 ·rw[if_neg hc]
  show((v==Value.ref C) || ([.ref 47,.type "Exception",.type "BaseException",.type "object"]:List Value).contains v)=b
  rw[show(v==Value.ref C)=false from Z85.mpr (h C),hb];rfl
theorem Jg{K:Frag}{M:Model}{h:Heap}(X:K.In h){C:Addr}(e:XC K C):Zw5 M h C:=by
 obtain⟨od,cd,sl,ho,⟨h1,h2⟩,⟨h3,h4⟩,h5⟩:=e.obj
 have hc:clsIn K C=some cd:=by unfold clsIn;rw[ho]
 have hm:Looks M h (mroOf (.ref C)) cd.mro:=(looks_clsIn X hc).andThen .now
 obtain⟨c,l,hl⟩:=Zh6 C
 have hl':cd.mro=c::l:=h5.trans hl
 have made:Looks M h (Bind.madeBy (.ref C)) (some "Exception.__new__"):=by
  intro A Q E s k q
  unfold Bind.madeBy
  refine Z8z (hm A _ E s k ?_)
  rw[hl',List.forIn_cons]
  refine Z8z (Z8z (Z8z (Z8z (wpAny_loadPart (k _ _ (X _ _ ho)) (Z80 ?_)))))
  dsimp only
  rw[←Z8s,h4]
  exact Z80 (Z80 (Z80 q))
 refine⟨⟨_,od,cd,sl,X _ _ ho,h2,h5⟩,made,?_,λv b hb=>looks_mroIn X ?_,looks_specialIn X e.call,looks_instIn X e.typ⟩
 ·intro A Q E s k q
  unfold Bind.staticBase
  refine Z8z (hm A _ E s k ?_)
  rw[hl',List.forIn_cons]
  exact Z8z (Z8z (Z8z (made A _ E s k (Z80 (Z80 (Z80 q))))))
 ·unfold mroIn;rw[hc,Option.bind_some,if_neg (by rw[hl'];exact Z86),h5,hb]
noncomputable abbrev Y3(C t:Addr):Obj:={ cls:=.ref C,data:=.fields #[.ref t,.none,.none,.none,.bool false,.none] }
section
variable{prog:Program}{w:World}{A:Around}{K:Frag}{C:Addr}{R:Result→Shared→Prop}{h:Heap}{g:Array GenState}{d:Drawn}{t:Nat}{os:OsState}
theorem Z1v{rest:List Value}(Y:Zw5 (model prog w) h C)(hsz:rest.length≤sizeLine)
  (hq:R (.ok (.ret (.ref (h.objs.size+1)))) ⟨(h.push { cls:=.type "tuple",data:=.seq rest.toArray }).push (Y3 C h.objs.size),g,d,t,os⟩):
  codeAny (model prog w) A (.call (.builtin "Exception.__new__") ⟨.ref C::rest,[]⟩) R ⟨h,g,d,t,os⟩:=by
 obtain⟨⟨oc,od,cd,sl,hC,e2,e4⟩,made,base,sub,call,typ⟩:=Y
 have F:=PySem.F.excBase_Exception
 have sE:=sub (.type "Exception") true (Qv (λZ q=>nomatch q) (by decide +kernel))
 have sA:=sub (.type "AttributeError") false (Qv (λZ q=>nomatch q) (by decide +kernel))
 have sN:=sub (.type "NameError") false (Qv (λZ q=>nomatch q) (by decide +kernel))
 refine codeAny_call_builtin_code (Code.quiet_builtin _ F.quiet) ?_
 simp only[checkBuiltinCall,F.newKind,F.newSplit,F.newRow]
 have args:Bind.checkArgs "Exception.__new__" ⟨.any,"Exception","Exception",.cls,[⟨"args",.varPos,false⟩,⟨"kwargs",.varKw,false⟩]⟩ ⟨.ref C::rest,[]⟩=pure ():=by kernel_rfl
 rw[args]
 have here:Looks (model prog w) h (Bind.madeHere "Exception.__new__" (.ref C)) ():=base.andThen (made.andThen (Looks.of_pure (by simp only[Option.map_some,bne_self_eq_false,Bool.false_eq_true,if_false])))
 repeat (first | simp only[bne_self_eq_false,Bool.false_eq_true,if_false] | lk)
 refine codeAny_builtinAt F.entry ?_
 unfold Builtin.«BaseException.__new__»
 refine PySem.wpAt_bind ?_
 show PySem.wpAt _ _ _ (stack >>= _) _ _ _
 refine PySem.wpAt_bind (PySem.wpAt_stack λp below=>wpAt_of_wpAny ?_)
 show wpAny _ _ (if "Exception.__new__".endsWith ".__new__"=true then pure ("Exception.__new__".dropRight 8)else _) _ _ _
 rw[if_pos F.ends]
 refine Z80 (wpAt_of_wpAny ?_)
 rw[F.owner]
 have DQ:Looks (model prog w) h (Bind.madeHere "BaseException.__new__" (.ref C)) ():=base.andThen (made.andThen (Looks.of_pure (by simp only[Option.map_some,F.canon,bne_self_eq_false,Bool.false_eq_true,if_false])))
 have ty:Looks (model prog w) h (isType (.ref C)) true:=(Looks.ld hC).andThen .now
 have own:Looks (model prog w) h (do
   if ←isSubtype (.ref C) (.type "AttributeError")then return 2
   if ←isSubtype (.ref C) (.type "NameError")then return 1
   return 0:Sem Nat) 0:=sA.andThen (sN.andThen .now)
 refine Z8z (Looks.at ty (Z8z (Looks.at sE (Z8z (Looks.at DQ (Z8z ?_))))))
 refine Looks.at (r:=0) own ?_
 unfold newTuple
 refine Z8z (wpAny_newObj_type ?_ (by show rest.toArray.size≤sizeLine;rw[List.size_toArray];exact hsz))
 refine Z8z ?_
 show wpAny _ _ ((if 6 > sizeLine+2 then unsupported "record:memory" else pure ()) >>= λZ=>newObjAsIs (.ref C) (Y3 C h.objs.size).data none) _ _ _
 rw[if_neg (Nat.not_lt.mpr (Z7z (by decide:6≤16000+2) (Z77 (Z1 (Z70 _)) 2)))]
 unfold newObjAsIs classHasDel
 refine Z8z (Z80 (Z8z (wpAny_alloc (Z8z (Z8z (wpAny_load (Z8x _ (Z8x _ hC)) (Z80 ?_)))))))
 rw[e2]
 refine Z80 (Z80 ?_)
 show R _ _
 rw[Heap.size_push]
 exact hq
theorem Z68{rest:List Value}{init:Value}(Y:Zw5 (model prog w) h C)(hi:Looks (model prog w) h (typeLookup (.ref C) "__init__") (some init))(hsz:rest.length≤sizeLine)
  (hb:∀self,Looks (model prog w) h (bindSpecial init self) (init,[self]))
  (hq:codeAny (model prog w) (A.under (.builtin "type.__call__" ⟨.ref C::rest,[]⟩)) (.call init ⟨.ref (h.objs.size+1)::rest,[]⟩) (InitBack (h.objs.size+1) R) ⟨(h.push { cls:=.type "tuple",data:=.seq rest.toArray }).push (Y3 C h.objs.size),g,d,t,os⟩):
  codeAny (model prog w) A (.call (.ref C) ⟨rest,[]⟩) R ⟨h,g,d,t,os⟩:=by
 have Y':=Y
 obtain⟨⟨oc,od,cd,sl,hC,e2,e4⟩,made,base,sub,call,typ⟩:=Y
 obtain⟨mc,ml,hmr⟩:=Zh6 C
 have e5:cd.mro.isEmpty=false:=by rw[e4,hmr];rfl
 refine codeAny_of_tree ?_
 show wpAny _ _ (callAny (.ref C) _) _ _ _
 refine nd_load hC ?_
 show wpAny _ _ (callAny.viaDunder (.ref C) _) _ _ _
 unfold callAny.viaDunder
 refine Z8z (call.at ?_)
 dsimp only
 rw[tc_bind]
 refine Z8z (Z80 (Z8z (Z80 ?_)))
 refine Z80 (a:=PySem.Fin.again (.call (.builtin "type.__call__") ⟨.ref C::rest,[]⟩)) (And.intro rfl ?_)
 refine codeAny_call_builtin_at (Code.quiet_builtin _ (by decide +kernel)) entry_typeCall (check_slot tc_kind tc_split typ (tc_args _ _ _) ?_)
 unfold Builtin.«type.__call__»
 have hm:Looks (model prog w) h (mroOf (.ref C)) cd.mro:=((Looks.ld (part:=none) hC).andThen .now).andThen .now
 repeat (first | simp only[e5,Bool.false_eq_true,if_false] | with_reducible refine wpAny_call ?_ | lk)
 refine Z1v Y' hsz ?_
 have k:∀b o,h.get? b=some o→((h.push { cls:=.type "tuple",data:=.seq rest.toArray }).push (Y3 C h.objs.size)).get? b=some o:=λb o e=>Z8x _ (Z8x _ e)
 have hx:((h.push { cls:=.type "tuple",data:=.seq rest.toArray }).push (Y3 C h.objs.size)).get? (h.objs.size+1)=some (Y3 C h.objs.size):=by heap_get
 have t1:Looks (model prog w) ((h.push { cls:=.type "tuple",data:=.seq rest.toArray }).push (Y3 C h.objs.size)) (typeOf (.ref (h.objs.size+1))) (.ref C):=(Looks.ld hx).andThen .now
 have s1:=(sub (.ref C) true (Zpf C)).keeps k
 have i1:=hi.keeps k
 have b1:=(hb (.ref (h.objs.size+1))).keeps k
 unfold isInstance callSpecial? specialOf
 repeat (first | with_reducible refine wpAny_call ?_ | lk)
 refine codeAny_mono hq λr s' z=>?_
 rcases r with e | (v | Z | Z | Z)<;>first | exact z | exact z.elim | skip
 obtain⟨rfl,z⟩:=z
 exact Z80 (Z80 z)
end
end
end PL
end
section
open PySem PySem.W PyProof.Rows PySem.Calls Builtin Builtin.ObjectAttr
open scoped Classical
set_option maxRecDepth 100000
namespace PL
section
theorem Zan{c:String}{C:Addr}(h:Q4.lookup c=some C):QF c=C:=Z81 (Option.getD · 0) h
section
variable{prog:Program}{w:World}{A:Around}{E:Value→Shared→Prop}{s:Shared}{K:Frag}{x C:Addr}{ox:Obj}{od:Option Obj}{name:Str}
theorem Zzk:builtinKind "BaseException.__getattribute__"=some .slot:=by decide +kernel
theorem Zwk:splitId "BaseException.__getattribute__"=some ("BaseException","__getattribute__"):=by decide +kernel
theorem Zwl:plainId "BaseException.__getattribute__"=true:=by decide +kernel
theorem Zzl(self:Value):bindSpecial (.builtin "BaseException.__getattribute__") self=pure (.builtin "BaseException.__getattribute__",[self]):=
 (Slot.of (T:="BaseException") (name:="__getattribute__") (owner:="BaseException") (n:="__getattribute__") (by rw[typeLookup_type,builtinLookup_eq_fast];kernel_rfl) (by decide +kernel) (by decide +kernel) (by decide +kernel)
  (.inl (by decide +kernel)) (by rw[isSubtype_type];kernel_rfl)).bind self
theorem RW{v:Value}{ex:Bool}{Q:Value→Shared→Prop}(X:K.In s.heap)(e:XC K C)(I:InstAt s.heap x ox C od)(hf:findObj K C od name=some (.value v))(hh:handedIn v=true)(h:Q v { s with toks:=s.toks+1 }):
  wpAny (model prog w) A (getAttr (.ref x) name ex) Q E s:=by
 obtain⟨hp,g,d,t,os⟩:=s
 have L0:=I.type (M:=model prog w)
 have L1:=looks_findIn (M:=model prog w) X e.get
 have L2:=looks_findIn (M:=model prog w) X e.ga
 have L3:=looks_find (M:=model prog w) X I hf
 have sub:Looks (model prog w) hp (isInstance (.ref x) (.type "BaseException")) true:=L0.andThen ((Jg X e).sub _ _ (Qv (λZ q=>nomatch q) (by decide +kernel)))
 have hx0:(ex&&onTheHeap (Value.builtin "BaseException.__getattribute__"))=false:=by cases ex<;>rfl
 unfold getAttr getAttrBy
 refine Z8z (wpAny_mkText (wpAny_holding (Z8z (L0.at (Z8z (L1.at ?_))))))
 show wpAny _ _ (getAttrByItsOwn _ _ _ _ _ _) _ _ _
 unfold getAttrByItsOwn hookBefore callGetattribute boundAndCalled
 refine Z8z (Looks.at (r:=none) L2 (Z8z (wpAny_attempt (wpAny_holding ?_))))
 rw[hx0,if_neg Z86]
 refine Z8z (wpAny_of_eq (Zzl _) ?_)
 refine wpAny_mono (Q:=λu s'=>u=v∧s'=⟨hp,g,d,t+1,os⟩) (E:=λZ Z=>False) (wpAny_call (codeAny_call_builtin Zwl PySem.F.entry_bexc_ga (@check_slot (model prog w) _ _ ⟨hp,g,d,t+1,os⟩ _ _ _ (.ref x) [.str name t] [] _ Zzk Zwk sub (PySem.F.args_bexc_ga (.ref x) (.str name t)) ?_)))
  (λu s' hv=>?_) λZ Z z=>z.elim
 ·show wpAny _ _ (Builtin.«object.__getattribute__» ⟨[.ref x,.str name t],[]⟩) _ _ _
  unfold Builtin.«object.__getattribute__»
  refine Z8z (wpAny_of_eq (a:=(Value.ref x,[Value.str name t])) rfl ?_)
  refine Z8z (wpAny_of_eq (a:=name) rfl (Z8z (L0.at (Z8z (L3.at (Z80 ?_))))))
  exact⟨rfl,rfl⟩
 ·obtain⟨rfl,rfl⟩:=hv
  show wpAny _ _ (handedOut u) _ _ _
  rw[handedOut_of hh]
  exact Z80 h
theorem Zux{f:Addr}{pl:Sem Bool}{Q:Value×List Value→Shared→Prop}(X:K.In s.heap)(e:XC K C)(I:InstAt s.heap x ox C od)(hf:findIn K (.ref C) name=some (some (.ref f)))(ht:typeIn K (.ref f)=some (.type "function"))(hs:shadowIn od name=some false)(h:Q (.ref f,[.ref x]) s):
  wpAny (model prog w) A (getMethod (.ref x) name pl) Q E s:=by
 have GN:Manifest.canonical "BaseException.__getattribute__"="object.__getattribute__":=by decide +kernel
 unfold getMethod specialOf
 refine Z8z (Z8z (I.type.here ((looks_findIn X e.get).here ?_)))
 dsimp only
 rw[GN,if_neg (by decide)]
 refine Z8z (Z8z (I.type.here ((looks_findIn X e.ga).here ?_)))
 refine Z8z (Z8z (I.type.here ((looks_findIn X hf).here (Z8z ((looks_typeIn X ht).here ?_)))))
 rw[if_neg (by decide +kernel)]
 refine Z8z (wpAny_loadPart I.at_ ?_)
 have hd:=I.dict
 cases e:ox.dict with
 |none=>exact Z8z (wpAny_rule (Z80 h))
 |some dx=>
  cases od with
  |none=>rw[e]at hd;exact hd.elim
  |some o=>
   rw[e]at hd
   obtain⟨r,a,b⟩:=Z8r.mp hs
   refine Z8z (Z8z (wpAny_loadPart hd ?_))
   rw[nsLook_of a]
   refine Z80 ?_
   rw[b]
   exact Z8z (wpAny_rule (Z80 h))
theorem Z1f{self:Value}(C:Addr):refuseLoop self "__setattr__" (Jo C)=pure ():=by
 have h:refuseLoop self "__setattr__" [.ref 47,.type "Exception",.type "BaseException",.type "object"]=pure ():=by rw[refuseLoop_ref];exact PySem.F.store_Exception.passes self
 unfold Jo
 by_cases hc:C=47
 ·rw[if_pos hc];exact h
 ·rw[if_neg hc]
  show refuseLoop self "__setattr__" (.ref C::_)=_
  rw[refuseLoop_ref];exact h
theorem Ds{v:Value}{Q:Unit→Shared→Prop}(X:K.In s.heap)(e:XC K C)(I:InstAt s.heap x ox C od)(ha:findIn K (.ref C) name=some none)
  (h:wpAny (model prog w) A.in1 (ownDictForStores (.ref x) >>= λo=>match o with | some d=>storeInDict d (.str name s.toks) name v | none=>noDictFor (.ref x) (.ref C) name false) (λfin s'=>match fin with | .done (.ret _)=>Q () s' | _=>False) E { s with toks:=s.toks+1 }):
  wpAny (model prog w) A (setAttr (.ref x) name v) Q E s:=by
 obtain⟨hp,g,d,t,os⟩:=s
 have SF:=PySem.F.store_object
 have Y:=Jg (M:=model prog w) X e
 obtain⟨oc,od',cd,sl,hC,e2,e4⟩:=Y.obj
 have hm:Looks (model prog w) hp (mroOf (.ref C)) (Jo C):=e4▸((Looks.ld (part:=none) hC).andThen .now).andThen .now
 have L0:=I.type (M:=model prog w)
 have L1:=looks_findIn (M:=model prog w) X ha
 have sub:Looks (model prog w) hp (isInstance (.ref x) (.type "object")) true:=L0.andThen (Y.sub _ _ (Qv (λZ q=>nomatch q) (by decide +kernel)))
 refine set_plain X I e.set ?_
 refine codeAny_call_builtin SF.slot.plain SF.entry (@check_slot (model prog w) _ _ ⟨hp,g,d,t+1,os⟩ "object.__setattr__" "object" "__setattr__" (.ref x) [.str name t,v] [] _ SF.kind SF.split sub (SF.args (.ref x) (.str name t) v) ?_)
 rw[osa_eq,refuse_eq]
 refine Z8z (Z8z (L0.at (Z8z (hm.at ?_))))
 rw[Z1f]
 refine Z80 (Z8z (L0.at (Z8z (L1.at (Z8z (wpAny_of_eq (a:=(none:Option Value)) rfl ?_))))))
 refine Z8z (Z80 ?_)
 refine wpAny_mono h (λfin s' z=>?_) λZ Z z=>z
 rcases fin with(Z | Z | Z | Z) | Z<;>first | exact z | exact z.elim
theorem Z7m{Q:Option Addr→Shared→Prop}(X:K.In s.heap)(e:XC K C)(hx:s.heap.get? x=some ox)(hcl:ox.cls=.ref C){d:Addr}(hd:ox.dict=some d)(h:Q (some d) s):wpAny (model prog w) A (ownDictForStores (.ref x)) Q E s:=by
 obtain⟨odc,cd,sl,ho,Z,⟨h3,Z⟩,Z⟩:=e.obj
 have hc:clsIn K C=some cd:=by unfold clsIn;rw[ho]
 show wpAny _ _ (instanceDict x true) _ _ _
 unfold instanceDict
 refine Z8z (wpAny_loadPart hx ?_)
 rw[hcl,hd]
 refine Z8z ((looks_clsIn X hc).here ?_)
 rw[h3]
 exact Z80 h
theorem Z50{Q:Option Addr→Shared→Prop}(X:K.In s.heap)(e:XC K C){vs:Array Value}(hx:s.heap.get? x=some { cls:=.ref C,dict:=none,data:=.fields vs })
  (h:Q (some s.heap.objs.size) { s with heap:=(s.heap.push { cls:=.type "dict",data:=.dict #[] }).update x λo=>{ o with dict:=some s.heap.objs.size } }):wpAny (model prog w) A (ownDictForStores (.ref x)) Q E s:=by
 obtain⟨odc,cd,sl,ho,Z,⟨h3,Z⟩,Z⟩:=e.obj
 have hc:clsIn K C=some cd:=by unfold clsIn;rw[ho]
 show wpAny _ _ (instanceDict x true) _ _ _
 unfold instanceDict
 refine Z8z (wpAny_loadPart hx ?_)
 refine Z8z ((looks_clsIn X hc).here ?_)
 rw[h3]
 refine Z8z (wpAny_alloc (Z8z (wpAny_update (Z8x _ hx) ?_)))
 exact Z80 h
end
end
end PL
end
section
open PySem PySem.W PyProof.Rows
open scoped Classical
namespace PL
section
variable{X:Cx}{W W':Wd}{σ σ':St}{s s':Shared}{A:Around}{E:Value→Shared→Prop}{Q:Value→Shared→Prop}
section
variable{id k:Nat}{c n:String}{cx:Bool×Bool}{m:Fm}{r:ZA}
theorem Inv.exc(I:Inv X W σ s){v:Value}(h:ZE W v (.ref id))(ho:σ.f id=some (.exc c k cx m)):∃a,v=.ref a∧W a=.own id∧K8 W s.heap a id c k cx m:=I.obj h ho
theorem Z5t{K:Frag}{C:Addr}(e:XC K C):hasDictIn K C=true:=by
 obtain⟨od,cd,sl,ho,Z,⟨h3,Z⟩,Z⟩:=e.obj
 unfold hasDictIn clsIn
 rw[ho];exact h3
theorem Z21(he:σ.f id=some (.exc c k cx m))(hm:m n=some r)(hat:Ja.contains (c,n)=true)(I:Inv X W σ s){v:Value}(hv:ZE W v (.ref id))(h:Pst X W σ r Q)(ex:Bool):wpAny (model pp X.w) A (getAttr v (Str.ofString n) ex) Q E s:=by
 obtain⟨a,rfl,hW,od,vs,ho,Z,hd⟩:=I.exc hv he
 obtain⟨C,hC,hf⟩:=X.ok.QF hat
 obtain⟨ck,Z⟩:=X.ok.exc hC
 rw[←Zan hC]at hf ck
 cases od with
 |none=>exact nomatch (hd.2 n).symm.trans hm
 |some d=>
  obtain⟨Z,hWd,R⟩:=hd
  obtain⟨mm,hns,hmm⟩:=R.ns
  obtain⟨od,hod,Z⟩:=R.sz
  obtain⟨cv,h1,h2⟩:=(hm▸hmm n:MvR W (some r) _)
  have L:=Zd1 (n:=Str.ofString n) hns hod
  rw[h1]at L
  exact RW I.kin ck (C:=QF c) (od:=some od) ⟨ho,rfl,rfl,hod⟩ (findObj_own (Z5t ck) hf rfl L) h2.handed (h.mkt I h2)
theorem Inv.US(I:Inv X W σ s){a D:Addr}{h':Heap}{tk:Nat}{m':Fm}(hW:W a=.own id)(ho:σ.f id=some (.exc c 0 cx m))(hD:W D=.free)(hk:∀b o,b≠a→s.heap.get? b=some o→h'.get? b=some o)(hx:∃o,h'.get? D=some o)
  (hr:K8 (ZN W D (.dic id)) h' a id c 1 cx m'):Inv X (ZN W D (.dic id)) (σ.put id (.exc c 1 cx m')) { s with heap:=h',toks:=tk }:=
 have hl:Le W (ZN W D (.dic id)):=Yr hD
 have hid:id<σ.n:=I.fid id λq=>nomatch ho.symm.trans q
 have nd:∀b,W b≠.dic id:=λb hb=>(I.dob hb).2.2 c cx m ho
 have hp:(σ.put id (.exc c 1 cx m')).f id=some (.exc c 1 cx m'):=Zs ..
 {base:=I.reb h' tk,keep:=I.Vz hl
  uq:=I.uq.set λk e b Z hb=>@Tag.casesOn (λt=>W b=t→t.key=some k→False) (W b) (λZ q=>nomatch q) (λZ Z Z q=>nomatch q) (λi Z q=>nomatch (e.trans q.symm)) (λi q z=>nd b (q.trans (Z81 Tag.dic (Z81 Prod.snd (Z8q (z.trans e.symm)))))) rfl hb
  fid:=λi hi=>Classical.byCases (λq:i=id=>q▸hid) λq=>I.fid i ((Z0 q)▸hi)
  tag:=Q0 (P:=TOK X (ZN W D (.dic id)) (σ.put id (.exc c 1 cx m')) h') ⟨hid,hx,hp.symm▸Zgf Nat.one_pos⟩ λb hb=>Classical.byCases (λe:b=a=>by rw[e,hW];exact⟨_,hp,hr⟩) λe=>
   (I.tag b).YI hl ZG.nil (hk b · e) (λic hi d hd o q=>hk d o (λz=>nomatch (z▸hd:W a=.dic ic).symm.trans hW) q) (λic hi o q=>(Z0 λz=>e (I.uniq (z▸hi) hW)).trans q) (Z70 _) λic hi Z z=>(Z0 (id:=id) (j:=ic) λq=>nd b (q▸hi)).symm▸z }
theorem Z04(he:σ.f id=some (.exc c k cx m))(hat:Ja.contains (c,n)=true)(hk:k<100)(I:Inv X W σ s){u v:Value}(hu:ZE W u (.ref id))(hv:ZE W v r)
  {QU:Unit→Shared→Prop} (h:∀W' s',Le W W'→Inv X W' (σ.put id (.exc c (k+1) cx (upd m n r))) s'→QU () s'):wpAny (model pp X.w) A (setAttr u (Str.ofString n) v) QU E s:=by
 obtain⟨a,rfl,hW,od,vs,ho,hvs,hd⟩:=I.exc hu he
 obtain⟨C,hC,hf⟩:=X.ok.QF hat
 obtain⟨ck,Z⟩:=X.ok.exc hC
 rw[←Zan hC]at hf ck
 cases od with
 |none=>
  obtain⟨rfl,hm⟩:=hd
  refine Ds I.kin ck (C:=QF c) (od:=none) ⟨ho,rfl,rfl,trivial⟩ hf ?_
  refine Z8z (Z50 (s:={ s with toks:=s.toks+1 }) I.kin ck ho ?_)
  have had:a≠s.heap.objs.size:=Nat.ne_of_lt (Heap.lt_size ho)
  have hDf:=I.free (a:=s.heap.objs.size) (Z70 _)
  have hD:((s.heap.push { cls:=.type "dict",data:=.dict #[] }).update a λo=>{ o with dict:=some s.heap.objs.size }).get? s.heap.objs.size=some { cls:=.type "dict",data:=.dict #[] }:=
   (Heap.get?_update_ne _ _ _ _ had.symm).trans (Heap.get?_push_at rfl rfl)
  have ha:((s.heap.push { cls:=.type "dict",data:=.dict #[] }).update a λo=>{ o with dict:=some s.heap.objs.size }).get? a=some { cls:=.ref (QF c),dict:=some s.heap.objs.size,data:=.fields vs }:=
   Heap.get?_update_self _ (Z8x _ ho) rfl
  have hns:((s.heap.push { cls:=.type "dict",data:=.dict #[] }).update a λo=>{ o with dict:=some s.heap.objs.size }).Ns s.heap.objs.size (λZ=>none):=⟨_,#[],_,hD,rfl,λe he=>absurd he (by simp),λZ=>rfl⟩
  unfold Builtin.ObjectAttr.storeInDict Builtin.ObjectAttr.newKeyGuard
  refine Z8z (Z80 (Z8z ?_))
  refine Zuf (s:={ s with heap:=(s.heap.push { cls:=.type "dict",data:=.dict #[] }).update a λo=>{ o with dict:=some s.heap.objs.size },toks:=s.toks+1 }) hD ⟨rfl,rfl,rfl⟩ rfl hns λh' o' es' ep' ho' Ut KQ V9 Kw hsb=>?_
  refine Z8z (wpAny_lookBehind (s:={ s with heap:=h',toks:=s.toks+1+1 }) ho' (by rw[KQ];exact pastItsLine_dict (Nat.le_succ_of_le (Zlr V9 (by decide)))) (Z80 ?_))
  show QU () _
  refine h _ _ (Yr hDf) (I.US (tk:=s.toks+1+1) hW he hDf (λb o hb q=>(hsb.2 b (Nat.ne_of_lt (Heap.lt_size q))).trans ((Heap.get?_update_ne _ _ _ _ hb).trans (Z8x _ q))) ⟨_,ho'⟩ ⟨some s.heap.objs.size,vs,(hsb.2 a had).trans ha,hvs,Nat.one_pos,Zi ..,⟨_,Kw,λx=>?_⟩,⟨o',ho',Ut,es',ep',KQ,V9⟩⟩)
  exact MvR.upd (mm:=λZ=>none) (λx=>by rw[hm x];exact rfl) (hv.mono (Yr hDf)) x
 |some d=>
  obtain⟨hk0,hWd,R⟩:=hd
  obtain⟨mm,hns,hmm⟩:=R.ns
  obtain⟨od,hod,hex,es,ep,hde,hsz⟩:=R.sz
  refine Ds I.kin ck (C:=QF c) (od:=some od) ⟨ho,rfl,rfl,hod⟩ hf ?_
  refine Z8z (Z7m (s:={ s with toks:=s.toks+1 }) I.kin ck ho rfl rfl ?_)
  unfold Builtin.ObjectAttr.storeInDict Builtin.ObjectAttr.newKeyGuard
  refine Z8z (Z80 (Z8z ?_))
  refine Zuf (s:={ s with toks:=s.toks+1 }) hod hex hde hns λh' o' es' ep' ho' Ut KQ V9 Kw hsb=>?_
  have hz:=Z7z V9 (Z77 hsz 1)
  refine Z8z (wpAny_lookBehind (s:={ s with heap:=h',toks:=s.toks+1+1 }) ho' (by rw[KQ];exact pastItsLine_dict (Nat.le_succ_of_le (Zlr hz hk))) (Z80 ?_))
  show QU () _
  have hda:a≠d:=λq=>nomatch (q▸hW:W d=.own id).symm.trans hWd
  exact h W _ (LeX.refl _ _) (I.upd (b:=d) (tk:=s.toks+1+1) hW (.inr hWd) hsb ⟨_,ho'⟩ ⟨some d,vs,(hsb.2 a hda).trans ho,hvs,Nat.succ_pos _,hWd,⟨_,Kw,MvR.upd hmm hv⟩,⟨o',ho',Ut,es',ep',KQ,hz⟩⟩ (Zgf (Nat.succ_pos _)))
theorem Z43{f:Addr}{q:String}{pl:Sem Bool}{Q:Value×List Value→Shared→Prop}(he:σ.f id=some (.exc c k cx m))(hm:m n=none)(hq:Zcs.lookup (c,n)=some q)(hf:fnA q=some f)(I:Inv X W σ s){v:Value}(hv:ZE W v (.ref id))(h:Q (.ref f,[v]) s):wpAny (model pp X.w) A (getMethod v (Str.ofString n) pl) Q E s:=by
 obtain⟨a,rfl,hW,od,vs,ho,Z,hd⟩:=I.exc hv he
 obtain⟨C,f',hC,hf',mk⟩:=X.ok.RZ hq
 obtain⟨ck,Z⟩:=X.ok.exc hC
 rw[←Zan hC]at mk ck
 rw[←Z8q (hf.symm.trans hf')]at mk
 cases od with
 |none=>exact Zux I.kin ck (C:=QF c) (od:=none) ⟨ho,rfl,rfl,trivial⟩ mk.find mk.ty rfl h
 |some d=>
  obtain⟨Z,hWd,R⟩:=hd
  obtain⟨ms,hns,hmm⟩:=R.ns
  obtain⟨od,hod,Z⟩:=R.sz
  have L:=Zd1 (n:=Str.ofString n) hns hod
  have e0:ms (Str.ofString n)=none:=(hm▸hmm n:MvR W none (ms (Str.ofString n)))
  rw[e0]at L
  exact Zux I.kin ck (C:=QF c) (od:=some od) ⟨ho,rfl,rfl,hod⟩ mk.find mk.ty (by show(lookIn _ od).map _=_;rw[L];rfl) h
noncomputable def Zuo(σ:St)(c:String):St:=σ.new (.exc c 0 (true,true) λZ=>none)
theorem Inv.newExc(I:Inv X W σ s)(c:String)(rest:List Value):Inv X (ZN W (s.heap.objs.size+1) (.own σ.n)) (Zuo σ c) { s with heap:=(s.heap.push { cls:=.type "tuple",data:=.seq rest.toArray }).push (Y3 (QF c) s.heap.objs.size) }∧Le W (ZN W (s.heap.objs.size+1) (.own σ.n)):=by
 have hf:=I.free (a:=s.heap.objs.size+1) (Nat.le_succ _)
 have k:∀b o,s.heap.get? b=some o→((s.heap.push { cls:=.type "tuple",data:=.seq rest.toArray }).push (Y3 (QF c) s.heap.objs.size)).get? b=some o:=λb o e=>Z8x _ (Z8x _ e)
 have ha:((s.heap.push { cls:=.type "tuple",data:=.seq rest.toArray }).push (Y3 (QF c) s.heap.objs.size)).get? (s.heap.objs.size+1)=some (Y3 (QF c) s.heap.objs.size):=by
  have:=Z8y (s.heap.push { cls:=.type "tuple",data:=.seq rest.toArray }) (o:=Y3 (QF c) s.heap.objs.size) rfl
  rwa[Heap.size_push]at this
 exact⟨(I.keeps (tk:=s.toks) k).newObj (o:=.exc c 0 (true,true) λZ=>none) hf ⟨none,_,ha,⟨rfl,λZ=>rfl,λZ=>rfl⟩,rfl,λZ=>rfl⟩,Yr hf⟩
end
end
end PL
end
section
open PySem PySem.W PyProof.Rows PySem.Calls
open scoped Classical
set_option maxRecDepth 100000
namespace PL
section
theorem Z0n:typeOf (.builtin "Exception.__init__")=pure (.type "wrapper_descriptor"):=by show builtinType _=_;rw[builtinType_eq_fast];kernel_rfl
theorem Ztb:Slot "wrapper_descriptor" "__get__" "wrapper_descriptor.__get__":=.of (owner:="wrapper_descriptor") (n:="__get__") (by rw[typeLookup_type,builtinLookup_eq_fast];kernel_rfl) (by decide +kernel) (by decide +kernel) (by decide +kernel)
 (by first | exact .inl (by decide +kernel) | exact .inr (by decide +kernel)) (by rw[isSubtype_type];kernel_rfl)
theorem Zw9:entryFor table "wrapper_descriptor.__get__"=some Builtin.«wrapper_descriptor.__get__»:=entryFor_of_tree (by kernel_rfl)
theorem Z0o(a b c:Value):argsOk "wrapper_descriptor.__get__" ⟨[a,b,c],[]⟩:=by unfold argsOk;kernel_rfl
theorem Z6t:".".intercalate ("Exception.__init__".cutAt '.').dropLast="Exception":=by decide +kernel
theorem Z6s:("Exception.__init__".cutAt '.').getLastD ""="__init__":=by decide +kernel
noncomputable abbrev Zm1(x:Addr):Obj:={ cls:=.type "method-wrapper",data:=.fields #[.builtin "Exception.__init__",.ref x] }
section
variable{prog:Program}{w:World}{A:Around}{E:Value→Shared→Prop}{h:Heap}{g:Array GenState}{d:Drawn}{t:Nat}{os:OsState}
theorem Z3i{x C:Addr}{Q:PySem.Fin→Shared→Prop}(hx:Looks (model prog w) h (isInstance (.ref x) (.type "Exception")) true)(hq:Q (.done (.ret (.ref h.objs.size))) ⟨h.push (Zm1 x),g,d,t,os⟩):
  wpAny (model prog w) A (Builtin.«wrapper_descriptor.__get__» ⟨[.builtin "Exception.__init__",.ref x,.ref C],[]⟩) Q E ⟨h,g,d,t,os⟩:=by
 unfold Builtin.«wrapper_descriptor.__get__»
 refine Z8z (wpAny_of_eq (a:=(Value.builtin "Exception.__init__",some (Value.ref x),some (Value.ref C))) rfl ?_)
 refine Z8z ?_
 refine Z8z (wpAny_of_eq (a:=(Str.ofString "__init__",Value.type "Exception")) ?_ (Z8z (hx.at (Z80 ?_))))
 ·show(pure (Str.ofString (("Exception.__init__".cutAt '.').getLastD ""),Value.type (".".intercalate ("Exception.__init__".cutAt '.').dropLast)):Sem (Str×Value))=_
  rw[Z6t,Z6s]
 ·unfold newFields
  refine Z8z (wpAny_newObj_type (Z80 ?_) ?_)
  ·exact hq
  ·exact Z7z (by decide:2≤16000+2) (Z77 (Z1 (Z70 _)) 2)
theorem Ztg{so D x C:Addr}{l₀ l:List Value}{K:Frag}{name:Str}{tk:Tok}{Q:PySem.Fin→Shared→Prop}
  (hso:h.get? so=some { cls:=.type "super",dict:=none,data:=.fields #[.ref D,.ref x,.ref C],slots:=#[] }) (hno:Looks (model prog w) h (opaqueClassAbove (.ref C)) none)
  (hC:Looks (model prog w) h (mroOf (.ref C)) l₀) (hl:(l₀.dropWhile (· != .ref D)).drop 1=l) (X:K.In h)
  (hf:alongIn K name l=some (some (.builtin "Exception.__init__"))) (hx:Looks (model prog w) h (isInstance (.ref x) (.type "Exception")) true) (hxC:x≠C) (hn:(name==("__class__":Str))=false)
  (hq:Q (.done (.ret (.ref h.objs.size))) ⟨h.push (Zm1 x),g,d,t,os⟩):
  wpAny (model prog w) A (Builtin.«super.__getattribute__» ⟨[.ref so,.str name tk],[]⟩) Q E ⟨h,g,d,t,os⟩:=by
 have hlk:=Ztb.lookup
 have hne:(Value.ref x==Value.ref C)=false:=by simp[hxC]
 have hTf:(⟨h,g,d,t,os⟩:Shared).TypeIs (.builtin "Exception.__init__") "wrapper_descriptor":=Z0n
 have hdt:({ cls:=.type "super",dict:=none,data:=.fields #[.ref D,.ref x,.ref C],slots:=#[] }:Obj).data=.fields #[.ref D,.ref x,.ref C]:=rfl
 have f0:(#[.ref D,.ref x,.ref C]:Array Value)[0]? = some (.ref D):=rfl
 have f1:(#[.ref D,.ref x,.ref C]:Array Value)[1]? = some (.ref x):=rfl
 have f2:(#[.ref D,.ref x,.ref C]:Array Value)[2]? = some (.ref C):=rfl
 unfold Builtin.«super.__getattribute__»
 repeat (first
  | (with_reducible refine wpAny_field hso hdt f0 ?_) | (with_reducible refine wpAny_field hso hdt f1 ?_) | (with_reducible refine wpAny_field hso hdt f2 ?_)
  | (with_reducible refine ks_wpAny_notOpaque hno ?_)
  | (with_reducible refine Looks.at hC ?_;rw[hl])
  | (refine ks_forIn_along X (λZ Z=>rfl) rfl ?_ hf)
  | (with_reducible refine wpAny_typeOf hTf ?_)
  | (with_reducible refine wpAny_call_entry Ztb hTf Zw9 (Z3i hx ?_) (Z0o _ _ _))
  | (with_reducible refine⟨_,rfl,?_⟩)
  | (simp only[hn,hne,Bool.or_false,Bool.false_eq_true,if_false])
  |wp_step
  |dsimp only)
 all_goals exact hq
theorem Zke{so D x C:Addr}{l₀ l:List Value}{K:Frag}{name:Str}{pl:Sem Bool}{Q:Value×List Value→Shared→Prop}
  (hso:h.get? so=some { cls:=.type "super",dict:=none,data:=.fields #[.ref D,.ref x,.ref C],slots:=#[] }) (hno:Looks (model prog w) h (opaqueClassAbove (.ref C)) none)
  (hC:Looks (model prog w) h (mroOf (.ref C)) l₀) (hl:(l₀.dropWhile (· != .ref D)).drop 1=l) (X:K.In h)
  (hf:alongIn K name l=some (some (.builtin "Exception.__init__"))) (hx:Looks (model prog w) h (isInstance (.ref x) (.type "Exception")) true) (hxC:x≠C) (hn:(name==("__class__":Str))=false)
  (hq:Q (.ref h.objs.size,[]) ⟨h.push (Zm1 x),g,d,t+1,os⟩):
  wpAny (model prog w) A (getMethod (.ref so) name pl) Q E ⟨h,g,d,t,os⟩:=by
 have hlk:=PySem.F.ks_slot_super_ga.lookup
 have GN:=PySem.F.ks_canon_super_ga
 have hT:∀t',(⟨h,g,d,t',os⟩:Shared).TypeIs (.ref so) "super":=λZ=>⟨_,hso,rfl⟩
 unfold getMethod
 refine Z8z (wpAny_specialOf (hT _) hlk ?_)
 show wpAny _ _ (if(Manifest.canonical "super.__getattribute__" != "object.__getattribute__")=true then _ else _) _ _ _
 rw[if_pos GN]
 unfold getAttr getAttrBy
 refine Z8z (Z8z (wpAny_mkText (wpAny_holding (Z8z (wpAny_typeOf (hT _) (Z8z (wpAny_of_eq hlk ?_)))))))
 show wpAny _ _ (getAttrByItsOwn (.ref so) (.str name t) (.type "super") (.builtin "super.__getattribute__") true false) _ _ _
 unfold getAttrByItsOwn hookBefore callGetattribute boundAndCalled
 refine Z8z (wpAny_of_eq (show(if onTheHeap (.type "super")then typeLookup (.type "super") "__getattr__" else pure none)=pure none from rfl) ?_)
 refine Z8z (wpAny_attempt (wpAny_holding ?_))
 show wpAny _ _ (bindSpecial (.builtin "super.__getattribute__") (.ref so) >>= _) _ _ _
 refine Z8z (wpAny_of_eq (PySem.F.ks_slot_super_ga.bind _) ?_)
 refine wpAny_mono (Q:=λv s'=>v=.ref h.objs.size∧s'=⟨h.push (Zm1 x),g,d,t+1,os⟩) (E:=λZ Z=>False)
  (wpAny_call_entry PySem.F.ks_slot_super_ga (hT _) PySem.F.ks_entry_super_ga (Ztg hso hno hC hl X hf hx hxC hn ⟨_,rfl,rfl,rfl⟩) (PySem.F.ks_gaArgs_super _ _)) (λv s' hv=>?_) λZ Z z=>z.elim
 obtain⟨rfl,rfl⟩:=hv
 exact Z80 (Z80 hq)
theorem Zuw{M:Model}{mw x:Addr}(e:h.get? mw=some (Zm1 x)):Looks M h (keeperOf (.ref mw)) .machine:=by
 intro A Q E s k q
 unfold keeperOf
 exact Z8z (wpAny_load (k _ _ e) (Z80 q))
theorem Z14{mw x C:Addr}{K:Frag}{ox:Obj}{vs:Array Value}{rest:List Value}{R:Result→Shared→Prop}(X:K.In h)(e:XC K C)(hmw:h.get? mw=some (Zm1 x))(hx:h.get? x=some ox)(hcl:ox.cls=.ref C)(hd:ox.data=.fields vs)(h0:0<vs.size)
  (hsz:rest.length≤sizeLine)
  (hq:R (.ok (.ret .none)) ⟨(h.push { cls:=.type "tuple",data:=.seq rest.toArray }).update x (Obj.mapFields (·.setIfInBounds 0 (.ref h.objs.size))),g,d,t,os⟩):
  codeAny (model prog w) A (.call (.ref mw) ⟨rest,[]⟩) R ⟨h,g,d,t,os⟩:=by
 have Fc:=PySem.F.excCall_Exception
 have Y:=Jg (M:=model prog w) X e
 obtain⟨oc,od',cd,sl,hC,e2,e4⟩:=Y.obj
 refine codeAny_of_tree ?_
 show wpAny _ A.in1 (callAny (.ref mw) ⟨rest,[]⟩) _ _ _
 unfold callAny
 refine Z8z (wpAny_load hmw ?_)
 show wpAny _ _ (do checkBoundCall "Exception.__init__" ⟨.ref x::rest,[]⟩;return ←again (.builtin "Exception.__init__" ⟨.ref x::rest,[]⟩)) _ _ _
 refine Z8z ?_
 unfold checkBoundCall
 rw[Fc.initRow,Fc.initKind]
 show wpAny _ _ (Bind.checkArgs "Exception.__init__" ⟨.positional,"*","Exception",.self,[⟨"args",.varPos,false⟩]⟩ ⟨.ref x::rest,[]⟩) _ _ _
 have LT:Looks (model prog w) h (typeOf (.ref x)) (.ref C):=hcl▸(Looks.ld hx).andThen .now
 have LN:Looks (model prog w) h (typeNameWhole (.ref C)) cd.name.toString:=((Looks.ld (part:=none) hC).andThen .now).andThen .now
 have LP:Looks (model prog w) h (Bind.printed "*" true ⟨.positional,"*","Exception",.self,[⟨"args",.varPos,false⟩]⟩ (some (.ref x))) cd.name.toString:=by
  unfold Bind.printed Bind.receiverType
  rw[if_neg (by decide)]
  exact LT.andThen (LN.andThen .now)
 unfold Bind.checkArgs
 dsimp only
 refine Z8z (Looks.at LP (Z8z (m:=Bind.printed "Exception" false _ _) (printed_name (by decide) ?_)))
 show wpAny _ _ (Sem.onRaise (Bind.check _ _ "Exception" _ []) _) _ _ _
 rw[check_varPos]
 refine Z80 (Z80 (And.intro (Code.quiet_builtin _ (by decide +kernel)) (codeAny_builtin Fc.initEntry ?_)))
 show wpAny _ _ (Builtin.«BaseException.__init__» ⟨.ref x::rest,[]⟩) _ _ _
 unfold Builtin.«BaseException.__init__»
 dsimp only
 rw[if_neg (by simp)]
 unfold newTuple Builtin.BaseException.bexcPut
 have he₁:=Z8x (h:=h) { cls:=.type "tuple",data:=.seq rest.toArray } hx
 refine Z8z (wpAny_newObj_type (Z8z (Z8z (wpAny_field he₁ hd (x:=vs[0]) (Z8t h0) (Z8z (wpAny_setField he₁ hd h0 ?_))))) (by show rest.toArray.size≤sizeLine;rw[List.size_toArray];exact hsz))
 cases vs[0]with
 |ref _=>exact wpAny_letGo (Z80 hq)
 |_=>exact Z80 (Z80 hq)
end
end
end PL
end
section
open PySem PySem.SeqAt PySem.W
open scoped Classical
namespace PL
section
section
variable{X:Cx}{W W':Wd}{σ σ' σ1 σ2:St}{s s':Shared}{A:Around}{E:Value→Shared→Prop}{md:Bool}{j:Nat}{ν:Fm}{env:Env}{own:List Addr}{id k:Nat}{c n q:String}{cx:Bool×Bool}{mm:Fm}{r:ZA}{es:List PE}{vs:List ZA}
theorem Inv.Gj(I:Inv X W σ s){a:Addr}{h':Heap}{tk:Nat}{o:ZK}(hW:W a=.own id)(ho:σ.f id=some o)(hk:∀b ob,b≠a→s.heap.get? b=some ob→h'.get? b=some ob)(hr:XP X W h' a id o):Inv X W σ { s with heap:=h',toks:=tk }:=
 {base:=I.reb h' tk,keep:=I.keep,uq:=I.uq,fid:=I.fid
  tag:=λb=>Classical.byCases (λe:b=a=>by rw[e,hW];exact⟨o,ho,hr⟩) λe=>(I.tag b).YI (LeX.refl [] W) ZG.nil (hk b · e) (λic hi d hd o q=>hk d o (λz=>nomatch (z▸hd:W a=.dic ic).symm.trans hW) q) (λZ Z Z q=>q) (Z70 _) λZ Z Z z=>z }
theorem Zll{a:Addr}{K:Frag}(R:K8 W s.heap a id c k cx mm):∃od vs hod,s.heap.get? a=some { cls:=.ref (QF c),dict:=od,data:=.fields vs }∧InstAt s.heap a { cls:=.ref (QF c),dict:=od,data:=.fields vs } (QF c) hod:=by
 obtain⟨od,vs,ho,Z,hd⟩:=R
 cases od with
 |none=>exact⟨none,vs,none,ho,ho,rfl,rfl,trivial⟩
 |some d=>
  obtain⟨Z,Z,R⟩:=hd
  obtain⟨o,hod,Z⟩:=R.sz
  exact⟨some d,vs,some o,ho,ho,rfl,rfl,hod⟩
theorem Rd(QQ:ν "self"=some (.ref id))(he:σ.f id=some (.exc c k cx mm))(ht:Zh5.lookup c=some q)(hes:YK md j ν es σ vs σ1)(hc:QA md j q (.ref id::vs) σ1 r σ'):VJ md "StoryFault" j ν σ q "__init__" es r σ':=.mk λ{X x env own W A s E Q f0 fd body} SUP hf C hq=>by
 obtain⟨Cc,f2,hPc,hPf,sf⟩:=X.ok.RY ht
 have hcl:=Zan hPc
 obtain⟨L,mL,hL,hnL,JP⟩:=C.frm.loc
 obtain⟨V4,Z,JA⟩:=JP "self" _ (by show env.scope.names.lookup _=_;rw[SUP.scope];exact SUP.sup.self) QQ
 obtain⟨a,rfl,hW,R⟩:=C.inv.exc JA he
 obtain⟨od,vs',Z,ho,Z⟩:=Zll (K:=X.K) R
 refine Zga SUP hf C (λ{cv} hcv=>hcv.elim λb hb=>hb.1.trans (Z81 _ (C.inv.uniq hb.2 hW))) QQ ho rfl (λc e=>nomatch e) (by rw[hcl];exact sf.mro) λpl xs p W1 h' so hm hfa l1 I1 so' ho' hva=>?_
 obtain⟨a1,e1,Z,R1⟩:=I1.exc hva he
 rw[←Zb0 e1]at R1
 obtain⟨od1,vs1,hod,ho1,IA⟩:=Zll (K:=X.K) R1
 have e2:({ cls:=.ref (QF c),dict:=od1,data:=.fields vs1 }:Obj)={ cls:=.ref (QF c),dict:=od,data:=.fields vs' }:=Z8q (ho1.symm.trans ho')
 refine Zkf hm hfa hes (C.to l1 I1) so' (e2▸IA) hva (hcl.symm▸sf) λW2 cvs s2 l2 I2 hv2=>?_
 exact hc.run hPf (((C.room.le l1).le l2).mono (Nat.le_succ _)) I2 hv2 λW' v s' l I' hv'=>hq W' v s' ((l1.trans l2).trans l) I' hv'
theorem Rf(QQ:ν "self"=some (.ref id))(he:σ.f id=some (.exc c k cx mm))(ht:Zcu.contains c=true)(hes:YK md j ν es σ vs σ1)(he1:σ1.f id=some (.exc c k cx mm))(hvl:vs.length≤100):VJ md "HeapError" j ν σ "BaseException.__init__" "__init__" es .none σ1:=.mk λ{X x env own W A s E Q f0 fd body} SUP hf C hq=>by
 obtain⟨Cc,hPc,Ui,UL⟩:=X.ok.UT ht
 have hcl:=Zan hPc
 obtain⟨ck,Z⟩:=X.ok.exc hPc
 obtain⟨L,mL,hL,hnL,JP⟩:=C.frm.loc
 obtain⟨V4,Z,JA⟩:=JP "self" _ (by show env.scope.names.lookup _=_;rw[SUP.scope];exact SUP.sup.self) QQ
 obtain⟨a,rfl,hW,R⟩:=C.inv.exc JA he
 obtain⟨od,vs',Z,ho,Z⟩:=Zll (K:=X.K) R
 refine Zga SUP hf C (λ{cv} hcv=>hcv.elim λb hb=>hb.1.trans (Z81 _ (C.inv.uniq hb.2 hW))) QQ ho rfl (λc e=>nomatch e) (by rw[hcl];exact UL) λpl xs p W1 h' so hm hfa l1 I1 so' ho' hva=>?_
 obtain⟨a1,e1,Z,R1⟩:=I1.exc hva he
 rw[←Zb0 e1]at R1
 obtain⟨od1,vs1,hod,ho1,IA⟩:=Zll (K:=X.K) R1
 have KX1:=I1.kin
 unfold ks_superIn at Ui
 cases hc:clsIn X.K Cc with
 |none=>rw[hc]at Ui;exact nomatch Ui
 |some cd=>
 rw[hc]at Ui
 rw[←hcl]at hc ck
 obtain⟨hh,g,dr,tk,os⟩:=s
 have hx:Looks (model pp X.w) h' (isInstance (.ref a) (.type "Exception")) true:=IA.type.andThen ((Jg KX1 ck).sub _ _ (Qv (λZ q=>nomatch q) (by decide +kernel)))
 refine Zke (h:=h') (x:=a) (C:=QF c) so' (by rw[hcl];exact looks_opaque KX1 X.ok.opq) (l₀:=cd.mro) (λA Q E s kp' qq=>Z8z ((looks_clsIn KX1 hc) A _ E s kp' (Z80 qq))) rfl KX1 Ui hx (ks_ne KX1 IA hc) hm ?_
 obtain⟨I2,l2⟩:=I1.alloc (o:=Zm1 a) (v:=none) (tk+1) rfl trivial
 refine Zwg (P:=λh=>h.get? h'.objs.size=some (Zm1 a)) (λh e=>⟨_,.inr (.inl rfl),Zuw e⟩) (Zo hfa) (Jm hes hfa (C.to (l1.trans l2) I2) λW3 cvs s3 l3 I3 hv3=>?_)
 have hmw:=(I3.imm (Qg (Zi ..) l3) (Q2 λZ Z h=>nomatch h)).1
 refine⟨hmw,?_⟩
 have R0:=hva.mono (l2.trans l3)
 obtain⟨a3,e3,hW3,R3⟩:=I3.exc R0 he1
 rw[←Zb0 e3]at R3 hW3
 obtain⟨od3,vs3,ho3,⟨hz3,hc3,hr3⟩,hd3⟩:=R3
 have hsz:cvs.length≤sizeLine:=by rw[hv3.length];exact Z1 (Z7z hvl (by decide))
 obtain⟨hh3,g3,dr3,tk3,os3⟩:=s3
 refine wpAny_call (Z14 I3.kin ck hmw ho3 rfl rfl (by rw[hz3];decide) hsz ?_)
 have k3:∀b o,b≠a→hh3.get? b=some o→((hh3.push { cls:=.type "tuple",data:=.seq cvs.toArray }).update a (Obj.mapFields (·.setIfInBounds 0 (.ref hh3.objs.size)))).get? b=some o:=λb o hb e=>(Heap.get?_update_other _ _ (Ne.symm hb)).trans (Z8x _ e)
 have hat:((hh3.push { cls:=.type "tuple",data:=.seq cvs.toArray }).update a (Obj.mapFields (·.setIfInBounds 0 (.ref hh3.objs.size)))).get? a=some { cls:=.ref (QF c),dict:=od3,data:=.fields (vs3.setIfInBounds 0 (.ref hh3.objs.size)) }:=Heap.get?_update_self _ (Z8x _ ho3) rfl
 refine hq W3 _ _ ((l1.trans l2).trans l3) (I3.Gj (tk:=tk3) hW3 he1 k3 ⟨od3,_,hat,⟨by rw[Array.size_setIfInBounds];exact hz3,λz=>by rw[Array.getElem?_setIfInBounds_ne (by decide)];exact hc3 z,λz=>by rw[Array.getElem?_setIfInBounds_ne (by decide)];exact hr3 z⟩,?_⟩) (show ZE W3 .none .none from rfl)
 cases od3 with
 |none=>exact hd3
 |some d=>exact⟨hd3.1,hd3.2.1,hd3.2.2.YI (LeX.refl [] W3) ZG.nil λo e=>k3 d o (λz=>nomatch (z▸hd3.2.1:W3 a=.dic id).symm.trans hW3) e⟩
end
end
section
section
variable{X:Cx}{W W':Wd}{σ σ' σ1 σ2:St}{s s':Shared}{A:Around}{E:Value→Shared→Prop}{Q:Value→Shared→Prop}{md:Bool}{j:Nat}{ν:Fm}{env:Env}{own:List Addr}{id k:Nat}{c n q:String}{cx:Bool×Bool}{mm:Fm}{r:ZA}{es:List PE}{vs:List ZA}
theorem Z5s(hi:Zct.lookup c=some q)(h:QA md j q (.ref σ.n::vs) (Zuo σ c) .none σ')(hA:AOK X md W (2*j+1) A)(I:Inv X W σ s){cvs:List Value}(hv:ZF W cvs vs)(hl:vs.length≤100)(hq:Pst X W σ' (.ref σ.n) Q):wpAny (model pp X.w) A (call (.ref (QF c)) cvs) Q E s:=by
 obtain⟨a,f,hCa,hf,mk⟩:=X.ok.DZ hi
 obtain⟨ck,hg⟩:=X.ok.exc hCa
 rw[←Zan hCa]at mk ck
 obtain⟨I2,l2⟩:=I.newExc c cvs
 have KX:=I.kin
 have hsz:cvs.length≤sizeLine:=by rw[hv.length];exact Z1 (Z7z hl (by decide))
 obtain⟨hh,g,d,t,os⟩:=s
 refine wpAny_call (Z68 (Jg KX ck) (looks_findIn KX mk.find) hsz (λself=>bind_fn KX self mk.ty) ?_)
 refine h.run hf ((AOK.type hA).le l2) I2 ⟨.refs (Zi ..),hv.mono l2⟩ λW' v s' l I' hv'=>?_
 rw[hv'.none]
 exact⟨rfl,hq W' _ s' (l2.trans l) I' (.refs ((l _ List.not_mem_nil (Zmr (Zi ..))).trans (Zi ..)))⟩
end
section
variable{md:Bool}{j:Nat}{ν ν':Fm}{σ σ1 σ2 σ3 σ4:St}{x y z w v:ZA}{a b c e t o i l h s:PE}{es src ifs:List PE}{us vs ws xs ys:List ZA}{n m f q:String}{r:ZA}{id k:Nat}{cl:String}{cx:Bool×Bool}{mm:Fm}
theorem Z5w(hi:Zct.lookup cl=some q)(h:YK md j ν es σ vs σ1)(hl:vs.length≤100)(hc:QA md j q (.ref σ1.n::vs) (Zuo σ1 cl) .none σ2):EvM md j (.cls cl es) ν σ (.ref σ1.n) σ2:=.plain (λh=>Zcf h) λ{X x env own W A st E Q} hf c hq=>Zaq hf λp xs ps hgl h2=>by
 obtain⟨a,f,hCa,Z,Z⟩:=X.ok.DZ hi
 obtain⟨ck,hm⟩:=X.ok.exc hCa
 have e:=Zan hCa
 rw[←e]at ck hm
 exact PyProof.Rows.Call_Name rfl (Zun c.frm c.inv hgl hm (Zfh (K:=X.K) (.inr ⟨_,rfl,ck.keep⟩) (Zo h2) (Jm h h2 c λW1 cvs s1 l1 I1 hv=>⟨I1.kin,Z5s hi hc (c.room.le l1) I1 hv hl (hq.le l1)⟩)))
theorem Zrb(h:EvM md j e ν σ (.ref id) σ1)(hf:σ1.f id=some (.exc cl k cx mm))(hm:mm n=some v)(ht:Ja.contains (cl,n)=true):EvM md j (.att e n) ν σ v σ1:=.plain (λh=>Z9 h λZ Z Z Z Z Z=>rfl) λ{X x env own W A st E Q} hf' c hq=>Z9 hf' λu m p h2=>by
 have ho:=(ZC h2).1
 have h3:=(ZC h2).2
 obtain rfl:=(Z84 ho).symm
 rw[arm_eval_Attribute,Za9 (ZC h3).1]
 refine Z8z (h.val (ZC h3).2 c λW1 v s1 l1 I1 hv=>Z8z (wpAny_standAt (Z8z (wpAny_holding (Z21 hf hm ht I1 hv (λW2 u s2 l2 I2 hu=>?_) _)))))
 exact Z8z (wpAny_letTemporaryGo (Z80 (hq W2 u s2 (l1.trans l2) I2 hu)))
theorem Z2m(ho:EvM md j o ν σ (.ref id) σ1)(hf:σ1.f id=some (.exc cl k cx mm))(hm:mm m=none)(hq:Zcs.lookup (cl,m)=some q)(hes:YK md j ν es σ1 vs σ2)(hc:QA md j q (.ref id::vs) σ2 v σ3)(hfa:(fnA q).isSome=true:=by kernel_rfl):EvM md j (.mth o m es) ν σ v σ3:=.plain (λh=>Zha h) λ{X x env own W A st E Q} hf' c hQ=>Zhb hf' λu xs ap p hs YX hfo h2 hlen=>
 (Option.isSome_iff_exists.mp hfa).elim λf hfa=>(Zq1 hfa).elim λF hF=>Zcx hs (Zo h2) hlen YX (ho.val hfo c λW1 v1 s1 l1 I1 hv=>Z43 hf hm hq hfa I1 hv (Zfh (K:=X.K) (.inr ⟨_,rfl,(X.ok.fnK hF).keep⟩) (Zo h2) (Jm hes h2 (c.to l1 I1) λW2 cvs s2 l2 I2 hvs=>⟨I2.kin,hc.call hfa ((c.room.le (l1.trans l2)).mono (Nat.le_succ _)) I2 ⟨hv.mono l2,hvs⟩ (hQ.le (l1.trans l2))⟩)))
theorem Zzy(he:EvM md j e ν σ v σ1)(ho:EvM md j o ν σ1 (.ref id) σ2)(hf:σ2.f id=some (.exc cl k cx mm))(hat:Ja.contains (cl,n)=true)(hk:k<100):StM md j (.sat o n e) ν σ .next ν (σ2.put id (.exc cl (k+1) cx (upd mm n v))):=.mk λ{X st env own W A s E Q} YN c hq=>Yh YN λts u sp h2=>by
 have h3:=(ZC h2).1
 have h4:=(ZC h2).2
 refine Qf (Q:=λts=>wpAny _ _ (exec (.Assign ts u sp) env) Q E s) h3 λtg h3=>Z9 h3 λov m p h3=>?_
 have hn:=(ZC h3).1
 have hs:=(ZC h3).2
 rw[Z84 hn]
 exact plainObj_wpAny_Assign_Attribute (he.val (ZC h4).1 c.c λW1 cv s1 l1 I1 hv=>ho.val hs (c.c.to l1 I1) λW2 cu s2 l2 I2 hu=>Z04 hf hat hk I2 hu (hv.mono l2) λW3 s' l3 I'=>(hq.le (Le.X ((l1.trans l2).trans l3))).next I' (c.frm.mono ((l1.trans l2).trans l3))) (Yt (ZC h4).2)
theorem Zjd{c:String}(hf:σ.f id=some (.exc c k cx mm))(h1:Zcu.contains c=true)(h2:Ja.contains (c,"what")=true)(hk:k<100):QA md (j+1) "HeapError.__init__" [.ref id,w] σ .none (σ.put id (.exc c (k+1) cx (upd mm "what" w))):=
 Zlt (dn:="HeapError") (ν:=upd (upd (λZ=>none) "self" (.ref id)) "what" w) (by kernel_rfl) (e:=(37,Zbo)) (by kernel_rfl) rfl
  (Zwm (Rf (c:=c) rfl hf h1 (.cons (Zb rfl) (.nil _)) hf (Z78 rfl)) (Qh (Zzy (Zb rfl) (Zb rfl) hf h2 hk)).bd)
theorem Zrx{x:ZA}(hf:σ.f id=some (.exc "StoryFault" 0 cx λZ=>none)):QA md (j+2) "StoryFault.__init__" [.ref id,w,x] σ .none (σ.put id (.exc "StoryFault" 2 cx (upd (upd (λZ=>none) "what" w) "row" x))):=by
 have:=Zlt (md:=md) (j:=j+1) (σ:=σ) (q:="StoryFault.__init__") (vs:=[.ref id,w,x]) (fl:=.next) (dn:="StoryFault") (ν:=upd (upd (upd (λZ=>none) "self" (.ref id)) "what" w) "row" x) (by kernel_rfl) (e:=(78,Za5)) (by kernel_rfl) rfl
  (Zwm (Rd (c:="StoryFault") rfl hf (by kernel_rfl) (.cons (Zb rfl) (.nil _)) (Zjd hf (by kernel_rfl) (by kernel_rfl) (by decide))) (Qh (Zzy (Zb rfl) (Zb rfl) (Zs ..) (by kernel_rfl) (by decide))).bd)
 have e:(σ.put id (.exc "StoryFault" 1 cx (upd (λZ=>none) "what" w))).put id (.exc "StoryFault" 2 cx (upd (upd (λZ=>none) "what" w) "row" x))=σ.put id (.exc "StoryFault" 2 cx (upd (upd (λZ=>none) "what" w) "row" x)):=by
  show(⟨_,_⟩:St)=⟨_,_⟩
  congr 1
  funext i
  by_cases q:i=id
  ·rw[if_pos q,if_pos q]
  ·rw[if_neg q,if_neg q];exact if_neg q
 exact e▸this
end
end
end PL
end
section
open PySem PySem.W PyProof.Rows
open scoped Classical
namespace PL
section
structure XE where
 id:Nat
 c:String
 k:Nat
 cx:Bool×Bool
 m:Fm
def XE.of(x:XE)(X:Cx)(W:Wd)(σ:St)(a:Addr):Prop:=Exc X W σ a x.id x.c x.k x.cx x.m
def PsX(X:Cx)(W:Wd)(σ':St)(x:XE)(E:Value→Shared→Prop):Prop:=∀W' a s',Le W W'→Inv X W' σ' s'→x.of X W' σ' a→Fly W' s'.heap a→E (.ref a) s'
structure RxE(md:Bool)(j:Nat)(e:PE)(ν:Fm)(σ:St)(x:XE)(σ':St):Prop where
 run:∀{X:Cx}{t:Expr}{env:Env}{own:List Addr}{W:Wd}{A:Around}{s:Shared}{E:Value→Shared→Prop}{Q:Value→Shared→Prop},e env.scope t=true→Cfg X md j W env own ν σ A s→PsX X W σ' x E→wpAny (model pp X.w) A (eval t env) Q E s
def KY(X:Cx)(W:Wd)(env:Env)(own:List Addr)(ν':Fm)(σ':St)(x:XE)(E:Value→Shared→Prop):Prop:=∀W' a s',LeX own W W'→Inv X W' σ' s'→YT X W' env own ν'→x.of X W' σ' a→Fly W' s'.heap a→E (.ref a) s'
structure RxS(md:Bool)(j:Nat)(p:PS)(ν:Fm)(σ:St)(x:XE)(ν':Fm)(σ':St):Prop where
 run:∀{X:Cx}{t:Stmt}{env:Env}{own:List Addr}{W:Wd}{A:Around}{s:Shared}{E:Value→Shared→Prop}{Q:Flow→Shared→Prop},p env.scope t=true→YM X md j W env own ν σ A s→KY X W env own ν' σ' x E→wpAny (model pp X.w) A (exec t env) Q E s
structure RxB(md:Bool)(j:Nat)(ps:List PS)(ν:Fm)(σ:St)(x:XE)(ν':Fm)(σ':St):Prop where
 run:∀{X:Cx}{ts:List Stmt}{env:Env}{own:List Addr}{W:Wd}{A:Around}{s:Shared}{E:Value→Shared→Prop}{Q:Flow→Shared→Prop},JJ env.scope ps ts=true→YM X md j W env own ν σ A s→KY X W env own ν' σ' x E→wpAny (model pp X.w) A (execs ts env) Q E s
structure RxC(md:Bool)(j:Nat)(q:String)(vs:List ZA)(σ:St)(x:XE)(σ':St):Prop where
 run:∀{X:Cx}{W:Wd}{s:Shared}{A:Around}{cvs:List Value}{f:Addr}{R:Result→Shared→Prop},fnA q=some f→AOK X md W (2*j) A→Inv X W σ s→ZF W cvs vs→(∀W' a s',Le W W'→Inv X W' σ' s'→x.of X W' σ' a→Fly W' s'.heap a→R (.error (.ref a)) s')→
  codeAny (model pp X.w) A (.call (.ref f) ⟨cvs,[]⟩) R s
inductive Vr(md:Bool)(j:Nat)(ν:Fm):List PE→St→XE→St→Prop
 |here {e:PE} {es:List PE} {σ σ':St} {x:XE} (h:RxE md j e ν σ x σ'):Vr md j ν (e::es) σ x σ'
 |later {e:PE} {es:List PE} {σ σ1 σ':St} {v:ZA} {x:XE} (h:EvM md j e ν σ v σ1) (hs:Vr md j ν es σ1 x σ'):Vr md j ν (e::es) σ x σ'
section
variable{X:Cx}{W W':Wd}{σ σ' σ1:St}{s s':Shared}{A:Around}{E:Value→Shared→Prop}{md:Bool}{j:Nat}{ν:Fm}{env:Env}{own:List Addr}{x:XE}{es:List PE}{q:String}{vs:List ZA}
theorem PsX.le(h:PsX X W σ x E)(l:Le W W'):PsX X W' σ x E:=λW2 a s2 l2=>h W2 a s2 (l.trans l2)
theorem KY.le{ν':Fm}(h:KY X W env own ν' σ' x E)(l:LeX own W W'):KY X W' env own ν' σ' x E:=λW2 a s2 l2=>h W2 a s2 (l.trans l2)
theorem KY.toX(h:KY X W env own ν σ' x E)(F:YT X W env own ν):PsX X W σ' x E:=λW' a s' l I e f=>h W' a s' (Le.X l) I (F.mono l) e f
theorem RxC.call{f:Addr}{cvs:List Value}{Q:Value→Shared→Prop}(h:RxC md j q vs σ x σ')(hf:fnA q=some f)(hA:AOK X md W (2*j) A)(I:Inv X W σ s)(hv:ZF W cvs vs)(hq:PsX X W σ' x E):wpAny (model pp X.w) A (PySem.call (.ref f) cvs) Q E s:=
 wpAny_call (h.run hf hA I hv λW' a s' l I' e fl=>hq W' a s' l I' e fl)
theorem Dq(h:Vr md j ν es σ x σ'):∀{xs:List Expr}{W:Wd}{s:Shared}{pos:Pos}{Q:List Value→Shared→Prop},Q9 env.scope es xs=true→Cfg X md j W env own ν σ A s→PsX X W σ' x E→wpAny (model pp X.w) A (spliced (backTo pos (starEach xs env))) Q E s:=by
 induction h with
 |here h=>
  intro xs W s pos Q hf c hq
  refine Z2 (Q:=λxs=>wpAny _ _ (spliced (backTo pos (starEach xs env))) Q E s) hf λx r hf=>?_
  rw[Qj (ZC hf).1]
  exact Calls.spliced_cons (h.run (ZC (ZC hf).2).1 c hq)
 |later h _ ih=>
  intro xs W s pos Q hf c hq
  refine Z2 (Q:=λxs=>wpAny _ _ (spliced (backTo pos (starEach xs env))) Q E s) hf λx r hf=>?_
  rw[Qj (ZC hf).1]
  exact Calls.spliced_cons (h.val (ZC (ZC hf).2).1 c λW1 v s1 l1 I1 hv=>ih (ZC (ZC hf).2).2 (c.to l1 I1) (hq.le l1))
end
section
variable{md:Bool}{j:Nat}{ν ν' ν'':Fm}{σ σ1 σ2 σ3 σ':St}{x:XE}{a b c e t o i l h s:PE}{es:List PE}{us vs:List ZA}{n m f q:String}{v r:ZA}{id:Nat}{bl ol:List PS}
theorem Z3y(h:Vr md j ν es σ x σ'):RxE md j (.tup es) ν σ x σ':=⟨λ{X t env own W A st E Q} hf c hq=>Jd hf λxs k p h2=>PyProof.Rows.Tuple_ (Dq h (ZC h2).1 c hq)⟩
theorem Z31{fv:Value}(hb:BN f fv)(h:Vr md j ν es σ x σ'):RxE md j (.blt f es) ν σ x σ':=⟨λ{X t env own W A st E Q} hf c hq=>Zaq hf λp xs ps hg h2=>
 PyProof.Rows.Call_Name rfl (Zmw c.frm c.inv hg hb (Zfh (K:=X.K) hb.call (Zo h2) (Dq h h2 c hq)))⟩
theorem Z6x(h:YK md j ν es σ vs σ1)(hc:RxC md j f vs σ1 x σ2)(hg:Zff.contains f=true:=by kernel_rfl):RxE md j (.fn f es) ν σ x σ2:=⟨λ{X t env own W A st E Q} hf c hq=>Zaq hf λp xs ps hgl h2=>by
 obtain⟨a,ha,hm⟩:=X.ok.gf hg
 obtain⟨F,hF⟩:=Zq1 ha
 exact PyProof.Rows.Call_Name rfl (Zun c.frm c.inv hgl hm (Zfh (K:=X.K) (.inr ⟨a,rfl,(X.ok.fnK hF).keep⟩) (Zo h2) (Jm h h2 c λW1 cvs s1 l1 I1 hv=>⟨I1.kin,hc.call ha ((c.room.le l1).mono (Nat.le_succ _)) I1 hv (hq.le l1)⟩)))⟩
theorem Z08{cl:String}{k:Nat}{mm:Fm}(ho:EvM md j o ν σ (.ref id) σ1)(hf:σ1.f id=some (.inst cl k mm))(hes:YK md j ν es σ1 vs σ2)(hc:RxC md j q (.ref id::vs) σ2 x σ3)(hm:mm m=none:=by kernel_rfl)(hq:Zba.lookup (cl,m)=some q:=by kernel_rfl)(hfa:(fnA q).isSome=true:=by kernel_rfl):RxE md j (.mth o m es) ν σ x σ3:=⟨λ{X t env own W A st E Q} hf' c hQ=>Zhb hf' λu xs ap p hs YX hfo h2 hlen=>
 (Option.isSome_iff_exists.mp hfa).elim λf hfa=>Zcx hs (Zo h2) hlen YX (ho.val hfo c λW1 v1 s1 l1 I1 hv=>Z15 (.own hf hm hq hfa) I1 hv (Zfh (K:=X.K) (MV.own hf hm hq hfa).callee (Zo h2) (Jm hes h2 (c.to l1 I1) λW2 cvs s2 l2 I2 hvs=>⟨I2.kin,hc.call hfa ((c.room.le (l1.trans l2)).mono (Nat.le_succ _)) I2 ⟨hv.mono l2,hvs⟩ (hQ.le (l1.trans l2))⟩)))⟩
theorem Z32(h:RxE md j e ν σ x σ1):RxS md j (.asg n e) ν σ x ν σ1:=⟨λ{X st env own W A s E Q} hf c hq=>Yh hf λts u sp h2=>by
 have h3:=(ZC h2).1
 have h4:=(ZC h2).2
 refine Qf (Q:=λts=>wpAny _ _ (exec (.Assign ts u sp) env) Q E s) h3 λtg h3=>Ym h3 λm p h3=>?_
 exact wpAny_Assign_Name (h.run (ZC h4).2 c.c (hq.toX c.frm)) (Yt (ZC h4).1)⟩
theorem Zt6(h:RxE md j e ν σ x σ1):RxS md j (.exp e) ν σ x ν σ1:=⟨λ{X st env own W A s E Q} hf c hq=>Zds hf λu p h2=>by
 refine wpAny_Expr_any (h.run (ZC h2).1 c.c (hq.toX c.frm)) ?_ (Yt (ZC h2).2)
 unfold interactive
 rw[c.frm.kind];rfl⟩
theorem Z30(h:RxE md j e ν σ x σ1):RxS md j (.ret e) ν σ x ν σ1:=⟨λ{X st env own W A s E Q} hf c hq=>Ju hf λoe p h2=>
 Zj (Q:=λoe=>wpAny _ _ (exec (.Return oe p) env) Q E s) h2 (λq=>no q) λu hu=>wpAny_Return_some (h.run hu c.c (hq.toX c.frm))⟩
theorem Z09(h:EvM md j t ν σ (.bool true) σ1)(hb:RxB md j bl ν σ1 x ν' σ2):RxS md j (.ifs t bl ol) ν σ x ν' σ2:=⟨λ{X st env own W A s E Q} YN c hq=>Zev YN λu bs os p h2=>
 wpAny_If (h.te (ZC h2).1 c.c λW1 s1 l1 I1=>hb.run (ZC (ZC h2).2).1 (c.to l1 I1) (hq.le (Le.X l1)))⟩
theorem Z1a(h:EvM md j t ν σ (.bool false) σ1)(hb:RxB md j ol ν σ1 x ν' σ2):RxS md j (.ifs t bl ol) ν σ x ν' σ2:=⟨λ{X st env own W A s E Q} YN c hq=>Zev YN λu bs os p h2=>
 wpAny_If (h.te (ZC h2).1 c.c λW1 s1 l1 I1=>hb.run (ZC (ZC h2).2).2 (c.to l1 I1) (hq.le (Le.X l1)))⟩
theorem Z07{st:PS}{rest:List PS}(h1:StM md j st ν σ .next ν' σ1)(h2:RxB md j rest ν' σ1 x ν'' σ2):RxB md j (st::rest) ν σ x ν'' σ2:=⟨λ{X ts env own W A s E Q} hf c hq=>Z2 (Q:=λts=>wpAny _ _ (execs ts env) Q E s) hf λy r hf=>by
 show wpAny _ _ (do match ←exec y env with | .next=>execs r env | f=>pure f) _ _ _
 refine Z8z (h1.run (ZC hf).1 c λW1 fo s1 l1 I1 hr=>?_)
 obtain⟨rfl,F1⟩:=hr
 exact h2.run (ZC hf).2 (c.step l1 I1 F1) (hq.le l1)⟩
theorem Zor{st:PS}{rest:List PS}(h1:RxS md j st ν σ x ν' σ1):RxB md j (st::rest) ν σ x ν' σ1:=⟨λ{X ts env own W A s E Q} hf c hq=>Z2 (Q:=λts=>wpAny _ _ (execs ts env) Q E s) hf λy r hf=>by
 show wpAny _ _ (do match ←exec y env with | .next=>execs r env | f=>pure f) _ _ _
 exact Z8z (h1.run (ZC hf).1 c hq)⟩
theorem YM.leave{X:Cx}{W W1:Wd}{env:Env}{own:List Addr}{A:Around}{s s1:Shared}{R:Result→Shared→Prop}{a:Addr}(c:YM X md j W env own ν σ A s)(l:LeX own W W1)(I:Inv X W1 σ' s1)(F:YT X W1 env own ν')(xa:x.of X W1 σ' a)(hF:Fly W1 s1.heap a)
  (h:∀s',Inv X W1 σ' s'→Fly W1 s'.heap a→R (.error (.ref a)) s'):Zzt (model pp X.w) A env R (.ref a) s1:=by
 obtain⟨rest,h1,h2,h3⟩:=c.top
 obtain⟨l0,hl,hs⟩:=c.stk l F.toFrm.frP
 rw[h1]at hl
 rw[←Z8q hl]at hs
 exact Zsi h1 rfl h2 I hs xa hF λs' I' t'=>h s' I' (.inr t')
theorem Z1c{e:Addr×Fn}(hq:fnOf q=some e)(hb:Zv e.2.params vs (λZ=>none)=some ν)(h:RxB md j e.2.body ν σ x ν' σ'):RxC md (j+1) q vs σ x σ':=⟨λ{X W s A cvs f R} hf hA I hv hR=>by
 have D:=X.ok.fnK hq
 have hf':f=e.1:=Z8q (hf.symm.trans (Zjp hq))
 rw[hf']
 have fin:∀{env:Env}{own:List Addr}{W1:Wd}{s1:Shared},JJ env.scope e.2.body (XK (X9 X.K e.1))=true→(∀a∈own,W a=.free)→Le W W1→YM X md j W1 env own ν σ (A.deeper env) s1→wpAny (model pp X.w) (A.deeper env) (execs (XK (X9 X.K e.1)) env) (Zzs R) (Zzt (model pp X.w) (A.deeper env) env R) s1:=
  λhf JH l1 c=>h.run hf c λW2 a s2 l2 I2 F2 xa fl=>c.leave l2 I2 F2 xa fl λs' I' fl'=>hR W2 a s' ((LeX.trans (Le.X l1) l2).le JH) I' xa fl'
 exact D.rest.elim (λp=>Zj6 D p.1 p.2 hb hA I hv fin) λq=>q.elim λdn S=>Zcw D S.1 S.2 hb hA I hv λSUP hf JH l1 c=>wpAt_of_wpAny (fin hf JH l1 c)⟩
end
end
end PL
end
section
open PySem PySem.W PyProof.Rows
open scoped Classical
set_option maxRecDepth 100000
namespace PL
section
def Z6k(prog:Program)(w:World)(A:Around)(Q:Flow→Shared→Prop)(E:Value→Shared→Prop)(v:Value)(s1:Shared):Prop:=
 ∃a C od vs K,v=.ref a∧(Frag.In K s1.heap∧XC K C)∧s1.heap.get? a=some { cls:=.ref C,dict:=od,data:=.fields vs }∧wpAny (model prog w) A (setFlight (.ref a) none) (λZ s2=>wpAny (model prog w) A (raiseNew (.ref a):Sem Flow) Q E s2) E s1
theorem Zjg{prog:Program}{w:World}{A:Around}{t:Sem Value}{env:Env}{s:Shared}{Q:Flow→Shared→Prop}{E:Value→Shared→Prop}(h:wpAny (model prog w) A t (Z6k prog w A Q E) E s):wpAny (model prog w) A (raiseStmt env (some t) none) Q E s:=by
 unfold raiseStmt
 refine Z8z (wpAny_mono h (λv s1 h1=>?_) λZ Z z=>z)
 obtain⟨a,C,od,vs,K,rfl,⟨KX,ek⟩,ha,hk⟩:=h1
 obtain⟨hp,g,d,tk,os⟩:=s1
 have Y:=Jg (M:=model prog w) KX ek
 obtain⟨odc,cd,sl,ho,Z⟩:=ek.obj
 have LT:Looks (model prog w) hp (typeOf (.ref a)) (.ref C):=(Looks.ld ha).andThen .now
 have LC:Looks (model prog w) hp (typeOf (.ref C)) (.type "type"):=(Looks.ld (KX _ _ ho)).andThen .now
 have LI:Looks (model prog w) hp (isType (.ref a)) false:=(Looks.ld ha).andThen .now
 have LX:Looks (model prog w) hp (isExcClass (.ref a)) false:=LI.andThen .now
 have LS:Looks (model prog w) hp (isInstance (.ref a) (.type "BaseException")) true:=LT.andThen (Y.sub _ _ (Qv (λZ q=>nomatch q) (by decide +kernel)))
 have LF:Looks (model prog w) hp (excFromValue (.ref a) "exceptions must derive from BaseException") (.ref a):=LX.andThen (LS.andThen .now)
 have LR:Looks (model prog w) hp (raisedInstance (.ref a)) (.ref a):=LT.andThen (LC.andThen .now)
 refine Z8z (Z80 (Z8z (wpAny_holding (LF.at ?_))))
 refine Z8z (LI.at ?_)
 refine Z8z (LR.at (Z8z hk))
section
variable{X:Cx}{W W':Wd}{σ σ' σ1:St}{s s':Shared}{A:Around}{E:Value→Shared→Prop}{md:Bool}{j:Nat}{ν:Fm}{env:Env}{own:List Addr}{id k:Nat}{c:String}{cx cx':Bool×Bool}{m:Fm}{a:Addr}
theorem Inv.weak(I:Inv X W σ s)(hW:W a=.own id)(he:σ.f id=some (.exc c k cx m))(hk:0<k)(h1:cx'.1=true→cx.1=true)(h2:cx'.2=true→cx.2=true):Inv X W (σ.put id (.exc c k cx' m)) s:=by
 obtain⟨o,ho,R⟩:=I.own hW
 have e:=Z8q (ho.symm.trans he)
 subst e
 obtain⟨od,vs,hv,⟨hz,hc,hr⟩,hd⟩:=R
 exact I.upd (tk:=s.toks) (h':=s.heap) hW (.inl hW) ⟨rfl,λZ Z=>rfl⟩ ⟨_,hv⟩ ⟨od,vs,hv,⟨hz,λq=>hc (h1 q),λq=>hr (h2 q)⟩,hd⟩ (Zgf hk)
end
section
variable{j:Nat}{ν:Fm}{σ σ1:St}{e:PE}{id k:Nat}{c:String}{b:Bool}{m:Fm}
theorem Zz0(h:EvM false j e ν σ (.ref id) σ1)(he:σ1.f id=some (.exc c k (b,true) m))(hk:0<k)(hc:(Q4.lookup c).isSome=true:=by kernel_rfl):RxS false j (.rai e) ν σ ⟨id,c,k,(b,false),m⟩ ν (σ1.put id (.exc c k (b,false) m)):=⟨λ{X st env own W A s E Q} YN C hq=>Zf3 YN λx y p h2=>by
 refine Zj (Q:=λx=>wpAny _ _ (exec (.Raise x y p) env) Q E s) (ZC h2).1 (λq=>no q) λu hu=>?_
 rw[show y=none from Zj (Q:=λo=>o=none) (ZC h2).2 (λZ=>rfl) λZ q=>no q]
 obtain⟨Ca,hCa⟩:=Option.isSome_iff_exists.mp hc
 obtain⟨ck,Z⟩:=X.ok.exc hCa
 rw[←Zan hCa]at ck
 rw[arm_exec_Raise]
 refine Z8z (wpAny_standAt ?_)
 show wpAny _ _ (raiseStmt env (some (do let v ←eval u env;standAt p;pure v)) none) _ _ _
 refine Zjg (Z8z (h.val (ZC hu).1 C.c λW1 v s1 l1 I1 hv=>Z8z (wpAny_standAt (Z80 ?_))))
 obtain⟨a,rfl,hW,R⟩:=I1.exc hv he
 obtain⟨od,vs,ho,⟨hz,Z,hr⟩,Z⟩:=R
 have hF:Fly W1 s1.heap a:=.inl ⟨_,vs,ho,rfl,hr rfl⟩
 have I2:=I1.weak (cx':=(b,false)) hW he hk (λq=>q) (λq=>nomatch q)
 refine⟨a,_,od,vs,X.K,rfl,⟨I1.kin,ck⟩,ho,J6 I2 hF λs2 I3 f2 Z=>?_⟩
 exact wpAny_raiseNew_none C.room.h0 (hq W1 a s2 (Le.X l1) I3 (C.frm.mono l1) ⟨rfl,hW,Zs ..,hk⟩ f2)⟩
end
end
end PL
end
section
open PySem PySem.W PyProof.Rows PySem.SeqAt
open scoped Classical
namespace PL
section
section
variable{X:Cx}{W W1 W':Wd}{σ σ' σ1 σ2:St}{s s1 s':Shared}{A:Around}{E:Value→Shared→Prop}{md:Bool}{j:Nat}{ν ν':Fm}{env:Env}{own:List Addr}{x:XE}{a:Addr}
theorem Cfg.KH(c:Cfg X md j W env own ν σ A s)(I:Inv X W σ' s1)(xa:x.of X W σ' a)(hF:Fly W s1.heap a)(h:∀s',Inv X W σ' s'→Tb W s'.heap a→E (.ref a) s'):notedBy (model pp X.w) A env E (.ref a) s1:=by
 obtain⟨fe,rest,h1,h2⟩:=c.top
 obtain⟨l0,hl,hs⟩:=c.room.stk
 rw[h1]at hl
 rw[←Z8q hl]at hs
 obtain⟨L,hL,Z⟩:=(hs fe Z8g).at'
 exact Zk1 h1 h2 (h2.symm.trans hL) I hs xa hF h
theorem YM.KH(c:YM X md j W env own ν σ A s)(l:LeX own W W1)(I:Inv X W1 σ' s1)(F:YT X W1 env own ν')(xa:x.of X W1 σ' a)(hF:Fly W1 s1.heap a)(h:∀s',Inv X W1 σ' s'→Tb W1 s'.heap a→E (.ref a) s'):notedBy (model pp X.w) A env E (.ref a) s1:=
 (c.step l I F).c.KH I xa hF h
theorem Zwf(I:Inv X W σ' s1)(hF:Tb W s1.heap a)(h:∀s',Inv X W σ' s'→Tb W s'.heap a→E (.ref a) s'):cameBackBy (model pp X.w) A env E (.ref a) s1:=by
 have hF':=hF
 obtain⟨oe,vs,T,oT,ts,mk,he,⟨hd,h1⟩,⟨hTe,hTW⟩,hT,hdT,h3⟩:=hF
 unfold cameBackBy
 refine Z8z (wpAny_field he hd h1 ?_)
 rw[if_neg (show ¬(Value.ref T==Value.none)=true from by simp)]
 exact J6 I (.inr hF') λs2 I2 Z t2=>h s2 I2 (t2 hF')
end
inductive Vb(j:Nat)(g:Option (Nat×List ZA))(names:List String)(b:List PS)(x:XE):List (List ZA)→Fm→St→Fm→St→Prop
 |here {v:List ZA} {r:List (List ZA)} {ν ν1 ν2:Fm} {σ σ1:St} (hst:Jy g σ) (hb:Zv names v ν=some ν1) (h:RxB false j b ν1 σ x ν2 σ1):Vb j g names b x (v::r) ν σ ν2 σ1
 |later {v:List ZA} {r:List (List ZA)} {ν ν1 ν2 ν3:Fm} {σ σ1 σ2:St} (hst:Jy g σ) (hb:Zv names v ν=some ν1) (h:ExB j b ν1 σ .next ν2 σ1) (hr:Vb j g names b x r ν2 σ1 ν3 σ2):Vb j g names b x (v::r) ν σ ν3 σ2
section
variable{j:Nat}{ν ν':Fm}{σ σ1 σ2:St}{src ifs:List PE}{vs:List ZA}{bl:List PS}{x:XE}{e:PE}
theorem Zt5{names:List String}{k:Nat}{turns:List (List ZA)}{g:Option (Nat×List ZA)}(hs:JF j ν src σ vs σ1)(ht:SrcR σ1 k vs turns g)(hg:Vb j g names bl x turns ν σ1 ν' σ2):RxS false j (.for names k src bl) ν σ x ν' σ2:=⟨λ{X st env own W A s E Q} YN c hq=>Zka YN λtg it bs os p h2=>by
 have htg:=(ZC h2).1
 have h3:=(ZC h2).2
 have hok:=(ZC h3).1
 have h4:=(ZC h3).2
 have X4:=(ZC h4).1
 have h5:=(ZC h4).2
 have hos:=(ZC h5).1
 have hfb:=(ZC h5).2
 rw[Z8 hos]
 have Vk:∀x∈names,Zgu env.scope (Str.ofString x)=true:=λx hx=>Yq hok hx
 refine wpAny_For (Zo5 hs ht X4 htg c.c λW1 itv s2 l1 m=>?_) (λx=>Q1 (ZC X4).1 x)
 obtain⟨J,W2,S,l2,I2,hat,hJ⟩:=m
 have hJW:∀a∈J,W a=.free:=λa ha=>Le.back l1 (hJ a ha)
 refine codeAny_forLoop_any (λn s=>∃i ν3 W3 σ3,n=turns.length-i∧Dk X W env own j A (S.At i) ν3 W3 σ3 s∧Vb j g names bl x (turns.drop i) ν3 σ3 ν' σ2) ?_ _ ⟨0,ν,W2,σ1,rfl,⟨Le.X (l1.trans l2),c.to (l1.trans l2) I2,hat⟩,by rw[List.drop_zero];exact hg⟩
 clear hat I2 l2 s2 hg
 rintro n s3 ⟨i,ν3,W3,σ3,rfl,FI,hgo⟩
 generalize hd:turns.drop i=rest at hgo
 cases hgo with
 |here hst hb hx=>
  obtain⟨hv,hd'⟩:=J8 hd
  exact Zgg (s':=s) S c hJW htg Vk FI hv hst hb (λZ Z h=>h) λW3 s3 l3 Z c3 hat=>hx.run hfb c3 λW6 a s6 l6 I6 F6 xa fl=>c3.KH l6 I6 F6 xa fl λs7 I7 t7=>Zwf I7 t7 λs8 I8 t8=>hq W6 a s8 (l3.trans l6) I8 F6 xa (.inr t8)
 |later hst hb hx hr=>
  obtain⟨hv,hd'⟩:=J8 hd
  refine Zgg (s':=s) S c hJW htg Vk FI hv hst hb (λZ Z h=>h) λW3 s3 l3 Z c3 hat=>hx.run hfb c3 λW6 fo s6 l6 I6 hfr=>?_
  ·obtain⟨rfl,F6⟩:=hfr
   have hlt:=(Z8w.mp hv).1
   exact⟨turns.length-(i+1),Nat.sub_lt_sub_left hlt (Z79 i),i+1,_,W6,_,rfl,⟨l3.trans l6,c3.step l6 I6 F6,hat W6 l6⟩,hd'▸hr⟩⟩
inductive LcX(j:Nat)(g:Option (Nat×List ZA))(names:List String)(ifs:List PE)(e:PE)(ν:Fm)(x:XE):List (List ZA)→List ZA→St→St→Prop
 |here {v:List ZA} {r:List (List ZA)} {acc:List ZA} {ν':Fm} {σ σ1 σ2:St} (hst:Jy g σ) (hb:Zv names v (hide ν)=some ν') (hi:Ko j ν' ifs σ true σ1) (he:RxE false j e ν' σ1 x σ2):LcX j g names ifs e ν x (v::r) acc σ σ2
end
section
variable{X:Cx}{W W':Wd}{σ σ' σ1 σ2:St}{s s':Shared}{A:Around}{E:Value→Shared→Prop}{j:Nat}{ν:Fm}{env:Env}{own:List Addr}{x:XE}
variable{xs:List String}{k:Nat}{tg iter elt:Expr}{Kv:List Expr}{ifs:List PE}{e:PE}{scope:Scope}{pos:Pos}{cl:List (Str×Addr)}{C D:Addr}{J:List Addr}{g:Option (Nat×List ZA)}{turns:List (List ZA)}{it:Value}
theorem Zs2(c:Xr X W env xs k tg scope cl C D J j A)(hfi:Q9 (Ki scope env.scope) ifs Kv=true)(hfe:e (Ki scope env.scope) elt=true)(S:Src X tg g it J turns){σf:St}{R:Result→Shared→Prop}
  (hR:∀W' a s' oC m,Le W W'→Inv X W' σf s'→x.of X W' σf a→Tb W' s'.heap a→W' C=.imm oC none→NsO oC m→R (.error (.ref a)) s') {rest:List (List ZA)} {ys:List ZA} {σ1:St} (h:LcX j g xs ifs e ν x rest ys σ1 σf):
  ∀(i:Nat)(W1:Wd)(s1:Shared),turns.drop i=rest→CompI X W env ν scope cl C D (S.At i) W1 σ1 ys s1→codeAny (model pp X.w) A (.compLoop (.ListComp elt [⟨tg,iter,Kv,0⟩] scope pos) 0 it (.ref D) (compEnvC scope cl C env)) R s1:=by
 induction h with
 |here hst hb hif hel=>
  intro i W1 s1 hd I
  obtain⟨hv,hd'⟩:=J8 hd
  refine codeAny_loop' rfl (λn s=>s=s1) (λn s e=>?_) 0 rfl
  subst e
  show wpAny _ A ((compTurn (.ListComp elt [⟨tg,iter,Kv,0⟩] scope pos) 0 it (.ref D) (compEnvC scope cl C env)).onRaise λx=>do noteFrame x (compEnvC scope cl C env);theTreesLotGoes x) _ _ s
  refine wpAny_noted ?_
  rw[compTurn_list]
  refine Z8z (wpAny_standAt (Z8z (Zh8 c S I hv hst hb (λZ=>rfl) λW3 s3 I3 c3=>?_)))
  refine Z8z (Zvf hif hfi c3 λW4 s4 l4 I4=>?_)
  have I4':=I3.to l4 I4 (S.mono I3.here l4.X ZG.nil λZ Z q=>nomatch q)
  refine Z8z (Z8z (hel.run hfe (c3.to l4 I4) λW5 a s5 l5 I5 xa fl=>(c3.to (l4.trans l5) I5).KH I5 xa fl λs6 I6 t6=>?_))
  obtain⟨o,m,h1,h2,Z⟩:=(I4'.frm.mono l5).loc
  exact hR W5 a s6 o m ((I4'.le).trans l5) I6 xa t6 h1 h2.1
theorem Tb.but{h h':Heap}{a:Addr}{o:Obj}{v:Option ZA}{id:Nat}(t:Tb W h a)(hC:W C=.imm o v)(ha:W a=.own id)(hsb:Heap.SameBut C h h')(hW:∀b,W b=.free→W' b=.free):Tb W' h' a:=by
 obtain⟨oe,vs,T,oT,ts,mk,he,hd,⟨hTe,hTW⟩,hT,hdT,h3⟩:=t
 exact⟨oe,vs,T,oT,ts,mk,(hsb.2 a λq=>nomatch (q▸ha:W C=.own id).symm.trans hC).trans he,hd,⟨hTe,hW T hTW⟩,(hsb.2 T λq=>nomatch (q▸hTW:W C=.free).symm.trans hC).trans hT,hdT,h3⟩
theorem Z1b{src:List PE}{vs:List ZA}(hs:YK false j ν src σ vs σ1)(ht:SrcR σ1 k vs turns g)(hg:LcX j g xs ifs e ν x turns [] σ1 σ2):RxE false j (.comp e xs k src ifs) ν σ x σ2:=⟨λ{X t env own W A s E Q} hf c hq=>Zgk hf λelt tg it cs scope pos h1 h2 h3 h4 h5=>by
 obtain⟨cl,hcl,ok,hns,h⟩:=Zia hs ht (x:=elt) (cs:=cs) (pos:=pos) h1 h2 h3 c (R:=compPost (model pp X.w) A E none Q) (E:=E) λ{cl C D J it' W2 s2} CC S hCo I=>by
  refine Zs2 CC h4 h5 S (λW' a s' oC m l I' xa t hC hn=>?_) hg 0 _ _ rfl I
  refine⟨m,hn.nsP (I'.imp hC).1,λh' hsb VH hce=>?_⟩
  have lf:LeX [C] W' (ZN W' C .free):=Zz
  have I2:=I'.forget (tk:=s'.toks) hC hCo hsb
  have xa2:x.of X (ZN W' C .free) σ2 a:=⟨xa.raw,Zkz xa.own lf (ZG.one hC),xa.obj,xa.pos⟩
  have t2:Tb (ZN W' C .free) h' a:=t.but hC xa.own hsb λb hb=>Classical.byCases (λq:b=C=>by rw[q,Zi]) λq=>(Qa q).trans hb
  exact Zmq I2 t2 λs3 I3 t3=>hq _ a s3 (((Le.X (X:=[C]) l).trans lf).le (QE CC.fC)) I3 xa2 (.inr t3)
 rw[eval_ListComp]
 exact wpAny_comprehension_free rfl (λx=>Q1 hns x) hcl ok.kind ok.loc h⟩
end
end
end PL
end
section
open PySem PySem.SeqAt PySem.W
open scoped Classical
namespace PL
section
structure RxJ(md:Bool)(dn:String)(j:Nat)(ν:Fm)(σ:St)(q m:String)(es:List PE)(x:XE)(σ':St):Prop where
 run:∀{X:Cx}{t:Expr}{env:Env}{own:List Addr}{W:Wd}{A:Around}{s:Shared}{E:Value→Shared→Prop}{Q:Value→Shared→Prop}{f0:Addr}{fd:FuncData}{body:List Stmt},
  Zih X env f0 fd dn→PE.sup q m es env.scope t=true→Cfg X md j W env own ν σ A s→PsX X W σ' x E→wpAt (model pp X.w) A (.func body env) (eval t env) Q E s
structure RxD(md:Bool)(dn:String)(j:Nat)(ps:List PS)(ν:Fm)(σ:St)(x:XE)(ν':Fm)(σ':St):Prop where
 run:∀{X:Cx}{ts:List Stmt}{env:Env}{own:List Addr}{W:Wd}{A:Around}{s:Shared}{E:Value→Shared→Prop}{Q:Flow→Shared→Prop}{f0:Addr}{fd:FuncData}{body:List Stmt},
  Zih X env f0 fd dn→JJ env.scope ps ts=true→YM X md j W env own ν σ A s→KY X W env own ν' σ' x E→wpAt (model pp X.w) A (.func body env) (execs ts env) Q E s
section
variable{md:Bool}{dn:String}{j:Nat}{ν ν' ν'':Fm}{σ σ' σ1 σ2:St}{q m n:String}{es:List PE}{r:ZA}{id:Nat}{c:String}{k:Nat}{mm:Fm}{vs:List ZA}{x:XE}{p:PS}{ps:List PS}
theorem Z3z(QQ:ν "self"=some (.ref id))(inst:σ.f id=some (.inst c k mm))(args:YK md j ν es σ vs σ1)(call:RxC md j q (.ref id::vs) σ1 x σ')(tab:Zmd.contains (c,q,m)=true:=by kernel_rfl):RxJ md "Written" j ν σ q m es x σ':=.mk λ{X t env own W A s E Q f0 fd body} SUP hf C hq=>by
 obtain⟨Cc,f2,hPc,hPf,sf⟩:=X.ok.sup tab
 have hcl:=Zdp hPc
 obtain⟨L,mL,hL,hnL,JP⟩:=C.frm.loc
 obtain⟨V4,Z,JA⟩:=JP "self" _ (by show env.scope.names.lookup _=_;rw[SUP.scope];exact SUP.sup.self) QQ
 obtain⟨a,rfl,d,R⟩:=C.inv.inst JA inst
 obtain⟨hod,Wa,Z⟩:=R.dic.sz
 refine Zga SUP hf C (λ{cv} hcv=>hcv.elim λb hb=>hb.1.trans (Z81 _ (C.inv.uniq hb.2 R.adr))) QQ R.obj rfl (λc e=>nomatch e) (by rw[hcl];exact sf.mro) λpl xs p W1 h' so hm hfa l1 I1 so' ho' hva=>?_
 refine Zkf (hod:=some ((h'.get? d).getD default)) hm hfa args (C.to l1 I1) so' ⟨ho',rfl,rfl,?_⟩ hva (hcl.symm▸sf) λW2 cvs s2 l2 I2 hv2=>?_
 ·obtain⟨o,ho⟩:=I1.has d (by rw[l1 d List.not_mem_nil (Znz R.dad),R.dad];exact λh=>nomatch h)
  rw[ho];exact ho
 ·exact call.run hPf (((C.room.le l1).le l2).mono (Nat.le_succ _)) I2 hv2 λW' a s' l I' xa fl=>hq W' a s' ((l1.trans l2).trans l) I' xa fl
theorem RxB.rd(h:RxB md j ps ν σ x ν' σ'):RxD md dn j ps ν σ x ν' σ':=.mk λ{X ts env own W A s E Q f0 fd body} SUP hf c hq=>wpAt_of_wpAny (h.run hf c hq)
theorem Z1j(h1:StM md j p ν σ .next ν' σ1)(h2:RxD md dn j ps ν' σ1 x ν'' σ2):RxD md dn j (p::ps) ν σ x ν'' σ2:=.mk λ{X ts env own W A s E Q f0 fd body} SUP hf c hq=>Z2 (Q:=λts=>PySem.wpAt _ _ (.func body env) (execs ts env) Q E s) hf λy r hf=>by
 refine ks_wpAt_execs_cons (wpAt_of_wpAny (h1.run (ZC hf).1 c λW1 fo s1 l1 I1 hr=>?_))
 obtain⟨rfl,F1⟩:=hr
 exact h2.run SUP (ZC hf).2 (c.step l1 I1 F1) (hq.le l1)
theorem Z35(S:RxJ md dn j ν σ q m es x σ'):RxD md dn j (.asg n (.sup q m es)::ps) ν σ x ν σ':=.mk λ{X ts env own W A s E Q f0 fd body} SUP hf C hq=>Z2 (Q:=λts=>PySem.wpAt _ _ (.func body env) (execs ts env) Q E s) hf λy r hf=>by
 refine ks_wpAt_execs_cons ?_
 refine Yh (ZC hf).1 λts u sp h2'=>?_
 have h3:=(ZC h2').1
 have h4:=(ZC h2').2
 refine Qf (Q:=λts=>PySem.wpAt _ _ (.func body env) (exec (.Assign ts u sp) env) _ E s) h3 λtg h3=>Ym h3 λm p h3=>?_
 exact ks_wpAt_Assign_Name (S.run SUP (ZC h4).2 C.c (hq.toX C.frm)) (Yt (ZC h4).1)
theorem Zos{e:Addr×Fn}(hs:Zda.lookup q=some dn)(hq:fnOf q=some e)(hb:Zv e.2.params vs (λZ=>none)=some ν)(h:RxD md dn j e.2.body ν σ x ν' σ'):RxC md (j+1) q vs σ x σ':=.mk λ{X W s A cvs f R} hf hA I hv hR=>by
 have D:=X.ok.fnK hq
 have hf':f=e.1:=Z8q (hf.symm.trans (Zjp hq))
 obtain⟨a,ha,S⟩:=X.ok.Dp hs
 rw[←Z8q ((Zjp hq).symm.trans ha)]at S
 rw[hf']
 exact Zcw D (Ze3 hs) S hb hA I hv λSUP hf JH l1 c=>h.run SUP hf c λW2 a s2 l2 I2 F2 xa fl=>c.leave l2 I2 F2 xa fl λs' I' fl'=>hR W2 a s' ((LeX.trans (Le.X l1) l2).le JH) I' xa fl'
end
end
end PL
end
section
open PySem PySem.W PyProof.Rows
open scoped Classical
set_option maxRecDepth 100000
namespace PL
section
noncomputable def without(ν:Fm)(n:String):Fm:=λy=>if y=n then none else ν y
theorem Zfk{ν:Fm}{n y:String}{v:ZA}(h:without ν n y=some v):y≠n∧ν y=some v:=
 Classical.byCases (λe:y=n=>by unfold without at h;rw[if_pos e]at h;exact nomatch h) λe=>⟨e,by unfold without at h;rwa[if_neg e]at h⟩
section
variable{X:Cx}{W W1 W':Wd}{σ σ' σ1 σ2:St}{s s1 s':Shared}{A:Around}{E:Value→Shared→Prop}{md:Bool}{j:Nat}{ν ν':Fm}{env:Env}{own:List Addr}{x:XE}{a:Addr}
theorem YT.gone(F:YT X W env own ν)(I:Inv X W σ s){n:String}{pos:Pos}(hk:env.kindOf (Str.ofString n)=some .local){Q:Unit→Shared→Prop}
  (h:∀W' s',LeX own W W'→Inv X W' σ s'→YT X W' env own (without ν n)→(∃o,W env.locals=.imm o none∧Heap.SameBut env.locals s.heap s'.heap∧∀b,W b=.free→W' b=.free)→Q () s'):wpAny (model pp X.w) A (do bindName env (Str.ofString n) .none;unbindBehindTheSuite env (Str.ofString n) pos) Q E s:=by
 obtain⟨o,m,e,nn,hl⟩:=F.loc
 refine wpAny_nameGoes_keeps hk (nn.1.nsP (I.imp e).1) (by rw[F.kind];rfl) λh' v hn' hsb=>?_
 obtain⟨o',ho',n'⟩:=NsO.of hn'
 have hY:=ZG.one e
 refine h _ _ (Zz.mono (QE F.Xc)) (I.reset (t:=.imm (Xl o') none) (tk:=s.toks+1) e (F.old _ F.Xc) hsb rfl ⟨Zm7 n' (F.old _ F.Xc) ho',trivial⟩) ⟨⟨F.kind,F.glob,F.blt,Zkx F.pin,F.old,F.Xc,⟨Xl o',_,Zi ..,⟨n',rfl⟩,λy u hky hyu=>?_⟩,λn1 k hk' hc'=>?_,λy u k hk' hc' hyu=>?_⟩,F.apart,F.XH⟩ ⟨o,e,hsb,λb hb=>(Qa λq:b=env.locals=>nomatch (q▸hb:W env.locals=.free).symm.trans e).trans hb⟩
 ·obtain⟨q,q2⟩:=Zfk hyu
  obtain⟨cu,h1,h2⟩:=hl y u hky q2
  exact⟨cu,(if_neg λz=>q (Yo z)).trans h1,h2.ZM Zz hY⟩
 ·exact(F.cell n1 k hk' hc').elim λcv' h=>⟨cv',h.set (h.ne e nn.1)⟩
 ·exact(F.val y u k hk' hc' (Zfk hyu).2).elim λcv' h=>⟨cv',h.1.set (h.1.ne e nn.1),h.2.ZM Zz hY⟩
theorem Z2j{M:Model}{K:Frag}{h:Heap}{C T:Addr}(KX:K.In h)(eC:XC K C)(eT:XC K T)(LT:Looks M h (typeOf (.ref a)) (.ref C))(hb:(Jo C).contains (.ref T)=true):Looks M h (excMatches (.ref a) (.ref T)) true:=by
 intro A Q E s k₀ q
 obtain⟨hh,g,d,tk,os⟩:=s
 have k:∀b o,h.get? b=some o→hh.get? b=some o:=k₀
 obtain⟨odc,cd,sl,ho,Z⟩:=eT.obj
 have KX:=KX.keeps k
 have LT:=LT.keeps k
 have L1:Looks M hh (typeOf (.ref T)) (.type "type"):=(Looks.ld (KX _ _ ho)).andThen .now
 have L0:Looks M hh (isInstance (.ref T) (.type "tuple")) false:=L1.andThen (Looks.of_pure (by rw[isSubtype_type];kernel_rfl))
 have L2:Looks M hh (isType (.ref T)) true:=(Looks.ld (KX _ _ ho)).andThen .now
 have S0:=(Jg (M:=M) KX eT).sub (.type "BaseException") true (Qv (λZ q=>nomatch q) (by decide +kernel))
 have e1:Looks M hh (isExcClass (.ref T)) true:=L2.andThen S0
 have S1:=(Jg (M:=M) KX eC).sub (.ref T) true hb
 unfold excMatches
 refine Z8z (L0.at ?_)
 dsimp only
 rw[if_neg Z86]
 (repeat (first | simp only[List.forIn_cons,List.forIn_nil,Bool.not_true,Bool.false_eq_true,if_false,if_true] | lk))
 exact q
theorem AOK.mark{k:Nat}(h:AOK X false W k A)(v:Option Value):AOK X true W k (A.mark v):=⟨λq=>(nomatch q),h.dp,h.un,h.stk⟩
theorem YM.mark(c:YM X false j W env own ν σ A s)(v:Option Value):YM X true j W env own ν σ (A.mark v) s:=⟨c.frm,c.room.mark v,c.inv,c.top⟩
structure Zik(cn c:String):Prop where
 has:∃T C,Q4.lookup cn=some T∧Q4.lookup c=some C∧(Jo C).contains (.ref T)=true
theorem Zre{n cn:String}{u:Expr}{b0:Stmt}{bs:List Stmt}{pos p:Pos}{Q:Flow→Shared→Prop}(hc:Zik cn x.c)(hgl:Kj env.scope (Str.ofString cn)=true)(hk:env.kindOf (Str.ofString n)=some .local)(c:YM X false j W env own ν σ A s)
  (l:LeX own W W1) (I:Inv X W1 σ1 s1) (F:YT X W1 env own ν') (xa:x.of X W1 σ1 a) (hF:Fly W1 s1.heap a)
  (h:∀W2 s2,LeX own W W2→YM X true j W2 env own (upd ν' n (.ref x.id)) σ1 (A.mark (some (.ref a))) s2→x.of X W2 σ1 a→
   wpAny (model pp X.w) (A.mark (some (.ref a))) (execs (b0::bs) env) (λf s₃=>wpAny (model pp X.w) A (do bindName env (Str.ofString n) .none;unbindBehindTheSuite env (Str.ofString n) pos) (λZ s₄=>Q f s₄) E s₃)
    (λy s₃=>wpAny (model pp X.w) (A.mark (some (.ref a))) (noteFrame y env) (λZ s₃'=>
      wpAny (model pp X.w) (A.mark (some (.ref a))) (do bindName env (Str.ofString n) .none;unbindBehindTheSuite env (Str.ofString n) pos)
       (λZ s₄=>wpAny (model pp X.w) (A.mark (some (.ref a))) (PySem.passOn "try.except-as" y env:Sem Flow) (λZ Z=>False) (notedBy (model pp X.w) (A.mark (some (.ref a))) env (cameBackBy (model pp X.w) A env E)) s₄)
       (λz s₄=>wpAny (model pp X.w) (A.mark (some (.ref a))) (setFlight y none) (λZ s₅=>(notedBy (model pp X.w) (A.mark (some (.ref a))) env (cameBackBy (model pp X.w) A env E)) z s₅) (notedBy (model pp X.w) (A.mark (some (.ref a))) env (cameBackBy (model pp X.w) A env E)) s₄) s₃') (notedBy (model pp X.w) (A.mark (some (.ref a))) env (cameBackBy (model pp X.w) A env E)) s₃) s2):
  wpAny (model pp X.w) A (noteFrame (.ref a) env) (λZ s₂=>wpAny (model pp X.w) A (setFlight (.ref a) none) (λZ s₃=>wpAny (model pp X.w) A (handleBy (.ref a) env [.ExceptHandler (some (.Name (Str.ofString cn) p)) (some (Str.ofString n)) (b0::bs) pos]) Q E s₃) E s₂) E s1:=by
 obtain⟨T,C,hT,hC,RQ⟩:=hc.has
 obtain⟨eT,hg⟩:=X.ok.exc hT
 obtain⟨eC,Z⟩:=X.ok.exc hC
 have c1:=c.step l I F
 obtain⟨rest,h1,h2,h3⟩:=c1.top
 obtain⟨l0,hl,hs⟩:=c1.room.stk
 rw[h1]at hl
 rw[←Z8q hl]at hs
 refine Zk1 h1 rfl h2 I hs xa hF λs2 I2 t2=>J6 (fr:=none) I2 (.inr t2) λs3 I3 Z t3=>?_
 refine wpAny_handleBy_cons (codeAny_handlers_test (Zun F.toFrm I3 hgl hg ?_)) (by intro q;cases q)
 obtain⟨Z,Z,ho,Z⟩:=I3.GU xa
 have LT:Looks (model pp X.w) s3.heap (typeOf (.ref a)) (.ref C):=Zan hC▸(Looks.ld ho).andThen .now
 refine(Z2j I3.kin eC eT LT RQ).here ?_
 refine codeAny_handlers_suite_as (J6 (fr:=none) I3 (.inr (t3 t2)) λs4 I4 Z Z=>F.store I4 (.refs xa.own) (.inl hk) λW5 s5 l5 I5 F5=>?_)
 have N:=F.toFrm.XD
 exact h W5 s5 (l.trans l5) ((c1.to (LeX.refl _ _) I4).mark _ |>.step l5 I5 F5) ⟨xa.raw,Zkz xa.own l5 N,xa.obj,xa.pos⟩
end
section
variable{j:Nat}{ν ν' ν1 ν2:Fm}{σ σ1 σ2:St}{bl hb:List PS}{cn nm:String}{x:XE}{fl:Flw}{e:PE}
@[elab_as_elim]theorem Zof{sc:Scope}{t:Stmt}{P:Stmt→Prop}{p:PS}{ps:List PS}(h:PS.Vd bl cn nm (p::ps) sc t=true)(f:∀bs b0 hs p1 p2 p3,Kj sc (Str.ofString cn)=true→sc.names.lookup (Str.ofString nm)=some .local→JJ sc (p::ps) (b0::hs)=true→JJ sc bl bs=true→
  P (.Try bs [.ExceptHandler (some (.Name (Str.ofString cn) p1)) (some (Str.ofString nm)) (b0::hs) p2] [] [] p3)):P t:=Zs9 h λbs hs os fs p3 h=>by
 have h1:=(ZC h).1
 have h2:=(ZC h).2
 rw[Z8 (ZC h2).1,Z8 (ZC (ZC h2).2).1]
 refine Qf (Q:=λhs=>P (.Try bs hs [] [] p3)) h1 λhd h=>?_
 obtain⟨ty,n,hbs,p2⟩:=hd
 have h3:=(ZC h).1
 have h4:=(ZC (ZC h).2).1
 have h5:=(ZC (ZC h).2).2
 refine Zj (Q:=λty=>P (.Try bs [.ExceptHandler ty n hbs p2] [] [] p3)) h3 (λq=>no q) λu h3=>Ym h3 λm p1 h3=>?_
 refine Zj (Q:=λn=>P (.Try bs [.ExceptHandler (some (.Name m p1)) n hbs p2] [] [] p3)) h4 (λq=>no q) λn h4=>?_
 refine Z2 (Q:=λhbs=>JJ sc (p::ps) hbs=true→P (.Try bs [.ExceptHandler (some (.Name m p1)) (some n) hbs p2] [] [] p3)) h5 (λb0 hs Z h5=>?_) h5
 have e1:=Z84 (ZC h3).1
 have e2:=Z84 (ZC h4).1
 subst e1 e2
 exact f bs b0 hs p1 p2 p3 (ZC h3).2 (Z84 (ZC h4).2) h5 (ZC (ZC h2).2).2
end
end
section
theorem Zkc:entryFor table "proto.unchain"=some Builtin.«proto.unchain»:=entryFor_of_tree (by kernel_rfl)
section
variable{X:Cx}{W:Wd}{σ:St}{s:Shared}{A:Around}{E:Value→Shared→Prop}
theorem Cfg.note{md:Bool}{j:Nat}{ν:Fm}{σ':St}{s1:Shared}{env:Env}{own:List Addr}{x:XE}{a:Addr}{Q:Unit→Shared→Prop}(c:Cfg X md j W env own ν σ A s)(I:Inv X W σ' s1)(xa:Exc X W σ' a x.id x.c x.k x.cx x.m)(hF:Fly W s1.heap a)(h:∀s',Inv X W σ' s'→Tb W s'.heap a→Q () s'):wpAny (model pp X.w) A (noteFrame (.ref a) env) Q E s1:=by
 obtain⟨fe,rest,h1,h2⟩:=c.top
 obtain⟨l0,hl,hs⟩:=c.room.stk
 rw[h1]at hl
 rw[←Z8q hl]at hs
 obtain⟨L,hL,Z⟩:=(hs fe Z8g).at'
 exact Zk1 h1 h2 (h2.symm.trans hL) I hs xa hF h
theorem Zov{α:Type}{a a2:Addr}{ida id k k':Nat}{c c':String}{b:Bool}{m m':Fm}{Q:α→Shared→Prop}(hh:A.handled=some (.ref a))(hne:a≠a2)(I:Inv X W σ s)(hW:W a=.own ida)(ha:σ.f ida=some (.exc c' k' (true,b) m'))(xa:Exc X W σ a2 id c k (false,false) m)(hF:Fly W s.heap a2)
  (h:∀s',Inv X W σ s'→Fly W s'.heap a2→E (.ref a2) s'):wpAny (model pp X.w) A (raiseNew (.ref a2):Sem α) Q E s:=by
 obtain⟨o,ho,R⟩:=I.own hW
 have e:=Z8q (ho.symm.trans ha)
 subst e
 obtain⟨od,vs,hv,⟨hz,hc,Z⟩,Z⟩:=R
 obtain⟨od2,vs2,hv2,⟨hz2,Z,Z⟩,hd2⟩:=I.GU xa
 unfold raiseNew
 refine Z8z (wpAny_handled ?_)
 rw[hh]
 dsimp only
 rw[if_pos (show(Value.ref a != Value.ref a2)=true by simp[hne])]
 refine Z8z (wpAny_holding (wpAny_runValue (codeAny_builtin Zkc ?_)))
 unfold Builtin.«proto.unchain»
 refine Z8z (wpAny_field hv rfl (hc rfl) ?_)
 refine Z80 ?_
 show wpAny _ _ (updateField a2 2 (.ref a) >>= _) _ _ _
 unfold updateField
 refine Z8z ?_
 refine Z8z (wpAny_load hv2 ?_)
 show wpAny _ _ (if 2<vs2.size then update a2 _ else _) _ _ _
 rw[if_pos (by rw[hz2];decide)]
 refine wpAny_update hv2 (wpAny_throw (h _ (I.Gj (tk:=s.toks) xa.own xa.obj (λb ob hb q=>(Heap.get?_update_other _ _ (Ne.symm hb)).trans q) ⟨od2,vs2.setIfInBounds 2 (.ref a),Heap.get?_update_self _ hv2 rfl,⟨by rw[Array.size_setIfInBounds];exact hz2,λq=>(nomatch q),λq=>(nomatch q)⟩,?_⟩) ?_))
 ·cases od2 with
  |none=>exact hd2
  |some d=>exact⟨hd2.1,hd2.2.1,hd2.2.2.YI (LeX.refl [] W) ZG.nil λo e=>(Heap.get?_update_other _ _ λz:a2=d=>nomatch (z▸hd2.2.1:W a2=.dic id).symm.trans xa.own).trans e⟩
 ·rcases hF with⟨oe,ws,he,hd,h1⟩ | ⟨oe,ws,T,oT,ts,mk,he,⟨hd,h1⟩,⟨hTe,hTW⟩,hT,hdT,h3⟩
  ·exact .inl ⟨_,_,Heap.get?_update_self _ he (Obj.isFreed_of_fields (Obj.data_mapFields hd _)),Obj.data_mapFields hd _,by rw[Array.getElem?_setIfInBounds_ne (by decide)];exact h1⟩
  ·exact .inr ⟨_,_,T,oT,ts,mk,Heap.get?_update_self _ he (Obj.isFreed_of_fields (Obj.data_mapFields hd _)),⟨Obj.data_mapFields hd _,by rw[Array.getElem?_setIfInBounds_ne (by decide)];exact h1⟩,⟨hTe,hTW⟩,(Heap.get?_update_other _ _ (Ne.symm hTe)).trans hT,hdT,h3⟩
end
section
variable{j:Nat}{ν ν' ν1 ν2:Fm}{σ σ1 σ2:St}{bl hb:List PS}{cn nm:String}{x:XE}{fl:Flw}{e:PE}{p:PS}
theorem Zqb(h:BkM false j bl ν σ .next ν' σ1):StM false j (.Vd bl cn nm (p::hb)) ν σ .next ν' σ1:=.mk λ{X t env own W A s E Q} hf c hq=>Zof hf λbs b0 hs p1 p2 p3 hg hk hfh hfb=>
 wpAny_Try_except (h.run hfb c λW' f s' l I hr=>by
  obtain⟨rfl,F⟩:=hr
  exact Z80 (hq W' _ s' l I ⟨rfl,F⟩))
theorem Zqe{sc:Scope}{p:PS}{b0:Stmt}{hs:List Stmt}(h:JJ sc [p] (b0::hs)=true):p sc b0=true∧hs=[]:=⟨(ZC h).1,Z8 (ZC h).2⟩
theorem Zt4{v:ZA}(h:RxB false j bl ν σ x ν1 σ1)(hc:Zik cn x.c)(hh:EvM true j e (upd ν1 nm (.ref x.id)) σ1 v σ2):StM false j (.Vd bl cn nm [.ret e]) ν σ (.ret v) (λZ=>none) σ2:=.mk λ{X t env own W A s E Q} hf c hq=>Zof hf λbs b0 hs p1 p2 p3 hg hk hfh hfb=>
 wpAny_Try_except (h.run hfb c λW1 a s1 l1 I1 F1 xa fl1=>Zre (u:=.Name (Str.ofString cn) p1) hc hg hk c l1 I1 F1 xa fl1 λW2 s2 l2 c2 Z=>by
  obtain⟨h1,rfl⟩:=Zqe hfh
  refine Ju h1 λoe p h2=>Zj (Q:=λoe=>wpAny _ _ (execs [.Return oe p] env) _ _ s2) h2 (λq=>no q) λu hu=>?_
  show wpAny _ _ (do match ←exec (.Return (some u) p) env with | .next=>execs [] env | f=>pure f) _ _ _
  refine Z8z (wpAny_Return_some (hh.val hu c2.c λW3 cv s3 l3 I3 hv=>Z80 ?_))
  refine(c2.frm.mono l3).gone I3 hk λW4 s4 l4 I4 F4 Z=>hq W4 _ s4 ((l2.trans (Le.X l3)).trans l4) I4 ⟨cv,rfl,hv.ZM l4 (c2.frm.mono l3).toFrm.XD⟩)
theorem Zr3{c:String}{id k:Nat}{b:Bool}{m:Fm}(h:RxB false j bl ν σ x ν1 σ1)(hc:Zik cn x.c)(hh:EvM true j e (upd ν1 nm (.ref x.id)) σ1 (.ref id) σ2)(hx:σ2.f x.id=some (.exc x.c x.k (true,false) x.m))(he:σ2.f id=some (.exc c k (b,true) m))(hk:0<k)(hct:(Q4.lookup c).isSome=true:=by kernel_rfl):
  RxS false j (.Vd bl cn nm [.rai e]) ν σ ⟨id,c,k,(false,false),m⟩ (without (upd ν1 nm (.ref x.id)) nm) (σ2.put id (.exc c k (false,false) m)):=.mk λ{X t env own W A s E Q} hf C hq=>Zof hf λbs b0 hs p1 p2 p3 hg hkn hfh hfb=>
 wpAny_Try_except (h.run hfb C λW1 a s1 l1 I1 F1 xa fl1=>Zre (u:=.Name (Str.ofString cn) p1) hc hg hkn C l1 I1 F1 xa fl1 λW2 s2 l2 c2 xa2=>by
  obtain⟨h1,rfl⟩:=Zqe hfh
  refine Zf3 h1 λxx y p h2=>Zj (Q:=λxx=>wpAny _ _ (execs [.Raise xx y p] env) _ _ s2) (ZC h2).1 (λq=>no q) λu hu=>?_
  rw[show y=none from Zj (Q:=λo=>o=none) (ZC h2).2 (λZ=>rfl) λZ q=>no q]
  obtain⟨Ca,hCa⟩:=Option.isSome_iff_exists.mp hct
  obtain⟨ck,Z⟩:=X.ok.exc hCa
  rw[←Zan hCa]at ck
  show wpAny _ _ (do match ←exec (.Raise (some u) none p) env with | .next=>execs [] env | f=>pure f) _ _ _
  rw[arm_exec_Raise]
  refine Z8z (Z8z (wpAny_standAt ?_))
  show wpAny _ _ (raiseStmt env (some (do let v ←eval u env;standAt p;pure v)) none) _ _ _
  refine Zjg (Z8z (hh.val (ZC hu).1 c2.c λW3 v s3 l3 I3 hv=>Z8z (wpAny_standAt (Z80 ?_))))
  obtain⟨a2,rfl,hW,R⟩:=I3.exc hv he
  obtain⟨od,vs,ho,⟨hz,Z,hr⟩,Z⟩:=R
  have hWa:W3 a=.own x.id:=(l3 a List.not_mem_nil (Zmr xa2.own)).trans xa2.own
  have hF:Fly W3 s3.heap a2:=.inl ⟨_,vs,ho,rfl,hr rfl⟩
  have hne:a≠a2:=λq=>by
   rw[q,hW]at hWa
   injection hWa with e
   rw[←e,he]at hx
   injection hx with hx;injection hx with _ _ hx;injection hx with _ hx;exact nomatch hx
  have I4:=I3.weak (cx':=(false,false)) hW he hk (λq=>nomatch q) (λq=>nomatch q)
  have hid:x.id≠id:=λq=>hne (I3.uniq hWa (q▸hW))
  refine⟨a2,_,od,vs,X.K,rfl,⟨I3.kin,ck⟩,ho,J6 (fr:=none) I4 hF λs5 I5 f5 Z=>?_⟩
  have xb:Exc X W3 (σ2.put id (.exc c k (false,false) m)) a2 id c k (false,false) m:=⟨rfl,hW,Zs ..,hk⟩
  refine Zov (b:=false) (m':=x.m) rfl hne I5 hWa ((Z0 hid).trans hx) xb f5 λs6 I6 f6=>?_
  have F3:=c2.frm.mono l3
  refine(c2.to l3 I6).c.note (x:=⟨id,c,k,(false,false),m⟩) I6 xb f6 λs7 I7 t7=>F3.gone I7 hkn λW8 s8 l8 I8 F8 hg8=>?_
  obtain⟨o8,hL,hsb,Ka⟩:=hg8
  have xc:Exc X W8 (σ2.put id (.exc c k (false,false) m)) a2 id c k (false,false) m:=⟨rfl,Zkz hW l8 F3.toFrm.XD,Zs ..,hk⟩
  exact Zmq I8 (t7.but hL hW hsb Ka) λs9 I9 t9=>(((c2.to l3 I6).step l8 I9 F8).c.KH (x:=⟨id,c,k,(false,false),m⟩) I9 xc (.inr t9) λs10 I10 t10=>Zwf I10 t10 λs11 I11 t11=>hq W8 a2 s11 ((l2.trans (Le.X l3)).trans l8) I11 F8 xc (.inr t11)))
end
end
end PL
end
section
open PySem PySem.W
open scoped Classical
namespace PL
section
section
variable{j st:Nat}{σ σ1 σ2 σ':St}{L L':Fld→Nat}{H:HC}{ν ν' ν'':Fm}{g:Option (Nat×List ZA)}{names:List String}{b:List PS}{f f0:Flw}
theorem JN.append{xs ys:List (List ZA)}(h:JN j g names b xs ν σ f0 ν' σ1)(h0:f0=.next)(h2:JN j g names b ys ν' σ1 f ν'' σ2):JN j g names b (xs++ys) ν σ f ν'' σ2:=by
 induction h with
 |nil _=>exact h2
 |turn hst hb h _ ih=>exact .turn hst hb h (ih h0 h2)
 |ret _ _ _=>exact nomatch h0
noncomputable def Z1h:PS:=.asg "row" (.fn "row_of" [.loc "line",.loc "k"])
noncomputable def Z1g:PS:=.Vd [.exp (.mth (.loc "story") "do" [QQ8])] "HeapError" "fault" [.rai (.cls "StoryFault" [.att (.loc "fault") "what",.loc "k"])]
noncomputable def Z1i:PE:=.cmp .NotEq (.blt "len" [.att (.att (.loc "story") "heap") "rows"]) (.bin .Add (.loc "k") QQ3)
noncomputable def Zx5:CS:=[97,32,114,111,119,32,100,111,101,115,32,110,111,116,104,105,110,103]
noncomputable def Zqc:List PS:=[Z1h,Z1g,.ifs Z1i [.rai (.cls "StoryFault" [.cst (.str Zx5),.loc "k"])] []]
noncomputable def Zmo(rs:List Row):List (List ZA):=rs.zipIdx.map λp=>[nA p.2,.str (Ze p.1)]
theorem Zr6(rs:List Row)(r:Row):Zmo (rs++[r])=Zmo rs++[[nA rs.length,.str (Ze r)]]:=by
 rw[Zmo,List.zipIdx_append,List.map_append,Nat.zero_add];rfl
theorem Zmn(h:JU H):H.nodes.length≤62→H.rows.length≤190→∀{σ:St}{L:Fld→Nat}{st:Nat}{ν:Fm},Sty σ st L Qm→ν "story"=some (.ref st)→
  ∃ν' σ' L',JN (j+7) none ["k","line"] Zqc (Zmo H.rows) ν σ .next ν' σ'∧Tr σ L Qm σ' L' H∧ν' "story"=some (.ref st):=by
 induction h with
 |nil=>intro Z Z σ L st ν s hν;exact⟨ν,σ,L,.nil Z3,Tr.refl s.rep,hν⟩
 |@add H r h hr hw ih=>
  intro b1 b2 σ L st ν s hν
  have D:=Zf2 h.QO hr
  have er:(doH H r).rows.length=H.rows.length+1:=by rw[D.rows,Zd]
  have b2':H.rows.length≤190:=Z8b (show H.rows.length+1≤190 by rw[←er];exact b2)
  obtain⟨ν1,σ1,L1,f1,t1,n1⟩:=ih (Z7z D.le b1) b2' s hν
  have s1:=s.step t1
  obtain⟨σ2,L2,hdo,t2⟩:=Z3s (j:=j) s1 h.QO (Z7z D.le b1) b2' hr
  have s2:=s1.step t2
  have nS:upd (upd (upd ν1 "k" (nA H.rows.length)) "line" (.str (Ze r))) "row" (ZT r) "story"=some (.ref st):=Za (Za (Za n1))
  refine⟨_,σ2,L2,?_,t1.trans t2,nS⟩
  rw[D.rows,Zr6]
  refine f1.append rfl (.turn Z3 rfl (Zes (Yk (ZY (es2 (Zb (Zg ..)) (Zb (Za (Zg ..)))) (Zgw (j:=j+4) hw))) (Zes (Zqb (Qh (Qb (Zlo s1 (Zb nS) (es1 (Zb (Zg ..))) hdo)))) (Qh (Zn (Zm ((Y1 (es1 (Zq7 s2 (Zb nS))) (.len (.lst (.ref s2.rep.rows)) (Zh (Z7z b2 ble)))).eqv (w:=nA (H.rows.length+1)) (by rw[Z8i,er])) (Yu (Zb (v:=nA H.rows.length) (Za (Za (Zg ..)))) Zf (.Kc _ 1)) ((ZR.ne (.int 0 _ _) ble).eqv (nT rfl))))))) (.nil Z3))
theorem Zrp(rs:List Row):Yc rs=[]∨∃s,Yc rs=s++[10]:=by
 rcases List.eq_nil_or_concat rs with rfl | ⟨rs,r,rfl⟩
 ·exact .inl rfl
 ·refine .inr ⟨Yc rs++Ze r,?_⟩
  rw[List.concat_eq_append,Yc,List.map_append,List.flatten_append,Z8n]
  exact Z81 (Yc rs++·) (List.append_nil _)
structure Z6j(j:Nat)(σ:St)(H:HC)(σ':St)(st:Nat)(L:Fld→Nat):Prop where
 call:Zq j "read_story" [.str (Yc H.rows)] σ (.ref st) σ'
 sty:Sty σ' st L H
 n:σ.n≤σ'.n
 old:∀id,id<σ.n→σ'.f id=σ.f id
 st:σ.n≤st
 ge:∀f,act H f→σ.n≤L f
theorem Ztu(h:JU H)(b1:H.nodes.length≤62)(b2:H.rows.length≤190):∃σ' st' L',Z6j (j+8) σ H σ' st' L':=by
 have hlen:(Yc H.rows).length≤16000:=Z7z (Ze2 h.wf) (Z7z (Nat.mul_le_mul_left 64 b2) ble)
 obtain⟨σ1,L1,S1⟩:=Zlm (j+3) σ
 obtain⟨ν',σ2,L2,hf,t,ns'⟩:=Zmn (j:=j) h b1 b2 S1.sty (ν:=upd (upd (λZ=>none) "text" (.str (Yc H.rows))) "story" (.ref σ.n)) (Zg ..)
 have et:EvE (j+7) JM (upd (upd (λZ=>none) "text" (.str (Yc H.rows))) "story" (.ref σ.n)) σ1 (.str (Yc H.rows)) σ1:=ZD
 have hsp:Zp 10 (Yc H.rows)=H.rows.map Ze++[[]]:=by
  have:Yc H.rows=((H.rows.map Ze).map (·++[10])).flatten:=by rw[List.map_map];rfl
  rw[this,Zdj]
  exact λw hw=>(Z8l.mp hw).elim λr q=>q.2▸Qc (h.wf r q.1)
 have e1:EvE (j+7) De (upd (upd (λZ=>none) "text" (.str (Yc H.rows))) "story" (.ref σ.n)) σ1 (.lst ((H.rows.map Ze).map .str)) σ1:=by
  refine(Qw (Qr et (.split _) (es1 Zf) (.split hlen)) Yb ⟨Zsz Zf,λsc q=>?_⟩ Yb (Zp7 (.lst _) ?_)).eqv ?_
  ·exact nomatch q
  ·rw[hsp,Z8i,Zd,Z8i];exact Z7z (Z75 b2) ble
  ·rw[hsp,List.map_append];exact Z81 ZA.lst List.dropLast_concat
 have hz:SrcR σ1 3 [.lst ((H.rows.map Ze).map .str)] (Zmo H.rows) none:=by
  have:((H.rows.map Ze).map ZA.str).zipIdx.map (λp=>[ZA.int (p.2:Nat),p.1])=Zmo H.rows:=by
   rw[List.map_map,List.zipIdx_map,List.map_map];rfl
  exact this▸.enu _
 refine⟨σ2,σ.n,L2,Zk Zbc rfl (Zc (Yk (S1.ev _)) (Zc (Zn ?_) (Zc (Zkt (es1 e1) hz hf) (Y6 (Zb ns'))))),S1.sty.step t,Z7z S1.n t.n,
  λid hid=>(t.fr id (Z73 hid S1.n) λf hf e=>absurd (S1.ge f hf) (Nat.not_le.mpr (e▸hid))).trans (S1.old id hid),Z70 _,λf hf=>(t.ids f hf).elim (λ⟨g,hg,e⟩=>e▸S1.ge g hg) λe=>Z7z S1.n e⟩
 rcases Zrp H.rows with e | ⟨s,e⟩
 ·exact Jb (Zpi et e)
 ·rw[e]at hlen et ⊢
  exact Zw (Zlp et (List.append_ne_nil_of_right_ne_nil _ (List.cons_ne_nil _ _))) (Zpi (Yx et (Zsz Zf) (.last (by rw[Zd]at hlen;exact Z8b hlen))) rfl)
end
end
section
noncomputable def tfm(w:CS):Fm:=upd (λZ=>none) "what" (.str w)
noncomputable def sfm(w:CS)(k:Nat):Fm:=upd (upd (λZ=>none) "what" (.str w)) "row" (nA k)
inductive Xm:XE→Prop
 |mk (id:Nat) (w:CS) (h:w.length≤200):Xm ⟨id,"TermFault",1,(true,false),tfm w⟩
inductive QV(k:Nat):XE→Prop
 |mk (id:Nat) (b:Bool) (w:CS) (h:w.length≤200):QV k ⟨id,"StoryFault",2,(b,false),sfm w k⟩
structure Th(P:XE→Prop)(x:XE)(σ:St):Prop where
 is:P x
 at':σ.f x.id=some (.exc x.c x.k x.cx x.m)
 lt:x.id<σ.n
structure NE(j:Nat)(e:PE)(ν:Fm)(σ:St)(P:XE→Prop):Prop where
 ex:∃x σ',Th P x σ'∧RxE false j e ν σ x σ'
structure NEs(j:Nat)(ν:Fm)(es:List PE)(σ:St)(P:XE→Prop):Prop where
 ex:∃x σ',Th P x σ'∧Vr false j ν es σ x σ'
structure NS(j:Nat)(p:PS)(ν:Fm)(σ:St)(P:XE→Prop):Prop where
 ex:∃x ν' σ',Th P x σ'∧RxS false j p ν σ x ν' σ'
structure NB(j:Nat)(ps:List PS)(ν:Fm)(σ:St)(P:XE→Prop):Prop where
 ex:∃x ν' σ',Th P x σ'∧RxB false j ps ν σ x ν' σ'
structure NC(j:Nat)(q:String)(vs:List ZA)(σ:St)(P:XE→Prop):Prop where
 ex:∃x σ',Th P x σ'∧RxC false j q vs σ x σ'
structure ND(j:Nat)(ps:List PS)(ν:Fm)(σ:St)(P:XE→Prop):Prop where
 ex:∃x ν' σ',Th P x σ'∧RxD false "Written" j ps ν σ x ν' σ'
section
variable{j:Nat}{ν ν':Fm}{σ σ1 σ2:St}{P:XE→Prop}{a b c e t o:PE}{es:List PE}{vs:List ZA}{n m f q:String}{v:ZA}{id:Nat}{bl ol ps:List PS}{p:PS}{w:CS}{k:Nat}
theorem Z64(h:NEs j ν es σ P):NE j (.tup es) ν σ P:=h.ex.elim λx h=>h.elim λσ' h=>⟨x,σ',h.1,Z3y h.2⟩
theorem Z66{fv:Value}(hb:BN f fv)(h:NEs j ν es σ P):NE j (.blt f es) ν σ P:=h.ex.elim λx h=>h.elim λσ' h=>⟨x,σ',h.1,Z31 hb h.2⟩
theorem Zz7(h:NE j e ν σ P):NEs j ν (e::es) σ P:=h.ex.elim λx h=>h.elim λσ' h=>⟨x,σ',h.1,.here h.2⟩
theorem Zuv(h:EvE j e ν σ v σ1)(hs:NEs j ν es σ1 P):NEs j ν (e::es) σ P:=hs.ex.elim λx h'=>h'.elim λσ' h'=>⟨x,σ',h'.1,.later h h'.2⟩
theorem Uc(h:JF j ν es σ vs σ1)(hc:NC j f vs σ1 P)(hg:Zff.contains f=true:=by kernel_rfl):NE j (.fn f es) ν σ P:=hc.ex.elim λx h'=>h'.elim λσ' h'=>⟨x,σ',h'.1,Z6x h h'.2 hg⟩
theorem Zm0{cl:String}{kk:Nat}{mm:Fm}(ho:EvE j o ν σ (.ref id) σ1)(hf:σ1.f id=some (.inst cl kk mm))(hes:JF j ν es σ1 vs σ2)(hc:NC j q (.ref id::vs) σ2 P)(hm:mm m=none:=by kernel_rfl)(hq:Zba.lookup (cl,m)=some q:=by kernel_rfl)(hfa:(fnA q).isSome=true:=by kernel_rfl):NE j (.mth o m es) ν σ P:=
 hc.ex.elim λx h'=>h'.elim λσ' h'=>⟨x,σ',h'.1,Z08 ho hf hes h'.2 hm hq hfa⟩
theorem Z42(h:NE j e ν σ P):NS j (.asg n e) ν σ P:=h.ex.elim λx h=>h.elim λσ' h=>⟨x,ν,σ',h.1,Z32 h.2⟩
theorem Zyb(h:NE j e ν σ P):NS j (.exp e) ν σ P:=h.ex.elim λx h=>h.elim λσ' h=>⟨x,ν,σ',h.1,Zt6 h.2⟩
theorem Z4y(h:NE j e ν σ P):NS j (.ret e) ν σ P:=h.ex.elim λx h=>h.elim λσ' h=>⟨x,ν,σ',h.1,Z30 h.2⟩
theorem Qd(h:EvE j t ν σ (.bool true) σ1)(hb:NB j bl ν σ1 P):NS j (.ifs t bl ol) ν σ P:=hb.ex.elim λx h'=>h'.elim λμ h'=>h'.elim λσ' h'=>⟨x,μ,σ',h'.1,Z09 h h'.2⟩
theorem Z40(h:EvE j t ν σ (.bool false) σ1)(hb:NB j ol ν σ1 P):NS j (.ifs t bl ol) ν σ P:=hb.ex.elim λx h'=>h'.elim λμ h'=>h'.elim λσ' h'=>⟨x,μ,σ',h'.1,Z1a h h'.2⟩
theorem Qt(h1:ExS j p ν σ .next ν' σ1)(h2:NB j ps ν' σ1 P):NB j (p::ps) ν σ P:=h2.ex.elim λx h'=>h'.elim λμ h'=>h'.elim λσ' h'=>⟨x,μ,σ',h'.1,Z07 h1 h'.2⟩
theorem Zt(h:NS j p ν σ P):NB j (p::ps) ν σ P:=h.ex.elim λx h'=>h'.elim λμ h'=>h'.elim λσ' h'=>⟨x,μ,σ',h'.1,Zor h'.2⟩
theorem Qo{e:Addr×Fn}(hq:fnOf q=some e)(hb:Zv e.2.params vs (λZ=>none)=some ν)(h:NB j e.2.body ν σ P):NC (j+1) q vs σ P:=h.ex.elim λx h'=>h'.elim λμ h'=>h'.elim λσ' h'=>⟨x,σ',h'.1,Z1c hq hb h'.2⟩
theorem n_d(h:NB j ps ν σ P):ND j ps ν σ P:=h.ex.elim λx h'=>h'.elim λμ h'=>h'.elim λσ' h'=>⟨x,μ,σ',h'.1,h'.2.rd⟩
theorem Zur(h1:ExS j p ν σ .next ν' σ1)(h2:ND j ps ν' σ1 P):ND j (p::ps) ν σ P:=h2.ex.elim λx h'=>h'.elim λμ h'=>h'.elim λσ' h'=>⟨x,μ,σ',h'.1,Z1j h1 h'.2⟩
theorem Z4t{cl:String}{kk:Nat}{mm:Fm}(QQ:ν "self"=some (.ref id))(hf:σ.f id=some (.inst cl kk mm))(hes:JF j ν es σ vs σ1)(hc:NC j q (.ref id::vs) σ1 P)(tab:Zmd.contains (cl,q,m)=true:=by kernel_rfl):ND j (.asg n (.sup q m es)::ps) ν σ P:=
 hc.ex.elim λx h'=>h'.elim λσ' h'=>⟨x,ν,σ',h'.1,Z35 (Z3z QQ hf hes h'.2 tab)⟩
theorem Zfa{e:Addr×Fn}(hq:fnOf q=some e)(hb:Zv e.2.params vs (λZ=>none)=some ν)(h:ND j e.2.body ν σ P)(hs:Zda.lookup q=some "Written":=by kernel_rfl):NC (j+1) q vs σ P:=h.ex.elim λx h'=>h'.elim λμ h'=>h'.elim λσ' h'=>⟨x,σ',h'.1,Zos hs hq hb h'.2⟩
theorem Wb{md:Bool}(h:EvM md (j+1) e ν σ (.str w) σ1):EvM md (j+1) (.cls "TermFault" [e]) ν σ (.ref σ1.n) ((Zuo σ1 "TermFault").put σ1.n (.exc "TermFault" 1 (true,true) (tfm w))):=
 Z5w (by kernel_rfl) (.cons h (.nil _)) (Z78 rfl) (Zjd (Yp ..) (by kernel_rfl) (by kernel_rfl) (by decide))
theorem UD(h:EvE (j+1) e ν σ (.str w) σ1)(hw:w.length≤200):NS (j+1) (.rai (.cls "TermFault" [e])) ν σ Xm:=
 ⟨_,_,_,⟨.mk _ w hw,Zs ..,Z79 _⟩,Zz0 (Wb h) (Zs ..) Nat.one_pos⟩
theorem Ib{md:Bool}{x:ZA}(h:EvM md (j+2) e ν σ (.str w) σ1)(h2:EvM md (j+2) a ν σ1 x σ2):EvM md (j+2) (.cls "StoryFault" [e,a]) ν σ (.ref σ2.n) ((Zuo σ2 "StoryFault").put σ2.n (.exc "StoryFault" 2 (true,true) (upd (upd (λZ=>none) "what" (.str w)) "row" x))):=
 Z5w (by kernel_rfl) (.cons h (.cons h2 (.nil _))) (Z78 rfl) (Zrx (Yp ..))
theorem UE(h:EvE (j+2) e ν σ (.str w) σ1)(h2:EvE (j+2) a ν σ1 (nA k) σ2)(hw:w.length≤200):NS (j+2) (.rai (.cls "StoryFault" [e,a])) ν σ (QV k):=
 ⟨_,_,_,⟨.mk _ true w hw,Zs ..,Z79 _⟩,Zz0 (Ib h h2) (Zs ..) (Nat.succ_pos _)⟩
end
end
section
section
variable{md:Bool}{j:Nat}{ν:Fm}{σ σ1 σ2:St}{a b c:PE}
theorem Zph(ha:EvM md j a ν σ (.bool true) σ1):EvM md j (.or3 a b c) ν σ (.bool true) σ1:=.mkB
 (λ{X x env own W A s E Q} hf C hq=>Ze9 hf λl r t p h1 h2 h3=>PyProof.Rows.BoolOp_or (ha.val h1 C λW1 v s1 l1 I1 hv=>hv.YO (wpAny_truthy_bool (Pst.ZW I1 (hq.le l1)))))
 (λ{X x env own W A s E Q} hf C hq=>Ze9 hf λl r t p h1 h2 h3=>PyProof.Rows.isTrue_or (ha.te h1 C hq))
theorem Zv3(ha:EvM md j a ν σ (.bool false) σ1)(hb:EvM md j b ν σ1 (.bool true) σ2):EvM md j (.or3 a b c) ν σ (.bool true) σ2:=.mkB
 (λ{X x env own W A s E Q} hf C hq=>Ze9 hf λl r t p h1 h2 h3=>PyProof.Rows.BoolOp_or (ha.val h1 C λW1 v s1 l1 I1 hv=>hv.YO (wpAny_truthy_bool (PyProof.Rows.BoolOp_or (hb.val h2 (C.to l1 I1) λW2 v s2 l2 I2 hv=>hv.YO (wpAny_truthy_bool (Pst.ZW I2 (hq.le (l1.trans l2)))))))))
 (λ{X x env own W A s E Q} hf C hq=>Ze9 hf λl r t p h1 h2 h3=>PyProof.Rows.isTrue_or (ha.te h1 C λW1 s1 l1 I1=>PyProof.Rows.isTrue_or (hb.te h2 (C.to l1 I1) λW2 s2 l2 I2=>hq W2 s2 (l1.trans l2) I2)))
end
inductive JV:CS→Prop
 |long {w:CS} (h:9<w.length) (h2:w.length≤100):JV w
 |empty:JV []
 |sign {w:CS} (h:w.length≤9) (h0:w≠[]) (ha:∀c∈w,c<128) (hx:(w.filter λc=>!Jc.contains c)≠[]):JV w
 |zero {r:CS} (hr:r≠[]) (h:(48::r).length≤9) (hd:∀c∈48::r,Jc.contains c=true):JV (48::r)
noncomputable def Zqg:CS:=[32,105,115,32,110,111,32,110,117,109,98,101,114]
section
variable{j k:Nat}{ν:Fm}{σ:St}{w:CS}
theorem JV.len(h:JV w):w.length≤100:=by
 cases h with
 |long _ h=>exact h
 |empty=>exact Z8d _
 |sign h=>exact Z7z h ble
 |zero _ h=>exact Z7z h ble
theorem Z11(hw:w.length≤100)(h1:ν "word"=some (.str w))(h2:ν "row"=some (nA k)):NB (j+2) [.rai (.cls "StoryFault" [.fst [.fld Xf,.cst (.str Zqg)],QQ8])] ν σ (QV k):=
 have hl:(w++(Zqg++[])).length≤200:=by rw[Z8j];exact Z7z (Z77 hw _) ble
 Zt (UE (w:=w++(Zqg++[])) (Zs0 (.fld (Zb h1) (.str _ (Z7z hw ble)) (.txt (.nil _))) (Z7z hl ble)) (Zb h2) hl)
theorem Zya(h:JV w):NC (j+3) "number_of" [.str w,nA k] σ (QV k):=by
 have l16:w.length≤16000:=Z7z h.len ble
 have ew:EvE (j+2) Xf (upd (upd (λZ=>none) "word" (.str w)) "row" (nA k)) σ (.str w) σ:=ZD
 have en:EvE (j+2) (.blt "len" [Xf]) (upd (upd (λZ=>none) "word" (.str w)) "row" (nA k)) σ (nA w.length) σ:=Y1 (es1 ew) (.Ug l16)
 have nb:NB (j+2) [.rai (.cls "StoryFault" [.fst [.fld Xf,.cst (.str Zqg)],QQ8])] (upd (upd (λZ=>none) "word" (.str w)) "row" (nA k)) σ (QV k):=Z11 h.len (by kernel_rfl) (by kernel_rfl)
 have el:w.length≤9→EvE (j+2) (.cmp .Gt (.blt "len" [Xf]) (.cst (.int 9))) (upd (upd (λZ=>none) "word" (.str w)) "row" (nA k)) σ (.bool false) σ:=λq=>(Zm en Zf (.gt _ 9)).eqv (Z81 ZA.bool (dF (Int.not_lt.mpr (Int.ofNat_le.mpr q))))
 have ee:w≠[]→EvE (j+2) (.cmp .Eq Xf K6) (upd (upd (λZ=>none) "word" (.str w)) "row" (nA k)) σ (.bool false) σ:=λq=>(Zm ew Zf (.eq (.str 0 w []) ble)).eqv (Z81 ZA.bool (dF λz=>q (by injection z)))
 have es:(∀c∈w,c<128)→EvE (j+2) (.comp (.loc "sign") ["sign"] 0 [Xf] [U2]) (upd (upd (λZ=>none) "word" (.str w)) "row" (nA k)) σ (.lst ((w.filter λc=>!Jc.contains c).map λc=>.str [c])) σ:=λq=>by
  have hc:=Zax (j:=j+2) (x:="sign") (g:=none) (σ:=σ) (ν:=upd (upd (λZ=>none) "word" (.str w)) "row" (nA k)) (e:=.loc "sign") (p:=λc:Nat=>ZA.str [c]) (q:=λc:Nat=>ZA.str [c]) (ifs:=[U2]) (t:=λc=>!Jc.contains c) Z3 (l:=w) (acc:=[]) (λc hc=>⟨by
   have e1:EvE (j+2) U2 (upd (hide (upd (upd (λZ=>none) "word" (.str w)) "row" (nA k))) "sign" (.str [c])) σ (.bool (!Jc.contains c)) σ:=Zm (Zb (Zg ..)) Zf (.Gu c Jc)
   cases hd:Jc.contains c with
   |true=>rw[hd]at e1;exact .no e1
   |false=>rw[hd]at e1;exact .yes e1 (.nil _),λZ=>Zb (Zg ..)⟩) (by rw[List.length_nil,Nat.zero_add];exact l16)
  rw[←Zdq]at hc
  exact Qx (es1 ew) (.str q) hc
 cases h with
 |long h h2=>exact Qo Jh rfl (Zt (Qd (Zph ((Zm en Zf (.gt _ 9)).eqv (Z81 ZA.bool (dT (Int.ofNat_lt.mpr h))))) nb))
 |empty=>exact Qo Jh rfl (Zt (Qd (Zv3 (el (Z8d _)) (Zap ew rfl)) nb))
 |sign h h0 ha hx=>exact Qo Jh rfl (Zt (Qd (J7 (el h) (ee h0) ((Zm (es ha) (Qs es0) (.neL (n:=0) (.lst _) (.lst _) (λe i a b Z q=>(nomatch q)) ble)).eqv (Z81 ZA.bool (nF λq=>hx (List.map_eq_nil_iff.mp q))))) nb))
 |@zero r hr h hd=>
  have c0:EvE (j+2) (.idx Xf QQ6) (upd (upd (λZ=>none) "word" (.str (48::r))) "row" (nA k)) σ (.str [48]) σ:=Yx ZD Zf (.str (k:=0) (t:=48::r) rfl l16)
  have hf:((48::r).filter λc=>!Jc.contains c)=[]:=List.filter_eq_nil_iff.mpr λc hc=>by rw[hd c hc];exact Z86
  refine Qo Jh rfl (Qt (Zn (J7 (el h) (ee λq=>nomatch q) ((Zm (es λc hc=>(Zgi (hd c hc)).1) (Qs es0) (.neL (n:=0) (.lst _) (.lst _) (λe i a b Z q=>(nomatch q)) ble)).eqv (w:=.bool false) (Z81 ZA.bool (nT (by rw[hf];rfl)))))) (Zt (Qd (Zw (Zap c0 rfl) ((Zm ZD Zf (.ne (.str 0 (48::r) [48]) ble)).eqv (w:=.bool true) (Z81 ZA.bool (nF λq=>hr (by injection q with q;exact(List.cons.inj q).2))))) nb)))
end
end
section
inductive Zfj:List CS→Prop
 |few {ws:List CS} (h:ws.length<5):Zfj ws
 |Ia {ws:List CS} (h:5≤ws.length) (h2:ws.length % 2=0):Zfj ws
 |more {ws:List CS} (h:5<ws.length) (h2:ws.length % 2≠0) (h3:ws[3]? = some Zf6):Zfj ws
 |word {ws:List CS} {w:CS} (h:5≤ws.length) (h2:ws.length % 2≠0) (h3:ws[3]? = some w) (h4:w≠Zc6) (h5:w≠Zf6):Zfj ws
noncomputable def Z0p:CS:=[116,119,111,32,110,117,109,98,101,114,115,32,97,110,100,32,97,32,114,101,97,115,111,110,32,97,114,101,32,119,97,110,116,101,100]
section
variable{j k:Nat}{ν:Fm}{σ:St}{t w op:CS}{ws:List CS}{e:PE}{x:ZA}
theorem Zkj{i:Nat}(h:ws[i]? = some w):(ws.map ZA.str)[i]? = some (.str w):=Zaa h
theorem Zyz{σ1:St}(h:EvE j e ν σ x σ1)(hx:LOf σ1 x [.str [63,121],.str [63,120]]):EvE j (.sset e) ν σ (.lst [.str [63,120],.str [63,121]]) σ1:=Zq6 (xs:=[[63,121],[63,120]]) Zu5 h hx (Z78 rfl)
theorem Z10{t:CS}(ht:t.length≤200)(h:ν "row"=some (nA k)):NB (j+2) [.rai (.cls "StoryFault" [.cst (.str t),QQ8])] ν σ (QV k):=Zt (UE Zf (Zb h) ht)
theorem Z4x(h:Zfj ws)(hl:ws.length≤100):NC (j+3) "same_of" [.lst (ws.map .str),nA k] σ (QV k):=by
 have hm:(ws.map ZA.str).length≤16000:=by rw[Z8i];exact Z7z hl ble
 have ew:EvE (j+2) YA (upd (upd (λZ=>none) "words" (.lst (ws.map .str))) "row" (nA k)) σ (.lst (ws.map .str)) σ:=ZD
 have en:EvE (j+2) KV (upd (upd (λZ=>none) "words" (.lst (ws.map .str))) "row" (nA k)) σ (nA ws.length) σ:=(Jp ew hm).eqv (by rw[Z8i])
 have nb:NB (j+2) [.rai (.cls "StoryFault" [.cst (.str Z0p),QQ8])] (upd (upd (λZ=>none) "words" (.lst (ws.map .str))) "row" (nA k)) σ (QV k):=Z10 ble (by kernel_rfl)
 have el:∀b,decide (ws.length<5)=b→EvE (j+2) (.cmp .Lt KV (.cst (.int 5))) (upd (upd (λZ=>none) "words" (.lst (ws.map .str))) "row" (nA k)) σ (.bool b) σ:=λb q=>(Zm en Zf (.lt _ 5)).eqv (Z81 ZA.bool ((decide_eq_decide.mpr (Int.ofNat_lt (n:=ws.length) (m:=5))).trans q))
 have e2:∀b,decide (ws.length % 2=0)=b→EvE (j+2) (.cmp .Eq (.bin .Mod KV JE) QQ6) (upd (upd (λZ=>none) "words" (.lst (ws.map .str))) "row" (nA k)) σ (.bool b) σ:=λb q=>(Zm (Yu en Zf (.KN _ 2 (by decide))) Zf (.eq (.int 0 _ 0) ble)).eqv (Z81 ZA.bool ((decide_eq_decide.mpr (show(ZA.int ((ws.length:Int) % 2)=.int 0)↔ws.length % 2=0 from⟨λz=>by injection z with z;omega,λz=>Z81 ZA.int (by omega)⟩)).trans q))
 cases h with
 |few h=>exact Qo Q8 rfl (Zt (Qd (Zph (el true (dT h))) nb))
 |Ia h h2=>exact Qo Q8 rfl (Zt (Qd (Zv3 (el false (dF (Nat.not_lt.mpr h))) (e2 true (dT h2))) nb))
 |more h h2 h3=>exact Qo Q8 rfl (Zt (Qd (J7 (el false (dF (Nat.not_lt.mpr (Z8e h)))) (e2 false (dF h2)) (Zw (Zlp (Y8 ew 3 (Zkj h3) hm)) (Zbf (Zpi (Y8 ew 3 (Zkj h3) hm) rfl) ((Zm en Zf (.gt _ 5)).eqv (w:=.bool true) (Z81 ZA.bool (dT (Int.ofNat_lt.mpr h))))))) nb))
 |word h h2 h3 h4 h5=>exact Qo Q8 rfl (Zt (Qd (J7 (el false (dF (Nat.not_lt.mpr h))) (e2 false (dF h2)) (Zw (Zlp (Y8 ew 3 (Zkj h3) hm) h4) (Zv2 (Zlp (Y8 ew 3 (Zkj h3) hm) h5)))) nb))
theorem Zls{n:Nat}{xs ys:List CS}(i:Nat)(a b:ZA)(ha:(xs.map ZA.str)[i]? = some a)(hb:(ys.map ZA.str)[i]? = some b):QX n a b:=by
 obtain⟨u,Z,e1⟩:=Z8l.mp (Z89 ha)
 obtain⟨v,Z,e2⟩:=Z8l.mp (Z89 hb)
 rw[←e1,←e2];exact .str _ _ _
theorem Zhc{xs ys:List CS}(h:xs.map ZA.str=ys.map ZA.str):xs=ys:=List.map_inj_right (λa b e=>by injection e) |>.mp h
theorem Zzi:BN "tuple" (.type "tuple"):=⟨rfl,by kernel_rfl,by kernel_rfl,.inr ⟨_,rfl⟩⟩
noncomputable def KC:List CS:=[Y0,[48],[48],Zc6,[114],sY,[48],sX,[48]]
theorem Zus:NC (j+3) "same_of" [.lst (KC.map .str),nA k] σ (QV k):=by
 have hl:(KC.map ZA.str).length≤16000:=ble
 have ew:EvE (j+2) YA (upd (upd (λZ=>none) "words" (.lst (KC.map .str))) "row" (nA k)) σ (.lst (KC.map .str)) σ:=ZD
 have ew1:EvE (j+2) YA (upd (upd (upd (λZ=>none) "words" (.lst (KC.map .str))) "row" (nA k)) "reason" (.tup [.str Zc6,.str [114]])) σ (.lst (KC.map .str)) σ:=ZD
 have s5:(Kr (KC.map ZA.str).length (some 5) none (some 2)).filterMap ((KC.map ZA.str)[·]?)=[.str [63,121],.str [63,120]]:=by kernel_rfl
 exact Qo Q8 rfl (Qt (Zn (J7 ((Zm (Jp ew hl) Zf (.lt (9:Nat) 5)).eqv (Z81 ZA.bool (dF (by decide)))) ((Zm (Yu (Jp ew hl) Zf (.KN _ 2 (by decide))) Zf (.eq (.int 0 _ 0) ble)).eqv (Z81 ZA.bool (dF λq=>by injection q with q;exact absurd (show((9:Nat):Int) % 2=0 from q) (by decide)))) (Jb (Zpi (Y8 ew 3 rfl hl) rfl))))
  (Qt (Yk (Q3 (es2 (Y8 ew 3 rfl hl) (Y8 ew 4 rfl hl))))
  (Zt (Qd (Zap (Y8 ew1 3 rfl hl) rfl) (Qt (Yk (Qw ew1 Yb Yb Yb (Zkp hl s5))) (Zt (Qd ((Zm (Zb (Zg ..)) (Zyz (Zb (Zg ..)) (.lst _)) (.neL (n:=0) (.lst _) (.lst _) (λZ=>Zls (xs:=[sY,sX]) (ys:=[sX,sY])) ble)).eqv (w:=.bool true) (Z81 ZA.bool (nF λq=>by injection q with q;injection q with q;exact absurd q (by decide)))) (Z10 ble (by kernel_rfl)))))))))
structure Words(t:CS)(ws:List CS):Prop where
 split:Zp 32 t=ws
 len:t.length≤1000
 some:0<ws.length
 few:ws.length≤100
inductive Zii:List CS→Prop
 |mk {w:CS} {ws:List CS} (h1:w=YJ→ws=[]) (h2:w≠Y0) (h3:w::ws≠[Zx]):Zii (w::ws)
theorem Zbz(W:Words t ws){row:ZA}:ExS (j+3) (.asg "words" (.mth JM "split" [Ke])) (upd (upd (λZ=>none) "text" (.str t)) "row" row) σ .next (upd (upd (upd (λZ=>none) "text" (.str t)) "row" row) "words" (.lst (ws.map .str))) σ:=
 Yk ((Qr ZD (.split _) (es1 Zf) (.split (Z7z W.len ble))).eqv (by rw[W.split]))
theorem Words.room(W:Words t ws):(ws.map ZA.str).length≤16000:=by rw[Z8i];exact Z7z W.few ble
theorem Z1z(W:Words t ws)(h:Zii ws):NC (j+4) "row_of" [.str t,nA k] σ (QV k):=by
 have hl:=W.room
 refine Qo Za0 rfl (Qt (Zbz W) ?_)
 cases h with
 |@mk w ws h1 h2 h3=>
  have ew:EvE (j+3) YA (upd (upd (upd (λZ=>none) "text" (.str t)) "row" (nA k)) "words" (.lst ((w::ws).map .str))) σ (.lst ((w::ws).map .str)) σ:=ZD
  have e1:EvE (j+3) (.and (.cmp .Eq (.idx YA QQ6) XN) (.cmp .Gt KV QQ3)) (upd (upd (upd (λZ=>none) "text" (.str t)) "row" (nA k)) "words" (.lst ((w::ws).map .str))) σ (.bool false) σ:=by
   by_cases q:w=YJ
   ·have q2:=h1 q
    subst q q2
    exact Zw (Zap (Y8 ew 0 rfl hl) rfl) ((Zm (Jp ew hl) Zf (.gt (1:Nat) 1)).eqv (Z81 ZA.bool (dF (by decide))))
   ·exact Jb (Zbs (Y8 ew 0 rfl hl) q)
  exact Qt (Zn e1) (Qt (Zn (Zbs (Y8 ew 0 rfl hl) h2)) (Zt (Qd ((Zm ew (Qs (es1 Zf)) (.neL (n:=0) (.lst _) (.lst _) (λZ=>Zls (xs:=w::ws) (ys:=[Zx])) ble)).eqv (w:=.bool true) (Z81 ZA.bool (nF λq=>h3 (Zhc q)))) (Z10 ble (by kernel_rfl)))))
theorem Zyc{ws:List CS}(W:Words t (YJ::op::w::ws))(h:JV w):NC (j+4) "row_of" [.str t,nA k] σ (QV k):=by
 have hl:=W.room
 have ew:EvE (j+3) YA (upd (upd (upd (λZ=>none) "text" (.str t)) "row" (nA k)) "words" (.lst ((YJ::op::w::ws).map .str))) σ (.lst ((YJ::op::w::ws).map .str)) σ:=ZD
 have hs:JR σ (.lst ((YJ::op::w::ws).map .str)) (.int (2:Nat)) .none .none (.lst ((w::ws).map .str)):=Zgc (k:=2) (.lst _) (Z75 (Z75 (Z8d _))) hl
 have nc:NE (j+3) (.comp VL ["word"] 0 [.slc YA JE QQ5 QQ5] []) (upd (upd (upd (λZ=>none) "text" (.str t)) "row" (nA k)) "words" (.lst ((YJ::op::w::ws).map .str))) σ (QV k):=by
  obtain⟨x,σ',T,hx⟩:=(Uc (es2 (Zb (Zg ..)) (Zb (Za (J3 (by kernel_rfl))))) (Zya (j:=j) (k:=k) (σ:=σ) h):NE (j+3) VL (upd (hide (upd (upd (upd (λZ=>none) "text" (.str t)) "row" (nA k)) "words" (.lst ((YJ::op::w::ws).map .str)))) "word" (.str w)) σ (QV k)).ex
  exact⟨x,σ',T,Z1b (es1 (Qw ew Yb Yb Yb hs)) (.lst ((w::ws).map .str)) (.here Z3 rfl (.nil _) hx)⟩
 exact Qo Za0 rfl (Qt (Zbz W) (Zt (Qd (Zw (Zap (Y8 ew 0 rfl hl) rfl) ((Zm (Jp ew hl) Zf (.gt _ 1)).eqv (Z81 ZA.bool (dT (Int.ofNat_lt.mpr (Nat.succ_lt_succ (Nat.succ_pos _))))))) (Zt (Z4y (Z64 (Zuv Zf (Zuv (Y8 ew 1 rfl hl) (Zz7 (Z66 Zzi (Zz7 nc)))))))))))
theorem Zmz(W:Words t (Y0::ws))(h:NC (j+3) "same_of" [.lst ((Y0::ws).map .str),nA k] σ (QV k)):NC (j+4) "row_of" [.str t,nA k] σ (QV k):=by
 have hl:=W.room
 have ew:EvE (j+3) YA (upd (upd (upd (λZ=>none) "text" (.str t)) "row" (nA k)) "words" (.lst ((Y0::ws).map .str))) σ (.lst ((Y0::ws).map .str)) σ:=ZD
 exact Qo Za0 rfl (Qt (Zbz W) (Qt (Zn (Jb (Zbs (Y8 ew 0 rfl hl)))) (Zt (Qd (Zap (Y8 ew 0 rfl hl) rfl) (Zt (Z4y (Uc (es2 ew ZD) h)))))))
theorem Zzg(W:Words t [YJ,op]){row:ZA}:Zq (j+4) "row_of" [.str t,row] σ (ZT (.add op [])) σ:=by
 have hl:=W.room
 have ew:EvE (j+3) YA (upd (upd (upd (λZ=>none) "text" (.str t)) "row" row) "words" (.lst ([YJ,op].map .str))) σ (.lst ([YJ,op].map .str)) σ:=ZD
 have hs:JR σ (.lst ([YJ,op].map .str)) (.int (2:Nat)) .none .none (.lst []):=Zgc (k:=2) (.lst _) ble hl
 exact Zk Za0 rfl (Zc (Zbz W) (Qz (Zbr (Zw (Zap (Y8 ew 0 rfl hl) rfl) ((Zm (Jp ew hl) Zf (.gt (2:Nat) 1)).eqv (Z81 ZA.bool (dT (by decide))))) (Zau (Q3 (es3 Zf (Y8 ew 1 rfl hl) (Y1 (es1 (Qx (es1 (Qw ew Yb Yb Yb hs)) (.lst _) (.nil Z3))) (.tuple (.lst (.lst _)) ble))))))))
theorem Zwh(W:Words t (Y0::ws)){row v:ZA}(h:Zq (j+3) "same_of" [.lst ((Y0::ws).map .str),row] σ v σ):Zq (j+4) "row_of" [.str t,row] σ v σ:=by
 have hl:=W.room
 have ew:EvE (j+3) YA (upd (upd (upd (λZ=>none) "text" (.str t)) "row" row) "words" (.lst ((Y0::ws).map .str))) σ (.lst ((Y0::ws).map .str)) σ:=ZD
 exact Zk Za0 rfl (Zc (Zbz W) (Zc (Zn (Jb (Zbs (Y8 ew 0 rfl hl)))) (Qz (Zbr (Zap (Y8 ew 0 rfl hl) rfl) (Zau (ZY (es2 ew ZD) h))))))
end
end
section
inductive Zw8:CS→Prop
 |paren:Zw8 [40,97]
 |var:Zw8 [63,120]
inductive XG(H:HC):Nd→Prop
 |op {op:CS} (h:Zw8 op):XG H (op,[])
 |kid {op:CS} {k:Nat} (h:Xi op) (hq:op.head?≠some 63) (hk:H.nodes.length≤k) (h2:k<100):XG H (op,[k])
inductive Ze0(many:Nat):Reason→Prop
 |name {w:CS} {n:Nat} (h:Xi w):Ze0 many (.rule w [([120],n)])
 |num {w:CS} {n:Nat} (h:Xi w) (hn:many≤n):Ze0 many (.rule w [(sX,n)])
inductive Zil(H:HC):Row→Prop
 |add {op:CS} {ks:List Nat} (h:XG H (op,ks)):Zil H (.add op ks)
 |why {a b:Nat} {r:Reason} (h:Ze0 H.nodes.length r):Zil H (.same a b r)
 |num {a b:Nat} {r:Reason} (h:Zey H.nodes.length r) (hb:H.nodes.length≤b):Zil H (.same a b r)
section
variable{j st:Nat}{σ:St}{L:Fld→Nat}{H:HC}{ν:Fm}{nd:Nd}{op:CS}{r:Reason}{row:Row}
theorem okB{op:CS}(h:(Nat.ble op.length 1000&&(!op.isEmpty&&op.all λc=>Nat.blt c 128&&(!Zco c&&!Zrg.contains c)))=true):Xi op:=by
 have h1:=(ZC h).1
 have h:=(ZC h).2
 have h2:=(ZC h).1
 have h3:=List.all_eq_true.mp (ZC h).2
 refine⟨(λq=>by rw[q]at h2;exact absurd h2 (by decide)),Z78 h1,λc hc=>?_⟩
 have q:=h3 c hc
 have q1:=(ZC q).1
 have q:=(ZC q).2
 exact⟨Z78 q1,by rw[←Bool.not_eq_true'];exact(ZC q).1,by rw[←Bool.not_eq_true'];exact(ZC q).2⟩
theorem okX:Xi sX:=okB rfl
theorem Zs5:Zq (j+1) "is_op" [.str [40,97]] σ (.bool false) σ:=by
 have hc:LcR j none ["sign"] [Dg] (.loc "sign") (upd (λZ=>none) "text" (.str [40,97])) [[.str [40]],[.str [97]]] [] σ [.str [40]] σ:=
  .keep Z3 rfl (.yes (Zbf ((Qr ZD (.isspace [40]) es0 (.isspace (by decide))).eqv (w:=.bool false) (by kernel_rfl)) ((Zm ZD Zf (.inS 40 _)).eqv (w:=.bool true) (by kernel_rfl))) (.nil _)) ZD (by decide)
   (.skip Z3 rfl (.no (Zbf ((Qr ZD (.isspace [97]) es0 (.isspace (by decide))).eqv (w:=.bool false) (by kernel_rfl)) ((Zm ZD Zf (.inS 97 _)).eqv (w:=.bool false) (by kernel_rfl)))) (.nil Z3))
 have e1:EvE j (.cmp .NotEq JM K6) (upd (λZ=>none) "text" (.str [40,97])) σ (.bool true) σ:=Zlp (s:=[40,97]) ZD
 have hs:SrcR σ 0 [.str [40,97]] [[.str [40]],[.str [97]]] none:=.str (t:=[40,97]) (by decide)
 exact Zk Zq0 rfl (Y6 (Zw e1 ((Zm (Qx (es1 ZD) hs hc) (Qs es0) (.eqL (n:=0) (.lst _) (.lst _) (λe i a b Z q=>(nomatch q)) ble)).eqv (w:=.bool false) (Z81 ZA.bool (dF (List.cons_ne_nil _ _))))))
noncomputable def Z4q:CS:=[32,105,115,32,110,111,32,111,112,32,111,102,32,97,32,103,114,111,117,110,100,32,116,101,114,109]
theorem Zut(h:Zw8 op){x:ZA}:NC (j+2) "Bank.require" [x,.str op] σ Xm:=by
 have hl:op.length≤10:=by cases h<;>exact ble
 have hl2:(op++(Z4q++[])).length≤200:=by rw[Z8j];exact Z7z (Z77 hl _) ble
 have nb:∀{ν:Fm},ν "op"=some (.str op)→NB (j+1) [.rai (.cls "TermFault" [.fst [.fld (.loc "op"),.cst (.str Z4q)]])] ν σ Xm:=λq=>Zt (UD (Zs0 (.fld (Zb q) (.str _ (Z7z hl ble)) (.txt (.nil _))) (Z7z hl2 ble)) hl2)
 cases h with
 |paren=>exact Qo J5 rfl (Zt (Qd (Zv2 (Zao (p:=false) (ZY (es1 ZD) Zs5))) (nb (by kernel_rfl))))
 |var=>exact Qo J5 rfl (Zt (Qd (Zbf (Zao (p:=true) (ZY (es1 ZD) (Ze5 okX))) (Zap (Yx ZD Zf (.str (k:=0) (t:=sX) rfl ble)) rfl)) (nb (by kernel_rfl))))
noncomputable def Zul:CS:=[110,111,32,116,101,114,109,32,104,97,115,32,116,104,101,32,110,117,109,98,101,114,32]
theorem Z4w(R:Rep σ L H)(S:Yv H)(hi:Ye H nd=none)(h:XG H nd):NC (j+3) "Bank.take" [.ref (L .YY),.str nd.1,.tup (nd.2.map nA)] σ Xm:=by
 have hk:nd.2.length≤2:=by cases h<;>exact ble
 have l16:=X3 S.n
 refine Qo Zb9 rfl (Qt (Yk (Zv4 hk (by kernel_rfl) (by kernel_rfl))) (Qt (Zn (Zlq (p:=false) R (by kernel_rfl) (by kernel_rfl) (by rw[hi];rfl))) ?_))
 cases h with
 |op h=>exact Zt (Zyb (Zm0 ZD R.QW (es1 ZD) (Zut h)))
 |@kid op k h hq hk2 h2=>
  refine Qt (Qb (Y7 ZD R.QW (es1 ZD) (Zjb h hq))) (Zt ?_)
  obtain⟨ν1,hν1⟩:∃ν1:Fm,ν1=upd (upd (upd (upd (λZ=>none) "self" (.ref (L .YY))) "op" (.str op)) "kids" (.tup ([k].map nA))) "node" (Zu (op,[k])):=⟨_,rfl⟩
  have n1:upd ν1 "kid" (nA k) "self"=some (.ref (L .YY)):=by rw[hν1];kernel_rfl
  have nn:ν1 "node"=some (Zu (op,[k])):=by rw[hν1];kernel_rfl
  show NS _ _ (upd (upd (upd (upd (λZ=>none) "self" (.ref (L .YY))) "op" (.str op)) "kids" (.tup ([k].map nA))) "node" (Zu (op,[k]))) _ _
  rw[←hν1]
  have hlen:(Zul++(ZQ k++[])).length≤200:=by rw[List.append_nil,Z8j];exact Z7z (Z76 (Zfr h2).len _) ble
  have nb:NB (j+2) [.ifs (.not (.KS QQ6 .LtE Xa .Lt VK)) [.rai (.cls "TermFault" [.fst [.cst (.str Zul),.fld Xa]])] []] (upd ν1 "kid" (nA k)) σ Xm:=
   Zt (Qd (Zao (p:=false) (Zcv Zf (Zb (Zg ..)) ((ZR.le 0 k).eqv (dT (Int.natCast_nonneg k))) (Y1 (es1 (Z6 (Zb n1) R.QW)) (.len (.lst (.ref R.nodes)) (Zh l16))) ((ZR.lt k _).eqv (dF (by rw[Z8i];exact Int.not_lt.mpr (Int.ofNat_le.mpr hk2))))))
    (Zt (UD (Zs0 (.txt (.fld (Zb (Zg ..)) (.int (Z73 h2 ble)) (.nil _))) (Z7z hlen ble)) hlen)))
  obtain⟨x,μ,σ',T,hx⟩:=nb.ex
  exact⟨x,μ,σ',T,Zt5 (es1 (UU (nd:=(op,[k])) hk nn)) (.tup _) (.here Z3 rfl hx)⟩
theorem Z41(R:Rep σ L H)(S:Yv H)(hi:Ye H nd=none)(h:XG H nd):NC (j+4) "Heap.add" [.ref (L .h),.str nd.1,.tup (nd.2.map nA)] σ Xm:=
 Qo Zdn rfl (Zt (Z42 (Zm0 (Z6 ZD R.ZO) R.QW (es2 ZD ZD) (Z4w R S hi h))))
theorem Z4v(R:Rep σ L H)(S:Yv H)(hi:Ye H nd=none)(h:XG H nd):NC (j+5) "Written.add" [.ref (L .h),.str nd.1,.tup (nd.2.map nA)] σ Xm:=
 Zfa Zal rfl (Zur (Yk (Y7 (cl:="Written") ZD R.ZO es0 (Ze4 (j:=j+2) R S))) (Z4t (by kernel_rfl) R.ZO (es2 ZD ZD) (Z41 R S hi h)))
theorem Zzf:Zq (j+1) "is_variable" [.tup [.str [120]]] σ (.bool false) σ:=
 Zk Zdc rfl (Y6 (Zw ((Zm (Y1 (es1 ZD) (.len (.tup [.str [120]]) ble)) Zf (.eq (.int 0 1 1) ble)).eqv (Z81 ZA.bool (dT rfl))) ((Zm (Qw (Yx ZD Zf (.tup (k:=0) (xs:=[.str [120]]) rfl ble)) Yb Yb Yb (.str (i:=1) (Z75 (Z8d _)) ble)) Zf (.eq (.str 0 _ _) ble)).eqv (Z81 ZA.bool (dF λq=>by injection q with q;exact absurd q (by decide))))))
noncomputable def Zg9:CS:=[32,104,97,115,32,110,111,32,110,117,109,98,101,114]
theorem Z12{many:Nat}(h:Ze0 many r):NC (j+2) "check_reason" [Z7 r,nA many] σ Xm:=by
 have nb:∀{ν:Fm}{v:CS}{n:Nat},ν "many"=some (nA many)→v.length≤10→(v=[120]∨v=sX∧many≤n)→NB (j+1) [.ifs IJ [.rai (.cls "TermFault" [.fst [.fld (.loc "name"),.cst (.str Zg9)]])] []] (upd (upd ν "name" (.str v)) "n" (nA n)) σ Xm:=λ{ν v n} hm hv q=>by
  have hl:(v++(Zg9++[])).length≤200:=by rw[Z8j];exact Z7z (Z77 hv _) ble
  have nr:NB (j+1) [.rai (.cls "TermFault" [.fst [.fld (.loc "name"),.cst (.str Zg9)]])] (upd (upd ν "name" (.str v)) "n" (nA n)) σ Xm:=Zt (UD (Zs0 (.fld (Zb (Za (Zg ..))) (.str _ (Z7z hv ble)) (.txt (.nil _))) (Z7z hl ble)) hl)
  rcases q with q | ⟨q,hn⟩
  ·exact Zt (Qd (Zph (Zao (p:=false) (ZY (es1 (Q3 (es1 (Zb (Za (Zg ..)))))) (q▸Zzf)))) nr)
  ·exact Zt (Qd (J7 (Zao (p:=true) (ZY (es1 (Q3 (es1 (Zb (Za (Zg ..)))))) (q▸Zp4 okX rfl))) (Zao (p:=true) (ZY (es1 (Zb (Za (Zg ..)))) (q▸Ze5 okX)))
    (Zao (p:=false) (Zcv Zf (Zb (Zg ..)) ((ZR.le 0 n).eqv (dT (Int.natCast_nonneg n))) (Zb (Za (Za hm))) ((ZR.lt n many).eqv (dF (Int.not_lt.mpr (Int.ofNat_le.mpr hn))))))) nr)
 have main:∀{w v:CS}{n:Nat},Xi w→v.length≤10→(v=[120]∨v=sX∧many≤n)→NC (j+2) "check_reason" [Z7 (.rule w [(v,n)]),nA many] σ Xm:=λ{w v n} h hv q=>by
  obtain⟨x,μ,σ',T,hx⟩:=(nb (ν:=upd (upd (λZ=>none) "reason" (Z7 (.rule w [(v,n)]))) "many" (nA many)) (by kernel_rfl) hv q).ex
  exact Qo J4 rfl (Qt (Zn (Zao (p:=true) (ZY (es1 (Yx ZD Zf (.tup (k:=1) (xs:=[.str [114,117,108,101],.str w,.tup ([(v,n)].map Zbk)]) rfl ble))) (Ze5 h)))) (Zt ⟨x,μ,σ',T,Zt5 (es1 (Zbg (Zap (Yx ZD Zf (.tup (k:=0) (xs:=[.str [114,117,108,101],.str w,.tup ([(v,n)].map Zbk)]) rfl ble)) rfl)
   (Yx ZD Zf (.tup (k:=2) (xs:=[.str [114,117,108,101],.str w,.tup ([(v,n)].map Zbk)]) rfl ble)))) (Zag [(v,n)]) (.here Z3 rfl hx)⟩))
 cases h with
 |name h=>exact main h ble (.inl rfl)
 |num h hn=>exact main h ble (.inr ⟨rfl,hn⟩)
theorem Zx9{a b:Nat}(R:Rep σ L H)(S:Yv H)(h:Zil H (.same a b r)):NC (j+5) "Written.merge" [.ref (L .h),nA a,nA b,Z7 r] σ Xm:=by
 have hz:=Ze4 (j:=j+2) R S
 have inb:∀{x:String}{k:Nat}{ν:Fm}{p:Bool},ν "self"=some (.ref (L .h))→ν x=some (nA k)→decide (k<H.nodes.length)=p→EvE (j+4) (.not (.KS QQ6 .LtE (.loc x) .Lt Vs)) ν σ (.bool !p) σ:=λ{x k ν p} hs hx hk=>Zao (p:=p) (Zcv Zf (Zb hx) ((ZR.le 0 k).eqv (dT (Int.natCast_nonneg k))) (Y7 (cl:="Written") (Zb hs) R.ZO es0 hz) ((ZR.lt k H.nodes.length).eqv (hk▸decide_eq_decide.mpr Int.ofNat_lt)))
 cases h with
 |why h=>exact Zfa Ji rfl (n_d (Zt (Zyb (Uc (es2 ZD (Y7 (cl:="Written") ZD R.ZO es0 hz)) (Z12 h)))))
 |num h hb=>
  have nr:∀{ν:Fm},NB (j+4) [Iz] ν σ Xm:=Zt (UD Zf ble)
  refine Zfa Ji rfl (Zur (Qb (ZY (es2 ZD (Y7 (cl:="Written") ZD R.ZO es0 hz)) (Zp6 (j:=j+2) h))) (n_d (Zt (Qd ?_ nr))))
  by_cases q:a<H.nodes.length
  ·exact Zbf (inb (p:=true) (by kernel_rfl) (by kernel_rfl) (dT q)) (inb (p:=false) (by kernel_rfl) (by kernel_rfl) (dF (Nat.not_lt.mpr hb)))
  ·exact Zv2 (inb (p:=false) (by kernel_rfl) (by kernel_rfl) (dF q))
end
section
variable{j st:Nat}{σ:St}{L:Fld→Nat}{H:HC}{ν:Fm}{row:Row}
theorem JU.ops(h:JU H):∀nd∈H.nodes,Xi nd.1∧nd.1.head?≠some 63:=by
 induction h with
 |nil=>exact λnd h=>nomatch h
 |@add H r h hr hw ih=>
  cases hr with
  |@add op ks h1 hn=>
   intro nd hm
   have e:(doH H (.add op ks)).nodes=H.nodes++[(op,ks)]:=by
    show(Xn H (op,ks)).nodes=_
    rw[Xn,hn]
    exact(h.QO.added (Yy hn) h1.two h1.lt).nodes
   rw[e]at hm
   exact(Ql.mp hm).elim (ih nd) λe=>e▸⟨h1.op,h1.q⟩
  |same ha hb hr=>rw[show(doH H (.same _ _ _)).nodes=_ from(h.QO.merge ha hb _).nodes];exact ih
  |settle hs=>
   have K:=h.QO.X0
   rw[if_neg hs]at K
   rw[show(doH H .settle).nodes=_ from K.nodes];exact ih
theorem XG.none{nd:Nd}(hH:JU H)(h:XG H nd):Ye H nd=none:=by
 cases e:Ye H nd with
 |none=>rfl
 |some i=>
  have hm:=Zav e
  cases h with
  |op h=>
   have q:=hH.ops _ (Z89 hm)
   cases h with
   |paren=>exact absurd (q.1.signs 40 Z8g).bad (by decide)
   |var=>exact absurd rfl q.2
  |@kid op k h hq hk h2=>exact absurd (hH.QO.toCore.kids i _ hm) λz=>Nat.lt_irrefl k (Z73 (Nat.lt_trans (z.1 k Z8g) (Zaw hm)) hk)
theorem Z65(s:Sty σ st L H)(hH:JU H)(S1:H.nodes.length≤62)(S2:H.rows.length≤190)(h:Zil H row):NC (j+6) "Story.do" [.ref st,ZT row] σ Xm:=by
 have S:Yv H:=⟨Nat.le_succ_of_le S1,Z7z S2 ble⟩
 have rr:EvE (j+5) QQ8 (upd (upd (λZ=>none) "self" (.ref st)) "row" (ZT row)) σ (ZT row) σ:=ZD
 cases row with
 |add op ks=>
  cases h with
  |add h=>
   have rr:EvE (j+5) QQ8 (upd (upd (λZ=>none) "self" (.ref st)) "row" (ZT (.add op ks))) σ (.tup [.str YJ,.str op,.tup (ks.map nA)]) σ:=rr
   exact Qo Qq rfl (Zt (Qd (Zap (ZZ rr 0 rfl ble) rfl) (Zt (Zyb (Zm0 (Zra s ZD) s.rep.ZO (es2 (ZZ rr 1 rfl ble) (ZZ rr 2 rfl ble)) (Z4v (nd:=(op,ks)) s.rep S (h.none hH) h))))))
 |same a b r=>
  have rr:EvE (j+5) QQ8 (upd (upd (λZ=>none) "self" (.ref st)) "row" (ZT (.same a b r))) σ (.tup [.str Y0,nA a,nA b,Z7 r]) σ:=rr
  exact Qo Qq rfl (Zt (Z40 (Zbs (ZZ rr 0 rfl ble)) (Zt (Qd (Zap (ZZ rr 0 rfl ble) rfl) (Zt (Zyb (Zm0 (Zra s ZD) s.rep.ZO (es3 (ZZ rr 1 rfl ble) (ZZ rr 2 rfl ble) (ZZ rr 3 rfl ble)) (Zx9 s.rep S h))))))))
 |settle=>exact nomatch h
end
end
section
inductive VO(H:HC):Row→Prop
 |add {op:CS} {ks:List Nat} {i:Nat} (h:U9 H (op,ks)) (hi:Ye H (op,ks)=some i):VO H (.add op ks)
 |settle (h:H.waiting=[]):VO H .settle
inductive Zad(H:HC):CS→Prop
 |sf {t:CS} (h:∀(j k:Nat)(σ:St),NC (j+4) "row_of" [.str t,nA k] σ (QV k)):Zad H t
 |tf {t:CS} {row:Row} (h:∀(j k:Nat)(σ:St),Zq (j+4) "row_of" [.str t,nA k] σ (ZT row) σ) (hb:Zil H row):Zad H t
 |idle {t:CS} {row:Row} (h:∀(j k:Nat)(σ:St),Zq (j+4) "row_of" [.str t,nA k] σ (ZT row) σ) (hb:VO H row):Zad H t
section
variable{j k st:Nat}{σ σ':St}{L:Fld→Nat}{H:HC}{ν:Fm}{row:Row}{t:CS}
theorem Z0x(s:Sty σ st L H)(O:YE H)(S1:H.nodes.length≤62)(S2:H.rows.length≤190)(h:VO H row):∃σ' L',Zq (j+7) "Story.do" [.ref st,ZT row] σ .none σ'∧Tr σ L H σ' L' H:=by
 have S:Yv H:=⟨Nat.le_succ_of_le S1,Z7z S2 ble⟩
 have rr:EvE (j+6) QQ8 (upd (upd (λZ=>none) "self" (.ref st)) "row" (ZT row)) σ (ZT row) σ:=ZD
 cases h with
 |@add op ks i h hi=>
  obtain⟨σ',L',hc,t⟩:=Zts (j:=j) s.rep O S1 S2 h
  rw[Xn,hi]at t
  have rr:EvE (j+6) QQ8 (upd (upd (λZ=>none) "self" (.ref st)) "row" (ZT (.add op ks))) σ (.tup [.str YJ,.str op,.tup (ks.map nA)]) σ:=rr
  exact⟨σ',L',Zk Qq rfl (Zc (Zby (Zap (ZZ rr 0 rfl ble) rfl) (Qh (Qb (Zfg s ZD (es2 (ZZ rr 1 rfl ble) (ZZ rr 2 rfl ble)) hc)))) Zas),t⟩
 |settle h=>
  obtain⟨σ',L',hc,t⟩:=Zja (j:=j) s.rep O S S2
  rw[Jr,if_pos h,O.settle.go.empty h]at t
  have rr:EvE (j+6) QQ8 (upd (upd (λZ=>none) "self" (.ref st)) "row" (ZT .settle)) σ (.tup [.str Zx]) σ:=rr
  exact⟨σ',L',Zk Qq rfl (Zc (Zfq (Zbs (ZZ rr 0 rfl ble)) (Qh (Zfq (Zbs (ZZ rr 0 rfl ble)) (Qh (Qb (Zfg s ZD es0 hc)))))) Zas),t⟩
theorem Zza:Zik "HeapError" "TermFault":=⟨_,_,rfl,rfl,by kernel_rfl⟩
theorem Zzb:Zik "StoryFault" "StoryFault":=⟨_,_,rfl,rfl,by kernel_rfl⟩
theorem Zsb(s:Sty σ st L H)(hH:JU H)(S1:H.nodes.length≤62)(S2:H.rows.length≤190)(hν:ν "story"=some (.ref st))(h:Zad H t):NB (j+7) Zqc (upd (upd ν "k" (nA H.rows.length)) "line" (.str t)) σ (QV H.rows.length):=by
 cases h with
 |sf h=>exact Zt (Z42 (Uc (es2 (Zb (Zg ..)) (Zb (Za (Zg ..)))) (h (j+3) H.rows.length σ)))
 |@tf row h hb=>
  have nS:upd (upd (upd ν "k" (nA H.rows.length)) "line" (.str t)) "row" (ZT row) "story"=some (.ref st):=Za (Za (Za hν))
  have nk:upd (upd (upd ν "k" (nA H.rows.length)) "line" (.str t)) "row" (ZT row) "k"=some (nA H.rows.length):=Za (Za (Zg ..))
  refine Qt (Yk (ZY (es2 (Zb (Zg ..)) (Zb (Za (Zg ..)))) (h (j+3) H.rows.length σ))) (Zt ?_)
  obtain⟨x,σ1,T,hx⟩:=(Zm0 (Zb nS) s.obj (es1 (Zb (Zg ..))) (Z65 (j:=j+1) s hH S1 S2 hb):NE (j+7) (.mth (.loc "story") "do" [QQ8]) (upd (upd (upd ν "k" (nA H.rows.length)) "line" (.str t)) "row" (ZT row)) σ Xm).ex
  cases x with
  |mk id c kk cx m=>
  obtain⟨T1,T2,T3⟩:=T
  generalize hX:(XE.mk id c kk cx m)=x at T1 hx
  cases T1 with
  |mk id2 w hw=>
  injection hX with q1 q2 q3 q4 q5
  subst q1 q2 q3 q4 q5
  have T2:σ1.f id=some (.exc "TermFault" 1 (true,false) (tfm w)):=T2
  have T3:id<σ1.n:=T3
  refine⟨_,_,_,⟨.mk _ false w hw,Zs ..,?_⟩,Zr3 (Zor (Zt6 hx)) Zza (Ib (j:=j+5) (Zrb (Zb (Zg ..)) T2 (by kernel_rfl) (by kernel_rfl)) (Zb (Za nk))) ?_ (Zs ..) (Nat.succ_pos _)⟩
  ·exact Z79 _
  ·exact(Z0 (Nat.ne_of_lt T3)).trans ((Yz T3).trans T2)
 |@idle row h hb=>
  obtain⟨σ2,L2,hdo,t2⟩:=Z0x (j:=j) s hH.QO S1 S2 hb
  have s2:=s.step t2
  have nS:upd (upd (upd ν "k" (nA H.rows.length)) "line" (.str t)) "row" (ZT row) "story"=some (.ref st):=Za (Za (Za hν))
  have nk:upd (upd (upd ν "k" (nA H.rows.length)) "line" (.str t)) "row" (ZT row) "k"=some (nA H.rows.length):=Za (Za (Zg ..))
  exact Qt (Yk (ZY (es2 (Zb (Zg ..)) (Zb (Za (Zg ..)))) (h (j+3) H.rows.length σ))) (Qt (Zqb (Qh (Qb (Zlo s (Zb nS) (es1 (Zb (Zg ..))) hdo))))
   (Zt (Qd ((Zm ((Y1 (es1 (Zq7 s2 (Zb nS))) (.len (.lst (.ref s2.rep.rows)) (Zh (Z7z S2 ble)))).eqv (w:=nA H.rows.length) (by rw[Z8i])) (Yu (Zb nk) Zf (.Kc _ 1)) ((ZR.ne (.int 0 _ _) ble))).eqv (w:=.bool true) (Z81 ZA.bool (nF λq=>Nat.lt_irrefl H.rows.length (by injection q with q;omega)))) (Zt (UE Zf (Zb nk) ble)))))
theorem Vb.after{x:XE}{g:Option (Nat×List ZA)}{names:List String}{b:List PS}{xs ys:List (List ZA)}{ν' ν'':Fm}{σ1 σ2:St}{f0:Flw}(h:JN j g names b xs ν σ f0 ν' σ1)(h0:f0=.next)(h2:Vb j g names b x ys ν' σ1 ν'' σ2):Vb j g names b x (xs++ys) ν σ ν'' σ2:=by
 induction h with
 |nil _=>exact h2
 |turn hst hb h _ ih=>exact .later hst hb h (ih h0 h2)
 |ret _ _ _=>exact nomatch h0
theorem Z4z{t:CS}{rest:List CS}(hH:JU H)(S1:H.nodes.length≤62)(S2:H.rows.length≤190)(h:Zad H t)(hn:∀w∈t::rest,10∉w){text:CS}(e:text=Yc H.rows++((t::rest).map (·++[10])).flatten)(hl:text.length≤16000)(hr:H.rows.length+rest.length+1≤10000):NC (j+8) "read_story" [.str text] σ (QV H.rows.length):=by
 obtain⟨σ1,L1,S⟩:=Zlm (j+3) σ
 obtain⟨ν',σ2,L2,hf,tr,ns'⟩:=Zmn (j:=j) hH S1 S2 S.sty (ν:=upd (upd (λZ=>none) "text" (.str text)) "story" (.ref σ.n)) (Zg ..)
 have s2:=S.sty.step tr
 obtain⟨x,μ,σ3,T,hx⟩:=(Zsb (j:=j) s2 hH S1 S2 ns' h).ex
 have et:EvE (j+7) JM (upd (upd (λZ=>none) "text" (.str text)) "story" (.ref σ.n)) σ1 (.str text) σ1:=ZD
 have ea:text=((H.rows.map Ze++(t::rest)).map (·++[10])).flatten:=by
  rw[e,List.map_append,List.flatten_append]
  exact Z81 (·++_) (by rw[List.map_map];rfl)
 have hsp:Zp 10 text=(H.rows.map Ze++(t::rest))++[[]]:=by
  rw[ea,Zdj]
  exact λw hw=>(List.mem_append.mp hw).elim (λhw=>(Z8l.mp hw).elim λr q=>q.2▸Qc (hH.wf r q.1)) (hn w)
 have e1:EvE (j+7) De (upd (upd (λZ=>none) "text" (.str text)) "story" (.ref σ.n)) σ1 (.lst ((H.rows.map Ze++(t::rest)).map .str)) σ1:=by
  refine(Qw (Qr et (.split _) (es1 Zf) (.split hl)) Yb ⟨Zsz Zf,λsc q=>?_⟩ Yb (Zp7 (.lst _) ?_)).eqv ?_
  ·exact nomatch q
  ·rw[hsp,Z8i,Zd,Z8j,Z8i,Z8p];exact Z7z (Z75 hr) ble
  ·rw[hsp,List.map_append];exact Z81 ZA.lst List.dropLast_concat
 have hz:SrcR σ1 3 [.lst ((H.rows.map Ze++(t::rest)).map .str)] (Zmo H.rows++([nA H.rows.length,.str t]::(rest.zipIdx (H.rows.length+1)).map λp=>[nA p.2,.str p.1])) none:=by
  have:(((H.rows.map Ze++(t::rest)).map ZA.str).zipIdx.map λp=>[ZA.int (p.2:Nat),p.1])=Zmo H.rows++([nA H.rows.length,.str t]::(rest.zipIdx (H.rows.length+1)).map λp=>[nA p.2,.str p.1]):=by
   rw[List.zipIdx_map,List.map_map,List.zipIdx_append,List.map_append,List.zipIdx_map,List.map_map,Z8i,Nat.zero_add];rfl
  exact this▸.enu _
 refine Qo Zbc rfl (Qt (Yk (S.ev _)) (Qt (Zn ?_) (Zt ⟨x,μ,σ3,T,Zt5 (es1 e1) hz (.after hf rfl (.here Z3 rfl hx))⟩)))
 have ee:∃u,text=u++[10]:=by
  rcases List.eq_nil_or_concat (t::rest)with q | ⟨ws,w,q⟩
  ·exact nomatch q
  ·rw[e,q]
   refine⟨Yc H.rows++((ws.map (·++[10])).flatten++w),?_⟩
   rw[List.concat_eq_append,List.map_append,List.flatten_append,Z8n,Z8n]
   exact Z81 (Yc H.rows++·) (Z81 (_++·) (List.append_nil _))
 obtain⟨u,q⟩:=ee
 rw[q]at hl et ⊢
 exact Zw (Zlp et (List.append_ne_nil_of_right_ne_nil _ (List.cons_ne_nil _ _))) (Zpi (Yx et (Zsz Zf) (.last (by rw[Zd]at hl;exact Z8b hl))) rfl)
end
end
section
noncomputable def Ri:CS:=[114,111,119,32]
noncomputable def Rj:CS:=[58,32]
noncomputable def Kh(k:Nat):CS:=Ri++ZQ k++Rj
section
variable{md:Bool}{j k:Nat}{σ:St}{ν:Fm}{w text:CS}{e:PE}
theorem EvM.eqm{md:Bool}{j:Nat}{e:PE}{ν:Fm}{σ σ1:St}{v w:ZA}(h:EvM md j e ν σ v σ1)(q:v=w):EvM md j e ν σ w σ1:=q▸h
theorem UX(h:k<100):(k:Nat)<1000000000:=Z73 h ble
theorem Zge(h:k<100):(Kh k).length≤8:=by
 rw[Kh,Z8j,Z8j];exact Z77 (Z76 (Zfr h).len 4) 2
theorem Z0e(h:k<100)(he:ν "row"=some (nA k)):EvM md j Gb ν σ (.str (Kh k)) σ:=by
 have hl:=Zge h
 rw[Kh,Z8j]at hl
 have hl2:=hl
 rw[Z8j]at hl2
 exact Yu (Yu Zf (Zv8 (.cons (Zb he) (.nil _)) (.V5 (UX h)) λq=>absurd q (by decide)) (.K2 (Z7z (Z7z (Z71 _ _) hl2) ble))) Zf (.K2 (Z7z hl ble))
theorem Z0u{id:Nat}{cx:Bool×Bool}(hf:σ.f id=some (.exc "StoryFault" 2 cx (sfm w k)))(h:k<100)(hw:w.length≤200):QA md (j+1) "StoryFault.told" [.ref id] σ (.str (Kh k++w)) σ:=by
 have hl:=Zfr h
 have e:[114,111,119,32]++(ZQ k++([58,32]++(w++[])))=Kh k++w:=by
  rw[Kh,List.append_nil,Z8n,Z8n];rfl
 have hlen:([114,111,119,32]++(ZQ k++([58,32]++(w++[])))).length≤16000:=by
  rw[e,Z8j];exact Z7z (Nat.add_le_add (Zge h) hw) ble
 have b:=Zpt (rest:=[]) (Zau (md:=md) (j:=j) (Zs0 (ν:=upd (λZ=>none) "self" (.ref id)) (.txt (.fld (Zrb (Zb (Zg ..)) hf (n:="row") (by kernel_rfl) (by kernel_rfl)) (.int (UX h)) (.txt (.fld (Zrb (Zb (Zg ..)) hf (n:="what") (by kernel_rfl) (by kernel_rfl)) (.str w (Z7z hw ble)) (.nil _))))) hlen))
 rw[e]at b
 exact Zpk Zea rfl b
theorem Zjc(hk:k<100)(h:NC (j+1) "read_story" [.str text] σ (QV k)):∃σ',Zq (j+2) "_law_is_refused" [.str text,nA k] σ (.bool true) σ':=by
 obtain⟨x,σ1,T,hx⟩:=(Uc (ν:=upd (upd (λZ=>none) "text" (.str text)) "row" (nA k)) (es1 ZD) h:NE (j+1) (.fn "read_story" [JM]) (upd (upd (λZ=>none) "text" (.str text)) "row" (nA k)) σ (QV k)).ex
 cases x with
 |mk id c kk cx m=>
 obtain⟨T1,T2,T3⟩:=T
 generalize hX:(XE.mk id c kk cx m)=x at T1 hx
 cases T1 with
 |mk id2 b w hw=>
 injection hX with q1 q2 q3 q4 q5
 subst q1 q2 q3 q4 q5
 have T2:σ1.f id=some (.exc "StoryFault" 2 (b,false) (sfm w k)):=T2
 have nr:upd (upd (upd (λZ=>none) "text" (.str text)) "row" (nA k)) "fault" (.ref id) "row"=some (nA k):=Za (Zg ..)
 have e1:EvM true (j+1) (.cmp .Eq (.att (.loc "fault") "row") QQ8) (upd (upd (upd (λZ=>none) "text" (.str text)) "row" (nA k)) "fault" (.ref id)) σ1 (.bool true) σ1:=
  (Zm (Zrb (Zb (Zg ..)) T2 (by kernel_rfl) (by kernel_rfl)) (Zb nr) (.eq (.int 0 k k) ble)).eqm (Z81 ZA.bool (dT rfl))
 have e2:EvM true (j+1) (.slc (.mth (.loc "fault") "told" []) QQ5 (.blt "len" [Gb]) QQ5) (upd (upd (upd (λZ=>none) "text" (.str text)) "row" (nA k)) "fault" (.ref id)) σ1 (.str ((Kh k++w).take (Kh k).length)) σ1:=
  Qw (Z2m (Zb (Zg ..)) T2 (by kernel_rfl) (by kernel_rfl) (.nil _) (Z0u T2 hk hw)) Yb ⟨Zv8 (.cons (Z0e hk nr) (.nil _)) (.Ug (Z7z (Zge hk) ble)) λq=>absurd q (by decide),λsc q=>(nomatch q)⟩ Yb
   (.str (i:=(Kh k).length) (by rw[Z8j];exact Z71 _ _) (by rw[Z8j];exact Z7z (Nat.add_le_add (Zge hk) hw) ble))
 exact⟨_,Zpk Zd8 rfl (Zpt (Zt4 (Zor (Zt6 hx)) Zzb (Zw e1 ((Zm e2 (Z0e hk nr) (.eq (.str 0 _ _) ble)).eqm (Z81 ZA.bool (dT (Z81 ZA.str (List.take_left ..))))))))⟩
theorem Zuu{u:CS}{c:Nat}(hc:c≠10)(hl:(u++[c]).length≤16000)(hk:(u++[c]).count 10=k):NC (j+8) "read_story" [.str (u++[c])] σ (QV k):=by
 obtain⟨σ1,L1,S⟩:=Zlm (j+3) σ
 have et:EvE (j+7) JM (upd (upd (λZ=>none) "text" (.str (u++[c]))) "story" (.ref σ.n)) σ1 (.str (u++[c])) σ1:=ZD
 exact Qo Zbc rfl (Qt (Yk (S.ev _)) (Zt (Qd (Zw (Zlp et (List.append_ne_nil_of_right_ne_nil _ (List.cons_ne_nil _ _))) (Zlp (Yx et (Zsz Zf) (.last (by rw[Zd]at hl;exact Z8b hl))) λq=>hc (List.cons.inj q).1))
  (Zt (UE Zf ((Qr et (.count _) (es1 Zf) (.count _ 10)).eqv (Z81 (λn:Nat=>ZA.int n) hk)) ble)))))
end
end
section
structure Zi0(H:HC)(t:CS):Prop where
 no:Zad H t
 nl:10∉t
 len:t.length≤63
noncomputable def Z6a(m:Nat):CS:=[97,100,100,32,102,32]++ZQ m
noncomputable def Zwn(m:Nat):CS:=[115,97,109,101,32,48,32]++ZQ m++[32,116,111,108,100,32,115]
noncomputable def Z0j(m:Nat):CS:=[115,97,109,101,32,48,32,48,32,114,117,108,101,32,114,32,63,120,32]++ZQ m
noncomputable def Zzm:List CS:=[[97,100,100],[112,117,116,32,97],[],[97,100,100,32,97,32,48,48],[97,100,100,32,102,32,48,120]]
noncomputable def Z2y(m:Nat):List CS:=[[97,100,100,32,102,32,32,48],[97,100,100,32,40,97],[97,100,100,32,63,120],Z6a m,[115,101,116,116,108,101,32,110,111,119]]
noncomputable def Z2x(m:Nat):List CS:=[[115,97,109,101,32,48],[115,97,109,101,32,48,32,48,32,116,111,108,100],[115,97,109,101,32,48,32,48,32,116,111,108,100,32,115,32,116,32,117],Zwn m]
noncomputable def Z2w(m:Nat):List CS:=[[115,97,109,101,32,48,32,48,32,114,117,108,101,32,114,32,63,121,32,48,32,63,120,32,48],[115,97,109,101,32,48,32,48,32,114,117,108,101,32,114,32,120,32,48],Z0j m]
noncomputable def Z2v:List CS:=[[115,97,109,101,32,48,32,48,32,98,101,99,97,117,115,101,32,115],[115,97,109,101,32,48,32,48,32,114,117,108,101,32,114,32,63,120],[97,100,100,32,102,32,49,48,48,48,48,48,48,48,48,48],Zx]
section
variable{H:HC}{t w:CS}{ws:List CS}{r:Row}
theorem Zcl(h:Zp 32 t=w::ws)(hl:Nat.ble t.length 63=true)(h2:Nat.ble (w::ws).length 100=true):Words t (w::ws):=⟨h,Z7z (Z78 hl) ble,Nat.succ_pos _,Z78 h2⟩
theorem Zcg(h:Zad H t)(hb:(Nat.ble t.length 63&&!t.contains 10)=true):Zi0 H t:=
 ⟨h,λq=>absurd (List.contains_iff_mem.mpr q) (by rw[show t.contains 10=false from(Bool.not_eq_true' _).mp (ZC hb).2];exact Z86),Z78 (ZC hb).1⟩
theorem Zeq(h:Zp 32 t=w::ws)(hl:Nat.ble t.length 63=true)(h2:Nat.ble (w::ws).length 100=true)(h3:Zii (w::ws)):Zad H t:=.sf λj k σ=>Z1z (Zcl h hl h2) h3
theorem Zly{op:CS}(h:Zp 32 t=YJ::op::w::ws)(hl:Nat.ble t.length 63=true)(h2:Nat.ble (YJ::op::w::ws).length 100=true)(h3:JV w):Zad H t:=.sf λj k σ=>Zyc (Zcl h hl h2) h3
theorem Zer(h:Zp 32 t=Y0::ws)(hl:Nat.ble t.length 63=true)(h2:Nat.ble (Y0::ws).length 100=true)(h3:Zfj (Y0::ws)):Zad H t:=.sf λj k σ=>Zmz (Zcl h hl h2) (Z4x h3 (Z78 h2))
theorem Zl7(h:Jq r)(e:t=Ze r)(hb:Zil H r∨VO H r):Zi0 H t:=by
 rw[e]
 exact⟨hb.elim (.tf λj k σ=>Zgw (j:=j+1) h) (.idle λj k σ=>Zgw (j:=j+1) h),Qc h,J0 h⟩
theorem Dz{P:CS→Prop}{a b c d e:CS}(ha:P a)(hb:P b)(hc:P c)(hd:P d)(he:P e):∀t∈[a,b,c,d,e],P t:=List.forall_mem_cons.mpr ⟨ha,List.forall_mem_cons.mpr ⟨hb,List.forall_mem_cons.mpr ⟨hc,List.forall_mem_cons.mpr ⟨hd,List.forall_mem_cons.mpr ⟨he,Zig⟩⟩⟩⟩⟩
theorem Gv{P:CS→Prop}{a b c:CS}(ha:P a)(hb:P b)(hc:P c):∀t∈[a,b,c],P t:=List.forall_mem_cons.mpr ⟨ha,List.forall_mem_cons.mpr ⟨hb,List.forall_mem_cons.mpr ⟨hc,Zig⟩⟩⟩
theorem okS:okW [115]:=⟨okB rfl,ble⟩
theorem okR:okW [114]:=⟨okB rfl,ble⟩
theorem okF:okW [102]:=⟨okB rfl,ble⟩
theorem Zwy:∀t∈Zzm,Zi0 H t:=Dz
 (Zcg (Zeq (w:=YJ) (ws:=[]) (by kernel_rfl) rfl rfl (.mk (λZ=>rfl) (by decide) (by decide))) (by kernel_rfl))
 (Zcg (Zeq (w:=[112,117,116]) (ws:=[[97]]) (by kernel_rfl) rfl rfl (.mk (λq=>absurd q (by decide)) (by decide) (by decide))) (by kernel_rfl))
 (Zcg (Zeq (w:=[]) (ws:=[]) (by kernel_rfl) rfl rfl (.mk (λq=>absurd q (by decide)) (by decide) (by decide))) (by kernel_rfl))
 (Zcg (Zly (op:=[97]) (w:=[48,48]) (ws:=[]) (by kernel_rfl) rfl rfl (.zero (r:=[48]) (List.cons_ne_nil _ _) ble (by decide))) (by kernel_rfl))
 (Zcg (Zly (op:=[102]) (w:=[48,120]) (ws:=[]) (by kernel_rfl) rfl rfl (.sign ble (List.cons_ne_nil _ _) (by decide) (by decide))) (by kernel_rfl))
theorem Z25(m:Nat):Z6a m=Ze (.add [102] [m]):=by
 show _=Yg [32] [YJ,[102],ZQ m]
 rw[Zl,Zl];rfl
theorem Zxt(m:Nat):Zwn m=Ze (.same 0 m (.told [115])):=by
 show _=Yg [32] [Y0,[48],ZQ m,Zf6,[115]]
 rw[Zl,Zl,Zl,Zl,Zwn,Z8n];rfl
theorem Zxu(m:Nat):Z0j m=Ze (.same 0 0 (.rule [114] [(sX,m)])):=by
 show _=Yg [32] [Y0,[48],[48],Zc6,[114],sX,ZQ m]
 rw[Zl,Zl,Zl,Zl,Zl,Zl];rfl
theorem Z0i{op:CS}(h:Zp 32 t=[YJ,op])(hl:Nat.ble t.length 63=true)(hb:Zw8 op):Zad H t:=.tf (row:=.add op []) (λj k σ=>Zzg (Zcl h hl rfl)) (.add (.op hb))
theorem Zwx(hm:H.nodes.length<100):∀t∈Z2y H.nodes.length,Zi0 H t:=Dz
 (Zcg (Zly (op:=[102]) (w:=[]) (ws:=[[48]]) (by kernel_rfl) rfl rfl .empty) (by kernel_rfl))
 (Zcg (Z0i (op:=[40,97]) (by kernel_rfl) rfl .paren) (by kernel_rfl))
 (Zcg (Z0i (op:=[63,120]) (by kernel_rfl) rfl .var) (by kernel_rfl))
 (Zl7 (r:=.add [102] [H.nodes.length]) (.add okF ble λk q=>Z8m.mp q▸hm) (Z25 _) (.inl (.add (.kid okF.op (by decide) (Z70 _) hm))))
 (Zcg (Zeq (w:=Zx) (ws:=[[110,111,119]]) (by kernel_rfl) rfl rfl (.mk (λq=>absurd q (by decide)) (by decide) (by decide))) (by kernel_rfl))
theorem Zww(hm:H.nodes.length<100):∀t∈Z2x H.nodes.length,Zi0 H t:=List.forall_mem_cons.mpr ⟨
 Zcg (Zer (ws:=[[48]]) (by kernel_rfl) rfl rfl (.few (by decide))) (by kernel_rfl),Gv
 (Zcg (Zer (ws:=[[48],[48],Zf6]) (by kernel_rfl) rfl rfl (.few (by decide))) (by kernel_rfl))
 (Zcg (Zer (ws:=[[48],[48],Zf6,[115],[116],[117]]) (by kernel_rfl) rfl rfl (.more (by decide) (by decide) rfl)) (by kernel_rfl))
 (Zl7 (r:=.same 0 H.nodes.length (.told [115])) (.same (by decide) hm (.told okS)) (Zxt _) (.inl (.num ⟨okS.op,Z8d _,λp q=>nomatch q⟩ (Z70 _))))⟩
theorem Wc{j k:Nat}{σ:St}:Zq (j+4) "row_of" [.str [115,97,109,101,32,48,32,48,32,114,117,108,101,32,114,32,120,32,48],nA k] σ (ZT (.same 0 0 (.rule [114] [([120],0)]))) σ:=
 Zwh (Zcl (w:=Y0) (ws:=[[48],[48],Zc6,[114],[120],[48]]) (by kernel_rfl) rfl rfl) (Zfn (j:=j+1) (ps:=[([120],0)]) (by decide) (by decide) ⟨ble,λp q=>by rw[Z8m.mp q];show(0:Nat)<100;decide,λp q=>by rw[Z8m.mp q];exact ble⟩
  ⟨by kernel_rfl,by kernel_rfl,rfl,rfl,ble,ble,by show((7:Nat):Int) % 2≠0;decide,by kernel_rfl,by kernel_rfl,Zjy⟩)
theorem Zwv(hm:H.nodes.length<100):∀t∈Z2w H.nodes.length,Zi0 H t:=Gv
 (Zcg (.sf λj k σ=>Zmz (Zcl (w:=Y0) (ws:=[[48],[48],Zc6,[114],sY,[48],sX,[48]]) (by kernel_rfl) rfl rfl) Zus) (by kernel_rfl))
 (Zcg (.tf (row:=.same 0 0 (.rule [114] [([120],0)])) (λj k σ=>Wc) (.why (.name okR.op))) (by kernel_rfl))
 (Zl7 (r:=.same 0 0 (.rule [114] [(sX,H.nodes.length)])) (.same (by decide) (by decide) (.rule okR (.one hm))) (Zxu _) (.inl (.why (.num okR.op (Z70 _)))))
theorem Zie(h:H.waiting=[]):Zi0 H Zx:=Zl7 (r:=.settle) .settle rfl (.inr (.settle h))
theorem Zwu:∀t∈Z2v,t≠Zx→Zi0 H t:=List.forall_mem_cons.mpr ⟨
 λZ=>Zcg (Zer (ws:=[[48],[48],[98,101,99,97,117,115,101],[115]]) (by kernel_rfl) rfl rfl (.word (w:=[98,101,99,97,117,115,101]) (by decide) (by decide) rfl (by decide) (by decide))) (by kernel_rfl),Gv
 (λZ=>Zcg (Zer (ws:=[[48],[48],Zc6,[114],sX]) (by kernel_rfl) rfl rfl (.Ia (by decide) (by decide))) (by kernel_rfl))
 (λZ=>Zcg (Zly (op:=[102]) (w:=[49,48,48,48,48,48,48,48,48,48]) (ws:=[]) (by kernel_rfl) rfl rfl (.long (by decide) ble)) (by kernel_rfl))
 (λq=>absurd rfl q)⟩
end
end
section
noncomputable def Zc8(cells:List Int)(QT:Nat):ZK:=.list [.lst (cells.map .int),nA QT]
structure Fed(σ:St)(fd:Nat)(cells:List Int)(s:Nat)(σ':St):Prop where
 n:σ'.n=σ.n
 feed:σ'.f fd=some (Zc8 cells s)
 old:∀id,id≠fd→σ'.f id=σ.f id
section
variable{j fd QT s s2 w:Nat}{σ σ1 σ2 σ':St}{cells:List Int}{ν:Fm}{k:CS}{e1 e2:PE}{a b:Nat}
theorem Zh7(h1:EvE j e1 ν σ (nA a) σ1)(h2:EvE j e2 ν σ1 (nA b) σ2):EvE j (.bin .Add e1 e2) ν σ (nA (a+b)) σ2:=(Yu h1 h2 (.Kc a b)).eqv rfl
theorem Zv5(h1:EvE j e1 ν σ (nA a) σ1)(h2:EvE j e2 ν σ1 (nA b) σ2)(ha:a≤100000):EvE j (.bin .Mult e1 e2) ν σ (nA (a*b)) σ2:=(Yu h1 h2 (.Dy a b ⟨Int.lt_of_lt_of_le (by decide) (Int.natCast_nonneg a),Int.lt_of_le_of_lt (Int.ofNat_le.mpr ha) (by decide)⟩)).eqv rfl
theorem Z0d(h1:EvE j e1 ν σ (nA a) σ1)(h2:EvE j e2 ν σ1 (nA b) σ2)(h:b≤a):EvE j (.bin .Sub e1 e2) ν σ (nA (a-b)) σ2:=(Yu h1 h2 (.VQ a b)).eqv (Z81 ZA.int (Int.ofNat_sub h).symm)
theorem Z0f{c:Int}(h1:EvE j e1 ν σ (.int c) σ1)(h2:EvE j e2 ν σ1 (nA w) σ2)(hw:0<w):∃d,d<w∧EvE j (.bin .Mod e1 e2) ν σ (nA d) σ2:=by
 have hw':(0:Int)<w:=Int.natCast_pos.mpr hw
 obtain⟨d,hd⟩:=Int.eq_ofNat_of_zero_le (Int.emod_nonneg c (Int.ne_of_gt hw'))
 exact⟨d,Int.ofNat_lt.mp (hd▸Int.emod_lt_of_pos c hw'),(Yu h1 h2 (.KN c w hw')).eqv (Z81 ZA.int hd)⟩
structure Z7y(j:Nat)(σ:St)(fd:Nat)(cells:List Int)(QT w d:Nat)(σ':St):Prop where
 lt:d<w
 call:Zq j "_law_dip" [.ref fd,nA w] σ (nA d) σ'
 fed:Fed σ fd cells (QT+1) σ'
theorem Jz(hf:σ.f fd=some (Zc8 cells QT))(hw:0<w)(hs:QT≤1000)(hc:cells.length≤40):∃d σ',Z7y (j+1) σ fd cells QT w d σ':=by
 have hl:cells.length≤16000:=Z7z hc ble
 have fed:Fed σ fd cells (QT+1) (σ.put fd (Zc8 cells (QT+1))):=⟨rfl,Zs ..,λid q=>Z0 q⟩
 have s1:ExS j (.unp ["cells","place"] (.loc "feed")) (upd (upd (λZ=>none) "feed" (.ref fd)) "top" (nA w)) σ .next (upd (upd (upd (upd (λZ=>none) "feed" (.ref fd)) "top" (nA w)) "cells" (.lst (cells.map .int))) "place" (nA QT)) σ:=
  Zmk ZD (.lst (.ref hf)) rfl
 have s2:ExS j (.six (.loc "feed") QQ3 (.bin .Add Xb QQ3)) (upd (upd (upd (upd (λZ=>none) "feed" (.ref fd)) "top" (nA w)) "cells" (.lst (cells.map .int))) "place" (nA QT)) σ .next (upd (upd (upd (upd (λZ=>none) "feed" (.ref fd)) "top" (nA w)) "cells" (.lst (cells.map .int))) "place" (nA QT)) (σ.put fd (Zc8 cells (QT+1))):=
  Zr2 (Zh7 (a:=QT) (b:=1) ZD Zf) ZD Zf (K3.eqv (.list (k:=1) hf (by show 1<2;decide) ble) rfl)
 have en:∀{σ:St},EvE j (.blt "len" [.loc "cells"]) (upd (upd (upd (upd (λZ=>none) "feed" (.ref fd)) "top" (nA w)) "cells" (.lst (cells.map .int))) "place" (nA QT)) σ (nA cells.length) σ:=λ{σ}=>Z5v (f:=.int) ZD hl
 have ep:∀{σ:St},EvE j Xb (upd (upd (upd (upd (λZ=>none) "feed" (.ref fd)) "top" (nA w)) "cells" (.lst (cells.map .int))) "place" (nA QT)) σ (nA QT) σ:=λ{σ}=>ZD
 have ew:∀{σ:St},EvE j (.loc "top") (upd (upd (upd (upd (λZ=>none) "feed" (.ref fd)) "top" (nA w)) "cells" (.lst (cells.map .int))) "place" (nA QT)) σ (nA w) σ:=λ{σ}=>ZD
 by_cases h:QT<cells.length
 ·obtain⟨c,hc'⟩:=Zbt h
  obtain⟨d,hd,hm⟩:=Z0f (σ:=σ.put fd (Zc8 cells (QT+1))) (Yx ZD ep (.lst (.lst (cells.map .int)) (Zaa hc') (Zh hl))) ew hw
  exact⟨d,_,hd,Zk Zhm rfl (Zc s1 (Zc s2 (Qz (Zbr ((Zm ep en (.lt _ _)).eqv (Z81 ZA.bool (dT (Int.ofNat_lt.mpr h)))) (Zau hm))))),fed⟩
 ·have h3:4*QT≤100000:=Z7z (Nat.mul_le_mul_left 4 hs) ble
  obtain⟨d,hd,hm⟩:=Z0f (σ:=σ.put fd (Zc8 cells (QT+1))) (Yu (Zh7 (Zh7 (Zh7 (Zv5 (Zv5 (Zf (v:=nA 4)) ep ble) ep h3) (Zv5 (Zf (v:=nA 3)) ep ble)) en) (Zf (v:=nA 6))) (Zf (v:=.int 53)) (.KN _ 53 (by decide))) ew hw
  exact⟨d,_,hd,Zk Zhm rfl (Zc s1 (Zc s2 (Zc (Zn ((Zm ep en (.lt _ _)).eqv (Z81 ZA.bool (dF (Int.not_lt.mpr (Int.ofNat_le.mpr (Nat.le_of_not_lt h))))))) (Y6 hm)))),fed⟩
theorem Z0y{is:List Int}(hl:is.length≤63):∃cells,cells.length≤40∧Zq (j+1) "_law_feed" [.lst (is.map .int)] σ (.ref σ.n) (σ.new (Zc8 cells 0)):=by
 have hll:(is.map ZA.int).length≤16000:=Zh (Z7z hl ble)
 have hg:LcR j none ["cell"] [] (.bin .Mod (.blt "int" [.loc "cell"]) (.cst (.int 10039))) (upd (λZ=>none) "script" (.lst (is.map .int))) (((is.take 40).map .int).map λx=>[x]) [] σ ([]++(is.take 40).map λc=>.int (c % 10039)) σ:=
  Zbl Z3 (λc Z=>Yu (Y1 (es1 (Zb (Zg ..))) (.GD c)) Zf (.KN c 10039 (by decide))) (by rw[List.length_nil,Nat.zero_add,List.length_take];exact Z7z (Nat.min_le_left ..) ble)
 refine⟨(is.take 40).map (· % 10039),by rw[Z8i,List.length_take];exact Nat.min_le_left ..,?_⟩
 rw[show Zc8 ((is.take 40).map (· % 10039)) 0=.list [.lst ([]++(is.take 40).map λc=>.int (c % 10039)),nA 0]from by rw[Zc8,List.map_map];rfl]
 exact Zk Znk rfl (Y6 (Zsy (es2 (Qx (es1 ((Qw ZD Yb Yb Yb (Zzx (k:=40) (.lst _) hll)).eqv (w:=.lst ((is.take 40).map .int)) (by rw[List.map_take]))) (.lst _) hg) Zf)))
theorem Zm2{ts:List CS}(h:∀t∈ts,t.length≤63):(ts.map (·++[10])).flatten.length≤64*ts.length:=by
 induction ts with
 |nil=>exact Z8d _
 |cons t ts ih=>
  show((t++[10])++(ts.map (·++[10])).flatten).length≤_
  rw[Z8j,Zd,Z8p,Nat.mul_succ,Nat.add_comm]
  exact Nat.add_le_add (ih λq hq=>h q (Z8h _ hq)) (Z75 (h t Z8g))
theorem Zkn{ts:List CS}(h:∀t∈ts,t.length≤63)(hl:ts.length≤200):Zq (j+1) "_law_text" [.lst (ts.map .str)] σ (.str (ts.map (·++[10])).flatten) σ:=by
 have hg:LcR j none ["row"] [] (.bin .Add QQ8 (.cst (.str [10]))) (upd (λZ=>none) "rows" (.lst (ts.map .str))) ((ts.map .str).map λx=>[x]) [] σ ([]++ts.map λt=>.str (t++[10])) σ:=
  Zbl Z3 (λt ht=>Yu (Zb (Zg ..)) Zf (.K2 (by show _+1≤_;exact Z7z (Z75 (h t ht)) ble))) (lc0 hl)
 refine Zk Zni rfl (Y6 ((Qr Zf (.join []) (es1 (Qx (es1 ZD) (.lst _) hg)) (.join (ys:=ts.map (·++[10])) ?_ ?_ ?_ (Z8d _))).eqv ?_))
 ·show List.map _ ts=List.map ZA.str (List.map _ ts);rw[List.map_map];rfl
 ·rw[Zd4];exact Z7z (Zm2 h) (Z7z (Nat.mul_le_mul_left 64 hl) ble)
 ·rw[Z8i];exact Z7z hl ble
 ·rw[Zd4]
end
end
section
noncomputable def Z6w:CS:=[97,100,100,32]
noncomputable def Zf7(t:CS):Bool:=decide (t.take 4=Z6w)
inductive Zoc(m:Nat)(ahead:List CS):CS→Prop
 |one {t:CS} (h:t∈Zzm):Zoc m ahead t
 |two {t:CS} (h:t∈Z2y m):Zoc m ahead t
 |three {t:CS} (h:t∈Z2x m):Zoc m ahead t
 |four {t:CS} (h:t∈Z2w m):Zoc m ahead t
 |DY {t:CS} (h:t∈Z2v):Zoc m ahead t
 |again {t:CS} (h:t∈ahead) (h4:Zf7 t=true):Zoc m ahead t
section
variable{j m:Nat}{σ σ1 σ2:St}{ν:Fm}{which:Nat}{es:List PE}{ts ahead:List CS}
theorem Zq8{base:Nat}(hw:ν "which"=some (nA which))(hes:JF j ν es σ (ts.map .str) σ)(h1:base≤which)(h2:which<base+ts.length)(hl:ts.length≤16000):∃t,t∈ts∧EvE j (.idx (.lst es) (.bin .Sub Xz (.cst (.int base)))) ν σ (.str t) σ:=by
 obtain⟨t,ht⟩:=Zbt (l:=ts) (i:=which-base) (Nat.sub_lt_left_of_lt_add h1 h2)
 exact⟨t,Z89 ht,Yx (Qs hes) (Z0d (Zb hw) Zf h1) (.lst (k:=which-base) (.lst _) (Zaa ht) (Zh hl))⟩
theorem Yw{k:Nat}{b:Bool}(hw:ν "which"=some (nA which))(h:decide (which<k)=b):EvE j (.cmp .Lt Xz (.cst (.int k))) ν σ (.bool b) σ:=(Zm (Zb hw) Zf (.lt which k)).eqv (Z81 ZA.bool ((decide_eq_decide.mpr Int.ofNat_lt).trans h))
theorem Zv1(hm:m<100)(h:ν "many"=some (nA m)):EvE j U1 ν σ (.str (ZQ m)) σ:=Y1 (es1 (Zb h)) (.V5 (UX hm))
theorem Zl2{a:CS}(hm:m<100)(h:Nat.ble (a.length+2) 16000=true):a.length+(ZQ m).length≤16000:=Z7z (Z76 (Zfr hm).len _) (Z78 h)
theorem Zql{e:PE}{q:CS→ZA}(ha:∀t∈ahead,4≤t.length∧t.length≤63)(hl:ahead.length≤200)(he:∀t∈ahead,EvE j e (upd (hide ν) "row" (.str t)) σ (q t) σ):
  LcR j none ["row"] [QQ2] e ν ((ahead.map .str).map λx=>[x]) [] σ ([]++(ahead.filter Zf7).map q) σ:=
 Zax Z3 (λt ht=>by
  have e1:EvE j QQ2 (upd (hide ν) "row" (.str t)) σ (.bool (Zf7 t)) σ:=
   (Zm (Qw (Zb (Zg ..)) Yb Yb Yb (.str (i:=4) (ha t ht).1 (Z7z (ha t ht).2 ble))) Zf (.eq (.str 0 _ _) ble)).eqv (Z81 ZA.bool (decide_eq_decide.mpr ⟨λq=>by injection q,λq=>Z81 ZA.str q⟩))
  refine⟨?_,λZ=>he t ht⟩
  cases hd:Zf7 t with
  |true=>rw[hd]at e1;exact .yes e1 (.nil _)
  |false=>rw[hd]at e1;exact .no e1) (by rw[List.length_nil,Nat.zero_add];exact Z7z hl ble)
theorem Z0z(hm:m<100)(ha:∀t∈ahead,4≤t.length∧t.length≤63)(hl:ahead.length≤200):∃t,Zoc m ahead t∧Zq (j+1) "_law_bent" [nA which,nA m,.lst (ahead.map .str)] σ (.str t) σ:=by
 generalize hν:upd (upd (upd (λZ=>none) "which" (nA which)) "many" (nA m)) "ahead" (.lst (ahead.map .str))=ν
 have hw:ν "which"=some (nA which):=by rw[←hν];kernel_rfl
 have hmm:ν "many"=some (nA m):=by rw[←hν];kernel_rfl
 have hah:ν "ahead"=some (.lst (ahead.map .str)):=by rw[←hν];kernel_rfl
 have hb:Zv ["which","many","ahead"] [nA which,nA m,.lst (ahead.map .str)] (λZ=>none)=some ν:=by rw[←hν];rfl
 clear hν
 have d1:JF j ν [XN,.cst (.str [112,117,116,32,97]),K6,.cst (.str [97,100,100,32,97,32,48,48]),.cst (.str [97,100,100,32,102,32,48,120])] σ (Zzm.map .str) σ:=.cons Zf (.cons Zf (es3 Zf Zf Zf))
 have d2:JF j ν [.cst (.str [97,100,100,32,102,32,32,48]),.cst (.str [97,100,100,32,40,97]),.cst (.str [97,100,100,32,63,120]),.bin .Add (.cst (.str [97,100,100,32,102,32])) U1,.cst (.str [115,101,116,116,108,101,32,110,111,119])] σ ((Z2y m).map .str) σ:=
  .cons Zf (.cons Zf (es3 Zf (Yu Zf (Zv1 hm hmm) (.K2 (Zl2 hm rfl))) Zf))
 have d3:JF j ν [.cst (.str [115,97,109,101,32,48]),.cst (.str [115,97,109,101,32,48,32,48,32,116,111,108,100]),.cst (.str [115,97,109,101,32,48,32,48,32,116,111,108,100,32,115,32,116,32,117]),Iq] σ ((Z2x m).map .str) σ:=
  .cons Zf (es3 Zf Zf (Yu (Yu Zf (Zv1 hm hmm) (.K2 (Zl2 hm rfl))) Zf (.K2 (by rw[Z8j];exact Z7z (Z77 (Z76 (Zfr hm).len _) _) ble))))
 have d4:JF j ν [Il,.cst (.str [115,97,109,101,32,48,32,48,32,114,117,108,101,32,114,32,120,32,48]),Ik] σ ((Z2w m).map .str) σ:=
  es3 Zf Zf (Yu Zf (Zv1 hm hmm) (.K2 (Zl2 hm rfl)))
 have d5:JF j ν [.cst (.str [115,97,109,101,32,48,32,48,32,98,101,99,97,117,115,101,32,115]),.cst (.str [115,97,109,101,32,48,32,48,32,114,117,108,101,32,114,32,63,120]),.cst (.str [97,100,100,32,102,32,49,48,48,48,48,48,48,48,48,48]),XO] σ (Z2v.map .str) σ:=.cons Zf (es3 Zf Zf Zf)
 by_cases h1:which<5
 ·obtain⟨t,ht⟩:=Zbt (l:=Zzm) (i:=which) h1
  exact⟨t,.one (Z89 ht),Zk Qu hb (Qz (Zbr (Yw hw (dT h1)) (Zau (Yx (Qs d1) (Zb hw) (.lst (k:=which) (.lst _) (Zaa ht) ble)))))⟩
 by_cases h2:which<10
 ·obtain⟨t,ht,he⟩:=Zq8 (base:=5) hw d2 (Nat.not_lt.mp h1) h2 ble
  exact⟨t,.two ht,Zk Qu hb (Zc (Zn (Yw hw (dF h1))) (Qz (Zbr (Yw hw (dT h2)) (Zau he))))⟩
 by_cases h3:which<14
 ·obtain⟨t,ht,he⟩:=Zq8 (base:=10) hw d3 (Nat.not_lt.mp h2) h3 ble
  exact⟨t,.three ht,Zk Qu hb (Zc (Zn (Yw hw (dF h1))) (Zc (Zn (Yw hw (dF h2))) (Qz (Zbr (Yw hw (dT h3)) (Zau he)))))⟩
 by_cases h4:which<17
 ·obtain⟨t,ht,he⟩:=Zq8 (base:=14) hw d4 (Nat.not_lt.mp h3) h4 ble
  exact⟨t,.four ht,Zk Qu hb (Zc (Zn (Yw hw (dF h1))) (Zc (Zn (Yw hw (dF h2))) (Zc (Zn (Yw hw (dF h3))) (Qz (Zbr (Yw hw (dT h4)) (Zau he))))))⟩
 by_cases h5:which<21
 ·obtain⟨t,ht,he⟩:=Zq8 (base:=17) hw d5 (Nat.not_lt.mp h4) h5 ble
  exact⟨t,.DY ht,Zk Qu hb (Zc (Zn (Yw hw (dF h1))) (Zc (Zn (Yw hw (dF h2))) (Zc (Zn (Yw hw (dF h3))) (Zc (Zn (Yw hw (dF h4))) (Qz (Zbr (Yw hw (dT h5)) (Zau he)))))))⟩
 have hfl:((ahead.filter Zf7).map ZA.str).length+1≤16000:=by rw[Z8i];exact Z7z (Z77 (Z7z (List.length_filter_le _ _) hl) 1) ble
 have e1:EvE j (.bin .Add (.comp QQ8 ["row"] 0 [.loc "ahead"] [QQ2]) (.lst [XN])) ν σ (.lst ((ahead.filter Zf7).map ZA.str++[.str YJ])) σ:=
  Yu (Qx (es1 (Zb hah)) (.lst (ahead.map .str)) (Zql ha hl λt Z=>Zb (Zg ..))) (Qs (es1 Zf)) (.XA (.lst _) (.lst _) hfl)
 have fin:∀{t:CS},((ahead.filter Zf7).map ZA.str++[.str YJ])[0]? = some (.str t)→Zq (j+1) "_law_bent" [nA which,nA m,.lst (ahead.map .str)] σ (.str t) σ:=λht=>
  Zk Qu hb (Zc (Zn (Yw hw (dF h1))) (Zc (Zn (Yw hw (dF h2))) (Zc (Zn (Yw hw (dF h3))) (Zc (Zn (Yw hw (dF h4))) (Zc (Zn (Yw hw (dF h5))) (Y6 (Yx e1 Zf (.lst (k:=0) (.lst _) ht (by rw[Z8j];exact hfl)))))))))
 cases hf:ahead.filter Zf7 with
 |nil=>exact⟨YJ,.one Z8g,fin (by rw[hf];rfl)⟩
 |cons t r=>
  have:=List.mem_filter.mp (show t∈ahead.filter Zf7 by rw[hf];exact Z8g)
  exact⟨t,.again this.1 this.2,fin (by rw[hf];rfl)⟩
end
end
section
noncomputable def mt(x y h:Nat):Nat:=if h=max x y then min x y else h
noncomputable def hAt(hs:List Nat)(k:Nat):Nat:=(hs[k]?).getD 0
noncomputable def Zfb(hs:List Nat)(a b:Nat):List Nat:=hs.map (mt (hAt hs a) (hAt hs b))
structure JS(σ:St)(id:Nat)(o:ZK)(σ':St):Prop where
 n:σ'.n=σ.n
 is:σ'.f id=some o
 old:∀i,i≠id→σ'.f i=σ.f i
section
variable{j hm:Nat}{σ σ1 σ2:St}{o o1 o2:ZK}{hs:List Nat}{ν:Fm}{a b:Nat}
theorem JS.refl{id:Nat}(h:σ.f id=some o):JS σ id o σ:=⟨rfl,h,λZ Z=>rfl⟩
theorem JS.trans{id:Nat}(h:JS σ id o1 σ1)(h2:JS σ1 id o2 σ2):JS σ id o2 σ2:=⟨h2.n.trans h.n,h2.is,λi q=>(h2.old i q).trans (h.old i q)⟩
theorem JS.put{id:Nat}:JS σ id o (σ.put id o):=⟨rfl,Zs ..,λi q=>Z0 q⟩
theorem Zvm{b:List PS}{x:String}{n:Nat}(P:Nat→Fm→St→Prop)(step:∀i ν σ,i<n→P i ν σ→∃ν' σ',ExB j b (upd ν x (nA i)) σ .next ν' σ'∧P (i+1) ν' σ'):
  ∀(m s:Nat){ν:Fm}{σ:St},s+m=n→P s ν σ→∃ν' σ',JN j none [x] b ((List.range' s m).map λ(i:Nat)=>[ZA.int i]) ν σ .next ν' σ'∧P n ν' σ'
 |0,s,ν,σ,e,h=>⟨ν,σ,.nil Z3,e▸h⟩
 |m+1,s,ν,σ,e,h=>by
  obtain⟨ν1,σ1,h1,h2⟩:=step s ν σ (e▸Nat.lt_add_of_pos_right (Nat.succ_pos m)) h
  obtain⟨ν2,σ2,h3,h4⟩:=Zvm P step m (s+1) ((Nat.succ_add_eq_add_succ s m).trans e) h2
  exact⟨ν2,σ2,.turn Z3 rfl h1 h3,h4⟩
theorem Zd7{b:List PS}{x:String}{n:Nat}(P:Nat→Fm→St→Prop)(step:∀i ν σ,i<n→P i ν σ→∃ν' σ',ExB j b (upd ν x (nA i)) σ .next ν' σ'∧P (i+1) ν' σ'){ν:Fm}{σ:St}(h:P 0 ν σ):
  ∃ν' σ',JN j none [x] b ((List.range n).map λ(i:Nat)=>[ZA.int i]) ν σ .next ν' σ'∧P n ν' σ':=by
 rw[List.range_eq_range'];exact Zvm P step n 0 (Nat.zero_add n) h
theorem Zny{x i:PE}{k:Nat}(hx:EvE j x ν σ (.ref hm) σ)(hi:EvE j i ν σ (nA k) σ)(h:σ.f hm=some (.list (hs.map nA)))(hk:k<hs.length)(hl:hs.length≤16000):EvE j (.idx x i) ν σ (nA (hAt hs k)) σ:=by
 obtain⟨v,hv⟩:=Zbt hk
 exact(Yx hx hi (.lst (.ref h) (Zaa hv) (Zh hl))).eqv (by rw[hAt,hv];rfl)
structure VN(hs:List Nat)(f:Nat→Nat)(i:Nat)(xs:List Nat):Prop where
 len:xs.length=hs.length
 at':∀k:Nat,xs[k]? = if k<i then(hs[k]?).map f else hs[k]?
theorem VN.step{f:Nat→Nat}{i:Nat}{xs:List Nat}(M:VN hs f i xs)(hi:i<hs.length):VN hs f (i+1) (xs.set i (f (hAt xs i))):=by
 refine⟨(List.length_set ..).trans M.len,λk=>?_⟩
 rw[List.getElem?_set,M.at' k]
 have hx:hAt xs i=hAt hs i:=by rw[hAt,M.at' i,if_neg (Nat.lt_irrefl i)];rfl
 by_cases e:i=k
 ·rw[if_pos e,←e,if_pos (M.len▸hi),if_pos (Z79 i),hx]
  obtain⟨v,hv⟩:=Zbt hi
  rw[hAt,hv];rfl
 ·rw[if_neg e]
  by_cases q:k<i
  ·rw[if_pos q,if_pos (Nat.lt_succ_of_lt q)]
  ·rw[if_neg q,if_neg λz=>q (Nat.lt_of_le_of_ne (Z8f z) (Ne.symm e))]
theorem VN.done{f:Nat→Nat}{xs:List Nat}(M:VN hs f hs.length xs):xs=hs.map f:=by
 refine List.ext_getElem? λk=>?_
 rw[M.at' k,List.getElem?_map]
 by_cases q:k<hs.length
 ·rw[if_pos q]
 ·rw[if_neg q,List.getElem?_eq_none (Nat.not_lt.mp q)];rfl
theorem Ztx(h:σ.f hm=some (.list (hs.map nA)))(ha:a<hs.length)(hb:b<hs.length)(hl:hs.length≤63):∃σ',Zq (j+1) "_law_meet" [.ref hm,nA a,nA b] σ .none σ'∧JS σ hm (.list ((Zfb hs a b).map nA)) σ':=by
 have l16:=X3 hl
 have eh:∀{ν:Fm}{σ:St},ν "homes"=some (.ref hm)→EvE j QQ7 ν σ (.ref hm) σ:=λq=>Zb q
 have s1:ExS j (.unp ["low","high"] (.blt "sorted" [.lst [.idx QQ7 YG,.idx QQ7 (.loc "b")]])) (upd (upd (upd (λZ=>none) "homes" (.ref hm)) "a" (nA a)) "b" (nA b)) σ .next (upd (upd (upd (upd (upd (λZ=>none) "homes" (.ref hm)) "a" (nA a)) "b" (nA b)) "low" (nA (min (hAt hs a) (hAt hs b)))) "high" (nA (max (hAt hs a) (hAt hs b)))) σ:=
  Zmk (Znw (a:=0) (b:=0) (Zny ZD ZD h ha l16) (Zny ZD ZD h hb l16)) (.lst (.lst _)) rfl
 obtain⟨ν',σ',hf,P1,P2,P3,xs,P4,P5⟩:=Zd7 (j:=j) (σ:=σ) (x:="n") (n:=hs.length) (b:=[.six QQ7 YD Df])
  (λi ν σ1=>ν "homes"=some (.ref hm)∧ν "low"=some (nA (min (hAt hs a) (hAt hs b)))∧ν "high"=some (nA (max (hAt hs a) (hAt hs b)))∧∃xs:List Nat,JS σ hm (.list (xs.map nA)) σ1∧VN hs (mt (hAt hs a) (hAt hs b)) i xs)
  (λi ν σ1 hi P=>by
   obtain⟨p1,p2,p3,xs,S,M⟩:=P
   have hx:i<xs.length:=M.len.symm▸hi
   have lx:xs.length≤16000:=M.len.symm▸l16
   have ex:EvE j (.idx QQ7 YD) (upd ν "n" (nA i)) σ1 (nA (hAt xs i)) σ1:=Zny (Zb (Za p1)) (Zb (Zg ..)) S.is hx lx
   have ev:EvE j Df (upd ν "n" (nA i)) σ1 (nA (mt (hAt hs a) (hAt hs b) (hAt xs i))) σ1:=by
    unfold mt
    by_cases q:hAt xs i=max (hAt hs a) (hAt hs b)
    ·rw[if_pos q]
     exact Zbg ((Zm ex (Zb (Za p3)) (.eq (.int 0 _ _) ble)).eqv (Z81 ZA.bool (dT (by rw[q])))) (Zb (Za p2))
    ·rw[if_neg q]
     exact Zah ((Zm ex (Zb (Za p3)) (.eq (.int 0 _ _) ble)).eqv (Z81 ZA.bool (dF (Zk2 q)))) ex
   refine⟨_,_,Qh (Zr2 ev (Zb (Za p1)) (Zb (Zg ..)) (.list S.is (by rw[Z8i];exact hx) (Zh lx))),Za p1,Za p2,Za p3,xs.set i (mt (hAt hs a) (hAt hs b) (hAt xs i)),?_,M.step hi⟩
   rw[List.map_set]
   exact S.trans .put)
  (ν:=upd (upd (upd (upd (upd (λZ=>none) "homes" (.ref hm)) "a" (nA a)) "b" (nA b)) "low" (nA (min (hAt hs a) (hAt hs b)))) "high" (nA (max (hAt hs a) (hAt hs b)))) ⟨by kernel_rfl,by kernel_rfl,by kernel_rfl,hs,JS.refl h,rfl,λk=>(if_neg (Nat.not_lt_zero k)).symm⟩
 rw[P5.done]at P4
 exact⟨σ',Zk Znj rfl (Zc s1 (Zc (Zkt (es1 ((Y1 (es1 (ZD (v:=.ref hm))) (.len (.lst (.ref h)) (Zh l16))).eqv (w:=nA hs.length) (by rw[Z8i]))) (.rng l16) hf) Zas)),P4⟩
end
end
section
noncomputable def G8(hs:List Nat)(nd:Nd):Nd:=(nd.1,nd.2.map (hAt hs))
noncomputable def Zhe(nodes:List Nd)(hs:List Nat):List Nd:=nodes.map (G8 hs)
noncomputable def Zgv(ks:List Nd)(a b:Nat)(h:List Nat×Bool):List Nat×Bool:=if ks[a]? = ks[b]?∧hAt h.1 a≠hAt h.1 b then(Zfb h.1 a b,true)else h
noncomputable def JO(ks:List Nd)(a:Nat)(h:List Nat×Bool)(n:Nat):List Nat×Bool:=@Nat.rec (λZ=>List Nat×Bool) h (λb r=>Zgv ks a b r) n
noncomputable def Xw(ks:List Nd)(h:List Nat×Bool)(n:Nat):List Nat×Bool:=@Nat.rec (λZ=>List Nat×Bool) h (λa r=>JO ks a r a) n
noncomputable def Zak(nodes:List Nd)(hs:List Nat):List Nat×Bool:=Xw (Zhe nodes hs) (hs,false) nodes.length
inductive QS(nodes:List Nd):List Nat→List Nat→Prop
 |done {hs:List Nat} (h:(Zak nodes hs).2=false):QS nodes hs (Zak nodes hs).1
 |turn {hs hs':List Nat} (h:(Zak nodes hs).2=true) (hr:QS nodes (Zak nodes hs).1 hs'):QS nodes hs hs'
section
variable{hs:List Nat}{a b:Nat}{ks:List Nd}
theorem Zb3:(Zfb hs a b).length=hs.length:=Z8i ..
theorem Zmf(h:List Nat×Bool):(Zgv ks a b h).1.length=h.1.length:=by
 unfold Zgv
 by_cases q:ks[a]? = ks[b]?∧hAt h.1 a≠hAt h.1 b
 ·rw[if_pos q];exact Zb3
 ·rw[if_neg q]
theorem Zxv{P:List Nat×Bool→Prop}{n:Nat}(h:∀b r,b<n→P r→P (Zgv ks a b r)){r:List Nat×Bool}(h0:P r):P (JO ks a r n):=by
 induction n with
 |zero=>exact h0
 |succ n ih=>exact h n _ (Z79 n) (ih λb r hb=>h b r (Nat.lt_succ_of_lt hb))
theorem Zk7{P:List Nat×Bool→Prop}{n:Nat}(h:∀a b r,a<n→b<a→P r→P (Zgv ks a b r)){r:List Nat×Bool}(h0:P r):P (Xw ks r n):=by
 induction n with
 |zero=>exact h0
 |succ n ih=>exact Zxv (λb r hb=>h n b r (Z79 n) hb) (ih λa b r ha=>h a b r (Nat.lt_succ_of_lt ha))
theorem Zna{nodes:List Nd}:(Zak nodes hs).1.length=hs.length:=Zk7 (P:=λr=>r.1.length=hs.length) (λa b r Z Z h=>(Zmf r).trans h) rfl
theorem Z44(x y h:Nat):mt x y h≤h:=by
 unfold mt
 by_cases q:h=max x y
 ·rw[if_pos q,q];exact Z7z (Nat.min_le_left ..) (Nat.le_max_left ..)
 ·rw[if_neg q];exact Z70 _
theorem Zi6{f:Nat→Nat}(hf:∀x,f x≤x):∀l:List Nat,(l.map f).sum≤l.sum
 | []=>Z70 _
 |x::l=>by rw[Z8o,List.sum_cons,List.sum_cons];exact Nat.add_le_add (hf x) (Zi6 hf l)
theorem Zi5{f:Nat→Nat}(hf:∀x,f x≤x):∀{l:List Nat}{x:Nat},x∈l→f x<x→(l.map f).sum<l.sum
 |y::l,x,h,hx=>by
  rw[Z8o,List.sum_cons,List.sum_cons]
  rcases Z8k.mp h with rfl | h
  ·exact Nat.add_lt_add_of_lt_of_le hx (Zi6 hf l)
  ·exact Nat.add_lt_add_of_le_of_lt (hf y) (Zi5 hf h hx)
theorem Zvg{k:Nat}(h:k<hs.length):hAt hs k∈hs:=by
 obtain⟨v,hv⟩:=Zbt h
 rw[hAt,hv];exact Z89 hv
theorem Zuy(ha:a<hs.length)(hb:b<hs.length)(hne:hAt hs a≠hAt hs b):(Zfb hs a b).sum<hs.sum:=by
 have hm:max (hAt hs a) (hAt hs b)∈hs:=by
  rcases Nat.le_total (hAt hs a) (hAt hs b)with q | q
  ·rw[Nat.max_eq_right q];exact Zvg hb
  ·rw[Nat.max_eq_left q];exact Zvg ha
 refine Zi5 (Z44 _ _) hm ?_
 rw[mt,if_pos rfl]
 rcases Nat.lt_or_gt_of_ne hne with q | q
 ·rw[Nat.min_eq_left (Z8e q),Nat.max_eq_right (Z8e q)];exact q
 ·rw[Nat.min_eq_right (Z8e q),Nat.max_eq_left (Z8e q)];exact q
theorem Zm9{nodes:List Nd}(hl:hs.length=nodes.length):(Zak nodes hs).2=true→(Zak nodes hs).1.sum<hs.sum:=by
 have:(Zak nodes hs).1.length=hs.length∧(Zak nodes hs).1.sum≤hs.sum∧((Zak nodes hs).2=true→(Zak nodes hs).1.sum<hs.sum):=by
  refine Zk7 (P:=λr=>r.1.length=hs.length∧r.1.sum≤hs.sum∧(r.2=true→r.1.sum<hs.sum)) (λa b r ha hb h=>?_) ⟨rfl,Z70 _,λq=>nomatch q⟩
  refine⟨(Zmf r).trans h.1,?_⟩
  unfold Zgv
  by_cases q:(Zhe nodes hs)[a]? = (Zhe nodes hs)[b]?∧hAt r.1 a≠hAt r.1 b
  ·rw[if_pos q]
   have:=Z73 (Zuy (by rw[h.1,hl];exact ha) (by rw[h.1,hl];exact Nat.lt_trans hb ha) q.2) h.2.1
   exact⟨Z8e this,λZ=>this⟩
  ·rw[if_neg q];exact h.2
 exact this.2.2
theorem Zn4{nodes:List Nd}:∀(n:Nat){hs:List Nat},hs.sum≤n→hs.length=nodes.length→∃hs',QS nodes hs hs'
 |0,hs,h,hl=>by
  cases e:(Zak nodes hs).2 with
  |false=>exact⟨_,.done e⟩
  |true=>exact absurd (Zm9 hl e) (Nat.not_lt.mpr (Z7z h (Z8d _)))
 |n+1,hs,h,hl=>by
  cases e:(Zak nodes hs).2 with
  |false=>exact⟨_,.done e⟩
  |true=>
   obtain⟨hs',h'⟩:=Zn4 n (hs:=(Zak nodes hs).1) (Z8f (Z73 (Zm9 hl e) h)) (Zna.trans hl)
   exact⟨hs',.turn e h'⟩
end
section
variable{j nd hm:Nat}{σ σ1 σ2:St}{hs hs':List Nat}{nodes:List Nd}{ν:Fm}{a b:Nat}
theorem Zmv(x y:Nd):QX 1 (Zu x) (Zu y):=.tup λi a b ha hb=>by
 cases i with
 |zero=>rw[←Z8q ha,←Z8q hb];exact .str _ _ _
 |succ i=>
  obtain⟨u,Z,e1⟩:=Z8l.mp (Z89 (show(x.2.map nA)[i]? = some a from ha))
  obtain⟨v,Z,e2⟩:=Z8l.mp (Z89 (show(y.2.map nA)[i]? = some b from hb))
  rw[←e1,←e2];exact .int _ _ _
structure YS(nodes:List Nd):Prop where
 few:nodes.length≤63
 two:∀nd∈nodes,nd.2.length≤2
 kids:∀nd∈nodes,∀k∈nd.2,k<nodes.length
theorem Zv6{kd:Nd}{src:PE}(h:σ.f hm=some (.list (hs.map nA)))(hk:kd.2.length≤2)(hkl:∀k∈kd.2,k<hs.length)(hl:hs.length≤16000)(hν:ν "homes"=some (.ref hm))(X4:EvE j src ν σ (Zu kd) σ):
  EvE j (.comp (.idx QQ7 Xa) ["kid"] 0 [.slc src QQ3 QQ5 QQ5] []) ν σ (.lst ((kd.2.map (hAt hs)).map nA)) σ:=by
 have hg:LcR j none ["kid"] [] (.idx QQ7 Xa) ν ((kd.2.map nA).map λx=>[x]) [] σ ([]++kd.2.map λk=>nA (hAt hs k)) σ:=
  Zbl Z3 (λk hk'=>Zny (Zb (Za (J3 hν))) (Zb (Zg ..)) h (hkl k hk') hl) (by rw[List.length_nil,Nat.zero_add];exact le2 hk)
 exact(Qx (es1 (Qw X4 Yb Yb Yb (.tup (i:=1) (xs:=.str kd.1::kd.2.map nA) (Z70 1) (Z75 (Z8d _)) (Nat.succ_le_of_lt (Z74 (Zh hk) ble))))) (.tup _) hg).eqv (by rw[List.map_map];rfl)
theorem Zn5(N:YS nodes)(hn:σ.f nd=some (.list (nodes.map Zu)))(h:σ.f hm=some (.list (hs.map nA)))(hl:hs.length=nodes.length)(hne:nd≠hm)(n1:ν "nodes"=some (.ref nd))(n2:ν "homes"=some (.ref hm)):
  ∃ν' σ',ExB (j+1) [.asg "is_turned" (.cst (.bool false)),Dd,.for ["a"] 2 [QQ9] [.for ["b"] 2 [YG] [.ifs QQ4 [VM,.asg "is_turned" (.cst (.bool true))] []]]] ν σ .next ν' σ'∧
   JS σ hm (.list ((Zak nodes hs).1.map nA)) σ'∧ν' "is_turned"=some (.bool (Zak nodes hs).2)∧ν' "nodes"=some (.ref nd)∧ν' "homes"=some (.ref hm):=by
 have l16:nodes.length≤16000:=X3 N.few
 have h16:hs.length≤16000:=hl▸l16
 have hk:LcR (j+1) (some (nd,nodes.map Zu)) ["node"] [] IL (upd ν "is_turned" (.bool false)) ((nodes.map Zu).map λx=>[x]) [] σ ([]++nodes.map λkd=>Zu (G8 hs kd)) σ:=
  Zbl (λp hp=>Z8q hp▸hn) (λkd hkd=>by
   have en:EvE (j+1) (.loc "node") (upd (hide (upd ν "is_turned" (.bool false))) "node" (Zu kd)) σ (.tup (.str kd.1::kd.2.map nA)) σ:=Zb (Zg ..)
   have k2:=N.two kd hkd
   have e2:=Zv6 (ν:=upd (hide (upd ν "is_turned" (.bool false))) "node" (Zu kd)) h k2 (λk q=>hl▸N.kids kd hkd k q) h16 (Za (J3 (Za n2))) en
   exact Yu (Q3 (es1 (ZZ en 0 rfl (Nat.succ_le_of_lt (Z74 (Zh k2) ble))))) (Y1 (es1 e2) (.tuple (.lst (.lst _)) (by rw[Z8i,Z8i];exact le2 k2))) (.VI (x:=[.str kd.1]) (y:=(kd.2.map (hAt hs)).map nA) (by rw[Z8i,Z8i];exact Z7z (Z76 k2 1) ble)))
   (by rw[List.length_nil,Nat.zero_add];exact l16)
 have DK:(nodes.map λkd=>Zu (G8 hs kd))=(Zhe nodes hs).map Zu:=by rw[Zhe,List.map_map];rfl
 rw[List.nil_append,DK]at hk
 have kl:(Zhe nodes hs).length=nodes.length:=Z8i ..
 unfold Zak
 generalize Zhe nodes hs=ks at*
 have goal:∃ν' σ',JN (j+1) none ["a"] [.for ["b"] 2 [YG] [.ifs QQ4 [VM,.asg "is_turned" (.cst (.bool true))] []]] ((List.range nodes.length).map λ(i:Nat)=>[ZA.int i]) (upd (upd ν "is_turned" (.bool false)) "keys" (.lst (ks.map Zu))) σ .next ν' σ'∧
   (JS σ hm (.list ((Xw ks (hs,false) nodes.length).1.map nA)) σ'∧(Xw ks (hs,false) nodes.length).1.length=hs.length∧ν' "is_turned"=some (.bool (Xw ks (hs,false) nodes.length).2)∧ν' "nodes"=some (.ref nd)∧ν' "homes"=some (.ref hm)∧ν' "keys"=some (.lst (ks.map Zu))):=by
  refine Zd7 (λi ν' σ'=>JS σ hm (.list ((Xw ks (hs,false) i).1.map nA)) σ'∧(Xw ks (hs,false) i).1.length=hs.length∧ν' "is_turned"=some (.bool (Xw ks (hs,false) i).2)∧ν' "nodes"=some (.ref nd)∧ν' "homes"=some (.ref hm)∧ν' "keys"=some (.lst (ks.map Zu))) (λa ν1 σ1 ha P=>?_) ⟨.refl h,rfl,Za (Zg ..),Za (Za n1),Za (Za n2),Zg ..⟩
  rw[show Xw ks (hs,false) (a+1)=JO ks a (Xw ks (hs,false) a) a from rfl]
  generalize Xw ks (hs,false) a=r at*
  obtain⟨p1,p2,p3,p4,p5,p6⟩:=P
  have inner:∃ν' σ',JN (j+1) none ["b"] [.ifs QQ4 [VM,.asg "is_turned" (.cst (.bool true))] []] ((List.range a).map λ(i:Nat)=>[ZA.int i]) (upd ν1 "a" (nA a)) σ1 .next ν' σ'∧
    (JS σ hm (.list ((JO ks a r a).1.map nA)) σ'∧(JO ks a r a).1.length=hs.length∧ν' "is_turned"=some (.bool (JO ks a r a).2)∧ν' "nodes"=some (.ref nd)∧ν' "homes"=some (.ref hm)∧ν' "keys"=some (.lst (ks.map Zu))∧ν' "a"=some (nA a)):=by
   refine Zd7 (λi ν' σ'=>JS σ hm (.list ((JO ks a r i).1.map nA)) σ'∧(JO ks a r i).1.length=hs.length∧ν' "is_turned"=some (.bool (JO ks a r i).2)∧ν' "nodes"=some (.ref nd)∧ν' "homes"=some (.ref hm)∧ν' "keys"=some (.lst (ks.map Zu))∧ν' "a"=some (nA a)) (λb ν2 σ2 hb P=>?_) ⟨p1,p2,Za p3,Za p4,Za p5,Za p6,Zg ..⟩
   rw[show JO ks a r (b+1)=Zgv ks a b (JO ks a r b)from rfl]
   generalize JO ks a r b=u at*
   obtain⟨q1,q2,q3,q4,q5,q6,q7⟩:=P
   have hbn:b<nodes.length:=Nat.lt_trans hb ha
   obtain⟨ka,hka⟩:=Zbt (l:=ks) (kl.symm▸ha)
   obtain⟨kb,hkb⟩:=Zbt (l:=ks) (kl.symm▸hbn)
   have k16:(ks.map Zu).length≤16000:=Zh (kl▸l16)
   have e1:EvE (j+1) (.cmp .Eq (.idx (.loc "keys") YG) (.idx (.loc "keys") (.loc "b"))) (upd ν2 "b" (nA b)) σ2 (.bool (decide (ka=kb))) σ2:=
    (Zm (Yx (Zb (Za q6)) (Zb (Za q7)) (.lst (.lst _) (Zaa hka) k16)) (Yx (Zb (Za q6)) (Zb (Zg ..)) (.lst (.lst _) (Zaa hkb) k16)) (.eq (Zmv ka kb) ble)).eqv (Z81 ZA.bool (decide_eq_decide.mpr ⟨λq=>Zg8 q,λq=>by rw[q]⟩))
   have u16:u.1.length≤16000:=q2▸h16
   have hau:a<u.1.length:=by rw[q2,hl];exact ha
   have hbu:b<u.1.length:=by rw[q2,hl];exact hbn
   have e2:EvE (j+1) (.cmp .NotEq (.idx QQ7 YG) (.idx QQ7 (.loc "b"))) (upd ν2 "b" (nA b)) σ2 (.bool (!decide (nA (hAt u.1 a)=nA (hAt u.1 b)))) σ2:=
    Zm (Zny (Zb (Za q5)) (Zb (Za q7)) q1.is hau u16) (Zny (Zb (Za q5)) (Zb (Zg ..)) q1.is hbu u16) (.ne (.int 0 _ _) ble)
   unfold Zgv
   rw[hka,hkb]
   by_cases c1:ka=kb
   ·rw[dT c1]at e1
    by_cases c2:hAt u.1 a=hAt u.1 b
    ·rw[nT (Z81 nA c2)]at e2
     rw[if_neg λq=>q.2 c2]
     exact⟨_,_,Qh (Zn (Zw e1 e2)),q1,q2,Za q3,Za q4,Za q5,Za q6,Za q7⟩
    ·rw[nF (Zk2 c2)]at e2
     rw[if_pos ⟨Z81 some c1,c2⟩]
     obtain⟨σ3,hc,S3⟩:=Ztx (j:=j) q1.is hau hbu (by rw[q2,hl];exact N.few)
     exact⟨_,_,Qh (Zby (Zw e1 e2) (Zes (Qb (ZY (es3 (Zb (Za q5)) (Zb (Za q7)) (Zb (Zg ..))) hc)) (Qh (Yk Zf)))),q1.trans S3,Zb3.trans q2,Zg ..,Za (Za q4),Za (Za q5),Za (Za q6),Za (Za q7)⟩
   ·rw[dF c1]at e1
    rw[if_neg λq=>c1 (Z8q q.1)]
    exact⟨_,_,Qh (Zn (Jb e1)),q1,q2,Za q3,Za q4,Za q5,Za q6,Za q7⟩
  obtain⟨ν3,σ3,hf,z1,z2,z3,z4,z5,z6,Z⟩:=inner
  exact⟨ν3,σ3,Qh (Zkt (es1 (Zb (Zg ..))) (.rng (Z7z (Z8e ha) l16)) hf),z1,z2,z3,z4,z5,z6⟩
 obtain⟨ν4,σ4,hf,z1,z2,z3,z4,z5,z6⟩:=goal
 exact⟨ν4,σ4,Zes (Yk Zf) (Zes (Zzz (es1 (Zb (Za n1))) (.ref hn) hk) (Qh (Zkt (es1 ((Y1 (es1 (Zb (Za (Za n1)))) (.len (.lst (.ref hn)) (Zh l16))).eqv (w:=nA nodes.length) (by rw[Z8i]))) (.rng l16) hf))),z1,z3,z4,z5⟩
theorem Zp5(N:YS nodes)(hn:σ.f nd=some (.list (nodes.map Zu)))(h:σ.f hm=some (.list (hs.map nA)))(hl:hs.length=nodes.length)(hne:nd≠hm):∃hs' σ',QS nodes hs hs'∧Zq (j+2) "_law_close" [.ref nd,.ref hm] σ .none σ'∧JS σ hm (.list (hs'.map nA)) σ':=by
 have loop:∀{hs hs':List Nat},QS nodes hs hs'→∀{ν:Fm}{σ:St},σ.f nd=some (.list (nodes.map Zu))→σ.f hm=some (.list (hs.map nA))→hs.length=nodes.length→ν "is_turned"=some (.bool true)→ν "nodes"=some (.ref nd)→ν "homes"=some (.ref hm)→
   ∃n ν' σ',Km (j+1) (.loc "is_turned") [.asg "is_turned" (.cst (.bool false)),Dd,.for ["a"] 2 [QQ9] [.for ["b"] 2 [YG] [.ifs QQ4 [VM,.asg "is_turned" (.cst (.bool true))] []]]] n ν σ .next ν' σ'∧JS σ hm (.list (hs'.map nA)) σ':=by
  intro hs hs' hc
  induction hc with
  |done e=>
   intro ν σ hn h hl n0 n1 n2
   obtain⟨ν1,σ1,hb,S,m0,m1,m2⟩:=Zn5 (j:=j) N hn h hl hne n1 n2
   rw[e]at m0
   exact⟨_,ν1,σ1,.turn (Zb n0) hb (.stop (Zb m0)),S⟩
  |turn e _ ih=>
   intro ν σ hn h hl n0 n1 n2
   obtain⟨ν1,σ1,hb,S,m0,m1,m2⟩:=Zn5 (j:=j) N hn h hl hne n1 n2
   rw[e]at m0
   obtain⟨n,ν2,σ2,hw,S2⟩:=ih ((S.old nd hne).trans hn) S.is (Zna.trans hl) m0 m1 m2
   exact⟨_,ν2,σ2,.turn (Zb n0) hb hw,S.trans S2⟩
 obtain⟨hs',hc⟩:=Zn4 _ (nodes:=nodes) (Z70 hs.sum) hl
 obtain⟨n,ν',σ',hw,S⟩:=loop hc hn h hl (ν:=upd (upd (upd (λZ=>none) "nodes" (.ref nd)) "homes" (.ref hm)) "is_turned" (.bool true)) (Zg ..) (by kernel_rfl) (by kernel_rfl)
 exact⟨hs',σ',hc,Zk Zle rfl (Zc (Yk Zf) (Zc (Z05 hw) Zas)),S⟩
end
end
section
structure Lw(σ:St)(fd nd hm:Nat)(cells:List Int)(s:Nat)(nodes:List Nd)(hs:List Nat):Prop where
 feed:σ.f fd=some (Zc8 cells s)
 nodes:σ.f nd=some (.list (nodes.map Zu))
 JI:σ.f hm=some (.list (hs.map nA))
 n1:fd≠nd
 n2:fd≠hm
 n3:nd≠hm
 lf:fd<σ.n
 ln:nd<σ.n
 lh:hm<σ.n
 cl:cells.length≤40
noncomputable def Gr:List CS:=[[97],[98],[102],[103]]
noncomputable def Zye:List (ZA×ZA):=[(.str [97],nA 0),(.str [98],nA 0),(.str [102],nA 1),(.str [103],nA 2)]
structure OpR(d:Nat)(op:CS)(m:Nat):Prop where
 at':Gr[d]? = some op
 get:YW Zye (.str op)=some (nA m)
 le:m≤2
 ok:okW op
 q:op.head?≠some 63
 low:d<2→m=0
section
variable{j fd nd hm s:Nat}{σ σ1 σ':St}{cells:List Int}{nodes:List Nd}{hs hs':List Nat}{ν:Fm}{op:CS}{ks:List Nat}
theorem Lw.fed{s2:Nat}(w:Lw σ fd nd hm cells s nodes hs)(F:Fed σ fd cells s2 σ'):Lw σ' fd nd hm cells s2 nodes hs:=⟨F.feed,(F.old _ w.n1.symm).trans w.nodes,(F.old _ w.n2.symm).trans w.JI,w.n1,w.n2,w.n3,F.n.symm▸w.lf,F.n.symm▸w.ln,F.n.symm▸w.lh,w.cl⟩
theorem Lw.new(w:Lw σ fd nd hm cells s nodes hs)(o:ZK):Lw (σ.new o) fd nd hm cells s nodes hs:=⟨(Yz w.lf).trans w.feed,(Yz w.ln).trans w.nodes,(Yz w.lh).trans w.JI,w.n1,w.n2,w.n3,Nat.lt_succ_of_lt w.lf,Nat.lt_succ_of_lt w.ln,Nat.lt_succ_of_lt w.lh,w.cl⟩
theorem Lw.U6(w:Lw σ fd nd hm cells s nodes hs)(S:JS σ hm (.list (hs'.map nA)) σ'):Lw σ' fd nd hm cells s nodes hs':=⟨(S.old _ w.n2).trans w.feed,(S.old _ w.n3).trans w.nodes,S.is,w.n1,w.n2,w.n3,S.n.symm▸w.lf,S.n.symm▸w.ln,S.n.symm▸w.lh,w.cl⟩
theorem Lw.push(w:Lw σ fd nd hm cells s nodes hs)(x:Nd):Lw (σ.put nd (.list (nodes.map Zu++[Zu x]))) fd nd hm cells s (nodes++[x]) hs:=⟨(Z0 w.n1).trans w.feed,(Zs ..).trans (Z81 some (Z81 ZK.list (Qp Zu _ x))),(Z0 w.n3.symm).trans w.JI,w.n1,w.n2,w.n3,w.lf,w.ln,w.lh,w.cl⟩
theorem Z60{d:Nat}(h:d<4):∃op m,OpR d op m:=by
 have s1:∀{a b:Nat},a≠b→ZA.str [a]≠.str [b]:=λh q=>h (by injection q with q;exact(List.cons.inj q).1)
 have ks:∀{a b:Nat} {v:ZA} {l:List (ZA×ZA)},a≠b→YW ((.str [a],v)::l) (.str [b])=YW l (.str [b]):=λh=>Zd3 (s1 h)
 match d,h with
 |0,_=>exact⟨_,_,rfl,Zcn rfl,ble,⟨okB rfl,ble⟩,by decide,λZ=>rfl⟩
 |1,_=>exact⟨_,_,rfl,(ks (by decide)).trans (Zcn rfl),ble,⟨okB rfl,ble⟩,by decide,λZ=>rfl⟩
 |2,_=>exact⟨_,_,rfl,(ks (by decide)).trans ((ks (by decide)).trans (Zcn rfl)),ble,⟨okB rfl,ble⟩,by decide,λh=>absurd h (by decide)⟩
 |3,_=>exact⟨_,_,rfl,(ks (by decide)).trans ((ks (by decide)).trans ((ks (by decide)).trans (Zcn rfl))),ble,⟨okB rfl,ble⟩,by decide,λh=>absurd h (by decide)⟩
theorem Zsc:[ZA.str [97],.str [98],.str [102],.str [103]].Nodup:=by
 have:∀l:List CS,l.Nodup→(l.map ZA.str).Nodup:=λl h=>List.Pairwise.map _ (λa b q z=>q (by injection z)) h
 exact this Gr (by decide)
theorem Lw.Vf(w:Lw σ fd nd hm cells s nodes hs)(hl:nodes.length≤63)(h:ν "nodes"=some (.ref nd)):EvE j QQ9 ν σ (nA nodes.length) σ:=(Y1 (es1 (Zb h)) (.len (.lst (.ref w.nodes)) (Zh (X3 hl)))).eqv (by rw[Z8i])
structure Z7v(nodes:List Nd)(m:Nat)(ks:List Nat):Prop where
 len:ks.length=m
 lt:∀k∈ks,k<nodes.length
theorem Zqm(hp:nodes.length≤63)(h1:ν "feed"=some (.ref fd))(h2:ν "nodes"=some (.ref nd)):∀(m i:Nat){s:Nat}{σ:St}{acc:List ZA},(m≠0→nodes≠[])→Lw σ fd nd hm cells s nodes hs→s+m≤1000→acc.length+m≤16000→
  ∃ks σ',Z7v nodes m ks∧LcR (j+1) none ["turn"] [] Vv ν ((List.range' i m).map λ(i:Nat)=>[ZA.int i]) acc σ (acc++ks.map nA) σ'∧Lw σ' fd nd hm cells (s+m) nodes hs
 |0,i,s,σ,acc,_,w,_,_=>⟨[],σ,⟨rfl,λk h=>nomatch h⟩,(List.append_nil acc).symm▸.nil Z3,w⟩
 |m+1,i,s,σ,acc,hne,w,hs1,hac=>by
  obtain⟨d,σ1,D⟩:=Jz (j:=j) w.feed (List.length_pos_iff.mpr (hne (Nat.succ_ne_zero m))) (Z7z (Z71 _ _) hs1) w.cl
  have w1:=w.fed D.fed
  obtain⟨ks,σ2,K,hg,w2⟩:=Zqm hp h1 h2 m (i+1) (acc:=acc++[nA d]) (λZ=>hne (Nat.succ_ne_zero m)) w1 (by rw[Nat.add_right_comm];exact hs1) (by rw[Z8j,List.length_singleton,Nat.add_right_comm];exact hac)
  refine⟨d::ks,σ2,⟨Z81 Nat.succ K.len,List.forall_mem_cons.mpr ⟨D.lt,K.lt⟩⟩,?_,by rw[←Z8a,Nat.add_right_comm];exact w2⟩
  rw[Z8o,List.append_cons]
  exact .keep Z3 rfl (.nil _) (ZY (es2 (Zb (Za (J3 h1))) (w.Vf hp (Za (J3 h2)))) D.call) (Z73 (Nat.lt_add_of_pos_right (Nat.succ_pos m)) hac) hg
theorem Zyo{x:Nd}:decide (Zu x∈nodes.map Zu)=decide (x∈nodes):=decide_eq_decide.mpr ⟨λh=>(Z8l.mp h).elim λy q=>Zg8 q.2▸q.1,λh=>List.mem_map_of_mem h⟩
inductive Gh(nodes:List Nd)(hs:List Nat):List Nd→List Nat→List CS→Prop
 |old:Gh nodes hs nodes hs []
 |new {op:CS} {ks hs':List Nat} (h1:okW op) (h2:op.head?≠some 63) (h3:ks.length≤2) (h4:∀k∈ks,k<nodes.length) (hn:(op,ks)∉nodes) (hc:QS (nodes++[(op,ks)]) (hs++[hs.length]) hs'):Gh nodes hs (nodes++[(op,ks)]) hs' [Ze (.add op ks)]
theorem YS.push(N:YS nodes){x:Nd}(hl:nodes.length≤62)(h3:x.2.length≤2)(h4:∀k∈x.2,k<nodes.length):YS (nodes++[x]):=
 ⟨by rw[Zd];exact Z75 hl,λy hy=>(Ql.mp hy).elim (N.two y) λe=>e▸h3,λy hy k hk=>by rw[Zd];exact Nat.lt_succ_of_lt ((Ql.mp hy).elim (λh=>N.kids y h k hk) λe=>h4 k (e▸hk))⟩
theorem Zxq(w:Lw σ fd nd hm cells s nodes hs)(N:YS nodes)(hl:hs.length=nodes.length)(hb:nodes.length≤62)(hsp:s≤900):
  ∃ZU hs' ts s' σ',Gh nodes hs ZU hs' ts∧Zq (j+3) "_law_added" [.ref fd,.ref nd,.ref hm] σ (.lst (ts.map .str)) σ'∧Lw σ' fd nd hm cells s' ZU hs'∧s'≤s+3∧(nodes=[]→ts≠[]):=by
 have DP:=X3 N.few
 generalize hν:upd (upd (upd (λZ=>none) "feed" (ZA.ref fd)) "nodes" (ZA.ref nd)) "homes" (ZA.ref hm)=ν
 have v1:ν "feed"=some (.ref fd):=by rw[←hν];kernel_rfl
 have v2:ν "nodes"=some (.ref nd):=by rw[←hν];kernel_rfl
 have v3:ν "homes"=some (.ref hm):=by rw[←hν];kernel_rfl
 have hbd:Zv ["feed","nodes","homes"] [.ref fd,.ref nd,.ref hm] (λZ=>none)=some ν:=by rw[←hν];rfl
 clear hν
 have s1:∃d σ1,d<4∧(nodes=[]→d<2)∧Lw σ1 fd nd hm cells (s+1) nodes hs∧EvE (j+2) (.fn "_law_dip" [.loc "feed",.cond (.cmp .NotEq (.loc "nodes") (.lst [])) (.cst (.int 4)) JE]) ν σ (nA d) σ1:=by
  have e0:EvE (j+2) (.cmp .NotEq (.loc "nodes") (.lst [])) ν σ (.bool (!decide (nodes.map Zu=[]))) σ:=Zm (Zb v2) (Qs es0) (.neL (n:=0) (.ref w.nodes) (.lst _) (λe i a b Z q=>(nomatch q)) ble)
  by_cases q:nodes=[]
  ·obtain⟨d,σ1,D⟩:=Jz (j:=j+1) (w:=2) w.feed ble (Z7z hsp ble) w.cl
   exact⟨d,σ1,Z73 D.lt ble,λZ=>D.lt,w.fed D.fed,ZY (es2 (Zb v1) (Zah (e0.eqv (Z81 ZA.bool (nT (by rw[q];rfl)))) Zf)) D.call⟩
  ·obtain⟨d,σ1,D⟩:=Jz (j:=j+1) (w:=4) w.feed ble (Z7z hsp ble) w.cl
   exact⟨d,σ1,D.lt,λe=>absurd e q,w.fed D.fed,ZY (es2 (Zb v1) (Zbg (e0.eqv (Z81 ZA.bool (nF λz=>q (List.map_eq_nil_iff.mp z)))) Zf)) D.call⟩
 obtain⟨d,σ1,d4,d2,w1,e1⟩:=s1
 obtain⟨op,m,O⟩:=Z60 d4
 have st1:ExS (j+2) IE ν σ .next (upd ν "op" (.str op)) σ1:=
  Yk (Yx (Qs (.cons Zf (es3 Zf Zf Zf))) e1 (.lst (.lst (Gr.map .str)) (Zaa O.at') ble))
 have w2:=w1.new (.dict Zye)
 have st2:ExS (j+2) It (upd ν "op" (.str op)) σ1 .next (upd (upd ν "op" (.str op)) "many" (nA m)) (σ1.new (.dict Zye)):=
  Yk (Yx (Z7k (.cons Zf (es3 Zf Zf Zf)) rfl Zsc) (Zb (Zg ..)) (.dict (Yp ..) ⟨rfl,all_cons rfl (all_cons rfl (all_cons rfl (all_cons rfl Zig)))⟩ O.get))
 obtain⟨ks,σ3,K,hg,w3⟩:=Zqm (j:=j+1) (ν:=upd (upd ν "op" (.str op)) "many" (nA m)) N.few (Za (Za v1)) (Za (Za v2)) m 0 (acc:=[]) (λq e=>q (O.low (d2 e))) w2 (Z7z (Nat.add_le_add (Z75 hsp) O.le) ble) (by rw[List.length_nil,Nat.zero_add];exact le2 O.le)
 rw[List.nil_append,←List.range_eq_range']at hg
 have k2:ks.length≤2:=K.len▸O.le
 have st3:ExS (j+2) Io (upd (upd ν "op" (.str op)) "many" (nA m)) (σ1.new (.dict Zye)) .next (upd (upd (upd ν "op" (.str op)) "many" (nA m)) "node" (Zu (op,ks))) σ3:=
  Yk (Yu (Q3 (es1 (Zb (Za (Zg ..))))) (Y1 (es1 (Qx (es1 (Zb (Zg ..))) (.rng (le2 O.le)) hg)) (.tuple (.lst (.lst _)) (Zh (le2 k2)))) (.VI (x:=[.str op]) (y:=ks.map nA) (by rw[Z8i];exact Z7z (Z76 k2 1) ble)))
 generalize hν:upd (upd (upd ν "op" (ZA.str op)) "many" (nA m)) "node" (Zu (op,ks))=ν3 at st3
 have u1:ν3 "feed"=some (.ref fd):=by rw[←hν];exact Za (Za (Za v1))
 have u2:ν3 "nodes"=some (.ref nd):=by rw[←hν];exact Za (Za (Za v2))
 have u3:ν3 "homes"=some (.ref hm):=by rw[←hν];exact Za (Za (Za v3))
 have u4:ν3 "op"=some (.str op):=by rw[←hν];exact Za (Za (Zg ..))
 have u5:ν3 "node"=some (Zu (op,ks)):=by rw[←hν];exact Zg ..
 clear hν
 have e4:EvE (j+2) (.cmp .In (.loc "node") (.loc "nodes")) ν3 σ3 (.bool (decide ((op,ks)∈nodes))) σ3:=(Zm (Zb u5) (Zb u2) (.inL (n:=1) (id:=0) (.ref w3.nodes) (all_map λx=>Zmv x _) ble)).eqv (Z81 ZA.bool Zyo)
 have hs3:s+1+m≤s+3:=by rw[Z8a];exact Z76 (Z76 O.le 1) s
 by_cases hin:(op,ks)∈nodes
 ·rw[dT hin]at e4
  exact⟨nodes,hs,[],_,σ3,.old,Zk Zd9 hbd (Zc st1 (Zc st2 (Zc st3 (Qz (Zbr e4 (Zau (Qs es0))))))),w3,hs3,λe=>absurd hin (by rw[e];exact List.not_mem_nil)⟩
 ·rw[dF hin]at e4
  have w4:=w3.push (op,ks)
  have DI:hs.length≤16000:=hl▸DP
  have st4:ExS (j+2) (.exp (.mth (.loc "nodes") "append" [.loc "node"])) ν3 σ3 .next ν3 (σ3.put nd (.list (nodes.map Zu++[Zu (op,ks)]))):=Qb (Qr (Zb u2) (.append w3.nodes) (es1 (Zb u5)) (.append w3.nodes (Zh DP)))
  have st5:ExS (j+2) (.exp (.mth QQ7 "append" [.blt "len" [QQ7]])) ν3 (σ3.put nd (.list (nodes.map Zu++[Zu (op,ks)]))) .next ν3 ((σ3.put nd (.list (nodes.map Zu++[Zu (op,ks)]))).put hm (.list (hs.map nA++[nA hs.length]))):=
   Qb (Qr (Zb u3) (.append w4.JI) (es1 ((Y1 (es1 (Zb u3)) (.len (.lst (.ref w4.JI)) (Zh DI))).eqv (w:=nA hs.length) (by rw[Z8i]))) (.append w4.JI (Zh DI)))
  have w5:=w4.U6 (hs':=hs++[hs.length]) (by rw[←Qp nA];exact .put)
  obtain⟨hs',σ6,hc,cl,S6⟩:=Zp5 (j:=j) (N.push (x:=(op,ks)) hb k2 K.lt) w5.nodes w5.JI (by rw[Zd,Zd,hl]) w5.n3
  have w6:=w5.U6 S6
  have hw:Jq (.add op ks):=.add O.ok k2 λk hk=>Z73 (K.lt k hk) (Z7z hb ble)
  have Rx:∀k∈ks,k<100:=λk hk=>Z73 (K.lt k hk) (Z7z hb ble)
  have hr:EvE (j+2) Iu ν3 σ6 (.str (Ze (.add op ks))) σ6:=by
   have hg:LcR (j+2) none ["kid"] [] (.blt "str" [Xa]) ν3 ((ks.map nA).map λx=>[x]) [] σ6 ([]++ks.map YQ) σ6:=Zbl Z3 (λk hk'=>Zjx (Rx k hk') (Zb (Zg ..))) (lc0 k2)
   refine UW (ws:=Yi (.add op ks)) (Yu (Qs (es2 Zf (Zb u4))) (Qx (es1 (UU (nd:=(op,ks)) k2 u5)) (.tup (ks.map nA)) hg) (.XA (.lst _) (.lst _) ?_)) ?_ (Zaf hw) (Zck hw)
   ·show 2+(List.map YQ ks).length≤_;rw[Z8i];exact Z7z (Z76 k2 2) ble
   ·show ZA.str YJ::ZA.str op::ks.map YQ=ZA.str YJ::ZA.str op::List.map ZA.str (List.map _ ks);rw[Zk5]
  exact⟨_,hs',[Ze (.add op ks)],_,σ6,.new O.ok O.q k2 K.lt hin hc,Zk Zd9 hbd (Zc st1 (Zc st2 (Zc st3 (Zc (Zn e4) (Zc st4 (Zc st5 (Zc (Qb (ZY (es2 (Zb u2) (Zb u3)) cl)) (Y6 (Qs (es1 hr)))))))))),w6,hs3,λZ=>List.cons_ne_nil _ _⟩
end
end
section
inductive Xg(n:Nat):Reason→Prop
 |told:Xg n (.told [115])
 |rule {k:Nat} (h:k<n):Xg n (.rule [114] [(sX,k)])
structure Used(nodes:List Nd)(hs:List Nat)(a b:Nat):Prop where
 ne:hAt hs a≠hAt hs b
 use:∃kd∈nodes,max (hAt hs a) (hAt hs b)∈kd.2.map (hAt hs)
structure Z0k(nodes:List Nd)(hs:List Nat)(a b:Nat)(r:Reason)(hs':List Nat):Prop where
 la:a<nodes.length
 lb:b<nodes.length
 why:Xg nodes.length r
 close:QS nodes (Zfb hs a b) hs'
noncomputable def Zjl(nodes:List Nd)(hs:List Nat)(a b:Nat)(r:Reason):List CS:=Ze (.same a b r)::if Used nodes hs a b then[Zx]else[]
section
variable{j fd nd hm s:Nat}{σ σ1 σ':St}{cells:List Int}{nodes:List Nd}{hs hs':List Nat}{ν:Fm}{a b:Nat}{r:Reason}
theorem Xg.wf{n:Nat}(h:Xg n r)(hn:n≤100):YV r:=by
 cases h with
 |told=>exact .told okS
 |rule h=>exact .rule okR (.one (Z73 h hn))
theorem Zou(n:Nat):((List.range n).map λ(i:Nat)=>[ZA.int i])=((List.range n).map nA).map λx=>[x]:=by rw[List.map_map];rfl
theorem Ztw(w:Lw σ fd nd hm cells s nodes hs)(N:YS nodes)(hl:hs.length=nodes.length)(h0:0<nodes.length)(hsp:s≤900):
  ∃a b r hs' s' σ',Z0k nodes hs a b r hs'∧Zq (j+3) "_law_merged" [.ref fd,.ref nd,.ref hm] σ (.lst ((Zjl nodes hs a b r).map .str)) σ'∧Lw σ' fd nd hm cells s' nodes hs'∧s'≤s+4:=by
 have n16:=X3 N.few
 have h16:hs.length≤16000:=hl▸n16
 have XI:nodes.length≤100:=Z7z N.few ble
 generalize hν:upd (upd (upd (λZ=>none) "feed" (ZA.ref fd)) "nodes" (ZA.ref nd)) "homes" (ZA.ref hm)=ν
 have v1:ν "feed"=some (.ref fd):=by rw[←hν];kernel_rfl
 have v2:ν "nodes"=some (.ref nd):=by rw[←hν];kernel_rfl
 have v3:ν "homes"=some (.ref hm):=by rw[←hν];kernel_rfl
 have hbd:Zv ["feed","nodes","homes"] [.ref fd,.ref nd,.ref hm] (λZ=>none)=some ν:=by rw[←hν];rfl
 clear hν
 obtain⟨a,σ1,D1⟩:=Jz (j:=j+1) w.feed h0 (Z7z hsp ble) w.cl
 have w1:=w.fed D1.fed
 obtain⟨b,σ2,D2⟩:=Jz (j:=j+1) w1.feed h0 (Z7z (Z75 hsp) ble) w.cl
 have w2:=w1.fed D2.fed
 obtain⟨c,σ3,D3⟩:=Jz (j:=j+1) (w:=2) w2.feed ble (Z7z (Z75 (Z75 hsp)) ble) w.cl
 have w3:=w2.fed D3.fed
 have ha:=D1.lt
 have hb:=D2.lt
 have Ii:a<100:=Z73 ha XI
 have Ig:b<100:=Z73 hb XI
 have st1:ExS (j+2) (.unp ["a","b"] (.tup [Vv,Vv])) ν σ .next (upd (upd ν "a" (nA a)) "b" (nA b)) σ2:=
  Zmk (Q3 (es2 (ZY (es2 (Zb v1) (w.Vf N.few v2)) D1.call) (ZY (es2 (Zb v1) (w1.Vf N.few v2)) D2.call))) (.tup _) rfl
 have st2:ExS (j+2) (.asg "words" (.lst [KW,.blt "str" [YG],.blt "str" [.loc "b"]])) (upd (upd ν "a" (nA a)) "b" (nA b)) σ2 .next (upd (upd (upd ν "a" (nA a)) "b" (nA b)) "words" (.lst ([Y0,ZQ a,ZQ b].map .str))) σ2:=
  Yk (Qs (es3 Zf (Zjx Ii (Zb (Za (Zg ..)))) (Zjx Ig (Zb (Zg ..)))))
 generalize hν:upd (upd ν "a" (nA a)) "b" (nA b)=ν2 at st1 st2
 have u1:ν2 "feed"=some (.ref fd):=by rw[←hν];exact Za (Za v1)
 have u2:ν2 "nodes"=some (.ref nd):=by rw[←hν];exact Za (Za v2)
 have u3:ν2 "homes"=some (.ref hm):=by rw[←hν];exact Za (Za v3)
 have ua:ν2 "a"=some (nA a):=by rw[←hν];exact Za (Zg ..)
 have ub:ν2 "b"=some (nA b):=by rw[←hν];exact Zg ..
 clear hν
 have st3:∃r s' σ4,Xg nodes.length r∧s'≤s+4∧Lw σ4 fd nd hm cells s' nodes hs∧ExS (j+2) IK
   (upd ν2 "words" (.lst ([Y0,ZQ a,ZQ b].map .str))) σ2 .next (upd (upd ν2 "words" (.lst ([Y0,ZQ a,ZQ b].map .str))) "words" (.lst ((Yi (.same a b r)).map .str))) σ4:=by
  have ec:EvE (j+2) (.cmp .Eq (.fn "_law_dip" [.loc "feed",JE]) QQ6) (upd ν2 "words" (.lst ([Y0,ZQ a,ZQ b].map .str))) σ2 (.bool (decide (nA c=nA 0))) σ3:=Zm (ZY (es2 (Zb (Za u1)) Zf) D3.call) Zf (.eq (.int 0 _ _) ble)
  by_cases q:c=0
  ·rw[dT (Z81 nA q)]at ec
   exact⟨_,_,σ3,.told,Z76 (show 3≤4 from ble) s,w3,Zby ec (Qh (Yk (Yu (Zb (Zg ..)) (Qs (es2 Zf Zf)) (.XA (.lst _) (.lst _) ble))))⟩
  ·rw[dF (Zk2 q)]at ec
   obtain⟨k,σ4,D4⟩:=Jz (j:=j+1) w3.feed h0 (Z7z (Z75 (Z75 (Z75 hsp))) ble) w.cl
   exact⟨_,_,σ4,.rule D4.lt,Z70 _,w3.fed D4.fed,Zfq ec (Qh (Yk (Yu (Zb (Zg ..)) (Qs (.cons Zf (es3 Zf Zf (Y1 (es1 (ZY (es2 (Zb (Za u1)) (w3.Vf N.few (Za u2))) D4.call)) (.V5 (UX (Z73 D4.lt XI))))))) (.XA (.lst _) (.lst _) ble))))⟩
 obtain⟨r,s',σ4,hr,hs4,w4,st3⟩:=st3
 generalize hν:upd (upd ν2 "words" (.lst ([Y0,ZQ a,ZQ b].map .str))) "words" (.lst ((Yi (.same a b r)).map .str))=ν3 at st3
 have x1:ν3 "nodes"=some (.ref nd):=by rw[←hν];exact Za (Za u2)
 have x2:ν3 "homes"=some (.ref hm):=by rw[←hν];exact Za (Za u3)
 have xa:ν3 "a"=some (nA a):=by rw[←hν];exact Za (Za ua)
 have xb:ν3 "b"=some (nA b):=by rw[←hν];exact Za (Za ub)
 have xw:ν3 "words"=some (.lst ((Yi (.same a b r)).map .str)):=by rw[←hν];exact Zg ..
 clear hν
 have eha:EvE (j+2) (.idx QQ7 YG) ν3 σ4 (nA (hAt hs a)) σ4:=Zny (Zb x2) (Zb xa) w4.JI (hl.symm▸ha) h16
 have ehb:EvE (j+2) (.idx QQ7 (.loc "b")) ν3 σ4 (nA (hAt hs b)) σ4:=Zny (Zb x2) (Zb xb) w4.JI (hl.symm▸hb) h16
 have st4:ExS (j+2) Iw ν3 σ4 .next (upd (upd ν3 "gone" (nA (max (hAt hs a) (hAt hs b)))) "is_one" (.bool (decide (nA (hAt hs a)=nA (hAt hs b))))) σ4:=
  Zmk (Q3 (es2 ((Y1 (es2 eha ehb) (.max2 _ _)).eqv (w:=nA (max (hAt hs a) (hAt hs b))) (Z81 ZA.int (by omega))) (Zm eha ehb (.eq (.int 0 _ _) ble)))) (.tup _) rfl
 generalize hν:upd (upd ν3 "gone" (nA (max (hAt hs a) (hAt hs b)))) "is_one" (.bool (decide (nA (hAt hs a)=nA (hAt hs b))))=ν4 at st4
 have y1:ν4 "nodes"=some (.ref nd):=by rw[←hν];exact Za (Za x1)
 have y2:ν4 "homes"=some (.ref hm):=by rw[←hν];exact Za (Za x2)
 have ya:ν4 "a"=some (nA a):=by rw[←hν];exact Za (Za xa)
 have yb:ν4 "b"=some (nA b):=by rw[←hν];exact Za (Za xb)
 have yw:ν4 "words"=some (.lst ((Yi (.same a b r)).map .str)):=by rw[←hν];exact Za (Za xw)
 have yg:ν4 "gone"=some (nA (max (hAt hs a) (hAt hs b))):=by rw[←hν];exact Za (Zg ..)
 have yo:ν4 "is_one"=some (.bool (decide (nA (hAt hs a)=nA (hAt hs b)))):=by rw[←hν];exact Zg ..
 clear hν
 let t:Nat→Bool:=λn=>decide (max (hAt hs a) (hAt hs b)∈((nodes[n]?).getD ([],[])).2.map (hAt hs))
 have hg:LcR (j+2) none ["n"] [Ge] YD ν4 (((List.range nodes.length).map nA).map λx=>[x]) [] σ4 ([]++((List.range nodes.length).filter t).map nA) σ4:=
  Zax Z3 (λn hn=>by
   obtain⟨kd,hkd⟩:=Zbt (List.mem_range.mp hn)
   have hm:kd∈nodes:=Z89 hkd
   have e1:EvE (j+2) Ge (upd (hide ν4) "n" (nA n)) σ4 (.bool (t n)) σ4:=by
    refine(Zm (Zb (Za (J3 yg))) (Zv6 w4.JI (N.two kd hm) (λk q=>hl▸N.kids kd hm k q) h16 (Za (J3 y2)) (Yx (Zb (Za (J3 y1))) (Zb (Zg ..)) (.lst (.ref w4.nodes) (Zaa hkd) (Zh n16)))) (.inL (n:=0) (id:=0) (.lst _) (all_map λk=>.int _ _ _) ble)).eqv (Z81 ZA.bool ?_)
    show _=decide (_∈((nodes[n]?).getD ([],[])).2.map (hAt hs))
    rw[hkd]
    exact decide_eq_decide.mpr ⟨λh=>(Z8l.mp h).elim λy q=>Zji q.2▸q.1,λh=>List.mem_map_of_mem h⟩
   refine⟨?_,λZ=>Zb (Zg ..)⟩
   cases ht:t n with
   |true=>rw[ht]at e1;exact .yes e1 (.nil _)
   |false=>rw[ht]at e1;exact .no e1) (by rw[List.length_nil,Nat.zero_add,List.length_range];exact n16)
 rw[←Zou,List.nil_append]at hg
 have hus:((List.range nodes.length).filter t).map nA=[]↔¬ ∃kd∈nodes,max (hAt hs a) (hAt hs b)∈kd.2.map (hAt hs):=by
  rw[List.map_eq_nil_iff,List.filter_eq_nil_iff]
  constructor
  ·rintro h ⟨kd,hm,hx⟩
   obtain⟨n,hn,hkd⟩:=List.getElem_of_mem hm
   refine h n (List.mem_range.mpr hn) (Z82 ?_)
   rw[Z8v hn,hkd];exact hx
  ·intro h n hn q
   obtain⟨kd,hkd⟩:=Zbt (List.mem_range.mp hn)
   have:=of_decide_eq_true q
   rw[hkd]at this
   exact h ⟨kd,Z89 hkd,this⟩
 generalize((List.range nodes.length).filter t).map nA=us at hg hus
 have st5:ExS (j+2) (.UZ "users" (.comp YD ["n"] 2 [QQ9] [Ge])) ν4 σ4 .next (upd ν4 "users" (.lst us)) σ4:=
  Zzz (es1 (w4.Vf N.few y1)) (.rng n16) hg
 obtain⟨σ5,hc5,S5⟩:=Ztx (j:=j+1) w4.JI (hl.symm▸ha) (hl.symm▸hb) (hl▸N.few)
 have w5:=w4.U6 S5
 obtain⟨hs',σ6,hc,hc6,S6⟩:=Zp5 (j:=j) N w5.nodes w5.JI (Zb3.trans hl) w5.n3
 have w6:=w5.U6 S6
 have hw:Jq (.same a b r):=.same Ii Ig (hr.wf XI)
 have e1:EvE (j+2) (.mth Ke "join" [YA]) (upd ν4 "users" (.lst us)) σ6 (.str (Ze (.same a b r))) σ6:=UW (Zb (Za yw)) rfl (Zaf hw) (Zck hw)
 have e2:EvE (j+2) Im (upd ν4 "users" (.lst us)) σ6 (.lst ((if Used nodes hs a b then[Zx]else[]).map .str)) σ6:=by
  have eo:EvE (j+2) (.not (.loc "is_one")) (upd ν4 "users" (.lst us)) σ6 (.bool (!decide (nA (hAt hs a)=nA (hAt hs b)))) σ6:=Zao (Zb (Za yo))
  have eu:EvE (j+2) (.cmp .NotEq (.loc "users") (.lst [])) (upd ν4 "users" (.lst us)) σ6 (.bool (!decide (us=[]))) σ6:=Zm (Zb (Zg ..)) (Qs es0) (.neL (n:=0) (.lst _) (.lst _) (λe i a b Z q=>(nomatch q)) ble)
  by_cases q1:hAt hs a=hAt hs b
  ·rw[nT (Z81 nA q1)]at eo
   rw[if_neg λu=>u.ne q1]
   exact Zah (Jb eo) (Qs es0)
  ·rw[nF (Zk2 q1)]at eo
   by_cases q2:us=[]
   ·rw[nT q2]at eu
    rw[if_neg λu=>hus.mp q2 u.use]
    exact Zah (Zw eo eu) (Qs es0)
   ·rw[nF q2]at eu
    rw[if_pos ⟨q1,Classical.not_not.mp λz=>q2 (hus.mpr z)⟩]
    exact Zbg (Zw eo eu) (Qs (es1 Zf))
 have hlen:[ZA.str (Ze (.same a b r))].length+((if Used nodes hs a b then[Zx]else[]).map ZA.str).length≤16000:=by
  by_cases q:Used nodes hs a b
  ·rw[if_pos q];exact ble
  ·rw[if_neg q];exact ble
 exact⟨a,b,r,hs',s',σ6,⟨ha,hb,hr,hc⟩,Zk Zir hbd (Zc st1 (Zc st2 (Zc st3 (Zc st4 (Zc st5 (Zc (Qb (ZY (es3 (Zb (Za y2)) (Zb (Za ya)) (Zb (Za yb))) hc5)) (Zc (Qb (ZY (es2 (Zb (Za y1)) (Zb (Za y2))) hc6))
  (Y6 (Yu (Qs (es1 e1)) e2 (.XA (.lst _) (.lst _) hlen)))))))))),w6,hs4⟩
end
end
section
section
variable{par:List Nat}{g k:Nat}
theorem Zhq(hd:Down par){c:Nat}(h:par[c]? = some c):find par c=c:=by rw[Zam hd,if_pos (Zhl h)]
theorem Zyy(hd:Down par)(hg:par[g]? = some g)(hk:par[k]? = some k)(hlt:k<g)(x:Nat):find (par.set g k) x=if find par x=g then k else find par x:=by
 have hgl:=Zaw hg
 have hd':Down (par.set g k):=λi p hp=>by
  rw[List.getElem?_set]at hp
  by_cases e:g=i
  ·rw[if_pos e,if_pos hgl]at hp;exact e▸Z8q hp▸Z8e hlt
  ·rw[if_neg e]at hp;exact hd i p hp
 have hks:(par.set g k)[k]? = some k:=by rw[List.getElem?_set,if_neg (Nat.ne_of_gt hlt)];exact hk
 induction x using Nat.strongRecOn with
 |ind x ih=>
  by_cases e:g=x
  ·rw[←e,Zhq hd hg,if_pos rfl,Zam hd',show((par.set g k)[g]?).getD g=k from Zhl (by rw[List.getElem?_set,if_pos rfl,if_pos hgl]),if_neg (Nat.ne_of_lt hlt)]
   exact Zhq hd' hks
  ·rw[Zam hd',show(par.set g k)[x]? = par[x]? from by rw[List.getElem?_set,if_neg e],Zam hd x]
   by_cases hp:(par[x]?).getD x=x
   ·rw[if_pos hp,if_pos hp,if_neg (Ne.symm e)]
   ·rw[if_neg hp,if_neg hp];exact ih _ (Zhk hd hp)
theorem Zvs(hd:Down par)(x:Nat):find (par++[par.length]) x=find par x:=by
 have hd':Down (par++[par.length]):=λi p h=>(Zdr h).elim (hd i p) λe=>Z8c (e.2.trans e.1.symm)
 have e:∀x,((par++[par.length])[x]?).getD x=(par[x]?).getD x:=λx=>by
  by_cases h:x<par.length
  ·rw[List.getElem?_append_left h]
  ·rw[List.getElem?_append_right (Nat.not_lt.mp h),List.getElem?_eq_none (Nat.not_lt.mp h)]
   cases q:x-par.length with
   |zero=>show par.length=x;exact Nat.le_antisymm (Nat.not_lt.mp h) (Nat.le_of_sub_eq_zero q)
   |succ n=>rfl
 induction x using Nat.strongRecOn with
 |ind x ih=>
  rw[Zam hd',Zam hd x,e]
  by_cases hp:(par[x]?).getD x=x
  ·rw[if_pos hp,if_pos hp]
  ·rw[if_neg hp,if_neg hp];exact ih _ (Zhk hd hp)
end
def Sub(f c:Nat→Nat)(n:Nat):Prop:=∀i j,i<n→j<n→f i=f j→c i=c j
def Cg(nodes:List Nd)(c:Nat→Nat):Prop:=∀n m op ks ls,nodes[n]? = some (op,ks)→nodes[m]? = some (op,ls)→ks.map c=ls.map c→c n=c m
structure HI(H:HC)(ex:Nat→Prop):Prop where
 known:∀key m,H.known.lookup key=some m→∃ks,H.nodes[m]? = some (key.1,ks)∧ks.map (find H.par)=key.2.map (find H.par)
 use:∀n c,n∈Zr H c↔∃nd,H.nodes[n]? = some nd∧c∈nd.2.map (find H.par)
 comp:∀n nd,H.nodes[n]? = some nd→ex n∨n∈H.waiting∨∃m,H.known.lookup (ZV H nd)=some m∧find H.par m=find H.par n
section
variable{H:HC}{ex:Nat→Prop}{n g k:Nat}{nd key:Nd}{c:Nat→Nat}
theorem Core.idem(O:Core H){a:Nat}(ha:a<H.nodes.length):find H.par (find H.par a)=find H.par a:=Zhq O.down (O.JK ha)
theorem HI.pop(h:HI H λZ=>False){ws:List Nat}(hw:H.waiting=ws++[n]):HI (Kz H ws) (·=n):=⟨h.known,h.use,λm md hm=>by
 rcases h.comp m md hm with q | q | q
 ·exact q.elim
 ·rw[hw]at q;exact(Ql.mp q).elim (λq=>.inr (.inl q)) .inl
 ·exact .inr (.inr q)⟩
theorem Zdk{κ:Type}[BEq κ][LawfulBEq κ]{β:Type}{a b:κ}[hd:Decidable (b=a)]{v:β}:∀{l:List (κ×β)},(l++[(a,v)]).lookup b=(l.lookup b).or (if b=a then some v else none)
 | []=>by
  show List.lookup b [(a,v)]=_
  rw[List.lookup_cons]
  by_cases e:b=a
  ·rw[beq_iff_eq.mpr e,if_pos e];rfl
  ·rw[Z85.mpr e,if_neg e];rfl
 | (x,y)::l=>by
  rw[List.cons_append,List.lookup_cons,List.lookup_cons]
  by_cases e:b=x
  ·rw[beq_iff_eq.mpr e];rfl
  ·rw[Z85.mpr e];exact Zdk
structure Z7u(H:HC)(n:Nat)(nd:Nd):Prop where
 hi:HI (Z4 H (ZV H nd) n) (·=n)
 look:(Z4 H (ZV H nd) n).known.lookup (ZV H nd)=some (Zy H (ZV H nd) n)
 like:∃ks,H.nodes[Zy H (ZV H nd) n]? = some (nd.1,ks)∧ks.map (find H.par)=nd.2.map (find H.par)
theorem Core.Uh(O:Core H)(hn:H.nodes[n]? = some nd):(ZV H nd).2.map (find H.par)=nd.2.map (find H.par):=by
 show(nd.2.map (find H.par)).map (find H.par)=_
 rw[List.map_map]
 exact List.map_congr_left λk hk=>O.idem (Nat.lt_trans ((O.kids n nd hn).1 k hk) (Zaw hn))
theorem HI.Gz(h:HI H (·=n))(O:Core H)(hn:H.nodes[n]? = some nd):Z7u H n nd:=by
 have hm:=O.Uh hn
 cases e:H.known.lookup (ZV H nd)with
 |some v=>
  have e1:Z4 H (ZV H nd) n=H:=by unfold Z4;rw[e]
  have e2:Zy H (ZV H nd) n=v:=by unfold Zy;rw[e];rfl
  have:=h.known _ _ e
  rw[hm]at this
  exact⟨by rw[e1];exact h,by rw[e1,e2];exact e,by rw[e2];exact this⟩
 |none=>
  have e1:Z4 H (ZV H nd) n=Zsm H (ZV H nd) n:=by unfold Z4;rw[e]
  have e2:Zy H (ZV H nd) n=n:=by unfold Zy;rw[e];rfl
  have ek:∀key,(Zsm H (ZV H nd) n).known.lookup key=(H.known.lookup key).or (if key=ZV H nd then some n else none):=λkey=>Zdk
  refine⟨?_,by rw[e1,e2,ek,e,if_pos rfl];rfl,by rw[e2];exact⟨nd.2,hn,rfl⟩⟩
  rw[e1]
  refine⟨λkey m q=>?_,h.use,λm md q=>?_⟩
  ·rw[ek]at q
   cases e3:H.known.lookup key with
   |some v=>rw[e3]at q;exact h.known key m (e3.trans q)
   |none=>
    rw[e3]at q
    by_cases e4:key=ZV H nd
    ·rw[if_pos e4]at q
     rw[←Z8q q,e4]
     exact⟨nd.2,hn,hm.symm⟩
    ·rw[if_neg e4]at q;exact nomatch q
  ·refine(h.comp m md q).imp_right (Or.imp_right λ⟨x,hx,hf⟩=>⟨x,?_,hf⟩)
   show(Zsm H (ZV H nd) n).known.lookup (ZV H md)=_
   rw[ek,hx];rfl
theorem Zrj{a b:Nat}{r:ZA}(hk:k∈H.abv.map (·.1))(hne:k≠g)(c:Nat):Zr (Qy H a b r g k) c=if c=k then Zr H k++Zr H g else if c=g then[]else Zr H c:=by
 have hkd:k∈(JZ g H.abv).map (·.1):=Zce.mpr ⟨hk,hne⟩
 by_cases e:c=k
 ·rw[if_pos e,e];exact Z81 (λo:Option (List Nat)=>o.getD []) (Q5 _ hkd)
 ·rw[if_neg e]
  have h1:(Qy H a b r g k).abv.lookup c=(JZ g H.abv).lookup c:=Ys e _
  by_cases e2:c=g
  ·rw[if_pos e2,Zr,h1,e2]
   cases q:(JZ g H.abv).lookup g with
   |none=>rfl
   |some v=>exact absurd rfl (Zce.mp (Zfc (J2 q))).2
  ·rw[if_neg e2,Zr,h1,Zbh e2];rfl
theorem Za2{a b:Nat}{r:ZA}(O:Core H)(hg:g∈H.abv.map (·.1))(hk:k∈H.abv.map (·.1))(hlt:k<g)(x:Nat):find (Qy H a b r g k).par x=if find H.par x=g then k else find H.par x:=Zyy O.down ((O.roots g).mp hg) ((O.roots k).mp hk) hlt x
theorem HI.Kq{a b m x:Nat}{r:ZA}{md:Nd}(h:HI H ex)(O:Core H)(hg:g∈H.abv.map (·.1))(hk:k∈H.abv.map (·.1))(hlt:k<g)(q:H.nodes[m]? = some md)(hx:H.known.lookup (ZV H md)=some x)(hfx:find (Qy H a b r g k).par x=find (Qy H a b r g k).par m):
  m∈(Qy H a b r g k).waiting∨∃x,(Qy H a b r g k).known.lookup (ZV (Qy H a b r g k) md)=some x∧find (Qy H a b r g k).par x=find (Qy H a b r g k).par m:=by
 have hf:=Za2 (a:=a) (b:=b) (r:=r) O hg hk hlt
 by_cases hgk:g∈md.2.map (find H.par)
 ·exact .inl (List.mem_append_right _ ((h.use m g).mpr ⟨md,q,hgk⟩))
 ·refine .inr ⟨x,?_,hfx⟩
  have:ZV (Qy H a b r g k) md=ZV H md:=by
   refine Z81 (Prod.mk md.1) (List.map_congr_left λy hy=>?_)
   rw[hf,if_neg λe:find H.par y=g=>hgk (e▸List.mem_map_of_mem hy)]
  rw[this];exact hx
theorem HI.join{a b:Nat}{r:ZA}(h:HI H ex)(O:Core H)(hg:g∈H.abv.map (·.1))(hk:k∈H.abv.map (·.1))(hlt:k<g):HI (Qy H a b r g k) ex:=by
 have hf:=Za2 (a:=a) (b:=b) (r:=r) O hg hk hlt
 have hu:=Zrj (a:=a) (b:=b) (r:=r) hk (Nat.ne_of_lt hlt)
 have fm:∀{ks ls:List Nat},ks.map (find H.par)=ls.map (find H.par)→ks.map (find (Qy H a b r g k).par)=ls.map (find (Qy H a b r g k).par):=λ{ks ls} q=>by
  have e:find (Qy H a b r g k).par=(λy=>if y=g then k else y) ∘ find H.par:=funext hf
  rw[e,←List.map_map,←List.map_map,q]
 refine⟨λkey m q=>?_,λm c=>?_,λm md q=>?_⟩
 ·obtain⟨ks,q1,q2⟩:=h.known key m q
  exact⟨ks,q1,fm q2⟩
 ·rw[hu]
  have img:∀{md:Nd},(c∈md.2.map (find (Qy H a b r g k).par)↔if c=k then(k∈md.2.map (find H.par)∨g∈md.2.map (find H.par))else(c≠g∧c∈md.2.map (find H.par))):=λ{md}=>by
   rw[Z8l]
   constructor
   ·rintro⟨x,hx,e⟩
    rw[hf]at e
    by_cases q:find H.par x=g
    ·rw[if_pos q]at e
     rw[if_pos e.symm]
     exact .inr (q▸List.mem_map_of_mem hx)
    ·rw[if_neg q]at e
     by_cases q2:c=k
     ·rw[if_pos q2,←q2,←e];exact .inl (List.mem_map_of_mem hx)
     ·rw[if_neg q2,←e];exact⟨q,List.mem_map_of_mem hx⟩
   ·intro z
    by_cases q2:c=k
    ·rw[if_pos q2]at z
     rcases z with z | z
     ·obtain⟨x,hx,e⟩:=Z8l.mp z
      exact⟨x,hx,by rw[hf,e,if_neg (Nat.ne_of_lt hlt),q2]⟩
     ·obtain⟨x,hx,e⟩:=Z8l.mp z
      exact⟨x,hx,by rw[hf,e,if_pos rfl,q2]⟩
    ·rw[if_neg q2]at z
     obtain⟨x,hx,e⟩:=Z8l.mp z.2
     exact⟨x,hx,by rw[hf,e,if_neg z.1]⟩
  by_cases q:c=k
  ·rw[if_pos q,List.mem_append,h.use,h.use]
   constructor
   ·rintro(⟨md,h1,h2⟩ | ⟨md,h1,h2⟩)
    ·exact⟨md,h1,img.mpr (by rw[if_pos q];exact .inl h2)⟩
    ·exact⟨md,h1,img.mpr (by rw[if_pos q];exact .inr h2)⟩
   ·rintro⟨md,h1,h2⟩
    have:=img.mp h2
    rw[if_pos q]at this
    exact this.imp (λz=>⟨md,h1,z⟩) λz=>⟨md,h1,z⟩
  ·rw[if_neg q]
   by_cases q2:c=g
   ·rw[if_pos q2]
    refine⟨λz=>(nomatch z),λ⟨md,h1,h2⟩=>?_⟩
    have:=img.mp h2
    rw[if_neg q]at this
    exact absurd q2 this.1
   ·rw[if_neg q2,h.use]
    refine⟨λ⟨md,h1,h2⟩=>⟨md,h1,img.mpr (by rw[if_neg q];exact⟨q2,h2⟩)⟩,λ⟨md,h1,h2⟩=>⟨md,h1,?_⟩⟩
    have:=img.mp h2
    rw[if_neg q]at this
    exact this.2
 ·rcases h.comp m md q with z | z | ⟨x,hx,hfx⟩
  ·exact .inl z
  ·exact .inr (.inl (List.mem_append_left _ z))
  ·exact .inr (h.Kq O hg hk hlt q hx (by rw[hf,hf,hfx]))
end
end
section
section
variable{H H':HC}{n g k a b:Nat}{nd:Nd}{c:Nat→Nat}{r:ZA}
theorem Sub.map{f:Nat→Nat}{N:Nat}(h:Sub f c N):∀{ks ls:List Nat},(∀x∈ks,x<N)→(∀x∈ls,x<N)→ks.map f=ls.map f→ks.map c=ls.map c
 | [],[],_,_,_=>rfl
 |x::ks,y::ls,h1,h2,e=>by
  obtain⟨e1,e2⟩:=List.cons.inj e
  rw[Z8o,Z8o,h x y (h1 x Z8g) (h2 y Z8g) e1,h.map (λz hz=>h1 z (Z8h _ hz)) (λz hz=>h2 z (Z8h _ hz)) e2]
structure Up(H H':HC):Prop where
 ex:∃φ:Nat→Nat,∀x,find H'.par x=φ (find H.par x)
theorem Up.refl:Up H H:=⟨id,λZ=>rfl⟩
theorem Up.trans{H2:HC}(h:Up H H')(h2:Up H' H2):Up H H2:=by
 obtain⟨φ,h⟩:=h.ex
 obtain⟨ψ,h2⟩:=h2.ex
 exact⟨ψ ∘ φ,λx=>by rw[h2,h];rfl⟩
theorem Up.one(h:Up H H'){x y:Nat}(e:find H.par x=find H.par y):find H'.par x=find H'.par y:=by
 obtain⟨φ,h⟩:=h.ex
 rw[h,h,e]
theorem Up.par(h:H'.par=H.par):Up H H':=⟨id,λx=>by rw[h];rfl⟩
theorem Zte(O:Core H)(hg:g∈H.abv.map (·.1))(hk:k∈H.abv.map (·.1))(hlt:k<g):Up H (Qy H a b r g k):=⟨λy=>if y=g then k else y,Za2 O hg hk hlt⟩
theorem Zqo(O:Core H)(ha:a<H.nodes.length)(hb:b<H.nodes.length)(hne:find H.par a≠find H.par b){a' b':Nat}:find (Qy H a' b' r (max (find H.par a) (find H.par b)) (min (find H.par a) (find H.par b))).par a=find (Qy H a' b' r (max (find H.par a) (find H.par b)) (min (find H.par a) (find H.par b))).par b:=by
 obtain⟨hk,hg,hlt⟩:=O.Xv ha hb rfl rfl hne
 rw[Za2 O hg hk hlt,Za2 O hg hk hlt]
 rcases Nat.le_total (find H.par a) (find H.par b)with q | q
 ·rw[Nat.max_eq_right q,Nat.min_eq_left q,if_pos rfl,if_neg hne]
 ·rw[Nat.max_eq_left q,Nat.min_eq_right q,if_pos rfl,if_neg (Ne.symm hne)]
theorem Sub.join(O:Core H)(hs:Sub (find H.par) c H.nodes.length)(ha:a<H.nodes.length)(hb:b<H.nodes.length)(hne:find H.par a≠find H.par b)(hab:c a=c b){a' b':Nat}:Sub (find (Qy H a' b' r (max (find H.par a) (find H.par b)) (min (find H.par a) (find H.par b))).par) c H.nodes.length:=by
 obtain⟨hk,hg,hlt⟩:=O.Xv ha hb rfl rfl hne
 have cf:∀x,x<H.nodes.length→c (find H.par x)=c x:=λx hx=>hs _ _ (O.XT hx) hx (O.idem hx)
 have cgk:c (max (find H.par a) (find H.par b))=c (min (find H.par a) (find H.par b)):=by
  have e:c (find H.par a)=c (find H.par b):=by rw[cf a ha,cf b hb,hab]
  rcases Nat.le_total (find H.par a) (find H.par b)with q | q
  ·rw[Nat.max_eq_right q,Nat.min_eq_left q,e]
  ·rw[Nat.max_eq_left q,Nat.min_eq_right q,e]
 have hf:=Za2 (a:=a') (b:=b') (r:=r) O hg hk hlt
 generalize max (find H.par a) (find H.par b)=g at*
 generalize min (find H.par a) (find H.par b)=k at*
 have cf':∀x,x<H.nodes.length→c (find (Qy H a' b' r g k).par x)=c x:=λx hx=>by
  rw[hf]
  by_cases q:find H.par x=g
  ·rw[if_pos q,←cgk,←q,cf x hx]
  ·rw[if_neg q,cf x hx]
 exact λi j hi hj e=>by rw[←cf' i hi,←cf' j hj,e]
structure Z6n(H H':HC):Prop where
 hi:HI H' λZ=>False
 up:Up H H'
 sub:∀c,Cg H.nodes c→Sub (find H.par) c H.nodes.length→Sub (find H'.par) c H.nodes.length
theorem HI.fill(h:HI H (·=n))(hn:H.nodes[n]? = some nd)(hc:n∈H.waiting∨∃m,H.known.lookup (ZV H nd)=some m∧find H.par m=find H.par n):HI H λZ=>False:=⟨h.known,h.use,λm md q=>(h.comp m md q).elim (λe=>.inr (by rw[e]at q ⊢;rw[hn]at q;exact Z8q q▸hc)) .inr⟩
theorem HI.look(h:HI H (·=n))(O:Core H)(hn:H.nodes[n]? = some nd):Z6n H (Zd6 H n nd):=by
 have K:=h.Gz O hn
 have hnl:=Zaw hn
 have A:=O.known (key:=ZV H nd) hnl
 have hol:=O.XS (key:=ZV H nd) hnl
 obtain⟨k1,k2,ks,k3,k4⟩:=K
 have e0:ZV (Z4 H (ZV H nd) n) nd=ZV H nd:=by rw[ZV,A.par];rfl
 unfold Zd6
 generalize UO:ZV H nd=key at*
 have hn1:(Z4 H key n).nodes[n]? = some nd:=by rw[A.nodes];exact hn
 by_cases q:find H.par (Zy H key n)=find H.par n
 ·rw[if_pos q]
  exact⟨k1.fill hn1 (.inr ⟨_,by rw[e0];exact k2,by rw[A.par];exact q⟩),.par A.par,λc Z hs=>by rw[A.par];exact hs⟩
 ·rw[if_neg q]
  unfold GR
  have hne:find (Z4 H key n).par (Zy H key n)≠find (Z4 H key n).par n:=by rw[A.par];exact q
  have l1:Zy H key n<(Z4 H key n).nodes.length:=A.nodes▸hol
  have l2:n<(Z4 H key n).nodes.length:=A.nodes▸hnl
  obtain⟨hk,hg,hlt⟩:=A.core.Xv l1 l2 rfl rfl hne
  have j1:=Zqo (r:=Zip) (a':=Zy H key n) (b':=n) A.core l1 l2 hne
  have VA:∀c,Cg H.nodes c→Sub (find H.par) c H.nodes.length→Sub (find (Qy (Z4 H key n) (Zy H key n) n Zip (max (find (Z4 H key n).par (Zy H key n)) (find (Z4 H key n).par n)) (min (find (Z4 H key n).par (Zy H key n)) (find (Z4 H key n).par n))).par) c H.nodes.length:=λc hc hs=>by
   have hcc:c (Zy H key n)=c n:=hc _ _ nd.1 ks nd.2 k3 hn (hs.map (λx hx=>Nat.lt_trans ((O.kids _ _ k3).1 x hx) hol) (λx hx=>Nat.lt_trans ((O.kids _ _ hn).1 x hx) hnl) k4)
   have:=Sub.join (r:=Zip) (a':=Zy H key n) (b':=n) (c:=c) A.core (by rw[A.par,A.nodes];exact hs) l1 l2 hne hcc
   rw[A.nodes]at this;exact this
  rw[←A.par]
  have up:=(Up.par A.par).trans (Zte (r:=Zip) (a:=Zy H key n) (b:=n) A.core hg hk hlt)
  have hj:=k1.join (r:=Zip) (a:=Zy H key n) (b:=n) A.core hg hk hlt
  have cj:=k1.Kq (r:=Zip) (a:=Zy H key n) (b:=n) A.core hg hk hlt hn1 (by rw[e0];exact k2) j1
  exact⟨hj.fill hn1 cj,up,VA⟩
theorem QK.hi(h:QK H H'):YE H→HI H (λZ=>False)→Z6n H H':=by
 induction h with
 |done h=>exact λO h=>⟨h,.refl,λc Z hs=>hs⟩
 |@turn H H' ws n nd h hn _ ih=>
  intro O hI
  have K:=O.step (nd:=nd) h
  have A:=(hI.pop h).look (O.toCore.pop h) hn
  have B:=ih K.ok A.hi
  have en:(Zd6 (Kz H ws) n nd).nodes=H.nodes:=K.nodes
  exact⟨B.hi,⟨(A.up.trans B.up).ex⟩,λc hc hs=>by
   have:=B.sub c (by rw[en];exact hc) (by rw[en];exact A.sub c hc hs)
   rw[en]at this;exact this⟩
theorem HI.closed(h:HI H λZ=>False)(hw:H.waiting=[]):Cg H.nodes (find H.par):=λn m op ks ls hn hm e=>by
 have get:∀{i:Nat}{nd:Nd},H.nodes[i]? = some nd→∃x,H.known.lookup (ZV H nd)=some x∧find H.par x=find H.par i:=λ{i nd} q=>by
  rcases h.comp i nd q with z | z | z
  ·exact z.elim
  ·rw[hw]at z;exact nomatch z
  ·exact z
 obtain⟨x,h1,h2⟩:=get hn
 obtain⟨y,h3,h4⟩:=get hm
 rw[show ZV H (op,ls)=ZV H (op,ks)from Z81 (Prod.mk op) e.symm,h1]at h3
 rw[←h2,←h4,Z8q h3]
end
end
section
section
variable{H H':HC}{n g k a b:Nat}{nd:Nd}{c:Nat→Nat}{r:Reason}
theorem Zrk(d:Nat):Zr (Zaz H nd) d=Zr H d:=by
 have e:(Zaz H nd).abv.lookup d=(H.abv.lookup d).or (if d=H.nodes.length then some []else none):=Zdk
 rw[Zr,Zr,e]
 cases H.abv.lookup d with
 |some v=>rfl
 |none=>
  by_cases q:d=H.nodes.length
  ·rw[if_pos q];rfl
  ·rw[if_neg q];rfl
theorem Zqh{m d:Nat}:∀{cs:List Nat}{H:HC},(∀c∈cs,c∈H.abv.map (·.1))→(m∈Zr (Zpa n cs H) d↔m∈Zr H d∨(m=n∧d∈cs))
 | [],H,_=>⟨.inl,λh=>h.elim id λz=>nomatch z.2⟩
 |c::cs,H,hc=>by
  have h0:=hc c Z8g
  rw[Zjo,Zqh (cs:=cs) λx hx=>by show x∈(QC ..).map (·.1);rw[Jf];exact hc x (Z8h _ hx)]
  by_cases e:d=c
  ·rw[e,show Zr (Zc7 H n c) c=Zr H c++[n]from Z81 (λo:Option (List Nat)=>o.getD []) (Q5 _ h0),Ql]
   exact⟨λz=>z.elim (Or.imp_right λz=>⟨z,Z8g⟩) λz=>.inr ⟨z.1,Z8h _ z.2⟩,λz=>z.elim (λz=>.inl (.inl z)) λz=>.inl (.inr z.1)⟩
  ·rw[show Zr (Zc7 H n c) d=Zr H d from Z81 (λo:Option (List Nat)=>o.getD []) (Ys e _)]
   exact or_congr Iff.rfl ⟨λz=>⟨z.1,Z8h _ z.2⟩,λz=>⟨z.1,(Z8k.mp z.2).resolve_left e⟩⟩
structure Wh(H:HC)(nd:Nd):Prop where
 hi:HI (Y5 H nd) (·=H.nodes.length)
 fd:∀x,find (Y5 H nd).par x=find H.par x
 at':(Y5 H nd).nodes[H.nodes.length]? = some nd
 uses:Z28 (Zaz H nd) (Y5 H nd)
theorem HI.new(h:HI H λZ=>False)(O:Core H)(hn:nd∉H.nodes)(hk:nd.2.length≤2)(hkl:∀k∈nd.2,k<H.nodes.length):Wh H nd:=by
 have U:=O.UC hn hk hkl
 have O0:=O.GY hn hk hkl
 have fd0:find (Zaz H nd).par=find H.par:=funext λx=>Zvs O.down x
 have fd:find (Y5 H nd).par=find H.par:=by rw[U.par];exact fd0
 have top:(H.nodes++[nd])[H.nodes.length]? = some nd:=by rw[List.getElem?_append_right (Z70 _),Nat.sub_self];rfl
 have up:∀{m:Nat}{md:Nd},H.nodes[m]? = some md→(H.nodes++[nd])[m]? = some md:=λq=>by rw[List.getElem?_append_left (Zaw q)];exact q
 have en:(Y5 H nd).nodes=H.nodes++[nd]:=U.nodes
 have ek:(Y5 H nd).known=H.known:=U.known
 have ew:(Y5 H nd).waiting=H.waiting:=U.waiting
 refine⟨⟨λkey m q=>?_,λm d=>?_,λm md q=>?_⟩,λx=>by rw[fd],by rw[en];exact top,U⟩
 ·rw[ek]at q
  obtain⟨ks,h1,h2⟩:=h.known key m q
  exact⟨ks,by rw[en];exact up h1,by rw[fd];exact h2⟩
 ·rw[en,fd]
  show m∈Zr (Zpa H.nodes.length (Zgr H nd) (Zaz H nd)) d↔_
  rw[Zqh (Zgq O0 hkl),Zrk,h.use,show d∈Zgr H nd↔d∈nd.2.map (find H.par)from by rw[Zgr,Zkr,fd0]]
  constructor
  ·rintro(⟨md,h1,h2⟩ | ⟨h1,h2⟩)
   ·exact⟨md,up h1,h2⟩
   ·exact⟨nd,h1▸top,h2⟩
  ·rintro⟨md,h1,h2⟩
   exact(Zdr h1).imp (λz=>⟨md,z,h2⟩) λz:m=H.nodes.length∧md=nd=>⟨z.1,z.2▸h2⟩
 ·rw[en]at q
  rcases Zdr q with q | q
  ·rw[ew,ek,fd,ZV,fd];exact(h.comp m md q).imp_left False.elim
  ·exact .inl q.1
structure Wm(H H':HC)(nd:Nd):Prop where
 hi:HI H' λZ=>False
 wait:H'.waiting=[]
 up:Up H H'
 sub:∀c,Cg (H.nodes++[nd]) c→Sub (find H.par) c (H.nodes.length+1)→Sub (find H'.par) c (H.nodes.length+1)
theorem HI.added(h:HI H λZ=>False)(O:Core H)(hw:H.waiting=[])(hn:nd∉H.nodes)(hk:nd.2.length≤2)(hkl:∀k∈nd.2,k<H.nodes.length):Wm H (Jn H nd) nd:=by
 obtain⟨hi,fd,at',U⟩:=h.new O hn hk hkl
 have L:=hi.look U.core at'
 have en:(Y5 H nd).nodes=H.nodes++[nd]:=U.nodes
 have el:(Y5 H nd).nodes.length=H.nodes.length+1:=by rw[en,Zd]
 refine⟨L.hi,?_,Up.trans ⟨id,fd⟩ L.up,λc hc hs=>?_⟩
 ·show(Zd6 (Y5 H nd) H.nodes.length nd).waiting=[]
  have hnl:=Zaw at'
  have A:=U.core.known (key:=ZV (Y5 H nd) nd) hnl
  have hol:=U.core.XS (key:=ZV (Y5 H nd) nd) hnl
  have ew:(Y5 H nd).waiting=[]:=(show(Y5 H nd).waiting=H.waiting from U.waiting).trans hw
  unfold Zd6
  generalize ZV (Y5 H nd) nd=key at*
  by_cases q:find (Y5 H nd).par (Zy (Y5 H nd) key H.nodes.length)=find (Y5 H nd).par H.nodes.length
  ·rw[if_pos q];exact A.waiting.trans ew
  ·rw[if_neg q]
   show(Z4 (Y5 H nd) key H.nodes.length).waiting++Zr (Z4 (Y5 H nd) key H.nodes.length) (max (find (Y5 H nd).par (Zy (Y5 H nd) key H.nodes.length)) (find (Y5 H nd).par H.nodes.length))=[]
   rw[A.waiting,ew,List.nil_append]
   have f1:find (Y5 H nd).par H.nodes.length=H.nodes.length:=by
    rw[fd,Zam O.down,if_pos (by rw[List.getElem?_eq_none (Z8c O.lp)];rfl)]
   have hlt:Zy (Y5 H nd) key H.nodes.length<H.nodes.length:=Nat.lt_of_le_of_ne (Z8f (Nat.lt_of_lt_of_eq hol el)) λe=>q (by rw[e])
   have hm:max (find (Y5 H nd).par (Zy (Y5 H nd) key H.nodes.length)) (find (Y5 H nd).par H.nodes.length)=H.nodes.length:=by
    rw[f1];exact Nat.max_eq_right (Z8e (Z74 (Zlj U.core.down _) hlt))
   rw[hm,Zr,A.abv]
   show Zr (Y5 H nd) H.nodes.length=[]
   refine List.eq_nil_iff_forall_not_mem.mpr λm UM=>?_
   obtain⟨md,h1,h2⟩:=(hi.use m H.nodes.length).mp UM
   obtain⟨x,hx,e⟩:=Z8l.mp h2
   have xl:x<H.nodes.length:=by
    have hk1:=(U.core.kids m md h1).1 x hx
    exact Z73 hk1 (Z8f (Nat.lt_of_lt_of_eq (Zaw h1) el))
   exact absurd e (Nat.ne_of_lt (Z74 (Zlj U.core.down x) xl))
 ·have:=L.sub c (by rw[en];exact hc) (by rw[el];exact λi j hi hj e=>hs i j hi hj (by rw[←fd,←fd];exact e))
  rw[el]at this;exact this
structure Z6l(H H':HC)(a b:Nat):Prop where
 hi:HI H' λZ=>False
 up:Up H H'
 one:find H'.par a=find H'.par b
 sub:∀c,Sub (find H.par) c H.nodes.length→c a=c b→Sub (find H'.par) c H.nodes.length
 wait:H'.waiting≠[]↔find H.par a≠find H.par b∧∃kd∈H.nodes,max (find H.par a) (find H.par b)∈kd.2.map (find H.par)
theorem HI.merge(h:HI H λZ=>False)(O:Core H)(hw:H.waiting=[])(ha:a<H.nodes.length)(hb:b<H.nodes.length):Z6l H (Q7 H a b r) a b:=by
 unfold Q7
 by_cases q:find H.par a=find H.par b
 ·rw[if_pos q]
  exact⟨⟨h.known,h.use,h.comp⟩,.par rfl,q,λc hs Z=>hs,λz=>absurd hw z,λz=>absurd q z.1⟩
 ·rw[if_neg q]
  have O1:Core (JY H (.same a b r)):=⟨O.lw,O.ld,O.lp,O.ll,O.down,O.kids,O.nodup,O.roots,O.QG,O.Xp,O.QB,O.YU,O.count,O.sum,O.XF,O.QZ⟩
  have h1:HI (JY H (.same a b r)) λZ=>False:=⟨h.known,h.use,h.comp⟩
  obtain⟨hk,hg,hlt⟩:=O.Xv ha hb rfl rfl q
  refine⟨h1.join O1 hg hk hlt,⟨(Zte (r:=Z7 r) (a:=a) (b:=b) O1 hg hk hlt).ex⟩,Zqo O1 ha hb q,λc hs hab=>Sub.join O1 hs ha hb q hab,?_⟩
  show H.waiting++Zr H (max (find H.par a) (find H.par b))≠[]↔_
  rw[hw,List.nil_append]
  constructor
  ·intro z
   obtain⟨m,hm⟩:=List.exists_mem_of_ne_nil _ z
   obtain⟨kd,h1,h2⟩:=(h.use m _).mp hm
   exact⟨q,kd,Z89 h1,h2⟩
  ·rintro⟨Z,kd,h1,h2⟩ z
   obtain⟨m,hm,e⟩:=List.getElem_of_mem h1
   have:=(h.use m (max (find H.par a) (find H.par b))).mpr ⟨kd,by rw[Z8v hm,e],h2⟩
   rw[z]at this;exact nomatch this
end
end
section
structure HOk(n:Nat)(f:Nat→Nat):Prop where
 le:∀i,i<n→f i≤i
 idem:∀i,i<n→f (f i)=f i
theorem canon{n:Nat}{f h:Nat→Nat}(F:HOk n f)(G:HOk n h)(h1:Sub f h n)(h2:Sub h f n):∀i,i<n→h i=f i:=by
 have half:∀{f h:Nat→Nat},HOk n f→HOk n h→Sub f h n→∀i,i<n→h i≤f i:=λ{f h} F G s i hi=>by
  have q:f i<n:=Z74 (F.le i hi) hi
  have:=s (f i) i q hi (F.idem i hi)
  rw[←this];exact G.le _ q
 exact λi hi=>Nat.le_antisymm (half F G h1 i hi) (half G F h2 i hi)
section
variable{nodes:List Nd}{hs hs':List Nat}{a b:Nat}{c:Nat→Nat}{ks:List Nd}
theorem Z2f{f:Nat→Nat}{i:Nat}(h:i<hs.length):hAt (hs.map f) i=f (hAt hs i):=by
 obtain⟨v,hv⟩:=Zbt h
 rw[hAt,hAt,List.getElem?_map,hv];rfl
theorem Js{i:Nat}(h:i<hs.length):hAt (Zfb hs a b) i=mt (hAt hs a) (hAt hs b) (hAt hs i):=Z2f h
theorem Zk4(x y:Nat):(max x y=x∧min x y=y)∨(max x y=y∧min x y=x):=by
 rcases Nat.le_total x y with q | q
 ·exact .inr ⟨Nat.max_eq_right q,Nat.min_eq_left q⟩
 ·exact .inl ⟨Nat.max_eq_left q,Nat.min_eq_right q⟩
theorem HOk.meet(F:HOk hs.length (hAt hs))(ha:a<hs.length)(hb:b<hs.length):HOk hs.length (hAt (Zfb hs a b)):=by
 refine⟨λi hi=>by rw[Js hi];exact Z7z (Z44 _ _ _) (F.le i hi),λi hi=>?_⟩
 have il:hAt hs i<hs.length:=Z74 (F.le i hi) hi
 rw[Js hi,mt]
 by_cases q:hAt hs i=max (hAt hs a) (hAt hs b)
 ·rw[if_pos q]
  have ml:min (hAt hs a) (hAt hs b)<hs.length:=Z74 (Nat.min_le_left ..) (Z74 (F.le a ha) ha)
  have mm:hAt hs (min (hAt hs a) (hAt hs b))=min (hAt hs a) (hAt hs b):=by
   rcases Zk4 (hAt hs a) (hAt hs b)with z | z
   ·rw[z.2];exact F.idem b hb
   ·rw[z.2];exact F.idem a ha
  rw[Js ml,mm,mt]
  by_cases q2:min (hAt hs a) (hAt hs b)=max (hAt hs a) (hAt hs b)
  ·rw[if_pos q2]
  ·rw[if_neg q2]
 ·rw[if_neg q,Js il,F.idem i hi,mt,if_neg q]
theorem Sub.Vw:Sub (hAt hs) (hAt (Zfb hs a b)) hs.length:=λi j hi hj e=>by rw[Js hi,Js hj,e]
theorem Zyd(ha:a<hs.length)(hb:b<hs.length):hAt (Zfb hs a b) a=hAt (Zfb hs a b) b:=by
 rw[Js ha,Js hb,mt,mt]
 rcases Zk4 (hAt hs a) (hAt hs b)with z | z
 ·rw[z.1,z.2,if_pos rfl]
  by_cases q:hAt hs b=hAt hs a
  ·rw[if_pos q]
  ·rw[if_neg q]
 ·rw[z.1,z.2,if_pos rfl]
  by_cases q:hAt hs a=hAt hs b
  ·rw[if_pos q]
  ·rw[if_neg q]
theorem Sub.meet(F:HOk hs.length (hAt hs))(s:Sub (hAt hs) c hs.length)(ha:a<hs.length)(hb:b<hs.length)(hab:c a=c b):Sub (hAt (Zfb hs a b)) c hs.length:=by
 have ch:∀i,i<hs.length→c (hAt hs i)=c i:=λi hi=>s _ _ (Z74 (F.le i hi) hi) hi (F.idem i hi)
 have e:c (max (hAt hs a) (hAt hs b))=c (min (hAt hs a) (hAt hs b)):=by
  rcases Zk4 (hAt hs a) (hAt hs b)with z | z
  ·rw[z.1,z.2,ch a ha,ch b hb,hab]
  ·rw[z.1,z.2,ch a ha,ch b hb,hab]
 have cf:∀i,i<hs.length→c (hAt (Zfb hs a b) i)=c i:=λi hi=>by
  rw[Js hi,mt]
  by_cases q:hAt hs i=max (hAt hs a) (hAt hs b)
  ·rw[if_pos q,←e,←q,ch i hi]
  ·rw[if_neg q,ch i hi]
 exact λi j hi hj q=>by rw[←cf i hi,←cf j hj,q]
structure LapR(nodes:List Nd)(hs hs':List Nat):Prop where
 len:hs'.length=hs.length
 ok:HOk hs.length (hAt hs')
 up:Sub (hAt hs) (hAt hs') hs.length
 least:∀c,Cg nodes c→Sub (hAt hs) c hs.length→Sub (hAt hs') c hs.length
theorem LapR.refl(F:HOk hs.length (hAt hs)):LapR nodes hs hs:=⟨rfl,F,λi j Z Z e=>e,λc Z s=>s⟩
theorem LapR.trans{hs2:List Nat}(h:LapR nodes hs hs')(h2:LapR nodes hs' hs2):LapR nodes hs hs2:=
 ⟨h2.len.trans h.len,h.len▸h2.ok,λi j hi hj e=>h2.up i j (h.len.symm▸hi) (h.len.symm▸hj) (h.up i j hi hj e),λc hc s=>h.len▸h2.least c hc (h.len.symm▸h.least c hc s)⟩
theorem Z5e(N:YS nodes)(hl:hs.length=nodes.length)(F:HOk hs.length (hAt hs)):LapR nodes hs (Zak nodes hs).1:=by
 refine Zk7 (P:=λr=>LapR nodes hs r.1) (λa b r ha hb h=>?_) (.refl F)
 unfold Zgv
 by_cases q:(Zhe nodes hs)[a]? = (Zhe nodes hs)[b]?∧hAt r.1 a≠hAt r.1 b
 ·rw[if_pos q]
  have hbn:=Nat.lt_trans hb ha
  have la:a<r.1.length:=by rw[h.len,hl];exact ha
  have lb:b<r.1.length:=by rw[h.len,hl];exact hbn
  obtain⟨⟨op,ks⟩,hka⟩:=Zbt ha
  obtain⟨⟨op2,ls⟩,hkb⟩:=Zbt hbn
  have q1:=q.1
  rw[Zhe,List.getElem?_map,List.getElem?_map,hka,hkb]at q1
  have q2:=Z8q q1
  have e1:op=op2:=Z81 Prod.fst q2
  have e2:ks.map (hAt hs)=ls.map (hAt hs):=Z81 Prod.snd q2
  rw[←e1]at hkb
  have lt:∀{i:Nat}{nd:Nd},nodes[i]? = some nd→∀k∈nd.2,k<hs.length:=λz k hk=>hl.symm▸N.kids _ (Z89 z) k hk
  refine⟨Zb3.trans h.len,?_,λi j hi hj e=>?_,λc hc s=>?_⟩
  ·rw[←h.len];exact HOk.meet (h.len.symm▸h.ok) la lb
  ·exact Sub.Vw i j (h.len.symm▸hi) (h.len.symm▸hj) (h.up i j hi hj e)
  ·rw[←h.len]
   exact Sub.meet (h.len.symm▸h.ok) (h.len.symm▸h.least c hc s) la lb (hc a b op ks ls hka hkb (s.map (lt hka) (lt hkb) e2))
 ·rw[if_neg q];exact h
theorem Zml{r:List Nat×Bool}:∀{n:Nat},(JO ks a r n).2=false→JO ks a r n=r∧∀b,b<n→ks[a]? = ks[b]?→hAt r.1 a=hAt r.1 b
 |0,_=>⟨rfl,λb h=>absurd h (Nat.not_lt_zero b)⟩
 |n+1,h=>by
  rw[show JO ks a r (n+1)=Zgv ks a n (JO ks a r n)from rfl]at h ⊢
  unfold Zgv at h ⊢
  by_cases q:ks[a]? = ks[n]?∧hAt (JO ks a r n).1 a≠hAt (JO ks a r n).1 n
  ·rw[if_pos q]at h;exact nomatch h
  ·rw[if_neg q]at h ⊢
   obtain⟨h1,h2⟩:=Zml h
   rw[h1]at q
   refine⟨h1,λb hb e=>?_⟩
   rcases Nat.lt_or_eq_of_le (Z8f hb)with z | z
   ·exact h2 b z e
   ·rw[z]at e ⊢;exact Classical.not_not.mp λz=>q ⟨e,z⟩
theorem Zm8{r:List Nat×Bool}:∀{n:Nat},(Xw ks r n).2=false→Xw ks r n=r∧∀a b,a<n→b<a→ks[a]? = ks[b]?→hAt r.1 a=hAt r.1 b
 |0,_=>⟨rfl,λa b h=>absurd h (Nat.not_lt_zero a)⟩
 |n+1,h=>by
  rw[show Xw ks r (n+1)=JO ks n (Xw ks r n) n from rfl]at h ⊢
  obtain⟨h1,h2⟩:=Zml h
  rw[h1]at h ⊢
  obtain⟨h3,h4⟩:=Zm8 h
  rw[h3]at h2
  refine⟨h3,λa b ha hb e=>?_⟩
  rcases Nat.lt_or_eq_of_le (Z8f ha)with z | z
  ·exact h4 a b z hb e
  ·rw[z]at e hb ⊢;exact h2 b hb e
theorem Zsj(hl:hs.length=nodes.length)(h:(Zak nodes hs).2=false):(Zak nodes hs).1=hs∧Cg nodes (hAt hs):=by
 obtain⟨h1,h2⟩:=Zm8 h
 refine⟨by rw[show Zak nodes hs=(hs,false)from h1],?_⟩
 have main:∀n m op ks ls,m<n→nodes[n]? = some (op,ks)→nodes[m]? = some (op,ls)→ks.map (hAt hs)=ls.map (hAt hs)→hAt hs n=hAt hs m:=λn m op ks ls hlt hn hm e=>
  h2 n m (Zaw hn) hlt (by rw[Zhe,List.getElem?_map,List.getElem?_map,hn,hm];exact Z81 some (Z81 (Prod.mk op) e))
 intro n m op ks ls hn hm e
 rcases Nat.lt_trichotomy n m with z | z | z
 ·exact(main m n op ls ks z hm hn e.symm).symm
 ·rw[z]
 ·exact main n m op ks ls z hn hm e
structure Z3e(nodes:List Nd)(hs hs':List Nat):Prop extends LapR nodes hs hs' where
 cg:Cg nodes (hAt hs')
theorem QS.closed(h:QS nodes hs hs')(N:YS nodes):hs.length=nodes.length→HOk hs.length (hAt hs)→Z3e nodes hs hs':=by
 induction h with
 |done h=>
  intro hl F
  obtain⟨e,hc⟩:=Zsj hl h
  rw[e]
  exact⟨.refl F,hc⟩
 |turn h _ ih=>
  intro hl F
  have L:=Z5e N hl F
  have I:=ih (L.len.trans hl) (L.len.symm▸L.ok)
  exact⟨L.trans I.toLapR,I.cg⟩
end
end
section
inductive Hs:HC→Prop
 |nil:Hs Qm
 |add {H:HC} {r:Row} (h:Hs H) (hr:Zio H r) (hw:Jq r) (hs:H.waiting=[]∨r=.settle):Hs (doH H r)
structure LI(H:HC)(nodes:List Nd)(hs:List Nat):Prop where
 JC:Hs H
 hi:HI H λZ=>False
 wait:H.waiting=[]
 nds:H.nodes=nodes
 len:hs.length=nodes.length
 eq:∀i,i<nodes.length→hAt hs i=find H.par i
section
variable{H:HC}{nodes:List Nd}{hs hs':List Nat}{a b:Nat}{r:Reason}{op:CS}{ks:List Nat}
theorem Hs.h(h:Hs H):JU H:=by
 induction h with
 |nil=>exact .nil
 |add _ hr hw _ ih=>exact .add ih hr hw
theorem Zvt{par:List Nat}(hd:Down par)(a:Nat):find par (find par a)=find par a:=by
 rw[Zam hd (find par a),if_pos (JK hd a)]
theorem Zgh{par:List Nat}(hd:Down par)(n:Nat):HOk n (find par):=⟨λi Z=>Zlj hd i,λi Z=>Zvt hd i⟩
theorem HOk.of{n:Nat}{f g:Nat→Nat}(F:HOk n f)(e:∀i,i<n→g i=f i):HOk n g:=⟨λi hi=>by rw[e i hi];exact F.le i hi,λi hi=>by rw[e i hi,e _ (Z74 (F.le i hi) hi)];exact F.idem i hi⟩
theorem Core.X1(O:Core H)(hl:H.nodes.length≤63):YS H.nodes:=
 ⟨hl,λnd h=>(List.getElem_of_mem h).elim λi q=>q.elim λhi e=>(O.kids i nd (by rw[Z8v hi,e])).2,
  λnd h k hk=>(List.getElem_of_mem h).elim λi q=>q.elim λhi e=>Nat.lt_trans ((O.kids i nd (by rw[Z8v hi,e])).1 k hk) hi⟩
theorem Zg7{nd:Nd}(h:nd∉H.nodes):Ye H nd=none:=by
 cases e:Ye H nd with
 |none=>rfl
 |some i=>exact absurd (Z89 (Zav e)) h
theorem Zr9{nd:Nd}(h:nd∈H.nodes):∃i,Ye H nd=some i:=by
 cases e:Ye H nd with
 |none=>exact absurd h (Yy e)
 |some i=>exact⟨i,rfl⟩
theorem Z5i(L:LI H nodes hs):∀i,i<nodes.length+1→hAt (hs++[hs.length]) i=find H.par i:=λi hi=>by
 have O:=L.JC.h.QO.toCore
 rcases Nat.lt_or_eq_of_le (Z8f hi)with q | q
 ·rw[hAt,List.getElem?_append_left (L.len.symm▸q)];exact L.eq i q
 ·rw[q,←L.len,hAt,List.getElem?_append_right (Z70 _),Nat.sub_self,Zam O.down,if_pos]
  ·rfl
  ·rw[List.getElem?_eq_none (by rw[O.lp,L.nds,L.len];exact Z70 _)];rfl
theorem LI.added(L:LI H nodes hs)(hb:nodes.length≤62)(h1:okW op)(h2:op.head?≠some 63)(h3:ks.length≤2)(h4:∀k∈ks,k<nodes.length)(hn:(op,ks)∉nodes)(hc:QS (nodes++[(op,ks)]) (hs++[hs.length]) hs'):LI (doH H (.add op ks)) (nodes++[(op,ks)]) hs':=by
 obtain⟨JC,hi,wait,rfl,len,eq⟩:=L
 have L:LI H H.nodes hs:=⟨JC,hi,wait,rfl,len,eq⟩
 have OK:=JC.h.QO
 have O:=OK.toCore
 have hni:=Zg7 (H:=H) hn
 have e:doH H (.add op ks)=JY (Jn H (op,ks)) (.add op ks):=by show Xn H (op,ks)=_;rw[Xn,hni]
 have A:=OK.added hn h3 h4
 have I:=hi.added O wait hn h3 h4
 have okr:Zio H (.add op ks):=.add ⟨h1.op,h2,h3,h4⟩ hni
 have N:=(O.X1 (Nat.le_succ_of_le hb)).push (x:=(op,ks)) hb h3 h4
 have Ux:=Z5i L
 have l1:(hs++[hs.length]).length=H.nodes.length+1:=by rw[Zd,len]
 have F1:HOk (hs++[hs.length]).length (hAt (hs++[hs.length])):=by rw[l1];exact(Zgh O.down _).of Ux
 have C:=hc.closed N (by rw[l1,Zd]) F1
 have cl:=C.len
 have cok:=C.ok
 have cup:=C.up
 have Kb:=C.least
 rw[l1]at cl cok cup Kb
 have hiA:HI (JY (Jn H (op,ks)) (.add op ks)) λZ=>False:=⟨I.hi.known,I.hi.use,I.hi.comp⟩
 have en:(Jn H (op,ks)).nodes=H.nodes++[(op,ks)]:=A.nodes
 refine⟨.add JC okr (.add h1 h3 λk hk=>Z73 (h4 k hk) (Z7z hb ble)) (.inl wait),by rw[e];exact hiA,by rw[e];exact I.wait,by rw[e];exact en,by rw[cl,Zd],?_⟩
 rw[e,Zd]
 show ∀i,i<H.nodes.length+1→hAt hs' i=find (Jn H (op,ks)).par i
 refine canon (Zgh A.ok.down _) cok (I.sub _ C.cg λi j hi hj q=>cup i j hi hj (by rw[Ux i hi,Ux j hj,q])) (Kb _ ?_ λi j hi hj q=>I.up.one (by rw[←Ux i hi,←Ux j hj,q]))
 have:=I.hi.closed I.wait
 rw[en]at this;exact this
theorem Xg.ok{n:Nat}(h:Xg n r):Zey n r:=by
 cases h with
 |told=>exact⟨okS.op,Z8d _,λp q=>nomatch q⟩
 |rule h=>exact⟨okR.op,ble,λp q=>by rw[Z8m.mp q];exact⟨okX,rfl,h⟩⟩
structure Z3c(H H':HC)(nodes:List Nd)(hs hs':List Nat)(a b:Nat)(r:Reason):Prop where
 li:LI H' nodes hs'
 rows:∃rs:List Row,H'.rows=H.rows++rs∧rs.map Ze=Zjl nodes hs a b r∧rs.length≤2
theorem LI.merged(L:LI H nodes hs)(hb:nodes.length≤62)(M:Z0k nodes hs a b r hs'):∃H',Z3c H H' nodes hs hs' a b r:=by
 obtain⟨JC,hi,wait,rfl,len,eq⟩:=L
 obtain⟨ha,hb',hr,hc⟩:=M
 have OK:=JC.h.QO
 have O:=OK.toCore
 have m:=hi.merge (r:=r) O wait ha hb'
 have KM:=OK.merge ha hb' r
 have XI:H.nodes.length≤100:=Z7z hb ble
 have H1:Hs (doH H (.same a b r)):=.add JC (.same ha hb' hr.ok) (.same (Z73 ha XI) (Z73 hb' XI) (hr.wf XI)) (.inl wait)
 have e1:doH H (.same a b r)=Q7 H a b r:=rfl
 have N:=O.X1 (Nat.le_succ_of_le hb)
 have F:HOk hs.length (hAt hs):=by rw[len];exact(Zgh O.down _).of eq
 have ha':a<hs.length:=len.symm▸ha
 have hb2:b<hs.length:=len.symm▸hb'
 have ml:(Zfb hs a b).length=hs.length:=Zb3
 have C:=hc.closed N (ml.trans len) (ml.symm▸F.meet ha' hb2)
 have cl:=C.len
 have cok:=C.ok
 have cup:=C.up
 have Kb:=C.least
 rw[ml,len]at cl cok cup Kb
 have wu:(Q7 H a b r).waiting≠[]↔Used H.nodes hs a b:=by
  rw[m.wait]
  constructor
  ·rintro⟨q,kd,h1,h2⟩
   refine⟨by rw[eq a ha,eq b hb'];exact q,kd,h1,?_⟩
   rw[eq a ha,eq b hb',List.map_congr_left λk hk=>eq k (N.kids kd h1 k hk)];exact h2
  ·rintro⟨q,kd,h1,h2⟩
   rw[eq a ha,eq b hb']at q h2
   rw[List.map_congr_left λk hk=>eq k (N.kids kd h1 k hk)]at h2
   exact⟨q,kd,h1,h2⟩
 have fin:∀{H2:HC},Hs H2→HI H2 (λZ=>False)→H2.waiting=[]→H2.nodes=H.nodes→Up (Q7 H a b r) H2→(∀c,Cg H.nodes c→Sub (find (Q7 H a b r).par) c H.nodes.length→Sub (find H2.par) c H.nodes.length)→LI H2 H.nodes hs':=λ{H2} q1 q2 q3 q4 q5 q6=>by
  refine⟨q1,q2,q3,q4,cl,?_⟩
  have U:=m.up.trans q5
  refine canon (Zgh q1.h.QO.down _) cok (q6 _ C.cg (m.sub _ (λi j hi hj z=>cup i j hi hj (Sub.Vw i j (len.symm▸hi) (len.symm▸hj) (by rw[eq i hi,eq j hj,z]))) ?_)) (Kb _ ?_ ?_)
  ·exact cup a b ha hb' (Zyd ha' hb2)
  ·have:=q2.closed q3
   rw[q4]at this;exact this
  ·have:=Sub.meet F (c:=find H2.par) (λi j hi hj z=>U.one (by rw[←eq i (len▸hi),←eq j (len▸hj),z])) ha' hb2 (q5.one m.one)
   rw[len]at this;exact this
 by_cases hu:Used H.nodes hs a b
 ·have hw:(doH H (.same a b r)).waiting≠[]:=wu.mpr hu
  have O1:=H1.h.QO
  have okr:Zio (doH H (.same a b r)) .settle:=.settle hw
  have D:=Zf2 O1 okr
  have K:=O1.X0
  have e2:Jr (doH H (.same a b r))=Zhh (JY (doH H (.same a b r)) .settle):=by rw[Jr,if_neg hw]
  rw[if_neg hw]at K
  have hiR:HI (JY (doH H (.same a b r)) .settle) λZ=>False:=⟨m.hi.known,m.hi.use,m.hi.comp⟩
  have I:=K.go.hi (O1.row .settle) hiR
  have en:(Jr (doH H (.same a b r))).nodes=H.nodes:=K.nodes.trans KM.nodes
  refine⟨doH (doH H (.same a b r)) .settle,fin (.add H1 okr .settle (.inr rfl)) I.hi K.none en ⟨I.up.ex⟩ λc hc hs=>?_,[.same a b r,.settle],?_,?_,Z70 _⟩
  ·have e3:(JY (doH H (.same a b r)) .settle).nodes=H.nodes:=KM.nodes
   have:=I.sub c (by rw[e3];exact hc) (by rw[e3];exact hs)
   rw[e3]at this;exact this
  ·rw[D.rows,show(doH H (.same a b r)).rows=H.rows++[.same a b r]from KM.rows,Z8n];rfl
  ·rw[Zjl,if_pos hu];rfl
 ·have hw:(Q7 H a b r).waiting=[]:=Classical.not_not.mp λz=>hu (wu.mp z)
  exact⟨doH H (.same a b r),fin H1 m.hi hw KM.nodes .refl λc Z hs=>hs,[.same a b r],KM.rows,by rw[Zjl,if_neg hu];rfl,ble⟩
end
end
section
inductive Z3a(H Hp:HC)(p:Nat):Prop
 |whole (hp:p=H.rows.length) (e:Hp=H):Z3a H Hp p
 |row {r:Row} (hr:H.rows[p]? = some r) (ok:Zio Hp r) (hs:Hp.waiting=[]∨r=.settle):Z3a H Hp p
structure IM(H Hp:HC)(p:Nat):Prop where
 JC:Hs Hp
 rows:Hp.rows=H.rows.take p
 next:Z3a H Hp p
 le:Hp.nodes.length≤H.nodes.length
noncomputable def Row.Vi(r:Row):Bool:=@Row.casesOn (λZ=>Bool) r (λZ Z=>true) (λZ Z Z=>false) false
section
variable{H Hp:HC}{p:Nat}
theorem Hs.prefix(h:Hs H):∀p,p≤H.rows.length→∃Hp,IM H Hp p:=by
 induction h with
 |nil=>exact λp hp=>⟨Qm,.nil,by rw[Nat.le_zero.mp hp];rfl,.whole (Nat.le_zero.mp hp) rfl,Z70 _⟩
 |@add H r h hr hw hs ih=>
  intro p hp
  have D:=Zf2 h.h.QO hr
  rw[D.rows,Zd]at hp
  rcases Nat.lt_or_eq_of_le hp with q | q
  ·have hp':=Z8f q
   obtain⟨Hp,P⟩:=ih p hp'
   refine⟨Hp,P.JC,by rw[P.rows,D.rows,List.take_append_of_le_length hp'],?_,Z7z P.le D.le⟩
   cases P.next with
   |whole e1 e2=>exact .row (r:=r) (by rw[D.rows,e1,List.getElem?_append_right (Z70 _),Nat.sub_self];rfl) (e2▸hr) (e2▸hs)
   |row h1 h2 h3=>exact .row (by rw[D.rows,List.getElem?_append_left (Zaw h1)];exact h1) h2 h3
  ·exact⟨_,.add h hr hw hs,by rw[List.take_of_length_le (by rw[D.rows,Zd,q];exact Z70 _)],.whole (by rw[D.rows,Zd,q]) rfl,Z70 _⟩
theorem Znc(r:Row):Zf7 (Ze r)=r.Vi:=by
 cases r with
 |add op ks=>
  refine Z82 ?_
  show(Yg [32] (YJ::op::_)).take 4=_
  rw[Zl];rfl
 |same a b r=>
  refine Z83 ?_
  show(Yg [32] (Y0::ZQ a::_)).take 4≠_
  rw[Zl];exact λq=>absurd (List.cons.inj q).1 (by decide)
 |settle=>rfl
theorem Zr8{r:Row}(h:r≠.settle):Ze r≠Zx:=by
 cases r with
 |add op ks=>
  show Yg [32] (YJ::op::_)≠_
  rw[Zl];exact λq=>absurd (List.cons.inj q).1 (by decide)
 |same a b r=>
  show Yg [32] (Y0::ZQ a::_)≠_
  rw[Zl];exact λq=>absurd (List.cons.inj (List.cons.inj q).2).1 (by decide)
 |settle=>exact absurd rfl h
structure Z7s(H:HC):Prop where
 count:(H.rows.filter Row.Vi).length=H.nodes.length
 mem:∀op ks,Row.add op ks∈H.rows→(op,ks)∈H.nodes
theorem Hs.VW(h:Hs H):Z7s H:=by
 induction h with
 |nil=>exact⟨rfl,λop ks h=>nomatch h⟩
 |@add H r h hr hw hs ih=>
  have D:=Zf2 h.h.QO hr
  cases hr with
  |@add op ks h1 hn=>
   have e:(doH H (.add op ks)).nodes=H.nodes++[(op,ks)]:=by
    show(Xn H (op,ks)).nodes=_
    rw[Xn,hn]
    exact(h.h.QO.added (Yy hn) h1.two h1.lt).nodes
   refine⟨?_,λop' ks' hm=>?_⟩
   ·rw[D.rows,e,List.filter_append,Z8j,Zd,ih.count];rfl
   ·rw[D.rows]at hm
    rw[e]
    exact(Ql.mp hm).elim (λz=>List.mem_append_left _ (ih.mem op' ks' z)) λz=>by injection z with z1 z2;rw[z1,z2];exact List.mem_append_right _ Z8g
  |@same a b r ha hb hr=>
   have e:(doH H (.same a b r)).nodes=H.nodes:=(h.h.QO.merge ha hb r).nodes
   refine⟨?_,λop' ks' hm=>?_⟩
   ·rw[D.rows,e,List.filter_append,Z8j,ih.count];rfl
   ·rw[D.rows]at hm
    rw[e];exact(Ql.mp hm).elim (ih.mem op' ks') λz=>nomatch z
  |settle R5=>
   have K:=h.h.QO.X0
   rw[if_neg R5]at K
   have e:(doH H .settle).nodes=H.nodes:=K.nodes
   refine⟨?_,λop' ks' hm=>?_⟩
   ·rw[D.rows,e,List.filter_append,Z8j,ih.count];rfl
   ·rw[D.rows]at hm
    rw[e];exact(Ql.mp hm).elim (ih.mem op' ks') λz=>nomatch z
theorem Hs.V6(h:Hs H){r:Row}(hr:r∈H.rows)(ha:r.Vi=true):VO H r:=by
 cases r with
 |same a b r=>exact nomatch ha
 |settle=>exact nomatch ha
 |add op ks=>
  have hm:=h.VW.mem op ks hr
  obtain⟨i,hi⟩:=Zr9 hm
  have o:=h.h.ops _ hm
  have at':=Zav hi
  have K:=h.h.QO.toCore.kids i _ at'
  exact .add ⟨o.1,o.2,K.2,λk hk=>Nat.lt_trans (K.1 k hk) (Zaw at')⟩ hi
structure Zw7(H:HC)(p:Nat)(t:CS)(XZ:Nat):Prop where
 ex:∃H' t' rest,Hs H'∧H'.nodes.length≤H.nodes.length∧H'.rows.length=XZ∧Zi0 H' t'∧(∀w∈rest,w∈H.rows.map Ze)∧
  (H.rows.map Ze).take p++([t]++(H.rows.map Ze).drop p)=H'.rows.map Ze++(t'::rest)∧rest.length≤H.rows.length
 le:XZ≤H.rows.length+1
theorem Zbu{α:Type}{l:List α}{p:Nat}{x:α}(h:l[p]? = some x):l.drop p=x::l.drop (p+1):=by
 obtain⟨hp,e⟩:=Z8w.mp h
 rw[←e];exact List.drop_eq_getElem_cons hp
theorem Z2u(h:Hs H)(hw:H.waiting=[])(hn:H.nodes.length≤62)(hp:p≤H.rows.length)(P:IM H Hp p){t:CS}(hb:Zoc Hp.nodes.length ((H.rows.map Ze).take p) t):
  Zw7 H p t (if t=Zx∧((H.rows.map Ze).drop p).take 1=[Zx]then p+1 else p):=by
 have eT:(H.rows.map Ze).take p=Hp.rows.map Ze:=by rw[P.rows,List.map_take]
 have lp:Hp.rows.length=p:=by rw[P.rows,List.length_take];exact Nat.min_eq_left hp
 have XI:Hp.nodes.length<100:=Z74 (Z7z P.le hn) (by decide)
 have plain:Zi0 Hp t→Zw7 H p t p:=λB=>⟨⟨Hp,t,(H.rows.map Ze).drop p,P.JC,P.le,lp,B,λw q=>List.mem_of_mem_drop q,by rw[eT];rfl,by rw[List.length_drop,Z8i];exact Nat.sub_le _ _⟩,Nat.le_succ_of_le hp⟩
 by_cases hs:t=Zx
 ·by_cases h1:((H.rows.map Ze).drop p).take 1=[Zx]
  ·rw[if_pos ⟨hs,h1⟩]
   cases P.next with
   |whole e1 e2=>
    rw[e1,List.drop_of_length_le (by rw[Z8i];exact Z70 _)]at h1
    exact nomatch h1
   |@row r hr ok hs'=>
    have hT:(H.rows.map Ze)[p]? = some (Ze r):=Zaa hr
    rw[Zbu hT]at h1
    have e:r=.settle:=Classical.not_not.mp λz=>Zr8 z (List.cons.inj h1).1
    rw[e]at hr ok hT
    have D:=Zf2 P.JC.h.QO ok
    have K:=P.JC.h.QO.X0
    have w':(doH Hp .settle).waiting=[]:=K.none
    refine⟨⟨doH Hp .settle,Zx,(H.rows.map Ze).drop (p+1),.add P.JC ok .settle (.inr rfl),?_,by rw[D.rows,Zd,lp],Zie w',λw q=>List.mem_of_mem_drop q,?_,by rw[List.length_drop,Z8i];exact Nat.sub_le _ _⟩,Z75 hp⟩
    ·have en:(doH Hp .settle).nodes=Hp.nodes:=by
      cases ok with
      |settle hw=>
       rw[if_neg hw]at K;exact K.nodes
     rw[en];exact P.le
    ·rw[eT,Zbu hT,hs,D.rows,List.map_append,Z8n];rfl
  ·rw[if_neg λz=>h1 z.2]
   refine plain (hs▸Zie ?_)
   cases P.next with
   |whole e1 e2=>rw[e2];exact hw
   |@row r hr ok hs'=>
    refine hs'.resolve_right λe=>h1 ?_
    have hT:(H.rows.map Ze)[p]? = some (Ze r):=Zaa hr
    rw[Zbu hT,e];rfl
 ·rw[if_neg λz=>hs z.1]
  cases hb with
  |one hb=>exact plain (Zwy t hb)
  |two hb=>exact plain (Zwx XI t hb)
  |three hb=>exact plain (Zww XI t hb)
  |four hb=>exact plain (Zwv XI t hb)
  |DY hb=>exact plain (Zwu t hb hs)
  |again hb h4=>
   rw[eT]at hb
   obtain⟨r,hr,rfl⟩:=Z8l.mp hb
   rw[Znc]at h4
   exact plain (Zl7 (P.JC.h.wf r hr) rfl (.inr (P.JC.V6 hr h4)))
theorem Hs.many(h:Hs H):((H.rows.map Ze).filter Zf7).length=H.nodes.length:=by
 rw[List.filter_map,Z8i,←h.VW.count]
 exact Z81 List.length (Z81 (λq=>List.filter q H.rows) (funext Znc))
end
end
section
structure KZ(fd nd hm:Nat)(cells:List Int)(i:Nat)(ν:Fm)(σ:St)(H:HC)(nodes:List Nd)(hs:List Nat)(s:Nat):Prop where
 vf:ν "feed"=some (.ref fd)
 vn:ν "nodes"=some (.ref nd)
 vh:ν "homes"=some (.ref hm)
 vr:ν "rows"=some (.lst ((H.rows.map Ze).map .str))
 w:Lw σ fd nd hm cells s nodes hs
 li:LI H nodes hs
 bn:nodes.length≤i
 br:H.rows.length≤2*i
 bs:s≤1+5*i
 some:0<i→nodes≠[]
section
variable{j fd nd hm i s:Nat}{σ σ':St}{cells:List Int}{ν:Fm}{H:HC}{nodes:List Nd}{hs:List Nat}
theorem LI.X1(L:LI H nodes hs)(h:nodes.length≤63):YS nodes:=L.nds▸L.JC.h.QO.toCore.X1 (L.nds.symm▸h)
theorem LI.adds{ZU:List Nd}{hs':List Nat}{ts:List CS}(L:LI H nodes hs)(hb:nodes.length≤62)(A:Gh nodes hs ZU hs' ts):
  ∃H',LI H' ZU hs'∧H'.rows.map Ze=H.rows.map Ze++ts∧H'.rows.length≤H.rows.length+1∧ZU.length≤nodes.length+1∧(nodes≠[]∨ts≠[]→ZU≠[]):=by
 cases A with
 |old=>exact⟨H,L,(List.append_nil _).symm,Nat.le_succ _,Nat.le_succ _,λz=>z.elim id λz=>absurd rfl z⟩
 |@new op ks hs' h1 h2 h3 h4 hn hc=>
  have L':=L.added hb h1 h2 h3 h4 hn hc
  have hni:Ye H (op,ks)=none:=Zg7 (L.nds▸hn)
  have D:=Zf2 L.JC.h.QO (.add ⟨h1.op,h2,h3,L.nds.symm▸h4⟩ hni)
  exact⟨_,L',by rw[D.rows,List.map_append];rfl,by rw[D.rows,Zd];exact Z70 _,by rw[Zd];exact Z70 _,λZ=>List.append_ne_nil_of_right_ne_nil _ (List.cons_ne_nil _ _)⟩
noncomputable def Zk8:List PS:=[II]
theorem Z18(hi:i<10)(P:KZ fd nd hm cells i ν σ H nodes hs s):∃ν' σ' H' ZU hs' s',ExB (j+3) Zk8 (upd ν "lap" (nA i)) σ .next ν' σ'∧KZ fd nd hm cells (i+1) ν' σ' H' ZU hs' s':=by
 have n62:nodes.length≤62:=Z7z P.bn (Z7z (Z8e hi) ble)
 have n63:nodes.length≤63:=Nat.le_succ_of_le n62
 have N:=P.li.X1 n63
 have Gn:s+1≤900:=Z7z (Z75 (Z7z P.bs (Z76 (Nat.mul_le_mul_left 5 (Z8e hi)) 1))) ble
 have r16:((H.rows.map Ze).map ZA.str).length≤1000:=by rw[Z8i,Z8i];exact Z7z P.br (Z7z (Nat.mul_le_mul_left 2 (Z8e hi)) ble)
 have vf:upd ν "lap" (nA i) "feed"=some (.ref fd):=Za P.vf
 have vn:upd ν "lap" (nA i) "nodes"=some (.ref nd):=Za P.vn
 have vh:upd ν "lap" (nA i) "homes"=some (.ref hm):=Za P.vh
 have vr:upd ν "lap" (nA i) "rows"=some (.lst ((H.rows.map Ze).map .str)):=Za P.vr
 have fin:∀{v:ZA}{σ':St}{H':HC}{ZU:List Nd}{hs':List Nat}{s':Nat},v=.lst ((H'.rows.map Ze).map .str)→Lw σ' fd nd hm cells s' ZU hs'→LI H' ZU hs'→ZU.length≤i+1→H'.rows.length≤2*(i+1)→s'≤s+5→ZU≠[]→KZ fd nd hm cells (i+1) (upd (upd ν "lap" (nA i)) "rows" v) σ' H' ZU hs' s':=λe w l h1 h2 h3 h4=>
  ⟨Za vf,Za vn,Za vh,(Zg ..).trans (Z81 some e),w,l,h1,h2,Z7z (Z7z h3 (Z77 P.bs 5)) (Z8c (Z8a 1 (5*i) 5)),λZ=>h4⟩
 have en:EvE (j+3) (.cmp .Gt QQ9 QQ3) (upd ν "lap" (nA i)) σ (.bool (decide (nodes.length > 1))) σ:=(Zm (P.w.Vf n63 vn) Zf (.gt nodes.length 1)).eqv (Z81 ZA.bool (decide_eq_decide.mpr Int.ofNat_lt))
 have adds:∀{σ1:St}{s1:Nat},Lw σ1 fd nd hm cells s1 nodes hs→s1≤s+1→EvE (j+3) (.and (.cmp .Gt QQ9 QQ3) (.cmp .Eq (.fn "_law_dip" [.loc "feed",.cst (.int 3)]) QQ6)) (upd ν "lap" (nA i)) σ (.bool false) σ1→
   ∃ν' σ' H' ZU hs' s',ExB (j+3) Zk8 (upd ν "lap" (nA i)) σ .next ν' σ'∧KZ fd nd hm cells (i+1) ν' σ' H' ZU hs' s':=λ{σ1 s1} w1 hs1 ht=>by
  obtain⟨ZU,hs',ts,s',σ',A,hc,w',h3,h0⟩:=Zxq (j:=j) w1 N P.li.len n62 (Z7z hs1 Gn)
  obtain⟨H',L',e,h1,h2,hne⟩:=P.li.adds n62 A
  have tl:ts.length≤1:=by cases A<;>exact ble
  have hx:(H.rows.map Ze).map ZA.str++ts.map .str=(H'.rows.map Ze).map .str:=by rw[e,List.map_append]
  exact⟨_,σ',H',ZU,hs',s',Qh (Zfq ht (Qh (Yk (Yu (Zb vr) (ZY (es3 (Zb vf) (Zb vn) (Zb vh)) hc) (.XA (.lst _) (.lst _) (Z7z (Nat.add_le_add r16 (Zh tl)) ble)))))),
   fin (Z81 ZA.lst hx) w' L' (Z7z h2 (Z75 P.bn)) (Z7z h1 (Z7z (Z75 P.br) (Nat.le_succ _))) (Z7z h3 (Z7z (Z77 hs1 3) (Nat.le_succ (s+1+3)))) (hne (Classical.byCases (λq:nodes=[]=>.inr (h0 q)) .inl))⟩
 by_cases q:nodes.length > 1
 ·rw[dT q]at en
  obtain⟨d,σ1,D⟩:=Jz (j:=j+2) (w:=3) P.w.feed ble (Z7z (Z8b Gn) ble) P.w.cl
  have w1:=P.w.fed D.fed
  have ed:EvE (j+3) (.cmp .Eq (.fn "_law_dip" [.loc "feed",.cst (.int 3)]) QQ6) (upd ν "lap" (nA i)) σ (.bool (decide (nA d=nA 0))) σ1:=Zm (ZY (es2 (Zb vf) Zf) D.call) Zf (.eq (.int 0 _ _) ble)
  by_cases q2:d=0
  ·rw[dT (Z81 nA q2)]at ed
   obtain⟨a,b,r,hs',s',σ2,M,hc,w2,h4⟩:=Ztw (j:=j) w1 N P.li.len (Nat.lt_of_succ_lt q) Gn
   obtain⟨H',ML⟩:=P.li.merged n62 M
   obtain⟨rs,e1,e2,e3⟩:=ML.rows
   have hx:(H.rows.map Ze).map ZA.str++(Zjl nodes hs a b r).map .str=(H'.rows.map Ze).map .str:=by rw[e1,List.map_append,List.map_append,e2]
   have tl:((Zjl nodes hs a b r).map ZA.str).length≤2:=by rw[Z8i,←e2,Z8i];exact e3
   exact⟨_,σ2,H',nodes,hs',s',Qh (Zby (Zw en ed) (Qh (Yk (Yu (Zb vr) (ZY (es3 (Zb vf) (Zb vn) (Zb vh)) hc) (.XA (.lst _) (.lst _) (Z7z (Nat.add_le_add r16 tl) ble)))))),
    fin (Z81 ZA.lst hx) w2 ML.li (Nat.le_succ_of_le P.bn) (by rw[e1,Z8j];exact Nat.add_le_add P.br e3) h4 (List.ne_nil_of_length_pos (Nat.lt_of_succ_lt q))⟩
  ·rw[dF (Zk2 q2)]at ed
   exact adds w1 (Z70 _) (Zw en ed)
 ·rw[dF q]at en
  exact adds P.w (Nat.le_succ _) (Jb en)
theorem Rv(n:Nat)(hn:n≤10)(P:KZ fd nd hm cells 0 ν σ H nodes hs s):∃ν' σ',JN (j+3) none ["lap"] Zk8 ((List.range n).map λ(i:Nat)=>[ZA.int i]) ν σ .next ν' σ'∧∃H' ZU hs' s',KZ fd nd hm cells n ν' σ' H' ZU hs' s':=
 Zd7 (λi ν σ=>∃H' ZU hs' s',KZ fd nd hm cells i ν σ H' ZU hs' s') (λi ν σ hi ⟨H,nodes,hs,s,P⟩=>by
  obtain⟨ν',σ',H',ZU,hs',s',h1,h2⟩:=Z18 (j:=j) (Z73 hi hn) P
  exact⟨ν',σ',h1,H',ZU,hs',s',h2⟩) ⟨H,nodes,hs,s,P⟩
theorem LI.nil:LI Qm [] []:=⟨.nil,⟨λkey m h=>(nomatch h),λn c=>⟨λh=>(nomatch h),λ⟨nd,h,_⟩=>(nomatch h)⟩,λn nd h=>(nomatch h)⟩,rfl,rfl,rfl,λi h=>absurd h (Nat.not_lt_zero i)⟩
end
end
section
section
variable{j fd nd hm i s k p:Nat}{σ σ':St}{cells:List Int}{ν:Fm}{H Hp:HC}{nodes:List Nd}{hs:List Nat}{xs:List ZA}{x:ZA}{t:CS}
theorem Z01(hx:LOf σ x xs)(hk:k≤xs.length)(hl:xs.length≤16000):JR σ x (nA k) (nA (k+1)) .none (.lst ((xs.drop k).take 1)):=by
 have h:=JR.lst hx (some (k:Int)) (some ((k+1:Nat):Int)) none Zgb hl
 rw[Zdx,show kms_lo (some (k:Int)) xs.length=k from(Zk9 (k:=k)).trans (Nat.min_eq_left hk),show kms_hi (some ((k+1:Nat):Int)) xs.length=min (k+1) xs.length from Zk9 (k:=k+1)]at h
 rcases Nat.lt_or_eq_of_le hk with q | q
 ·rw[Nat.min_eq_left (show k+1≤xs.length from q),Nat.add_sub_cancel_left]at h;exact h
 ·rw[List.drop_of_length_le (Z8c q.symm),List.take_nil]at h ⊢;exact h
theorem Lw.read{st:Nat}{L:Fld→Nat}(w:Lw σ fd nd hm cells s nodes hs)(R:Z6j j σ H σ' st L):Lw σ' fd nd hm cells s nodes hs:=⟨(R.old _ w.lf).trans w.feed,(R.old _ w.ln).trans w.nodes,(R.old _ w.lh).trans w.JI,w.n1,w.n2,w.n3,Z73 w.lf R.n,Z73 w.ln R.n,Z73 w.lh R.n,w.cl⟩
theorem Zgt(rs:List Row):((rs.map Ze).map (·++[10])).flatten=Yc rs:=by rw[List.map_map];rfl
theorem JU.Vy(h:JU H):∀t∈H.rows.map Ze,t.length≤63:=λt q=>(Z8l.mp q).elim λr z=>z.2▸J0 (h.wf r z.1)
theorem Zmm{r:Row}(h:Jq r):∃u c,Ze r=u++[c]∧c≠10:=by
 have hne:Ze r≠[]:=by
  cases r with
  |add op ks=>show Yg [32] (YJ::op::_)≠_;rw[Zl];exact List.cons_ne_nil _ _
  |same a b r=>show Yg [32] (Y0::ZQ a::_)≠_;rw[Zl];exact List.cons_ne_nil _ _
  |settle=>exact List.cons_ne_nil _ _
 rcases List.eq_nil_or_concat (Ze r)with e | ⟨u,c,e⟩
 ·exact absurd e hne
 ·rw[List.concat_eq_append]at e
  exact⟨u,c,e,λq=>Qc h (by rw[e,q];exact List.mem_append_right _ Z8g)⟩
theorem Zj1:∀{rs:List Row},(∀r∈rs,Jq r)→(Yc rs).count 10=rs.length
 | [],_=>rfl
 |r::rs,h=>by
  show((Ze r++[10])++Yc rs).count 10=_
  rw[List.count_append,List.count_append,Zj1 λq hq=>h q (Z8h _ hq),List.count_eq_zero.mpr (Qc (h r Z8g)),Z8p,Nat.zero_add,Nat.add_comm];rfl
structure Wj(rs:List Row)(u:CS)(c:Nat):Prop where
 text:Yc rs=(u++[c])++[10]
 ne:c≠10
 count:(u++[c]).count 10=rs.length-1
theorem Zy7{rs:List Row}(h:∀r∈rs,Jq r)(hne:rs≠[]):∃u c,Wj rs u c:=by
 rcases List.eq_nil_or_concat rs with e | ⟨rs',r,e⟩
 ·exact absurd e hne
 ·rw[List.concat_eq_append]at e
  have hr:Jq r:=h r (by rw[e];exact List.mem_append_right _ Z8g)
  have h':∀q∈rs',Jq q:=λq hq=>h q (by rw[e];exact List.mem_append_left _ hq)
  obtain⟨u,c,e2,hc⟩:=Zmm hr
  refine⟨Yc rs'++u,c,?_,hc,?_⟩
  ·rw[e,Yc,List.map_append,List.flatten_append,Z8n,Z8n]
   refine Z81 (Yc rs'++·) ?_
   show(Ze r++[10])++[]=_
   rw[List.append_nil,e2,Z8n]
  ·rw[Z8n,←e2,List.count_append,Zj1 h',List.count_eq_zero.mpr (Qc hr),e,Zd,Nat.add_sub_cancel];rfl
structure Z6p(j:Nat)(σ:St)(ts:List CS)(XZ:Nat)(σ':St):Prop where
 all:∀w∈ts,w.length≤63
 few:ts.length≤100
 call:Zq j "_law_is_refused" [.str (ts.map (·++[10])).flatten,nA XZ] σ (.bool true) σ'
theorem Zon(hn:H.nodes.length≤62)(hr:H.rows.length≤20)(hH:Hs H){XZ:Nat}(B:Zw7 H p t XZ):∃σ',Z6p (j+9) σ ((H.rows.map Ze).take p++([t]++(H.rows.map Ze).drop p)) XZ σ':=by
 obtain⟨H',t',rest,h1,h2,h3,b,V0,e,hl⟩:=B.ex
 have hh:JU H':=h1.h
 have n1:H'.nodes.length≤62:=Z7z h2 hn
 have lw:XZ≤21:=Z7z B.le (Z75 hr)
 have l20:rest.length≤20:=Z7z hl hr
 have all:∀w∈H'.rows.map Ze++(t'::rest),w.length≤63:=λw hw=>(List.mem_append.mp hw).elim (hh.Vy w) λq=>(Z8k.mp q).elim (λz=>z▸b.len) λz=>hH.h.Vy w (V0 w z)
 have lw2:(H'.rows.map Ze++(t'::rest)).length≤100:=by rw[Z8j,Z8i,h3,Z8p];exact Z7z (Nat.add_le_add lw (Z75 l20)) ble
 rw[e]
 have R:NC (j+8) "read_story" [.str ((H'.rows.map Ze++(t'::rest)).map (·++[10])).flatten] σ (QV H'.rows.length):=Z4z hh n1 (by rw[h3];exact Z7z lw ble) b.no (List.forall_mem_cons.mpr ⟨b.nl,λw hw=>(Z8l.mp (V0 w hw)).elim λr q=>q.2▸Qc (hH.h.wf r q.1)⟩)
  (by rw[List.map_append,List.flatten_append,Zgt]) (Z7z (Zm2 all) (Z7z (Nat.mul_le_mul_left 64 lw2) ble)) (by rw[h3];exact Z7z (Z75 (Nat.add_le_add lw l20)) ble)
 rw[h3]at R
 obtain⟨σ',hc⟩:=Zjc (j:=j+7) (Z74 lw (by decide)) R
 exact⟨σ',all,lw2,hc⟩
end
end
section
section
variable{j fd nd hm i s k p:Nat}{σ σ':St}{cells:List Int}{ν:Fm}{H Hp:HC}{nodes:List Nd}{hs:List Nat}{xs:List ZA}{x:ZA}{t:CS}
theorem Zyi{is:List Int}(hl:is.length≤63)(hs:ν "script"=some (.lst (is.map .int))):
  ∃fd nd hm cells σ',ExS (j+1) Ir ν σ .next (upd (upd (upd (upd ν "feed" (.ref fd)) "nodes" (.ref nd)) "homes" (.ref hm)) "rows" (.lst [])) σ'∧Lw σ' fd nd hm cells 0 [] []:=by
 obtain⟨cells,hc,hf⟩:=Z0y (j:=j) (σ:=σ) hl
 have lt0:σ.n<σ.n+1:=Z79 _
 have lt1:σ.n+1<σ.n+2:=Z79 _
 have Gx:σ.n<σ.n+2:=Nat.lt_trans lt0 lt1
 have lt2:σ.n+2<σ.n+3:=Z79 _
 refine⟨σ.n,σ.n+1,σ.n+2,cells,((σ.new (Zc8 cells 0)).new (.list [])).new (.list []),Zmk (Q3 (.cons (ZY (es1 (Zb hs)) hf) (es3 (Zsy es0) (Zsy es0) (Qs es0)))) (.tup _) rfl,⟨?_,?_,?_,Nat.ne_of_lt lt0,Nat.ne_of_lt Gx,Nat.ne_of_lt lt1,Nat.lt_trans Gx lt2,Nat.lt_trans lt1 lt2,lt2,hc⟩⟩
 ·exact(Yz (σ:=(σ.new (Zc8 cells 0)).new (.list [])) Gx).trans ((Yz (σ:=σ.new (Zc8 cells 0)) lt0).trans (Yp ..))
 ·exact(Yz (σ:=(σ.new (Zc8 cells 0)).new (.list [])) lt1).trans (Yp (σ.new (Zc8 cells 0)) _)
 ·exact Yp ((σ.new (Zc8 cells 0)).new (.list [])) _
theorem Z7j{T:List CS}(hr:ν "rows"=some (.lst (T.map .str)))(hp:ν "place"=some (nA p))(hl:p≤T.length)(h16:T.length≤200)(hb:ν "bent"=some (.str t)):
  EvE j QQ1 ν σ (nA (if t=Zx∧(T.drop p).take 1=[Zx]then p+1 else p)) σ:=by
 have e1:EvE j (.cmp .Eq (.loc "bent") XO) ν σ (.bool (decide (ZA.str t=.str Zx))) σ:=Zm (Zb hb) Zf (.eq (.str 0 _ _) ble)
 have ep:EvE j (.bin .Add Xb QQ3) ν σ (nA (p+1)) σ:=Zh7 (b:=1) (Zb hp) Zf
 have e2:EvE j (.cmp .Eq (.slc (.loc "rows") Xb (.bin .Add Xb QQ3) QQ5) (.lst [XO])) ν σ (.bool (decide (((T.map ZA.str).drop p).take 1=[ZA.str Zx]))) σ:=
  Zm (Qw (Zb hr) ⟨Zb hp,λsc q=>(nomatch q)⟩ ⟨ep,λsc q=>(nomatch q)⟩ Yb (Z01 (.lst _) (by rw[Z8i];exact hl) (Zh (Z7z h16 ble)))) (Qs (es1 Zf)) (.eqL (n:=0) (.lst _) (.lst _) (λZ=>by
   rw[←List.map_drop,←List.map_take];exact Zls (ys:=[Zx])) ble)
 have dq:((T.map ZA.str).drop p).take 1=[ZA.str Zx]↔(T.drop p).take 1=[Zx]:=by
  rw[←List.map_drop,←List.map_take]
  exact⟨λq=>Zhc (ys:=[Zx]) q,λq=>by rw[q];rfl⟩
 by_cases q1:t=Zx
 ·rw[dT (Z81 ZA.str q1)]at e1
  by_cases q2:(T.drop p).take 1=[Zx]
  ·rw[if_pos ⟨q1,q2⟩]
   rw[dT (dq.mpr q2)]at e2
   exact Zbg (Zw e1 e2) ep
  ·rw[if_neg λz=>q2 z.2]
   rw[dF λz=>q2 (dq.mp z)]at e2
   exact Zah (Zw e1 e2) (Zb hp)
 ·rw[if_neg λz=>q1 z.1]
  rw[dF λz=>q1 (by injection z)]at e1
  exact Zah (Jb e1) (Zb hp)
theorem Z17(hn:H.nodes.length≤62)(hr:H.rows.length≤20)(hH:Hs H)(hw:H.waiting=[])(hp:p≤H.rows.length){which:Nat}
  (vr:ν "rows"=some (.lst ((H.rows.map Ze).map .str))) (vp:ν "place"=some (nA p)) (vw:ν "which"=some (nA which)):
  ∃σ',QH (j+9) [Ga,
  Gd,
  (.asg "late" QQ1),
  (.ifs Di [.ret (.cst (.bool false))] []),
  Dh] ν σ (.bool true) σ':=by
 obtain⟨Hp,P⟩:=hH.prefix p hp
 have hh:=P.JC.h
 have np:Hp.nodes.length≤62:=Z7z P.le hn
 have lp:Hp.rows.length=p:=by rw[P.rows,List.length_take];exact Nat.min_eq_left hp
 have eT:(H.rows.map Ze).take p=Hp.rows.map Ze:=by rw[P.rows,List.map_take]
 have lT:(H.rows.map Ze).length≤200:=by rw[Z8i];exact Z7z hr ble
 have hpT:p≤(H.rows.map Ze).length:=by rw[Z8i];exact hp
 have lA:((H.rows.map Ze).take p).length≤200:=Z7z (List.length_take_le' ..) lT
 have ha:∀t∈(H.rows.map Ze).take p,4≤t.length∧t.length≤63:=λt q=>by
  obtain⟨r,Z,rfl⟩:=Z8l.mp (List.mem_of_mem_take q)
  refine⟨?_,hH.h.Vy _ (List.mem_of_mem_take q)⟩
  cases r with
  |add op ks=>show 4≤(Yg [32] (YJ::op::_)).length;rw[Zl,Z8j,Z8j];exact Z7z ble (Z76 (Z71 1 _) 3)
  |same a b r=>show 4≤(Yg [32] (Y0::ZQ a::_)).length;rw[Zl,Z8j];exact Z71 4 _
  |settle=>exact ble
 have l16:((H.rows.map Ze).map ZA.str).length≤16000:=Zh (Z7z lT ble)
 have s1:ExS (j+9) Ga ν σ .next (upd ν "ahead" (.lst (((H.rows.map Ze).take p).map .str))) σ:=
  Yk ((Qw (Zb vr) Yb ⟨Zb vp,λsc q=>(nomatch q)⟩ Yb (Zzx (k:=p) (.lst _) l16)).eqv (by rw[List.map_take]))
 generalize hν:upd ν "ahead" (.lst (((H.rows.map Ze).take p).map .str))=ν1 at s1
 have a1:ν1 "rows"=some (.lst ((H.rows.map Ze).map .str)):=by rw[←hν];exact Za vr
 have a2:ν1 "place"=some (nA p):=by rw[←hν];exact Za vp
 have a3:ν1 "which"=some (nA which):=by rw[←hν];exact Za vw
 have a4:ν1 "ahead"=some (.lst (((H.rows.map Ze).take p).map .str)):=by rw[←hν];exact Zg ..
 clear hν
 have em:EvE (j+9) (.blt "len" [.comp QQ3 ["row"] 0 [.loc "ahead"] [QQ2]]) ν1 σ (nA Hp.nodes.length) σ:=by
  have hm:(((H.rows.map Ze).take p).filter Zf7).length=Hp.nodes.length:=by rw[eT];exact P.JC.many
  have hg:=Zql (j:=j+9) (σ:=σ) (ν:=ν1) (e:=.cst (.int 1)) (q:=λZ=>.int 1) ha lA λt Z=>Zf
  exact(Jp (Qx (es1 (Zb a4)) (.lst _) hg) (by rw[List.nil_append,Z8i,hm];exact Z7z np ble)).eqv (by rw[List.nil_append,Z8i,hm])
 obtain⟨t,hb,hcb⟩:=Z0z (j:=j+8) (σ:=σ) (which:=which) (Z74 np (by decide)) ha lA
 have s2:ExS (j+9) Gd ν1 σ .next (upd ν1 "bent" (.str t)) σ:=
  Yk (ZY (es3 (Zb a3) em (Zb a4)) hcb)
 have s3:=Yk (n:="late") (Z7j (j:=j+9) (σ:=σ) (ν:=upd ν1 "bent" (.str t)) (Za a1) (Za a2) hpT lT (Zg ..))
 have B:=Z2u hH hw hn hp P hb
 generalize(if t=Zx∧((H.rows.map Ze).drop p).take 1=[Zx]then p+1 else p)=XZ at s3 B
 obtain⟨σ1,BT⟩:=Zon (j:=j) (σ:=σ) hn hr hH B
 generalize hν:upd (upd ν1 "bent" (.str t)) "late" (nA XZ)=ν2 at s3
 have b1:ν2 "rows"=some (.lst ((H.rows.map Ze).map .str)):=by rw[←hν];exact Za (Za a1)
 have b2:ν2 "place"=some (nA p):=by rw[←hν];exact Za (Za a2)
 have b3:ν2 "bent"=some (.str t):=by rw[←hν];exact Za (Zg ..)
 have b4:ν2 "ahead"=some (.lst (((H.rows.map Ze).take p).map .str)):=by rw[←hν];exact Za (Za a4)
 have b5:ν2 "late"=some (nA XZ):=by rw[←hν];exact Zg ..
 clear hν
 have el:EvE (j+9) (.bin .Add (.bin .Add (.loc "ahead") (.lst [.loc "bent"])) (.slc (.loc "rows") Xb QQ5 QQ5)) ν2 σ (.lst (((H.rows.map Ze).take p++([t]++(H.rows.map Ze).drop p)).map .str)) σ:=by
  have few:=BT.few
  rw[Z8j,Z8j,←Z8a]at few
  have RX:((H.rows.map Ze).take p).length+[t].length≤100:=Z7z (Z71 _ _) few
  refine(Yu (Yu (Zb b4) (Qs (es1 (Zb b3))) (.XA (.lst _) (.lst _) ?_)) (Qw (Zb b1) ⟨Zb b2,λsc q=>(nomatch q)⟩ Yb Yb (Zgc (k:=p) (.lst _) (by rw[Z8i];exact hpT) l16)) (.XA (.lst _) (.lst _) ?_)).eqv ?_
  ·rw[Z8i];exact Z7z RX ble
  ·rw[←List.map_drop,Z8j,Z8i,Z8i];exact Z7z few ble
  ·rw[List.map_append,List.map_append,List.map_drop,←Z8n];rfl
 have s4:=Zn (bl:=[.ret (.cst (.bool false))]) (Zao (p:=true) (ZY (es2 (ZY (es1 el) (Zkn (j:=j+8) BT.all (Z7z BT.few ble))) (Zb b5)) BT.call))
 obtain⟨σ2,st,L,R⟩:=Ztu (j:=j+1) (σ:=σ1) hh np (by rw[lp];exact Z7z hp (Z7z hr ble))
 have et:∀{σ:St},EvE (j+9) (.fn "_law_text" [.loc "ahead"]) ν2 σ (.str (Yc Hp.rows)) σ:=λ{σ}=>by
  rw[←Zgt,←eT]
  exact ZY (es1 (Zb b4)) (Zkn (λt q=>(ha t q).2) lA)
 have er:EvE (j+9) (.mth (.fn "read_story" [.fn "_law_text" [.loc "ahead"]]) "text" []) ν2 σ1 (.str (Yc Hp.rows)) σ2:=
  Zq9 (ZY (es1 et) R.call) R.sty.obj (by kernel_rfl) (by kernel_rfl) es0 (Zp3 (j:=j+7) R.sty hh.wf (by rw[lp];exact Z7z hp (Z7z hr ble))) (by kernel_rfl)
 exact⟨σ2,Zc s1 (Zc s2 (Zc s3 (Zc s4 (Y6 ((Zm er et (.eq (.str 0 _ _) ble)).eqv (Z81 ZA.bool (dT rfl)))))))⟩
theorem Z3t{is:List Int}(hl:is.length≤63):∃σ',Zq (j+10) "law" [.lst (is.map .int)] σ (.bool true) σ':=by
 obtain⟨fd,nd,hm,cells,σ1,st1,w1⟩:=Zyi (j:=j+8) (σ:=σ) (ν:=upd (λZ=>none) "script" (.lst (is.map .int))) hl (Zg ..)
 generalize hν:upd (upd (upd (upd (upd (λZ=>none) "script" (.lst (is.map .int))) "feed" (ZA.ref fd)) "nodes" (ZA.ref nd)) "homes" (ZA.ref hm)) "rows" (ZA.lst [])=ν1 at st1
 have P1:∀{σ:St}{s:Nat},Lw σ fd nd hm cells s [] []→s≤1→KZ fd nd hm cells 0 ν1 σ Qm [] [] s:=λw hs=>by
  rw[←hν];exact⟨by kernel_rfl,by kernel_rfl,by kernel_rfl,by kernel_rfl,w,LI.nil,Z70 _,Z70 _,hs,λq=>absurd q (Nat.lt_irrefl 0)⟩
 have vf:ν1 "feed"=some (.ref fd):=(P1 w1 (Z8d _)).vf
 clear hν
 obtain⟨d,σ2,D⟩:=Jz (j:=j+8) (w:=5) w1.feed ble ble w1.cl
 have hd:2+d≤6:=Z76 (Z8f D.lt) 2
 obtain⟨ν2,σ3,hf,H,nodes,hs,s,P⟩:=Rv (j:=j+6) (2+d) (Z7z hd ble) (P1 (w1.fed D.fed) (Z70 _))
 have st2:ExS (j+9) (.for ["lap"] 2 [.bin .Add JE (.fn "_law_dip" [.loc "feed",.cst (.int 5)])] Zk8) ν1 σ1 .next ν2 σ3:=Zkt (es1 (Zh7 (a:=2) Zf (ZY (es2 (Zb vf) Zf) D.call))) (.rng (Z7z hd ble)) hf
 obtain⟨vf,vn,vh,vr,w,li,bn,br,bs,hne⟩:=P
 have nne:nodes≠[]:=hne (Z73 (by decide) (Z71 2 d))
 have hH:=li.JC
 have hh:=hH.h
 have n6:nodes.length≤6:=Z7z bn hd
 have r12:H.rows.length≤12:=Z7z br (Nat.mul_le_mul_left 2 hd)
 have s31:s≤31:=Z7z bs (Z76 (Nat.mul_le_mul_left 5 hd) 1)
 have rT:(H.rows.map Ze).length≤200:=by rw[Z8i];exact Z7z r12 ble
 have hN:H.nodes.length≤62:=by rw[li.nds];exact Z7z n6 ble
 have DA:H.rows≠[]:=λe=>by
  have:=hH.VW.count
  rw[e,li.nds]at this
  exact nne (List.length_eq_zero_iff.mp this.symm)
 have st3:ExS (j+9) (.asg "text" (.fn "_law_text" [.loc "rows"])) ν2 σ3 .next (upd ν2 "text" (.str (Yc H.rows))) σ3:=by
  rw[←Zgt];exact Yk (ZY (es1 (Zb vr)) (Zkn hh.Vy rT))
 obtain⟨σ4,st,L,R⟩:=Ztu (j:=j+1) (σ:=σ3) hh hN (Z7z r12 ble)
 have st4:ExS (j+9) (.asg "story" (.fn "read_story" [JM])) (upd ν2 "text" (.str (Yc H.rows))) σ3 .next (upd (upd ν2 "text" (.str (Yc H.rows))) "story" (.ref st)) σ4:=Yk (ZY (es1 (Zb (Zg ..))) R.call)
 have w4:=w.read R
 generalize hν:upd (upd ν2 "text" (.str (Yc H.rows))) "story" (ZA.ref st)=ν3 at st4
 have u1:ν3 "feed"=some (.ref fd):=by rw[←hν];exact Za (Za vf)
 have u2:ν3 "nodes"=some (.ref nd):=by rw[←hν];exact Za (Za vn)
 have u3:ν3 "rows"=some (.lst ((H.rows.map Ze).map .str)):=by rw[←hν];exact Za (Za vr)
 have u4:ν3 "text"=some (.str (Yc H.rows)):=by rw[←hν];exact Za (Zg ..)
 have u5:ν3 "story"=some (.ref st):=by rw[←hν];exact Zg ..
 clear hν
 have S4:Yv H:=⟨Nat.le_succ_of_le hN,Z7z r12 ble⟩
 have elr:∀{ν:Fm}{σ:St},ν "rows"=some (.lst ((H.rows.map Ze).map .str))→EvE (j+9) (.blt "len" [.loc "rows"]) ν σ (nA H.rows.length) σ:=λq=>(Jp (Zb q) (Zh (Z7z rT ble))).eqv (by rw[Z8i,Z8i])
 have st5:ExS (j+9) (.ifs IF [.ret (.cst (.bool false))] []) ν3 σ4 .next ν3 σ4:=Zn (J7 (Zm (Zlo R.sty (Zb u5) es0 (Zp3 (j:=j+7) R.sty hh.wf (Z7z r12 ble))) (Zb u4) (Zoz (.str 0 _ _) ble))
  (Zm ((Jp (Zlo R.sty (Zb u5) es0 (Zxl (j:=j+8) R.sty (Z7z r12 ble))) (Zh (Z7z r12 ble))).eqv (w:=nA H.rows.length) (by rw[Z8i])) (elr u3) (Zoz (.int 0 _ _) ble))
  (Zm (Zfg R.sty (Zb u5) es0 (Ze4 (j:=j+7) R.sty.rep S4)) ((w4.Vf (Z7z n6 ble) u2).eqv (w:=nA H.nodes.length) (by rw[li.nds])) (Zoz (.int 0 _ _) ble)))
 obtain⟨p,σ5,D5⟩:=Jz (j:=j+8) (w:=H.rows.length+1) w4.feed (Nat.succ_pos _) (Z7z s31 ble) w4.cl
 have w5:=w4.fed D5.fed
 obtain⟨which,σ6,D6⟩:=Jz (j:=j+8) (w:=23) w5.feed ble (Z7z (Z75 s31) ble) w4.cl
 have st6:ExS (j+9) IB ν3 σ4 .next (upd (upd ν3 "place" (nA p)) "which" (nA which)) σ6:=
  Zmk (Q3 (es2 (ZY (es2 (Zb u1) (Zh7 (b:=1) (elr u3) Zf)) D5.call) (ZY (es2 (Zb u1) Zf) D6.call))) (.tup _) rfl
 have ew:EvE (j+9) (.cmp .Eq Xz (.cst (.int 22))) (upd (upd ν3 "place" (nA p)) "which" (nA which)) σ6 (.bool (decide (nA which=nA 22))) σ6:=Zm (Zb (Zg ..)) Zf (.eq (.int 0 _ _) ble)
 have main:∃σ',QH (j+9) [ID,Ga,
  Gd,
  (.asg "late" QQ1),
  (.ifs Di [.ret (.cst (.bool false))] []),
  Dh] (upd (upd ν3 "place" (nA p)) "which" (nA which)) σ6 (.bool true) σ':=by
  by_cases q:which=22
  ·rw[dT (Z81 nA q)]at ew
   obtain⟨u,c,C⟩:=Zy7 hh.wf DA
   have hlen:(Yc H.rows).length≤16000:=Z7z (Ze2 hh.wf) (Z7z (Nat.mul_le_mul_left 64 r12) ble)
   rw[C.text,Zd]at hlen
   obtain⟨σ7,hc⟩:=Zjc (j:=j+7) (σ:=σ6) (text:=u++[c]) (k:=H.rows.length-1) (Z74 (Nat.sub_le _ _) (Z74 r12 (by decide))) (Zuu C.ne (Z8b hlen) C.count)
   have e1:EvE (j+9) (.slc JM QQ5 (.neg QQ3) QQ5) (upd (upd ν3 "place" (nA p)) "which" (nA which)) σ6 (.str (u++[c])) σ6:=
    Qw (Zb (Za (Za (u4.trans (by rw[C.text]))))) Yb ⟨Zsz Zf,λsc q=>(nomatch q)⟩ Yb (.but hlen)
   exact⟨σ7,Qz (Zbr ew (Zau (ZY (es2 e1 (Z0d (b:=1) (elr (Za (Za u3))) Zf (List.length_pos_iff.mpr DA))) hc)))⟩
  ·rw[dF (Zk2 q)]at ew
   obtain⟨σ',B⟩:=Z17 (j:=j) (σ:=σ6) (ν:=upd (upd ν3 "place" (nA p)) "which" (nA which)) hN (Z7z r12 ble) hH li.wait (Z8f D5.lt) (Za (Za u3)) (Za (Zg ..)) (Zg ..)
   exact⟨σ',Zc (Zn ew) B⟩
 obtain⟨σ',B⟩:=main
 exact⟨σ',Zk Z5n rfl (Zc st1 (Zc st2 (Zc st3 (Zc st4 (Zc st5 (Zc st6 B))))))⟩
end
end
end PL
end
section
open PySem PySem.W PyProof.Rows
open scoped Classical
set_option maxRecDepth 1000000
set_option maxHeartbeats 0
namespace PL
noncomputable def Zyu(s:SharedT):List Nat→Option Frag
 | []=>some []
 |a::r=>match Nat.blt a s.n,(s.tree.get a).bind alive,Zyu s r with
  |true,some o,some K=>some ((a,o)::K)
  |_,_,_=>none
theorem Zqw{s:SharedT}:∀{as:List Nat}{K:Frag},Zyu s as=some K→K.In s.abs.heap
 | [],K,h=>by cases h;intro a o e;cases e
 |a::r,K,h=>by
  unfold Zyu at h
  split at h
  ·rename_i o K' h1 h2 h3
   cases h
   intro b o' e
   rw[List.lookup_cons]at e
   split at e
   ·rename_i q
    cases e
    rw[Z84 q]
    obtain⟨o1,g1,g2⟩:=Option.bind_eq_some_iff.mp h2
    exact(abs_get (Z78 h1) g1).trans g2
   ·exact Zqw h3 b o' e
  ·cases h
noncomputable def Dj(s:SharedT):Bool:=match Zyu s asL with | some K=>KOK K | none=>false
theorem Z3d{s:SharedT}(h:Dj s=true):∃K:Frag,K.In s.abs.heap∧KOK K=true:=by
 unfold Dj at h
 split at h
 ·rename_i K e;exact⟨K,Zqw e,h⟩
 ·cases h
noncomputable abbrev pw:Program:=PySem.Challenge.pw_pq0086_02
abbrev rwL:OpenRow:=PySem.Challenge.rw_pq0086_02.row
noncomputable def qv:Program:={ pw with main:={ pw.main with body:=pw.main.body.filter λst=>match st with | .Assign ..=>false | _=>true } }
noncomputable def XtL(s:Shared):Bool:=xlAt qv [] s&&recOk (RowW.records (OpenRow.toRowW rwL)) s
theorem Rk:∀(w:World)(os:OsState),(Ze1 pw w 11 (some (.ref 6)) 8414 (Zwi w os) (topStub pw)).map (λs=>Zqk pw qv [] XtL (λZ=>()) (boot_heap w.params) s.abs)=some (true,openGood qv [],()):=λw os=>by kernel_rfl
theorem runK:∀(w:World)(os:OsState),(Ze1 pw w 11 (some (.ref 6)) 8414 (Zwi w os) (topStub pw)).map Dj=some true:=λw os=>by kernel_rfl
def YL(s:Shared):Prop:=∃K:Frag,K.In s.heap∧KOK K=true
theorem Rl:∀(w:World)(os:OsState),∃s,Ze1 pw w 11 (some (.ref 6)) 8414 (Zwi w os) (topStub pw)=some s∧Zqk pw qv [] XtL (λZ=>()) (boot_heap w.params) s.abs=(true,openGood qv [],())∧YL s.abs:=λw os=>by
 obtain⟨s,h1,h2⟩:=Z8r.mp (Rk w os)
 obtain⟨s',h3,h4⟩:=Z8r.mp (runK w os)
 rw[h1]at h3
 cases h3
 exact⟨s,h1,h2,Z3d h4⟩
theorem Z6z:opening pw=plainProg pw.main.scope.names:=by kernel_rfl
theorem Z5p(s:Shared):fenceModules? pw s=some s:=by kernel_rfl
theorem Zzh(P:Params):((boot_heap P).isNs mainGlobals,(boot_heap P).objs.size,(boot_heap P).nsMap mainGlobals "__annotations__")=(true,11,some (.ref 6)):=by kernel_rfl
theorem RV:(defOf qv rwL.name).isSome=true:=by kernel_rfl
noncomputable def dkL:DefRec×List (Str×Expr):=(defOf qv rwL.name).get RV
theorem Z5l:defOf qv rwL.name=some (dkL.1,dkL.2):=by kernel_rfl
theorem hpL:rwL.prog.theDef rwL.name=some (dkL.1.params,dkL.1.body,dkL.1.scope):=by kernel_rfl
theorem hkL:kwWritten? dkL.1.params.kwonlyargs dkL.1.params.kw_defaults=some dkL.2:=by kernel_rfl
theorem Z6u:PySem.Challenge.rw_pq0086_02.wellSaid=true:=by kernel_rfl
theorem okL:(chainsOk qv&&opensWell rwL.prog&&(frees rwL.toRowW&&rwL.within.isEmpty))=true:=by kernel_rfl
theorem IS:rwL.toRowW.promised:=by
 w_on
 w_witness2
theorem Z7p:rwL.prog.bare:=⟨rfl,rfl,rfl,rfl,rfl,by decide +kernel⟩
theorem Z7a:LeftO rwL.prog qv [] XtL YL (λZ=>True) 8414:=Zm6 Z6z rfl Z5p Zzh λw os=>by
 obtain⟨s,h1,h2,h3⟩:=Rl w os
 exact⟨s,h1,h2,eq_true h3⟩
theorem Z2c(call:WalkO qv [] (XL qv []) (λw h=>∃K:Frag,K.In h∧KOK K=true) rwL.toRowW dkL.1 dkL.2 λf vs=>PySem.call f vs):PySem.Challenge.rw_pq0086_02.Holds:=
 holds_law Z6u λRh=>holds_open (Xt:=XtL) Z7a (λw s h=>of_eq_true h) (λw h h' hK hk=>by obtain⟨K,a,b⟩:=hK;exact⟨K,λx o e=>hk x o (a x o e),b⟩) (λs e=>xl_of s (Bool.and_eq_true_iff.mp e).1) XL.keeps Z5l hpL hkL (λs e=>recFacts_of (Bool.and_eq_true_iff.mp e).2) rfl Rh okL Z7p IS call
end PL
end
section
open PySem PySem.W PyProof.Rows
open scoped Classical
namespace PL
noncomputable def σ0:St:=⟨0,λZ=>none⟩
noncomputable def W0(s:Shared)(l:Addr)(o:Obj)(xs:List ZA):Wd:=λa=>if a=l then .imm o (some (.lst xs))else@Option.casesOn _ (λZ=>Tag) (s.heap.get? a) .free λo=>.imm o none
theorem Zl4{s:Shared}{l:Addr}{o:Obj}{xs:List ZA}:W0 s l o xs l=.imm o (some (.lst xs)):=if_pos rfl
theorem Z27{s:Shared}{l a:Addr}{o:Obj}{xs:List ZA}(h:a≠l):W0 s l o xs a=@Option.casesOn _ (λZ=>Tag) (s.heap.get? a) .free λo=>.imm o none:=if_neg h
theorem Z6e{s:Shared}{l a:Addr}{o:Obj}{xs:List ZA}:(W0 s l o xs a).key=none:=by
 by_cases e:a=l
 ·rw[e,Zl4];rfl
 ·rw[Z27 e];cases s.heap.get? a<;>rfl
theorem Zyn{W:Wd}{vs:List Value}{is:List Int}(h:IntsAre vs is):ZF W vs (is.map .int):=by
 induction h with
 |nil=>exact trivial
 |cons _ t _ ih=>exact⟨⟨t,rfl⟩,ih⟩
theorem Zxd{X:Cx}{l:Addr}{vs:List Value}{is:List Int}(ho:X.s1.heap.get? l=some { cls:=.type "list",data:=.seq vs.toArray })(hi:IntsAre vs is):Inv X (W0 X.s1 l { cls:=.type "list",data:=.seq vs.toArray } (is.map .int)) σ0 X.s1 where
 base:=⟨_,_,_,rfl⟩
 keep a o h:=by
  by_cases e:a=l
  ·rw[e]at h ⊢;rw[←Z8q (ho.symm.trans h)];exact⟨_,Zl4⟩
  ·exact⟨none,(Z27 e).trans (by rw[h])⟩
 tag a:=by
  by_cases e:a=l
  ·rw[e,Zl4];exact⟨.inl ho,vs.toArray,_,rfl,by rw[List.toList_toArray];exact Zyn hi⟩
  ·rw[Z27 e]
   cases h:X.s1.heap.get? a with
   |none=>exact trivial
   |some o=>exact⟨.inl h,trivial⟩
 uq a b k h _:=nomatch Z6e.symm.trans h
 fid id h:=absurd rfl h
theorem Z5d{j:Nat}(hj:∀X W,AOK X false W (2*(j+10)) callerA){w:World}{s₁:Shared}{mg mb:Str→Option Value}{pv:Program}{loose:List Str}{Gw:ExcName→Option Value}{K:Frag}(hk:KOK K=true)(KX:K.In s₁.heap)(T0:Top pv loose Gw mg mb s₁.heap){l:Addr}{vs:List Value}{is:List Int}
  (ho:s₁.heap.get? l=some { cls:=.type "list",data:=.seq vs.toArray }) (hi:IntsAre vs is) (hlen:is.length≤63) {R:Result→Shared→Prop} (hR:∀s',(∀b o,s₁.heap.get? b=some o→s'.heap.get? b=some o)→s'.os=s₁.os→s'.gens=s₁.gens→R (.ok (.ret (.bool true))) s'):
  codeAny (model PySem.Challenge.rw_pq0086_02.row.prog w) callerA (.call (.ref 637) ⟨[.ref l],[]⟩) R s₁:=by
 obtain⟨σ',hl⟩:=Z3t (j:=j) (σ:=σ0) hlen
 refine hl.run (X:=⟨w,s₁,K,mg,mb,Du hk KX T0⟩) (by kernel_rfl) (hj _ _) (Zxd (X:=⟨w,s₁,K,mg,mb,Du hk KX T0⟩) ho hi) ⟨⟨l,rfl,_,Zl4⟩,trivial⟩ λW' v s' hle I' hv=>?_
 have hv':v=.bool true:=hv
 obtain⟨h',tk,Z,rfl⟩:=I'.base
 rw[hv']
 exact hR _ (λb o e=>I'.old b o e) rfl rfl
theorem Z63:dkL.1.name=Str.ofString "law":=(defOf_name Z5l).trans rfl
theorem Z7c{K:Frag}(hk:KOK K=true):nsIn K mainGlobals (Str.ofString "law")=some (some (.ref 637)):=by
 have h:=Yq (ZC (ZC (ZC hk).2).1).1 (show "law"∈Zff by decide)
 rw[show fnA "law"=some 637 by kernel_rfl]at h
 exact Zbm h
set_option maxHeartbeats 8000000 in
theorem glue{j:Nat}(hj:∀X W,AOK X false W (2*(j+10)) callerA):PySem.Challenge.rw_pq0086_02.Holds:=Z2c (by
 intro w s₀ s₁ mg mb G Y fa o pm cd doc dV kV ho hd hcd hD hmg hg args vals as R8 RL hrd hwl hlo
 obtain⟨K,KX,hk⟩:=Y
 refine Ground.open G ?_
 intro T B D TE TW
 have hfa:fa=637:=by
  have h1:=mg_of (n:=Str.ofString "law") (v:=.ref 637) KX T.g (Z7c hk)
  have h2:mg (Str.ofString "law")=some (.ref fa):=by rw[←Z63];exact hmg
  rw[h1]at h2
  injection h2 with h2;injection h2 with h2;exact h2.symm
 clear hmg
 wrow_args R8 RL hrd hwl hlo
 refine enter_call ?_
 subst hfa
 rename_i is hs hlay0 hL1 hr1 hl2 was was2 l vs was3 hL ra w1 r0 hI hr hcond1 hcond2
 have DE:s₁.heap.get? l=some { cls:=.type "list",data:=.seq vs.toArray }:=by
  have w2:Well w.params s₁.heap (.ref l) (.list (ofPys (List.map PyData.int is))):=w1
  obtain⟨o',ho',hc',n',hd'⟩:=hL
  cases w2 with
  |list ho2 hw2=>
   rw[ho2]at ho';cases ho'
   rename_i vs2
   have:vs2.toArray=vs.toArray:=by injection hd'
   rw[ho2,this]
 refine Z5d hj hk KX T DE hI (by omega) λs' hk hos hge=>?_
 refine GoodW.toG ⟨.inl ⟨.bool true,.bool true,[],rfl,?_,.bool true,?_,?_⟩,hk,hos,hge.trans hg⟩
 ·intro cls;rfl
 ·wrow_post
 ·intro h;exact⟨List.nodup_nil,λa ha=>absurd ha List.not_mem_nil⟩)
theorem Zzc(X:Cx)(W:Wd):AOK X false W (2*(0+10)) callerA:=⟨λZ=>rfl,by show 1+claimMargin+3*(2*(0+10))+3<recursionLimit;decide +kernel,by show 4+10*(2*(0+10))+100<cLine;decide +kernel,⟨[],rfl,λf h=>nomatch h⟩⟩
theorem holds02:PySem.Challenge.rw_pq0086_02.Holds:=glue Zzc
end PL
end
theorem PySem.Challenge.cw_pq0086_02_holds : PySem.Challenge.rw_pq0086_02.Holds :=
  PL.holds02
