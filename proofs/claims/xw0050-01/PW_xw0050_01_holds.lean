import PyProof.Rows.All
import Wide.All
import OpenK.AllK
import Wide.FinOn
import PySem.Challenge.RW_xw0050_01
set_option Elab.async false
set_option maxRecDepth 100000
set_option linter.unusedVariables false
set_option linter.unusedSimpArgs false
set_option genInjectivity false
set_option genSizeOfSpec false
set_option genSizeOf false
namespace Mine
abbrev tn:=@List.mem_of_getElem?
abbrev kO:=@Nat.le_of_ble_eq_true
abbrev au:=@Option.some.inj
abbrev ak:=@Exists.elim
abbrev bA:=@PySem.Heap.get?_push_of_some
abbrev dy:=@PySem.Heap.get?_push_size
abbrev bp:=@congrArg
abbrev aR:=@of_decide_eq_true
abbrev aL:=@PySem.wpAny_mono
abbrev kQ:=@Int.natCast_nonneg
abbrev jA:=@List.getElem?_eq_getElem
abbrev iq:=@Nat.lt_of_le_of_lt
abbrev lY:=@Nat.le_add_right
abbrev eX:=@PySem.wpAny_holding
abbrev aj:=@PySem.wpAny_bind
abbrev ir:=@PySem.wpAny_truthy_bool
abbrev aM:=@PySem.wpAny_pure
abbrev jB:=@PySem.W.typeIs_bytes
abbrev di:=@Nat.le_succ
abbrev eY:=@Nat.le_trans
abbrev jC:=@Nat.le_of_lt
abbrev oN:=@PySem.Calls.Name_function_global
abbrev oO:=@PySem.Calls.loadGlobal_global
abbrev lZ:=@PySem.wpAny_Constant_none
abbrev rg:=@PySem.wpAny_Constant_bool
abbrev iu:=@PySem.wpAny_Constant_int
abbrev l0:=@PySem.wpAny_Constant_str
abbrev ce:=@PySem.Calls.spliced_nil
abbrev aV:=@PySem.Calls.spliced_cons
abbrev gO:=@Nat.zero_le
abbrev rh:=@PySem.wpAny_isTrue_Compare1
abbrev ri:=@List.getElem?_toArray
abbrev iW:=@PySem.wpAny_standAt
abbrev dj:=@PySem.Calls.evalArgs_plain
abbrev gm:=@PySem.Calls.callWith_function
abbrev gP:=@Nat.lt_succ_of_lt
abbrev jD:=@PySem.Heap.get?_update_self
abbrev bi:=@Ne.symm
abbrev fE:=@PySem.wpAny_Return_some
abbrev gQ:=@PySem.wpAny_Assign_Name
abbrev eZ:=@PySem.wpAny_If
abbrev oP:=@Nat.lt_succ_self
abbrev cz:=@PySem.wpAny_execs_nil
abbrev oQ:=@Nat.succ_ne_zero
abbrev jE:=@PyProof.Rows.assignInOrder_cons
abbrev bH:=@List.mem_cons_of_mem
abbrev oS:=@PyProof.Rows.assign_Tuple_tuple
abbrev bL:=@Nat.ne_of_lt
abbrev cA:=@PySem.Heap.lt_size
abbrev aI:=@PySem.wpAny_execs_cons
abbrev dp:=@Nat.le_refl
abbrev fP:=@List.of_mem_zip
abbrev dW:=@List.mem_cons_self
abbrev l7:=@PySem.Around.frames_deeper
abbrev dq:=@PySem.wpAny_call
abbrev oU:=@List.mem_of_mem_take
abbrev jF:=@PySem.Calls.callWith_builtin
abbrev l8:=@PySem.Obj.data_mapFields
abbrev aW:=@PySem.Within.cons
abbrev cP:=@PySem.Within.nil
abbrev uO:=@PySem.F.excBase_Exception
abbrev kD:=@PySem.wpAny_loadPart_at
abbrev bD:=@if_neg
abbrev cT:=@if_pos
abbrev eK:=@PySem.strKind_is
abbrev rj:=@PySem.F.slot_dict_get
abbrev iv:=@PySem.Value.type.inj
abbrev dE:=@PySem.Heap.hide_ne
abbrev rk:=@PySem.wpAny_Assign_Subscript
abbrev uP:=@Int.fmod_nonneg_of_pos
theorem al{α}{l:List α}{a:α}(i:Nat)(h:l[i]?=some a:=by rfl):a∈l:=tn h
theorem aX{m n:Nat}(h:Nat.ble m n=true:=by rfl):m≤n:=kO h
abbrev aa(l c d:Nat):PySem.Pos:=⟨l,c,l,d⟩
set_option tactic.hygienic true
theorem aD{α:Type _}{x:Option α}{a b:α}(h:x=some a)(k:x=some b):a=b:=au (h.symm.trans k)
theorem aF{α:Type _}{a:α}{C:Prop}(h:none=some a):C:=by cases h
theorem oV{α:Type _}{a:α}{C:Prop}(h:some a=none):C:=by cases h
theorem bg{α:Type _}{x:Option α}{a:α}{C:Prop}(h:x=none)(k:x=some a):C:=aF (h.symm.trans k)
section
variable{bB bZ eN pI Oj α5 α6 α7 α8:Sort _}{G:Prop}
theorem am{p q G:Prop}(k:p→q→G)(h:p∧q):G:=k h.1 h.2
theorem bY{p q r:Prop}(h:p∧q∧r)(k:p→q→r→G):G:=k h.1 h.2.1 h.2.2
theorem oW{p:Prop}{q:bB→Prop}(h:p∧∃x,q x)(k:p→∀x,q x→G):G:=ak h.2 λx0 h0=>k h.1 x0 h0
theorem ah{p q:bB→Prop}(h:∃x,p x∧q x)(k:∀x,p x→q x→G):G:=ak h λx0 h0=>k x0 h0.1 h0.2
theorem eM{p:bB→bZ→Prop}(h:∃x y,p x y)(k:∀x y,p x y→G):G:=ak h λx0 h0=>ak h0 λx1 h1=>k x0 x1 h1
theorem fc{p q r s:Prop}(h:p∧q∧r∧s)(k:p→q→r→s→G):G:=bY h.2 (k h.1)
theorem xZ{p:Prop}{q r:bB→Prop}(h:p∧∃x,q x∧r x)(k:p→∀x,q x→r x→G):G:=ah h.2 (k h.1)
theorem bS{p q r:bB→Prop}(h:∃x,p x∧q x∧r x)(k:∀x,p x→q x→r x→G):G:=ak h λx0 h0=>bY h0 (k x0)
theorem aO{p q:bB→bZ→Prop}(h:∃x y,p x y∧q x y)(k:∀x y,p x y→q x y→G):G:=ak h λx0 h0=>ah h0 (k x0)
theorem abj{p:bB→bZ→eN→Prop}(h:∃x y z,p x y z)(k:∀x y z,p x y z→G):G:=ak h λx0 h0=>eM h0 (k x0)
theorem oX{p q r s t:Prop}(h:p∧q∧r∧s∧t)(k:p→q→r→s→t→G):G:=fc h.2 (k h.1)
theorem JY{p q:Prop}{r s:bB→Prop}(h:p∧q∧∃x,r x∧s x)(k:p→q→∀x,r x→s x→G):G:=xZ h.2 (k h.1)
theorem Vm{p:Prop}{q r:bB→bZ→Prop}(h:p∧∃x y,q x y∧r x y)(k:p→∀x y,q x y→r x y→G):G:=aO h.2 (k h.1)
theorem jv{p q r s:bB→Prop}(h:∃x,p x∧q x∧r x∧s x)(k:∀x,p x→q x→r x→s x→G):G:=ak h λx0 h0=>fc h0 (k x0)
theorem qD{p q:bB→Prop}{r:bB→bZ→Prop}(h:∃x,p x∧q x∧∃y,r x y)(k:∀x,p x→q x→∀y,r x y→G):G:=ak h λx0 h0=>oW h0.2 (k x0 h0.1)
theorem cK{p q r:bB→bZ→Prop}(h:∃x y,p x y∧q x y∧r x y)(k:∀x y,p x y→q x y→r x y→G):G:=ak h λx0 h0=>bS h0 (k x0)
theorem bC{p q:bB→bZ→eN→Prop}(h:∃x y z,p x y z∧q x y z)(k:∀x y z,p x y z→q x y z→G):G:=ak h λx0 h0=>aO h0 (k x0)
theorem l9{p q r s t l:Prop}(h:p∧q∧r∧s∧t∧l)(k:p→q→r→s→t→l→G):G:=oX h.2 (k h.1)
theorem Ub{p:Prop}{q r s:bB→bZ→Prop}(h:p∧∃x y,q x y∧r x y∧s x y)(k:p→∀x y,q x y→r x y→s x y→G):G:=cK h.2 (k h.1)
theorem Cu{p:Prop}{q r:bB→bZ→eN→Prop}(h:p∧∃x y z,q x y z∧r x y z)(k:p→∀x y z,q x y z→r x y z→G):G:=bC h.2 (k h.1)
theorem lM{p q r s t:bB→Prop}(h:∃x,p x∧q x∧r x∧s x∧t x)(k:∀x,p x→q x→r x→s x→t x→G):G:=ak h λx0 h0=>oX h0 (k x0)
theorem xp{p q:bB→Prop}{r s:bB→bZ→Prop}(h:∃x,p x∧q x∧∃y,r x y∧s x y)(k:∀x,p x→q x→∀y,r x y→s x y→G):G:=ak h λx0 h0=>JY h0 (k x0)
theorem bW{p q r s:bB→bZ→Prop}(h:∃x y,p x y∧q x y∧r x y∧s x y)(k:∀x y,p x y→q x y→r x y→s x y→G):G:=ak h λx0 h0=>jv h0 (k x0)
theorem cF{p q r:bB→bZ→eN→Prop}(h:∃x y z,p x y z∧q x y z∧r x y z)(k:∀x y z,p x y z→q x y z→r x y z→G):G:=ak h λx0 h0=>cK h0 (k x0)
theorem jw{p q:bB→bZ→eN→pI→Prop}(h:∃x y z u,p x y z u∧q x y z u)(k:∀x y z u,p x y z u→q x y z u→G):G:=ak h λx0 h0=>bC h0 (k x0)
theorem Cd{p:Prop}{q r s t:bB→bZ→Prop}(h:p∧∃x y,q x y∧r x y∧s x y∧t x y)(k:p→∀x y,q x y→r x y→s x y→t x y→G):G:=bW h.2 (k h.1)
theorem Jm{p:Prop}{q r s:bB→bZ→eN→Prop}(h:p∧∃x y z,q x y z∧r x y z∧s x y z)(k:p→∀x y z,q x y z→r x y z→s x y z→G):G:=cF h.2 (k h.1)
theorem eV{p q r s t l:bB→Prop}(h:∃x,p x∧q x∧r x∧s x∧t x∧l x)(k:∀x,p x→q x→r x→s x→t x→l x→G):G:=ak h λx0 h0=>l9 h0 (k x0)
theorem Cv{p q r s t:bB→bZ→Prop}(h:∃x y,p x y∧q x y∧r x y∧s x y∧t x y)(k:∀x y,p x y→q x y→r x y→s x y→t x y→G):G:=ak h λx0 h0=>lM h0 (k x0)
theorem eT{p q r s:bB→bZ→eN→Prop}(h:∃x y z,p x y z∧q x y z∧r x y z∧s x y z)(k:∀x y z,p x y z→q x y z→r x y z→s x y z→G):G:=ak h λx0 h0=>bW h0 (k x0)
theorem xG{p q r:bB→bZ→eN→pI→Prop}(h:∃x y z u,p x y z u∧q x y z u∧r x y z u)(k:∀x y z u,p x y z u→q x y z u→r x y z u→G):G:=ak h λx0 h0=>cF h0 (k x0)
theorem IG{p q:Prop}{r s t:bB→bZ→eN→Prop}(h:p∧q∧∃x y z,r x y z∧s x y z∧t x y z)(k:p→q→∀x y z,r x y z→s x y z→t x y z→G):G:=Jm h.2 (k h.1)
theorem nV{p:Prop}{q r s t l:bB→bZ→Prop}(h:p∧∃x y,q x y∧r x y∧s x y∧t x y∧l x y)(k:p→∀x y,q x y→r x y→s x y→t x y→l x y→G):G:=Cv h.2 (k h.1)
theorem JZ{p q r s t l:bB→bZ→Prop}(h:∃x y,p x y∧q x y∧r x y∧s x y∧t x y∧l x y)(k:∀x y,p x y→q x y→r x y→s x y→t x y→l x y→G):G:=ak h λx0 h0=>eV h0 (k x0)
theorem xH{p q r s t:bB→bZ→eN→Prop}(h:∃x y z,p x y z∧q x y z∧r x y z∧s x y z∧t x y z)(k:∀x y z,p x y z→q x y z→r x y z→s x y z→t x y z→G):G:=ak h λx0 h0=>Cv h0 (k x0)
theorem J0{p q r s:bB→bZ→eN→pI→Prop}(h:∃x y z u,p x y z u∧q x y z u∧r x y z u∧s x y z u)(k:∀x y z u,p x y z u→q x y z u→r x y z u→s x y z u→G):G:=ak h λx0 h0=>eT h0 (k x0)
theorem Mu{p q r s t l m n o:Prop}(h:p∧q∧r∧s∧t∧l∧m∧n∧o)(k:p→q→r→s→t→l→m→n→o→G):G:=l9 h.2.2.2 (k h.1 h.2.1 h.2.2.1)
theorem lI{p q r s t l:bB→bZ→eN→Prop}(h:∃x y z,p x y z∧q x y z∧r x y z∧s x y z∧t x y z∧l x y z)(k:∀x y z,p x y z→q x y z→r x y z→s x y z→t x y z→l x y z→G):G:=ak h λx0 h0=>JZ h0 (k x0)
theorem J1{p q r s t:bB→bZ→eN→pI→Prop}(h:∃x y z u,p x y z u∧q x y z u∧r x y z u∧s x y z u∧t x y z u)(k:∀x y z u,p x y z u→q x y z u→r x y z u→s x y z u→t x y z u→G):G:=ak h λx0 h0=>xH h0 (k x0)
theorem J2{p q r s t l m n:bB→bZ→Prop}(h:∃x y,p x y∧q x y∧r x y∧s x y∧t x y∧l x y∧m x y∧n x y)(k:∀x y,p x y→q x y→r x y→s x y→t x y→l x y→m x y→n x y→G):G:=ak h λx0 h0=>ak h0 λx1 h1=>l9 h1.2.2 (k x0 x1 h1.1 h1.2.1)
theorem J3{p q r s t l m:bB→bZ→eN→Prop}(h:∃x y z,p x y z∧q x y z∧r x y z∧s x y z∧t x y z∧l x y z∧m x y z)(k:∀x y z,p x y z→q x y z→r x y z→s x y z→t x y z→l x y z→m x y z→G):G:=ak h λx0 h0=>ak h0 λx1 h1=>ak h1 λx2 h2=>l9 h2.2 (k x0 x1 x2 h2.1)
theorem J4{p q r s t:bB→bZ→eN→pI→Oj→Prop}(h:∃x y z u v,p x y z u v∧q x y z u v∧r x y z u v∧s x y z u v∧t x y z u v)(k:∀x y z u v,p x y z u v→q x y z u v→r x y z u v→s x y z u v→t x y z u v→G):G:=ak h λx0 h0=>J1 h0 (k x0)
theorem Vn{p q r s t l m n:bB→bZ→eN→Prop}(h:∃x y z,p x y z∧q x y z∧r x y z∧s x y z∧t x y z∧l x y z∧m x y z∧n x y z)(k:∀x y z,p x y z→q x y z→r x y z→s x y z→t x y z→l x y z→m x y z→n x y z→G):G:=ak h λx0 h0=>J2 h0 (k x0)
theorem Vo{p q r s t:bB→bZ→eN→pI→Oj→α5→α6→α7→α8→Prop}(h:∃x y z u v w a b c,p x y z u v w a b c∧q x y z u v w a b c∧r x y z u v w a b c∧s x y z u v w a b c∧t x y z u v w a b c)(k:∀x y z u v w a b c,p x y z u v w a b c→q x y z u v w a b c→r x y z u v w a b c→s x y z u v w a b c→t x y z u v w a b c→G):G:=ak h λx0 h0=>ak h0 λx1 h1=>ak h1 λx2 h2=>ak h2 λx3 h3=>J4 h3 (k x0 x1 x2 x3)
theorem Uc{p q r s t l m n o A B C D E F H:bB→bZ→eN→pI→Prop}(h:∃x y z u,p x y z u∧q x y z u∧r x y z u∧s x y z u∧t x y z u∧l x y z u∧m x y z u∧n x y z u∧o x y z u∧A x y z u∧B x y z u∧C x y z u∧D x y z u∧E x y z u∧F x y z u∧H x y z u)(k:∀x y z u,p x y z u→q x y z u→r x y z u→s x y z u→t x y z u→l x y z u→m x y z u→n x y z u→o x y z u→A x y z u→B x y z u→C x y z u→D x y z u→E x y z u→F x y z u→H x y z u→G):G:=ak h λx0 h0=>ak h0 λx1 h1=>ak h1 λx2 h2=>ak h2 λx3 h3=>Mu h3.2.2.2.2.2.2.2 (k x0 x1 x2 x3 h3.1 h3.2.1 h3.2.2.1 h3.2.2.2.1 h3.2.2.2.2.1 h3.2.2.2.2.2.1 h3.2.2.2.2.2.2.1)
end
end Mine
namespace Mine
open PySem PySem.W PyProof.Rows
set_option tactic.hygienic false
inductive D where
 |none
 |bool (b:Bool)
 |int (i:Int)
 |str (x:List Nat)
 |bytes (b:List Nat)
 |tuple (ds:List D)
 |list (ds:List D)
 |obj (k:Nat)
 deriving Inhabited
noncomputable abbrev aK:D:=.str [110,97,109,101]
noncomputable abbrev aU:D:=.str [105,110,116]
noncomputable abbrev bf:D:=.str [98,111,111,108]
noncomputable abbrev bM:D:=.str [117,110,116,121,112,101,100]
noncomputable abbrev cg:D:=.str [97,114,114,97,121]
noncomputable abbrev ch:D:=.str [103,108,111,98,97,108]
noncomputable abbrev dF:D:=.str [112,116,114]
noncomputable abbrev d6:D:=.str [99,111,110,115,116]
noncomputable abbrev fF:D:=.str [110,97,109,101,100]
noncomputable abbrev iX:D:=.str [115,116,114,105,110,103]
noncomputable abbrev jx:D:=.str [99,111,110,115,116,32,102,97,117,108,116]
noncomputable abbrev kh:D:=.str [114,117,110,101]
noncomputable abbrev lN:D:=.str [117,105,110,116,56]
noncomputable abbrev lO:D:=.str [109,97,105,110,46,78]
noncomputable abbrev oz:D:=.str [109,97,105,110,46,84]
noncomputable abbrev oB:D:=.str [110,117,109,98,101,114]
noncomputable abbrev qP:D:=.str [116,101,120,116]
noncomputable abbrev qQ:D:=.str [115,108,105,99,101]
noncomputable abbrev ut:D:=.str [116,114,117,116,104]
noncomputable abbrev CY:D:=.str [116,104,101,32,111,112,101,114,97,116,111,114,32]
abbrev ao(x:List Nat):Str:=⟨x.toArray⟩
abbrev cH(b:List Nat):Array UInt8:=(b.map UInt8.ofNat).toArray
def aQ(h:Heap)(a:Addr)(c:String)(vs:List Value):Prop:=
 ∃o n,h.get? a=some o∧o.cls=.type c∧o.dict=none∧o.data=.seq vs.toArray n
mutual
inductive Tells(σ:Nat→Addr)(h:Heap):Value→D→Prop
 |none:Tells σ h Value.none D.none
 |bool (b:Bool):Tells σ h (Value.bool b) (D.bool b)
 |int (i:Int) (t:Tok):Tells σ h (Value.int i t) (D.int i)
 |str (x:List Nat) (t:Tok):Tells σ h (Value.str (ao x) t) (D.str x)
 |bytes (b:List Nat) (t:Tok):Tells σ h (Value.bytes (cH b) t) (D.bytes b)
 |tuple {a:Addr} {vs:List Value} {ds:List D}:aQ h a "tuple" vs→ax σ h vs ds→Tells σ h (Value.ref a) (D.tuple ds)
 |list {a:Addr} {vs:List Value} {ds:List D}:aQ h a "list" vs→ax σ h vs ds→Tells σ h (Value.ref a) (D.list ds)
 |obj (k:Nat):Tells σ h (Value.ref (σ k)) (D.obj k)
inductive ax(σ:Nat→Addr)(h:Heap):List Value→List D→Prop
 |nil:ax σ h [] []
 |cons {v:Value} {vs:List Value} {d:D} {ds:List D}:Tells σ h v d→ax σ h vs ds→ax σ h (v::vs) (d::ds)
end
def qR(o:Obj):Prop:=(o.cls=.type "code"∨o.cls=.type "range_iterator"∨o.cls=.type "list_iterator")∧∃vs,o.data=.fields vs
def aE(h h':Heap):Prop:=
 True∧∀b o,h.get? b=some o→∃o',h'.get? b=some o'∧o'.cls=o.cls∧o'.dict=o.dict∧
  ((∀vs,o.data≠.fields vs)→o'.data=o.data)∧(qR o→o'.data=o.data∧o'.slots=o.slots)∧(o.cls≠.type "frame"→o'.slots=o.slots)
theorem aE.refl(h:Heap):aE h h:=⟨trivial,λj o e=>⟨o,e,rfl,rfl,λj=>rfl,λj=>⟨rfl,rfl⟩,λj=>rfl⟩⟩
theorem aE.trans{h₁ d7 fe:Heap}(x:aE h₁ d7)(y:aE d7 fe):aE h₁ fe:=by
 refine⟨trivial,λb o e=>?_⟩;refine eV (x.2 b o e) λo' e' c' d' f' g' s'=>?_;refine eV (y.2 b o' e') λo'' e'' c'' d'' Ff g'' aS=>?_;refine⟨o'',e'',c''.trans c',d''.trans d',λhn=>?_,λhc=>?_,λhc=>(aS (c'▸hc)).trans (s' hc)⟩
 ·have:=f' hn;exact(Ff (by rw[this];exact hn)).trans this
 ·have a:=g' hc;have b:=g'' ⟨c'.symm▸hc.1,a.1.symm▸hc.2⟩;exact⟨b.1.trans a.1,b.2.trans a.2⟩
theorem aE.gb{h h':Heap}(k:∀b o,h.get? b=some o→h'.get? b=some o):aE h h':=
 ⟨trivial,λb o e=>⟨o,k b o e,rfl,rfl,λj=>rfl,λj=>⟨rfl,rfl⟩,λj=>rfl⟩⟩
theorem aE.push(h:Heap)(o:Obj):aE h (h.push o):=.gb λj j e=>bA o e
def gT(h h':Heap):Prop:=∀b o,h.get? b=some o→qR o→h'.get? b=some o
theorem gT.refl(h:Heap):gT h h:=λj j e j=>e
theorem gT.trans{h₁ d7 fe:Heap}(x:gT h₁ d7)(y:gT d7 fe):gT h₁ fe:=λb o e k=>y b o (x b o e k) k
theorem aE.oY{h h':Heap}(k:aE h h'):gT h h':=λb o e hs=>by
 refine eV (k.2 b o e) λo' e' c' d' j g' j=>?_;refine am (λa1 a2=>?_) (g' hs);obtain⟨x1,x2,x3,x4⟩:=o;obtain⟨y1,y2,y3,y4⟩:=o';cases c';cases d';cases a1;cases a2;exact e'
theorem aQ.keep{h h':Heap}{a:Addr}{c:String}{vs:List Value}(k:aE h h')(x:aQ h a c vs):aQ h' a c vs:=by
 refine bW x λo n e hc hd Ol=>?_;refine lM (k.2 a o e) λo' e' c' d' f' j=>?_;exact⟨o',n,e',c'.trans hc,d'.trans hd,(f' λvs q=>by rw[Ol]at q;cases q).trans Ol⟩
def cJ(h h':Heap):Prop:=∀a c vs,aQ h a c vs→aQ h' a c vs
theorem aE.seq{h h':Heap}(k:aE h h'):cJ h h':=λj j j x=>x.keep k
theorem cJ.trans{h₁ d7 fe:Heap}(x:cJ h₁ d7)(y:cJ d7 fe):cJ h₁ fe:=λa c vs z=>y a c vs (x a c vs z)
theorem cJ.sameBut{h h':Heap}{L:Addr}(s:Heap.SameBut L h h')(hL:∀c vs,¬aQ h L c vs):cJ h h':=by
 intro a c vs x;by_cases e:a=L
 ·subst e;exact absurd x (hL c vs)
 ·refine aO x λo n ho r=>?_;exact⟨o,n,(s.2 a e).trans ho,r⟩
section
variable{σ:Nat→Addr}{h h':Heap}
theorem Tells.seq(k:cJ h h'){v:Value}{d:D}(T:Tells σ h v d):Tells σ h' v d:=
 @Tells.rec σ h (λv d j=>Tells σ h' v d) (λv d j=>ax σ h' v d) Tells.none Tells.bool Tells.int Tells.str Tells.bytes (λx j i=>.tuple (k _ _ _ x) i) (λx j i=>.list (k _ _ _ x) i) Tells.obj .nil (λj j x y=>.cons x y) v d T
theorem ax.seq(k:cJ h h'){vs:List Value}{ds:List D}(T:ax σ h vs ds):ax σ h' vs ds:=
 @ax.rec σ h (λv d j=>Tells σ h' v d) (λv d j=>ax σ h' v d) Tells.none Tells.bool Tells.int Tells.str Tells.bytes (λx j i=>.tuple (k _ _ _ x) i) (λx j i=>.list (k _ _ _ x) i) Tells.obj .nil (λj j x y=>.cons x y) vs ds T
end
theorem Tells.keep{σ:Nat→Addr}{h h':Heap}{v:Value}{d:D}(x:Tells σ h v d)(k:aE h h'):Tells σ h' v d:=x.seq k.seq
theorem ax.keep{σ:Nat→Addr}{h h':Heap}{v:List Value}{d:List D}(x:ax σ h v d)(k:aE h h'):ax σ h' v d:=x.seq k.seq
theorem aQ.tuple{h:Heap}{a:Addr}{vs:List Value}(x:aQ h a "tuple" vs):h.IsTuple a vs.toArray:=bW x λo n e c j d=>⟨o,e,c,n,d⟩
theorem aQ.list{h:Heap}{a:Addr}{vs:List Value}(x:aQ h a "list" vs):h.IsList a vs.toArray:=bW x λo n e c j d=>⟨o,e,c,n,d⟩
theorem aQ.push{h:Heap}{c:String}{vs:List Value}:aQ (h.push {cls:=.type c,data:=.seq vs.toArray}) h.objs.size c vs:=
 ⟨_,0,dy _ rfl,rfl,rfl,rfl⟩
noncomputable def eh:List Nat→List Nat→Bool
 |[],[]=>true
 |a::x,b::y=>Nat.beq a b&&eh x y
 |_,_=>false
theorem nP{x:List Nat}:∀{y:List Nat},eh x y=true↔x=y:=by
 induction x with
 |nil=>intro y;cases y with
  |nil=>exact⟨λj=>rfl,λj=>rfl⟩
  |cons b y=>exact⟨λh=>(nomatch h),λh=>(nomatch h)⟩
 |cons a x ih=>intro y;cases y with
  |nil=>exact⟨λh=>(nomatch h),λh=>(nomatch h)⟩
  |cons b y=>
   refine(Bool.and_eq_true_iff (x:=Nat.beq a b) (y:=eh x y)).trans ⟨λh=>?_,λh=>?_⟩
   ·rw[Nat.eq_of_beq_eq_true h.1,ih.mp h.2]
   ·injection h with h1 h2
    exact⟨h1▸Nat.beq_refl a,ih.mpr h2⟩
theorem aQ.same{h:Heap}{a:Addr}{c c':String}{vs us:List Value}(x:aQ h a c vs)(y:aQ h a c' us):vs=us:=by
 refine bW x λo n e j j t=>?_;refine bW y λo' n' e' j j t'=>?_;cases aD e e';rw[t]at t';injection t' with h1 _
 exact bp Array.toList h1
section
variable{σ:Nat→Addr}{h:Heap}{v:Value}{vs:List Value}
theorem Tells.jy(T:Tells σ h v .none):v=.none:=by cases T;rfl
theorem Tells.vBool{b:Bool}(T:Tells σ h v (.bool b)):v=.bool b:=by cases T;rfl
theorem Tells.vInt{i:Int}(T:Tells σ h v (.int i)):∃t,v=.int i t:=by cases T;exact⟨_,rfl⟩
theorem Tells.vStr{x:List Nat}(T:Tells σ h v (.str x)):∃t,v=.str (ao x) t:=by cases T;exact⟨_,rfl⟩
theorem Tells.uh{x:List Nat}(T:Tells σ h v (.bytes x)):∃t,v=.bytes (cH x) t:=by cases T;exact⟨_,rfl⟩
theorem Tells.abk{k:Nat}(T:Tells σ h v (.obj k)):v=.ref (σ k):=by cases T;rfl
theorem Tells.iY{ds:List D}(T:Tells σ h v (.tuple ds)):∃a us,v=.ref a∧aQ h a "tuple" us∧ax σ h us ds:=by cases T with|tuple x r=>exact⟨_,_,rfl,x,r⟩
theorem Tells.WX{ds:List D}(T:Tells σ h v (.list ds)):∃a us,v=.ref a∧aQ h a "list" us∧ax σ h us ds:=by cases T with|list x r=>exact⟨_,_,rfl,x,r⟩
theorem ax.rl(T:ax σ h vs []):vs=[]:=by cases T;rfl
theorem ax.lP{d:D}{ds:List D}(T:ax σ h vs (d::ds)):∃v us,vs=v::us∧Tells σ h v d∧ax σ h us ds:=by cases T with|cons x r=>exact⟨_,_,rfl,x,r⟩
@[elab_as_elim] theorem oC{G:Value→Prop}(T:Tells σ h v .none)(k:G .none):G v:=T.jy▸k
@[elab_as_elim] theorem ki{G:Value→Prop}{b:Bool}(T:Tells σ h v (.bool b))(k:G (.bool b)):G v:=T.vBool▸k
@[elab_as_elim] theorem jG{G:Value→Prop}{i:Int}(T:Tells σ h v (.int i))(k:∀t,G (.int i t)):G v:=T.vInt.elim λt e=>e▸k t
@[elab_as_elim] theorem jH{G:Value→Prop}{x:List Nat}(T:Tells σ h v (.str x))(k:∀t,G (.str (ao x) t)):G v:=T.vStr.elim λt e=>e▸k t
@[elab_as_elim] theorem j5{G:Value→Prop}{x:List Nat}(T:Tells σ h v (.bytes x))(k:∀t,G (.bytes (cH x) t)):G v:=T.uh.elim λt e=>e▸k t
@[elab_as_elim] theorem rn{G:Value→Prop}{k:Nat}(T:Tells σ h v (.obj k))(z:G (.ref (σ k))):G v:=T.abk▸z
@[elab_as_elim] theorem mf{G:Value→Prop}{ds:List D}(T:Tells σ h v (.tuple ds))(k:∀a us,aQ h a "tuple" us→ax σ h us ds→G (.ref a)):G v:=cK T.iY λa us e x y=>e▸k a us x y
@[elab_as_elim] theorem oE{G:Value→Prop}{ds:List D}(T:Tells σ h v (.list ds))(k:∀a us,aQ h a "list" us→ax σ h us ds→G (.ref a)):G v:=cK T.WX λa us e x y=>e▸k a us x y
@[elab_as_elim] theorem kE{G:List Value→Prop}(T:ax σ h vs [])(k:G []):G vs:=T.rl▸k
@[elab_as_elim] theorem fN{G:List Value→Prop}{d:D}{ds:List D}(T:ax σ h vs (d::ds))(k:∀v us,Tells σ h v d→ax σ h us ds→G (v::us)):G vs:=cK T.lP λv us e x y=>e▸k v us x y
theorem ax.length{ds:List D}:∀{vs:List Value},ax σ h vs ds→vs.length=ds.length:=by
 induction ds with
 |nil=>exact λT=>kE T rfl
 |cons d ds ih=>exact λT=>fN T λv us j y=>bp Nat.succ (ih y)
theorem ax.get{ds:List D}:∀{vs:List Value},ax σ h vs ds→∀{i:Nat} {d:D},ds[i]?=some d→∃v,vs[i]?=some v∧Tells σ h v d:=by
 induction ds with
 |nil=>exact λj i d e=>aF e
 |cons d ds ih=>exact λT i=>fN T λv us x y=>by cases i with
  |zero=>exact λe=>⟨v,rfl,au e▸x⟩
  |succ i=>exact λe=>ih y e
end
noncomputable def gB(x:List Nat):Bool:=@List.rec Nat (λw=>Bool) true (λa w ih=>@Bool.rec (λw=>Bool) false ih (Nat.blt a 256)) x
noncomputable def ig:D→Bool
 |.none=>true|.bool _=>true|.int _=>true|.str _=>true
 |.tuple ds=>qE ds
 |_=>false
where qE:List D→Bool
 |[]=>true
 |d::ds=>ig d&&qE ds
noncomputable def Dr(slot:String)(x y:List Nat):Bool:=Builtin.Bytes.holds slot (Builtin.Bytes.order (cH x).toList (cH y).toList)
inductive E where
 |lit (d:D)
 |var (n:Nat)
 |gl (k:Nat)
 |tup (es:List E)
 |lst (es:List E)
 |attr (e:E) (k:Nat)
 |sub (e i:E)
 |bin (op:Operator) (a b:E)
 |neg (e:E)
 |no (e:E)
 |cmp (op:CmpOp) (a b:E)
 |iZ (o1 o2:CmpOp) (a b c:E)
 |bl (and:Bool) (es:List E)
 |ite (c t f:E)
 |call (f:Nat) (es:List E)
 |bc (o:E) (m:Nat) (es:List E)
 |isin (e:E) (t:Nat)
 |b1 (b:Nat) (e:E)
 |b2 (b:Nat) (x y:E)
 |cnt (l x:E)
 |gU (ks:List (List Nat)) (vs:List E) (k:E)
 |oZ (ks:List (List Nat)) (vs:List E) (k:E)
 |o7 (ks:List (List Nat)) (vs:List E) (k d:E)
 |i6 (c sp:E)
 |stop
inductive S where
 |asg (x:Nat) (e:E)
 |ix (xs:List Nat) (es:List E)
 |ja (xs:List Nat) (e:E)
 |ret (e:E)
 |ite (c:E) (t f:List S)
 |pJ (c:E) (b:List S)
 |mG (x n:Nat) (b:List S)
 |dG (m:E) (sp:Option E)
 |stop
inductive Out(α:Type)where
 |ok (a:α)
 |exc (d:D)
 |stuck
inductive aZ where
 |next (ρ:List (Option D))
 |ret (d:D)
 |exc (d:D)
 |stuck
abbrev Fn:=Nat×Nat×Bool×List S
structure bJ where
 attr:Nat→Nat→Option D
 dict:Nat→Option (List (List Nat×D))
 bc:Nat→Nat→Option Nat
 glob:Nat→D
 fn:List Fn
structure Rc where
 ev:List (Option D)→E→Out D
 ts:List (Option D)→E→Out Bool
 ex:List (Option D)→List S→aZ
@[reducible] noncomputable def Out.bind{α β:Type}(x:Out α)(f:α→Out β):Out β:=@Out.rec α (λw=>Out β) f .exc .stuck x
@[reducible] noncomputable def Out.of{α:Type}(x:Option α):Out α:=@Option.rec α (λw=>Out α) .stuck .ok x
@[reducible] noncomputable def cM{α β:Type}(x:Option α)(f:α→Option β):Option β:=@Option.rec α (λw=>Option β) none f x
@[reducible] noncomputable def ap{α:Type}(b:Bool)(x y:α):α:=@Bool.rec (λw=>α) y x b
noncomputable def cZ{α:Type}(l:List α):Nat→Option α:=
 @List.rec α (λw=>Nat→Option α) (λw=>none) (λa w ih n=>@Nat.rec (λw=>Option α) (some a) (λm w=>ih m) n) l
noncomputable def assoc{α:Type}(l:List (Nat×α))(k:Nat):Option α:=@List.rec (Nat×α) (λw=>Option α) none (λp w ih=>ap (Nat.beq p.1 k) (some p.2) ih) l
noncomputable def ui{α:Type}(l:List (Nat×List (Nat×α)))(k n:Nat):Option α:=cM (assoc l k) λl=>assoc l n
noncomputable def getD{α:Type}(l:List α)(z:α)(k:Nat):α:=@Option.rec α (λw=>α) z (λx=>x) (cZ l k)
noncomputable def cj(f:E→Out D)(l:List E):Out (List D):=
 @List.rec E (λw=>Out (List D)) (.ok []) (λe w ih=>(f e).bind λd=>ih.bind λds=>.ok (d::ds)) l
noncomputable def cU{α:Type}(l:List α):Nat:=@List.rec α (λw=>Nat) 0 (λw w n=>Nat.succ n) l
noncomputable def sEq(x:List Nat):List Nat→Bool:=
 @List.rec Nat (λw=>List Nat→Bool) (λy=>@List.rec Nat (λw=>Bool) true (λw w w=>false) y)
  (λa w ih y=>@List.rec Nat (λw=>Bool) false (λb t w=>ap (Nat.beq a b) (ih t) false) y) x
noncomputable def mH(i j:Int):Bool:=@Int.rec (λw=>Bool) (λa=>@Int.rec (λw=>Bool) (λb=>Nat.beq a b) (λw=>false) j) (λa=>@Int.rec (λw=>Bool) (λw=>false) (λb=>Nat.beq a b) j) i
noncomputable def eO(i j:Int):Bool:=@Int.rec (λw=>Bool) (λa=>@Int.rec (λw=>Bool) (λb=>Nat.blt a b) (λw=>false) j) (λa=>@Int.rec (λw=>Bool) (λw=>true) (λb=>Nat.blt b a) j) i
noncomputable def ro(p:Bool):Int:=ap p (.ofNat 1) (.ofNat 0)
section
variable{β:Type}
noncomputable def dN(x:Option β)(d:D):Option β:=by cases d with|none=>exact x|_=>exact none
noncomputable def dP(f:Bool→Option β)(d:D):Option β:=by cases d with|bool p=>exact f p|_=>exact none
noncomputable def dI(f:Int→Option β)(d:D):Option β:=by cases d with|int i=>exact f i|_=>exact none
noncomputable def dS(f:List Nat→Option β)(d:D):Option β:=by cases d with|str i=>exact f i|_=>exact none
noncomputable def dB(f:List Nat→Option β)(d:D):Option β:=by cases d with|bytes i=>exact f i|_=>exact none
noncomputable def dT(f:List D→Option β)(d:D):Option β:=by cases d with|tuple i=>exact f i|_=>exact none
noncomputable def dL(f:List D→Option β)(d:D):Option β:=by cases d with|list i=>exact f i|_=>exact none
noncomputable def dO(f:Nat→Option β)(d:D):Option β:=by cases d with|obj i=>exact f i|_=>exact none
end
section
variable{β:Type}{σ:Nat→Addr}{h:Heap}{v:Value}{d:D}{r:β}{G:Value→Prop}
@[elab_as_elim] theorem ya{f:Bool→Option β}(e:dP f d=some r)(T:Tells σ h v d)(k:∀i,f i=some r→G (.bool i)):G v:=by cases d with|bool i=>exact ki T (k i e)|_=>exact aF e
@[elab_as_elim] theorem gI{f:Int→Option β}(e:dI f d=some r)(T:Tells σ h v d)(k:∀i t,f i=some r→G (.int i t)):G v:=by cases d with|int i=>exact jG T λt=>k i t e|_=>exact aF e
@[elab_as_elim] theorem CZ{f:List Nat→Option β}(e:dS f d=some r)(T:Tells σ h v d)(k:∀i t,f i=some r→G (.str (ao i) t)):G v:=by cases d with|str i=>exact jH T λt=>k i t e|_=>exact aF e
@[elab_as_elim] theorem qS{f:List Nat→Option β}(e:dB f d=some r)(T:Tells σ h v d)(k:∀i t,f i=some r→G (.bytes (cH i) t)):G v:=by cases d with|bytes i=>exact j5 T λt=>k i t e|_=>exact aF e
@[elab_as_elim] theorem afZ{f:List D→Option β}(e:dT f d=some r)(T:Tells σ h v d)(k:∀ds a us,f ds=some r→aQ h a "tuple" us→ax σ h us ds→G (.ref a)):G v:=by cases d with|tuple i=>exact mf T λa us x y=>k i a us e x y|_=>exact aF e
@[elab_as_elim] theorem yb{f:List D→Option β}(e:dL f d=some r)(T:Tells σ h v d)(k:∀ds a us,f ds=some r→aQ h a "list" us→ax σ h us ds→G (.ref a)):G v:=by cases d with|list i=>exact oE T λa us x y=>k i a us e x y|_=>exact aF e
@[elab_as_elim] theorem WY{f:Nat→Option β}(e:dO f d=some r)(T:Tells σ h v d)(k:∀i,f i=some r→G (.ref (σ i))):G v:=by cases d with|obj i=>exact rn T (k i e)|_=>exact aF e
theorem fg{b:Bool}{x:Option β}(h:ap b x none=some r):b=true∧x=some r:=by cases b with|true=>exact⟨rfl,h⟩|false=>exact aF h
theorem Ds{b:Bool}{x:Option β}(h:ap b none x=some r):b=false∧x=some r:=by cases b with|false=>exact⟨rfl,h⟩|true=>exact aF h
theorem jb{α:Type}{x:Option α}{f:α→Option β}{G:Prop}(h:cM x f=some r)(k:∀a,x=some a→f a=some r→G):G:=by cases x with|none=>exact aF h|some a=>exact k a rfl h
end
noncomputable def K8(b:D):Option Bool:=dN (some true) b
noncomputable def K9(p:Bool)(b:D):Option Bool:=dP (λq=>some (ap p q (ap q false true))) b
noncomputable def Mv(i:Int)(b:D):Option Bool:=dI (λj=>some (mH i j)) b
noncomputable def Mw(x:List Nat)(b:D):Option Bool:=dS (λy=>some (sEq x y)) b
noncomputable def J5(x:List Nat)(b:D):Option Bool:=dB (λy=>ap (gB x) (ap (gB y) (some (sEq x y)) none) none) b
noncomputable def lJ(f:D→D→Option Bool)(xs:List D):List D→Option Bool:=
 @List.rec D (λw=>List D→Option Bool) (λy=>@List.rec D (λw=>Option Bool) (some true) (λw w w=>some false) y)
  (λa w ih y=>@List.rec D (λw=>Option Bool) (some false) (λb t w=>cM (f a b) λp=>cM (ih t) λq=>some (ap p q false)) y) xs
noncomputable def Mx(f:D→D→Option Bool)(xs:List D)(b:D):Option Bool:=by cases b with|none=>exact some false|tuple ys=>exact lJ f xs ys|_=>exact none
noncomputable def WZ(f:D→D→Option Bool)(a b:D):Option Bool:=by
 cases a with|none=>exact K8 b|bool p=>exact K9 p b|int i=>exact Mv i b|str x=>exact Mw x b|bytes x=>exact J5 x b|tuple xs=>exact Mx f xs b|_=>exact none
noncomputable def g6(n:Nat):D→D→Option Bool:=@Nat.rec (λw=>D→D→Option Bool) (λw w=>none) (λw f=>WZ f) n
noncomputable def anyF(x:D)(l:List D):Option Bool:=
 @List.rec D (λw=>Option Bool) (some false) (λy w ih=>cM (g6 8 y x) λa=>cM ih λb=>ap (ig y) (some (ap a true b)) none) l
noncomputable def truth(d:D):Option Bool:=by cases d with|none=>exact some false|bool b=>exact some b|int i=>exact some (ap (mH i (.ofNat 0)) false true)|_=>exact none
noncomputable def Om(ds:List D)(i:Int):Option D:=@Int.rec (λw=>Option D) (λn=>ap (Nat.blt n 1000) (cZ ds n) none) (λn=>ap (Nat.blt n 1000) (ap (Nat.blt n (cU ds)) (cZ ds (Nat.sub (Nat.sub (cU ds) 1) n)) none) none) i
noncomputable def look(x:List Nat)(l:List (List Nat×D)):Option D:=
 @List.rec (List Nat×D) (λw=>Option D) none (λp w ih=>ap (sEq p.1 x) (some p.2) ih) l
noncomputable def big:Nat:=2^4096
noncomputable def fits(i:Int):Bool:=Nat.blt i.natAbs big
noncomputable def iP(f:Int→Int→Option D)(a b:D):Option D:=dI (λi=>dI (f i) b) a
noncomputable def short{α:Type}(x y:List α)(d:D):Option D:=ap (Nat.blt (Nat.add (cU x) (cU y)) 10000) (some d) none
noncomputable def My(a b:D):Option D:=by
 cases a with
 |int i=>exact dI (λj=>some (.int (Int.add i j))) b
 |str x=>exact dS (λy=>short x y (.str (x++y))) b
 |bytes x=>exact dB (λy=>short x y (.bytes (x++y))) b
 |list x=>exact dL (λy=>short x y (.list (x++y))) b
 |_=>exact none
noncomputable def abl(i j:Int):Option D:=some (.int (Int.sub i j))
noncomputable def Dt(i j:Int):Option D:=ap (fits i) (ap (fits j) (some (.int (Int.mul i j))) none) none
noncomputable def Du(i j:Int):Option D:=ap (mH j (.ofNat 0)) none (ap (fits j) (some (.int (Int.fdiv i j))) none)
noncomputable def Dv(i j:Int):Option D:=ap (mH j (.ofNat 0)) none (some (.int (Int.fmod i j)))
noncomputable def abm(i j:Int):Option D:=@Int.rec (λw=>Option D) (λa=>@Int.rec (λw=>Option D) (λb=>ap (Nat.blt a 1000) (ap (Nat.blt b 100000) (some (.int (.ofNat (Nat.pow a b)))) none) none) (λw=>none) j) (λw=>none) i
noncomputable def abn(i j:Int):Option D:=some (.int (Builtin.bitAnd i j))
noncomputable def iOr(i j:Int):Option D:=some (.int (Builtin.bitOr i j))
noncomputable def abo(i j:Int):Option D:=some (.int (Builtin.bitXor i j))
noncomputable def jI(op:Operator)(a b:D):Option D:=by
 cases op with
 |Add=>exact My a b
 |Sub=>exact iP abl a b
 |Mult=>exact iP Dt a b
 |FloorDiv=>exact iP Du a b
 |Mod=>exact iP Dv a b
 |Pow=>exact iP abm a b
 |BitAnd=>exact iP abn a b
 |BitOr=>exact iP iOr a b
 |BitXor=>exact iP abo a b
 |_=>exact none
noncomputable def yc(t:Nat)(d:D):Option Bool:=by
 cases d with
 |none=>exact some false
 |bool _=>exact some (ap (Nat.beq t 0) true (Nat.beq t 1))
 |int _=>exact some (Nat.beq t 1)
 |str _=>exact some false
 |bytes _=>exact some (Nat.beq t 2)
 |_=>exact none
noncomputable def pK(x y:List Nat):Bool:=!(PySem.Spec.ltCps y x)
noncomputable def abp(d:D):Option D:=dB (λds=>ap (Nat.blt (cU ds) 10000) (some (.int (.ofNat (cU ds)))) none) d
noncomputable def abq(d:D):Option D:=dI (λi=>some (.int (.ofNat i.natAbs))) d
noncomputable def intD(d:D):Option D:=dP (λp=>some (.int (ro p))) d
noncomputable def W8(d:D):Option D:=dB (λx=>ap (gB x) (ap (Nat.blt (cU x) 10000) (some (.list (x.map λn=>.int (.ofNat n)))) none) none) d
noncomputable def La{β:Type}(f:Nat→Option β)(i:Int):Option β:=@Int.rec (λw=>Option β) f (λw=>none) i
noncomputable def bytesOf(l:List D):Option (List Nat):=@List.rec D (λw=>Option (List Nat)) (some []) (λd w ih=>dI (La λn=>cM ih λx=>ap (Nat.blt n 256) (some (n::x)) none) d) l
noncomputable def Vp(d:D):Option D:=dL (λds=>ap (Nat.blt (cU ds) 10000) (cM (bytesOf ds) λx=>some (.bytes x)) none) d
noncomputable def l2{α β:Type}(f:α→α→Option β)(l:List α):Option β:=by cases l with
 |nil=>exact none
 |cons a l=>cases l with
  |nil=>exact none
  |cons b l=>cases l with
   |nil=>exact f a b
   |cons _ _=>exact none
noncomputable def W9(d:D):Option D:=dL (l2 λa b=>dS (λx=>dS (λy=>some (.list (ap (pK x y) [.str x,.str y] [.str y,.str x]))) b) a) d
noncomputable def pL(b:Nat)(d:D):Option D:=cM (cZ [abp,abq,intD,W8,Vp,W9] b) λf=>f d
noncomputable def Mz(i j:Int):Option D:=some (.int (ap (eO j i) j i))
noncomputable def MA(i j:Int):Option D:=some (.int (ap (eO i j) j i))
noncomputable def Aq(b:Nat)(x y:D):Option D:=ap (Nat.beq b 0) (iP Mz x y) (iP MA x y)
noncomputable def yC(x:D)(l:List D):Option Nat:=
 @List.rec D (λw=>Option Nat) (some 0) (λy w ih=>cM (g6 8 y x) λa=>cM ih λn=>ap (ig y) (some (ap a (Nat.succ n) n)) none) l
noncomputable def cLt(a b:D):Option Bool:=by cases a with
 |int i=>exact dI (λj=>some (eO i j)) b
 |bool p=>exact dP (λq=>some (eO (ro p) (ro q))) b
 |bytes x=>exact dB (λy=>some (Dr "__lt__" x y)) b
 |_=>exact none
noncomputable def cLe(a b:D):Option Bool:=dI (λi=>dI (λj=>some (ap (eO j i) false true)) b) a
noncomputable def cGt(a b:D):Option Bool:=by cases a with
 |int i=>exact dI (λj=>some (eO j i)) b
 |bool p=>exact dP (λq=>some (eO (ro q) (ro p))) b
 |bytes x=>exact dB (λy=>some (Dr "__gt__" x y)) b
 |_=>exact none
noncomputable def cGe(a b:D):Option Bool:=by cases a with
 |int i=>exact dI (λj=>some (ap (eO i j) false true)) b
 |bytes x=>exact dB (λy=>some (Dr "__ge__" x y)) b
 |_=>exact none
noncomputable def Dw(x:Option Bool):Option Bool:=cM x λb=>some (ap b false true)
noncomputable def Dx(a:D):Bool:=by cases a with|none=>exact true|_=>exact false
noncomputable def cIs(a b:D):Option Bool:=by cases b with
 |none=>exact some (Dx a)
 |bool q=>exact dP (λp=>some (ap p q (ap q false true))) a
 |_=>exact none
noncomputable def Fg(P:bJ)(a b:D):Option Bool:=by cases b with
 |tuple ds=>exact anyF a ds
 |list ds=>exact anyF a ds
 |obj k=>exact dS (λx=>cM (P.dict k) λl=>some (@Option.rec D (λw=>Bool) false (λw=>true) (look x l))) a
 |_=>exact none
noncomputable def On(a b:D):Option Bool:=by
 refine(λz=>?_) (g6 8 a b);cases b with
 |list ys=>exact dL (λxs=>lJ (g6 7) xs ys) a
 |_=>exact z
noncomputable def Vq(a b:D):Option Bool:=dN (some (ap (Dx a) false true)) b
noncomputable def fG(P:bJ)(op:CmpOp)(a b:D):Option Bool:=by
 cases op with
 |Eq=>exact On a b
 |NotEq=>exact Dw (g6 8 a b)
 |Lt=>exact cLt a b
 |LtE=>exact cLe a b
 |Gt=>exact cGt a b
 |GtE=>exact cGe a b
 |Is=>exact cIs a b
 |IsNot=>exact Vq a b
 |In=>exact Fg P a b
 |NotIn=>exact Dw (Fg P a b)
noncomputable def MB(P:bJ)(o i:D):Option D:=by cases o with
 |tuple ds=>exact dI (Om ds) i
 |str x=>exact dI (λn=>@Int.rec (λw=>Option D) (λn=>ap (Nat.blt n 1000) (cM (cZ x n) λc=>some (.str [c])) none) (λw=>none) n) i
 |obj k=>exact dS (λx=>cM (P.dict k) (look x)) i
 |_=>exact none
noncomputable def Xa(P:bJ)(o:D)(n:Nat):Option D:=dO (λk=>P.attr k n) o
noncomputable def C0(o:aZ):Out D:=by cases o with|next _=>exact .ok .none|ret d=>exact .ok d|exc d=>exact .exc d|stuck=>exact .stuck
noncomputable def yd(n:Nat):List (Option D):=@Nat.rec (λw=>List (Option D)) [] (λw l=>none::l) n
noncomputable def j6(ds:List D)(nl:Nat):List (Option D):=@List.rec D (λw=>List (Option D)) (yd nl) (λd w l=>some d::l) ds
noncomputable def uQ(r:Rc)(np nl:Nat)(b:List S)(ds:List D):Out D:=
 ap (Nat.beq (cU ds) np) (C0 (r.ex (j6 ds nl) b)) .stuck
noncomputable def gV(P:bJ)(r:Rc)(f:Nat)(ds:List D):Out D:=
 @Option.rec Fn (λw=>Out D) .stuck (λq=>uQ r q.1 q.2.1 q.2.2.2 (ap q.2.2.1 (ap (Nat.beq (Nat.succ (cU ds)) q.1) (ds++[.none]) ds) ds)) (cZ P.fn f)
noncomputable def ye(ks:List (List Nat))(ds:List D):List (List Nat×D):=ks.zip ds
noncomputable def mh(f:E→Out D)(and:Bool)(l:List E):Out D:=
 @List.rec E (λw=>Out D) .stuck (λe es ih=>@List.rec E (λw=>Out D) (f e) (λw w w=>(f e).bind λd=>@Option.rec Bool (λw=>Out D) .stuck (λt=>ap (ap and t (ap t false true)) ih (.ok d)) (truth d)) es) l
noncomputable def mj(f:E→Out Bool)(and:Bool)(l:List E):Out Bool:=
 @List.rec E (λw=>Out Bool) (.ok and) (λe w ih=>(f e).bind λt=>ap (ap and t (ap t false true)) ih (.ok t)) l
noncomputable def uR(ρ:List (Option D))(n:Nat):Out D:=@Option.rec (Option D) (λw=>Out D) .stuck (λx=>Out.of x) (cZ ρ n)
noncomputable def yD(r:Rc)(ρ:List (Option D))(es:List E):Out D:=(cj (r.ev ρ) es).bind λds=>.ok (.tuple ds)
noncomputable def Dy(r:Rc)(ρ:List (Option D))(es:List E):Out D:=(cj (r.ev ρ) es).bind λds=>.ok (.list ds)
noncomputable def yf(P:bJ)(r:Rc)(ρ:List (Option D))(e:E)(n:Nat):Out D:=(r.ev ρ e).bind λd=>.of (Xa P d n)
noncomputable def yE(P:bJ)(r:Rc)(ρ:List (Option D))(e i:E):Out D:=(r.ev ρ e).bind λd=>(r.ev ρ i).bind λj=>.of (MB P d j)
noncomputable def yF(r:Rc)(ρ:List (Option D))(op:Operator)(a b:E):Out D:=(r.ev ρ a).bind λx=>(r.ev ρ b).bind λy=>.of (jI op x y)
noncomputable def abr(x:D):Out D:=by cases x with|int i=>exact .ok (.int (Int.neg i))|_=>exact .stuck
noncomputable def yG(r:Rc)(ρ:List (Option D))(a:E):Out D:=(r.ev ρ a).bind abr
noncomputable def Ar(r:Rc)(ρ:List (Option D))(a:E):Out D:=(r.ev ρ a).bind λx=>(Out.of (truth x)).bind λt=>.ok (.bool (ap t false true))
noncomputable def jJ(P:bJ)(r:Rc)(ρ:List (Option D))(op:CmpOp)(a b:E):Out Bool:=(r.ev ρ a).bind λx=>(r.ev ρ b).bind λy=>.of (fG P op x y)
noncomputable def ij(P:bJ)(r:Rc)(ρ:List (Option D))(o1 o2:CmpOp)(a b c:E):Out Bool:=
 (r.ev ρ a).bind λx=>(r.ev ρ b).bind λy=>(Out.of (fG P o1 x y)).bind λt=>ap t ((r.ev ρ c).bind λz=>.of (fG P o2 y z)) (.ok false)
noncomputable def kR(x:Out Bool):Out D:=x.bind λt=>.ok (.bool t)
noncomputable def yH(r:Rc)(ρ:List (Option D))(c t f:E):Out D:=(r.ts ρ c).bind λb=>r.ev ρ (ap b t f)
noncomputable def yI(r:Rc)(ρ:List (Option D))(c t f:E):Out Bool:=(r.ts ρ c).bind λb=>r.ts ρ (ap b t f)
noncomputable def uv(P:bJ)(r:Rc)(ρ:List (Option D))(m:Nat)(es:List E)(d:D):Out D:=by
 cases d with
 |obj k=>exact@Option.rec Nat (λw=>Out D) .stuck (λf=>(cj (r.ev ρ) es).bind λds=>gV P r f (.obj k::ds)) (P.bc k m)
 |_=>exact .stuck
noncomputable def Vr(f:List D→Out D)(d:D):Out D:=by cases d with|list ds=>exact f ds|_=>exact .stuck
noncomputable def uS(r:Rc)(ρ:List (Option D))(l x:E):Out D:=(r.ev ρ l).bind (Vr λds=>(r.ev ρ x).bind λy=>(Out.of (yC y ds)).bind λn=>.ok (.int (.ofNat n)))
noncomputable def onStr(d:D)(f:List Nat→Out D):Out D:=by cases d with|str x=>exact f x|_=>exact .stuck
noncomputable def yg(r:Rc)(ρ:List (Option D))(ks:List (List Nat))(vs:List E)(k:E):Out D:=
 (cj (r.ev ρ) vs).bind λds=>(r.ev ρ k).bind λx=>onStr x λx=>.of (look x (ye ks ds))
noncomputable def yh(r:Rc)(ρ:List (Option D))(ks:List (List Nat))(vs:List E)(k:E):Out D:=
 (cj (r.ev ρ) vs).bind λds=>(r.ev ρ k).bind λx=>onStr x λx=>.ok ((look x (ye ks ds)).getD .none)
noncomputable def yi(r:Rc)(ρ:List (Option D))(ks:List (List Nat))(vs:List E)(k z:E):Out D:=
 (cj (r.ev ρ) vs).bind λds=>(r.ev ρ k).bind λx=>(r.ev ρ z).bind λz=>onStr x λx=>.ok ((look x (ye ks ds)).getD z)
noncomputable def pM(d:D):Bool:=by cases d with|int i=>exact mH i (.ofNat 0)|_=>exact false
noncomputable def xI(o:D)(x:Out D):Out D:=by cases o with|obj k=>exact ap (Nat.beq k 0) x .stuck|_=>exact .stuck
noncomputable def lQ(r:Rc)(ρ:List (Option D))(c sp:E):Out D:=(uR ρ 0).bind λo=>xI o ((r.ev ρ sp).bind λd=>ap (pM d) .stuck (@Out.rec D (λw=>Out D) .ok (λd'=>ap (pM d') (.exc d) .stuck) .stuck (r.ev ρ c)))
noncomputable def qT(P:bJ)(r:Rc)(ρ:List (Option D))(e:E):Out D:=by
 cases e with
 |lit d=>exact .ok d
 |var n=>exact uR ρ n
 |gl k=>exact .ok (P.glob k)
 |tup es=>exact yD r ρ es
 |lst es=>exact Dy r ρ es
 |attr e n=>exact yf P r ρ e n
 |sub e i=>exact yE P r ρ e i
 |bin op a b=>exact yF r ρ op a b
 |neg a=>exact yG r ρ a
 |no a=>exact Ar r ρ a
 |cmp op a b=>exact kR (jJ P r ρ op a b)
 |iZ o1 o2 a b c=>exact kR (ij P r ρ o1 o2 a b c)
 |bl and es=>exact mh (r.ev ρ) and es
 |ite c t f=>exact yH r ρ c t f
 |call f es=>exact(cj (r.ev ρ) es).bind (gV P r f)
 |bc o m es=>exact(r.ev ρ o).bind (uv P r ρ m es)
 |isin e t=>exact(r.ev ρ e).bind λd=>kR (.of (yc t d))
 |b1 b e=>exact(r.ev ρ e).bind λd=>.of (pL b d)
 |b2 b x y=>exact(r.ev ρ x).bind λi=>(r.ev ρ y).bind λj=>.of (Aq b i j)
 |cnt l x=>exact uS r ρ l x
 |gU ks vs k=>exact yg r ρ ks vs k
 |oZ ks vs k=>exact yh r ρ ks vs k
 |o7 ks vs k z=>exact yi r ρ ks vs k z
 |i6 c sp=>exact@Option.rec Nat (λw=>Out D) .stuck (λw=>lQ r ρ c sp) (P.bc 0 0)
 |stop=>exact .stuck
noncomputable def lS(r:Rc)(ρ:List (Option D))(e:E):Out Bool:=(r.ev ρ e).bind λd=>.of (truth d)
noncomputable def stepT(P:bJ)(r:Rc)(ρ:List (Option D))(e:E):Out Bool:=by
 refine(λz=>?_) (lS r ρ e);cases e with
 |no a=>exact(r.ts ρ a).bind λt=>.ok (ap t false true)
 |bl and es=>exact mj (r.ts ρ) and es
 |ite c t f=>exact yI r ρ c t f
 |cmp op a b=>exact jJ P r ρ op a b
 |iZ o1 o2 a b c=>exact ij P r ρ o1 o2 a b c
 |_=>exact z
noncomputable def fh(n:Nat)(d:D)(ρ:List (Option D)):List (Option D):=
 @List.rec (Option D) (λw=>Nat→List (Option D)) (λw=>[]) (λx r ih n=>@Nat.rec (λw=>List (Option D)) (some d::r) (λm w=>x::ih m) n) ρ n
noncomputable def eW(xs:List Nat):List D→List (Option D)→List (Option D):=
 @List.rec Nat (λw=>List D→List (Option D)→List (Option D)) (λw ρ=>ρ) (λx w ih ds ρ=>@List.rec D (λw=>List (Option D)) ρ (λd r w=>ih r (fh x d ρ)) ds) xs
noncomputable def o9(f:List (Option D)→aZ)(x:Nat)(n:Nat):Nat→List (Option D)→aZ:=
 @Nat.rec (λw=>Nat→List (Option D)→aZ) (λw ρ=>.next ρ) (λw ih i ρ=>@aZ.rec (λw=>aZ) (λb9=>ih (Nat.succ i) b9) .ret (λw=>.stuck) .stuck (f (fh x (.int (.ofNat i)) ρ))) n
noncomputable def ml(t:List (Option D)→Out Bool)(f:List (Option D)→aZ)(n:Nat):List (Option D)→aZ:=
 @Nat.rec (λw=>List (Option D)→aZ) (λw=>.stuck) (λw ih ρ=>@Out.rec Bool (λw=>aZ) (λb=>ap b (@aZ.rec (λw=>aZ) ih .ret (λw=>.stuck) .stuck (f ρ)) (.next ρ)) (λw=>.stuck) .stuck (t ρ)) n
noncomputable def yJ(r:Rc)(ρ:List (Option D))(x:Nat)(e:E):aZ:=@Out.rec D (λw=>aZ) (λd=>.next (fh x d ρ)) .exc .stuck (r.ev ρ e)
noncomputable def uw(r:Rc)(ρ:List (Option D))(xs:List Nat)(es:List E):aZ:=
 @Out.rec (List D) (λw=>aZ) (λds=>ap (Nat.beq (cU ds) (cU xs)) (.next (eW xs ds ρ)) .stuck) .exc .stuck (cj (r.ev ρ) es)
noncomputable def abt(xs:List Nat)(ρ:List (Option D))(d:D):aZ:=by
 cases d with
 |tuple ds=>exact ap (Nat.beq (cU ds) (cU xs)) (.next (eW xs ds ρ)) .stuck
 |_=>exact .stuck
noncomputable def uT(r:Rc)(ρ:List (Option D))(xs:List Nat)(e:E):aZ:=@Out.rec D (λw=>aZ) (abt xs ρ) .exc .stuck (r.ev ρ e)
noncomputable def yK(r:Rc)(ρ:List (Option D))(e:E):aZ:=@Out.rec D (λw=>aZ) .ret .exc .stuck (r.ev ρ e)
noncomputable def yL(r:Rc)(ρ:List (Option D))(c:E)(t f:List S):aZ:=@Out.rec Bool (λw=>aZ) (λb=>r.ex ρ (ap b t f)) .exc .stuck (r.ts ρ c)
noncomputable def isStr(d:D):Bool:=by cases d with|str _=>exact true|_=>exact false
noncomputable def Dz(x:Out D):aZ:=@Out.rec D (λw=>aZ) .exc (λw=>.stuck) .stuck x
noncomputable def kj(r:Rc)(ρ:List (Option D))(m:E)(sp:Option E):aZ:=
 @Out.rec D (λw=>aZ) (λd=>ap (isStr d) (@Option.rec E (λw=>aZ) (.exc (.int (.ofNat 0))) (λe=>Dz (r.ev ρ e)) sp) .stuck) (λw=>.stuck) .stuck (r.ev ρ m)
noncomputable def xJ(P:bJ)(r:Rc)(ρ:List (Option D))(st:S):aZ:=by
 cases st with
 |asg x e=>exact yJ r ρ x e
 |ix xs es=>exact uw r ρ xs es
 |ja xs e=>exact uT r ρ xs e
 |ret e=>exact yK r ρ e
 |ite c t f=>exact yL r ρ c t f
 |pJ c b=>exact ml (λρ=>r.ts ρ c) (λρ=>r.ex ρ b) 4 ρ
 |mG x n b=>exact o9 (λρ=>r.ex ρ b) x n 0 ρ
 |dG m sp=>exact kj r ρ m sp
 |stop=>exact .stuck
noncomputable def ux(P:bJ)(r:Rc)(ρ:List (Option D))(l:List S):aZ:=
 @List.rec S (λw=>List (Option D)→aZ) .next (λst w ih ρ=>@aZ.rec (λw=>aZ) ih .ret .exc .stuck (xJ P r ρ st)) l ρ
noncomputable def rec(P:bJ)(n:Nat):Rc:=
 @Nat.rec (λw=>Rc) ⟨λw w=>.stuck,λw w=>.stuck,λw w=>.stuck⟩ (λw r=>⟨qT P r,stepT P r,ux P r⟩) n
theorem aw{C:Prop}(h:false=true):C:=Bool.noConfusion h
theorem ba{a b:Bool}(h:(a&&b)=true):a=true∧b=true:=Bool.and_eq_true_iff.mp h
theorem a1{a b:Bool}(h:(a&&b)=true):a=true:=(ba h).1
theorem a2{a b:Bool}(h:(a&&b)=true):b=true:=(ba h).2
theorem kq{b:Bool}(h:(!b)=true):b=false:=by cases b;rfl;cases h
noncomputable def asName(e:Expr):Option Str:=by cases e with|Name x _=>exact some x|_=>exact none
noncomputable def qz(e:Expr):Option Const:=by cases e with|Constant c _ _=>exact some c|_=>exact none
section
variable{p:Expr}{G:Expr→Prop}
@[elab_as_elim] theorem RC{x}(h:asName p=some x)(k:∀q,G (.Name x q)):G p:=by
 revert h;cases p<;>intro h<;>first|exact aF h|exact au h▸k _
@[elab_as_elim] theorem Q9{x}(h:qz p=some x)(k:∀n q,G (.Constant x n q)):G p:=by
 revert h;cases p<;>intro h<;>first|exact aF h|exact au h▸k _ _
noncomputable def jr(f:Str→Bool)(e:Expr):Bool:=by cases e with|Name x _=>exact f x|_=>exact false
@[elab_as_elim] theorem lC{f}(h:jr f p=true)(k:∀x q1,f x=true→G (.Name x q1)):G p:=by
 revert h;cases p<;>intro h<;>first|exact aw h|exact k _ _ h
noncomputable def uc(f:Const→Bool)(e:Expr):Bool:=by cases e with|Constant x _ _=>exact f x|_=>exact false
@[elab_as_elim] theorem xf{f}(h:uc f p=true)(k:∀x q1 q2,f x=true→G (.Constant x q1 q2)):G p:=by
 revert h;cases p<;>intro h<;>first|exact aw h|exact k _ _ _ h
noncomputable def lT(f:(List Expr)→Bool)(e:Expr):Bool:=by cases e with|Tuple l _ _=>exact f l|_=>exact false
@[elab_as_elim] theorem xl{f}(h:lT f p=true)(k:∀l q1 q2,f l=true→G (.Tuple l q1 q2)):G p:=by
 revert h;cases p<;>intro h<;>first|exact aw h|exact k _ _ _ h
noncomputable def Lb(f:(List Expr)→Bool)(e:Expr):Bool:=by cases e with|List l _=>exact f l|_=>exact false
@[elab_as_elim] theorem Sx{f}(h:Lb f p=true)(k:∀l q1,f l=true→G (.List l q1)):G p:=by
 revert h;cases p<;>intro h<;>first|exact aw h|exact k _ _ h
noncomputable def J6(f:Expr→Str→Bool)(e:Expr):Bool:=by cases e with|Attribute o a _=>exact f o a|_=>exact false
@[elab_as_elim] theorem RE{f}(h:J6 f p=true)(k:∀o a q2,f o a=true→G (.Attribute o a q2)):G p:=by
 revert h;cases p<;>intro h<;>first|exact aw h|exact k _ _ _ h
noncomputable def yj(f:Expr→Expr→Bool)(e:Expr):Bool:=by cases e with|Subscript o i _=>exact f o i|_=>exact false
@[elab_as_elim] theorem BN{f}(h:yj f p=true)(k:∀o i q2,f o i=true→G (.Subscript o i q2)):G p:=by
 revert h;cases p<;>intro h<;>first|exact aw h|exact k _ _ _ h
noncomputable def C7(f:Expr→Operator→Expr→Bool)(e:Expr):Bool:=by cases e with|BinOp l o r _=>exact f l o r|_=>exact false
@[elab_as_elim] theorem IH{f}(h:C7 f p=true)(k:∀l o r q3,f l o r=true→G (.BinOp l o r q3)):G p:=by
 revert h;cases p<;>intro h<;>first|exact aw h|exact k _ _ _ _ h
noncomputable def DA(f:UnaryOp→Expr→Bool)(e:Expr):Bool:=by cases e with|UnaryOp o x _=>exact f o x|_=>exact false
@[elab_as_elim] theorem Jn{f}(h:DA f p=true)(k:∀o x q2,f o x=true→G (.UnaryOp o x q2)):G p:=by
 revert h;cases p<;>intro h<;>first|exact aw h|exact k _ _ _ h
noncomputable def C8(f:Expr→(List CmpOp)→(List Expr)→Bool)(e:Expr):Bool:=by cases e with|Compare l o r _=>exact f l o r|_=>exact false
@[elab_as_elim] theorem II{f}(h:C8 f p=true)(k:∀l o r q3,f l o r=true→G (.Compare l o r q3)):G p:=by
 revert h;cases p<;>intro h<;>first|exact aw h|exact k _ _ _ _ h
noncomputable def MC(f:BoolOp→(List Expr)→Bool)(e:Expr):Bool:=by cases e with|BoolOp o l _=>exact f o l|_=>exact false
@[elab_as_elim] theorem Ud{f}(h:MC f p=true)(k:∀o l q2,f o l=true→G (.BoolOp o l q2)):G p:=by
 revert h;cases p<;>intro h<;>first|exact aw h|exact k _ _ _ h
noncomputable def Lc(f:Expr→Expr→Expr→Bool)(e:Expr):Bool:=by cases e with|IfExp c t e _=>exact f c t e|_=>exact false
@[elab_as_elim] theorem Sy{f}(h:Lc f p=true)(k:∀c t e q3,f c t e=true→G (.IfExp c t e q3)):G p:=by
 revert h;cases p<;>intro h<;>first|exact aw h|exact k _ _ _ _ h
noncomputable def J7(f:(List (Option Expr))→(List Expr)→Bool)(e:Expr):Bool:=by cases e with|Dict k v _=>exact f k v|_=>exact false
@[elab_as_elim] theorem RF{f}(h:J7 f p=true)(k:∀k v q2,f k v=true→G (.Dict k v q2)):G p:=by
 revert h;cases p<;>intro h<;>first|exact aw h|exact k _ _ _ h
noncomputable def Ld(f:Arguments→Expr→Scope→Bool)(e:Expr):Bool:=by cases e with|Lambda a b s _=>exact f a b s|_=>exact false
@[elab_as_elim] theorem Sz{f}(h:Ld f p=true)(k:∀a b s q3,f a b s=true→G (.Lambda a b s q3)):G p:=by
 revert h;cases p<;>intro h<;>first|exact aw h|exact k _ _ _ _ h
noncomputable def nZ(f:Str→List Expr→Bool)(e:Expr):Bool:=by
 cases e with
 |Call g l k _=>cases k with
  |nil=>exact jr (λx=>f x l) g
  |cons _ _=>exact false
 |_=>exact false
@[elab_as_elim] theorem nR{f}(h:nZ f p=true)(k:∀x q l r,f x l=true→G (.Call (.Name x q) l [] r)):G p:=by
 revert h;cases p with
 |Call g l ks r=>cases ks with
  |nil=>exact λh=>lC (G:=λg=>G (.Call g l [] r)) h λx q h=>k x q l r h
  |cons _ _=>exact aw
 |_=>exact aw
noncomputable def qF(f:Expr→Str→List Expr→Bool)(e:Expr):Bool:=by
 cases e with
 |Call g l k q=>cases k with
  |nil=>cases g with
   |Attribute o x p=>exact p.endLine==q.line&&f o x l
   |_=>exact false
  |cons _ _=>exact false
 |_=>exact false
@[elab_as_elim] theorem tZ{f}(h:qF f p=true)(k:∀o x q l r,q.endLine=r.line→f o x l=true→G (.Call (.Attribute o x q) l [] r)):G p:=by
 revert h;cases p with
 |Call g l ks r=>cases ks with
  |nil=>cases g with
   |Attribute o x q=>exact λh=>k o x q l r (eq_of_beq (a1 h)) (a2 h)
   |_=>exact aw
  |cons _ _=>exact aw
 |_=>exact aw
end
section
variable{α:Type}{l:List α}{G:List α→Prop}
noncomputable def gs(l:List α):Bool:=by cases l with|nil=>exact true|_=>exact false
noncomputable def tq(f:α→List α→Bool)(l:List α):Bool:=by cases l with|cons a l=>exact f a l|_=>exact false
noncomputable def iA(f:α→Bool)(l:List α):Bool:=tq (λa l=>f a&&gs l) l
noncomputable def kS(f:α→α→Bool)(l:List α):Bool:=tq (λa l=>iA (f a) l) l
@[elab_as_elim] theorem gF(h:gs l=true)(k:G []):G l:=by cases l with|nil=>exact k|cons _ _=>exact aw h
@[elab_as_elim] theorem uj{f}(h:tq f l=true)(k:∀a l,f a l=true→G (a::l)):G l:=by cases l with|nil=>exact aw h|cons a l=>exact k a l h
@[elab_as_elim] theorem iQ{f}(h:iA f l=true)(k:∀a,f a=true→G [a]):G l:=uj h λa l h=>gF (G:=λl=>G (a::l)) (a2 h) (k a (a1 h))
@[elab_as_elim] theorem og{f}(h:kS f l=true)(k:∀a b,f a b=true→G [a,b]):G l:=uj h λa l h=>iQ (G:=λl=>G (a::l)) h λb h=>k a b h
noncomputable def iC(f:α→Bool)(o:Option α):Bool:=by cases o with|some a=>exact f a|_=>exact false
@[elab_as_elim] theorem xK{o:Option α}{f}{G:Option α→Prop}(h:iC f o=true)(k:∀a,f a=true→G (some a)):G o:=by cases o with|none=>exact aw h|some a=>exact k a h
end
noncomputable def J8(d:D):Const→Bool:=by
 cases d with
 |none=>exact λc=>by cases c with|none=>exact true|_=>exact false
 |bool p=>exact λc=>by cases c with|bool q=>exact p==q|_=>exact false
 |int p=>exact λc=>by cases c with|int q=>exact p==q|_=>exact false
 |str p=>exact λc=>by cases c with|str q=>exact ao p==q|_=>exact false
 |bytes p=>exact λc=>by cases c with|bytes q=>exact(cH p).toList==q|_=>exact false
 |_=>exact λZ=>false
structure Nm where
 glob:List Str
 attr:List Str
 bc:List Str
 fn:List Str
noncomputable def rp(ks:List (List Nat))(es:List (Option Expr)):Bool:=decide ks.Nodup&&decide (0<ks.length)&&decide (ks.length≤15)&&ks.length==es.length&&(ks.zip es).all λq=>iC (λe=>qz e==some (.str (ao q.1))) q.2
noncomputable def Fh{α:Type}(o:Option α):Bool:=by cases o with|none=>exact true|_=>exact false
abbrev noArgs:Arguments:={posonlyargs:=[],args:=[],vararg:=none,kwonlyargs:=[],kw_defaults:=[],kwarg:=none,defaults:=[]}
noncomputable def gJ(a:Arguments)(sc:Scope):Bool:=gs a.posonlyargs&&(gs a.args&&(Fh a.vararg&&(gs a.kwonlyargs&&(gs a.kw_defaults&&(Fh a.kwarg&&(gs a.defaults&&(sc.kind==.function&&!sc.isGenerator&&!sc.isCoroutine&&!(sc.names.lookup ("self":Str)==some .cell))))))))
theorem J9{α:Type}{o:Option α}{G:Option α→Prop}(h:Fh o=true)(k:G none):G o:=by cases o with|none=>exact k|some _=>exact aw h
theorem BO{a:Arguments}{sc:Scope}{G:Arguments→Prop}(h:gJ a sc=true)(k:sc.kind=.function→sc.isGenerator=false→sc.isCoroutine=false→G noArgs):G a:=by
 obtain⟨b1,b2,b3,b4,b5,b6,b7⟩:=a;exact gF (G:=λb=>G ⟨b,b2,b3,b4,b5,b6,b7⟩) (a1 h) (gF (G:=λb=>G ⟨[],b,b3,b4,b5,b6,b7⟩) (a1 (a2 h)) (J9 (G:=λb=>G ⟨[],[],b,b4,b5,b6,b7⟩) (a1 (a2 (a2 h))) (gF (G:=λb=>G ⟨[],[],none,b,b5,b6,b7⟩) (a1 (a2 (a2 (a2 h))))
  (gF (G:=λb=>G ⟨[],[],none,[],b,b6,b7⟩) (a1 (a2 (a2 (a2 (a2 h))))) (J9 (G:=λb=>G ⟨[],[],none,[],[],b,b7⟩) (a1 (a2 (a2 (a2 (a2 (a2 h)))))) (gF (G:=λb=>G ⟨[],[],none,[],[],none,b⟩) (a1 (a2 (a2 (a2 (a2 (a2 (a2 h)))))))
   (have z:=a2 (a2 (a2 (a2 (a2 (a2 (a2 h))))));k (eq_of_beq (a1 (a1 (a1 z)))) (kq (a2 (a1 (a1 z)))) (kq (a2 (a1 z))))))))))
noncomputable def Ka:List Str:=["bool","int","bytes"]
noncomputable def DB:List Str:=["len","abs","int","list","bytes","sorted"]
noncomputable def MD:List Str:=["min","max"]
noncomputable def dX(sc:Scope)(x:Str):Bool:=sc.names.lookup x==some .globalImplicit&&!(x=="__debug__")
noncomputable def gK(sl:Scope)(vs:List (Option Str)):List (Option Str):=vs.map λo=>cM o λx=>ap (sl.names.lookup x==some .free) (some x) none
noncomputable def freeOk(sc sl:Scope)(vs:List (Option Str)):Bool:=sl.names.all λq=>q.2 !=.cell&&(q.2 !=.free||(sc.names.lookup q.1==some .cell&&vs.contains (some q.1)&&!(q.1==("__classdict__":Str))))
noncomputable def f0(p:Expr):Bool:=by
 cases p with
 |Call g l k _=>exact !(jr (λZ=>gs l&&gs k) g)
 |_=>exact true
noncomputable def odd(p:Expr):Bool:=by cases p with|Starred _ _=>exact true|Set _ _ _=>exact true|_=>exact false
abbrev ME:=Scope→List (Option Str)→Expr→Bool
noncomputable def dk(ks:List (List Nat))(f:List Expr→Bool)(o:Expr):Bool:=J7 (λke l=>rp ks ke&&decide (ks.length=l.length)&&f l) o
noncomputable def mE(N:Nm)(sc:Scope)(vs:List (Option Str))(e:E)(p:Expr):Bool:=@E.rec (λZ=>ME) (λZ=>Scope→List (Option Str)→List Expr→Bool)
 (λd Z Z=>uc (J8 d))
 (λi Z vs=>jr λx=>vs[i]?==some (some x)&&!(x=="__debug__"))
 (λk sc Z=>jr λx=>N.glob[k]?==some x&&dX sc x)
 (λZ r sc vs=>lT λl=>decide (l.length<1000)&&r sc vs l)
 (λZ r sc vs=>Lb λl=>decide (l.length<1000)&&r sc vs l)
 (λZ k r sc vs=>J6 λo a=>f0 o&&N.attr[k]?==some a&&r sc vs o)
 (λZ Z r t sc vs=>yj λo j=>r sc vs o&&t sc vs j)
 (λop Z Z r t sc vs=>C7 λl o x=>o==op&&r sc vs l&&t sc vs x)
 (λZ r sc vs=>DA λo x=>o==.USub&&r sc vs x)
 (λZ r sc vs=>DA λo x=>o==.Not&&r sc vs x)
 (λop Z Z r t sc vs=>C8 λl os rs=>iA (λo=>o==op&&iA (λx=>!odd x&&r sc vs l&&t sc vs x) rs) os)
 (λo1 o2 Z Z Z r t u sc vs=>C8 λl os rs=>kS (λp1 p2=>p1==o1&&p2==o2&&kS (λr1 r2=>!odd r1&&!odd r2&&r sc vs l&&t sc vs r1&&u sc vs r2) rs) os)
 (λw Z r sc vs=>MC λo l=>o==(if w then .And else .Or)&&r sc vs l)
 (λZ Z Z r t u sc vs=>Lc λa b d=>r sc vs a&&t sc vs b&&u sc vs d)
 (λf Z r sc vs=>nZ λx l=>N.fn[f]?==some x&&!(x==("":Str))&&dX sc x&&r sc vs l)
 (λZ m Z r t sc vs=>qF λq x l=>f0 q&&N.bc[m]?==some x&&decide (l.length<29)&&r sc vs q&&t sc vs l)
 (λZ t r sc vs=>nZ λx l=>x=="isinstance"&&dX sc x&&kS (λa b=>!odd a&&jr (λy=>Ka[t]?==some y&&dX sc y) b&&r sc vs a) l)
 (λb Z r sc vs=>nZ λx l=>DB[b]?==some x&&dX sc x&&iA (λa=>!odd a&&r sc vs a) l)
 (λb Z Z r t sc vs=>nZ λx l=>MD[b]?==some x&&dX sc x&&kS (λa y=>!odd a&&!odd y&&r sc vs a&&t sc vs y) l)
 (λZ Z r t sc vs=>qF λq n l=>f0 q&&n=="count"&&r sc vs q&&iA (λa=>!odd a&&t sc vs a) l)
 (λks Z Z r t sc vs=>yj λo j=>dk ks (r sc vs) o&&t sc vs j)
 (λks Z Z r t sc vs=>qF λq n l=>n=="get"&&dk ks (r sc vs) q&&iA (λa=>!odd a&&t sc vs a) l)
 (λks Z Z Z r t u sc vs=>qF λq n l=>n=="get"&&dk ks (r sc vs) q&&kS (λa b=>!odd a&&!odd b&&t sc vs a&&u sc vs b) l)
 (λZ Z r t sc vs=>qF λq n l=>n=="reckoned"&&jr (λz=>z=="self") q&&vs[0]?==some (some ("self":Str))&&sc.names.lookup ("self":Str)==some .cell&&
  kS (λa b=>!odd b&&Ld (λar e sl=>gJ ar sl&&freeOk sc sl vs&&r sl (gK sl vs) e) a&&t sc vs b) l)
 (λZ Z Z=>true)
 (λZ Z=>gs)
 (λZ Z r t sc vs=>tq λp ps=>!odd p&&r sc vs p&&t sc vs ps)
 e sc vs p
noncomputable def dz(N:Nm)(sc:Scope)(vs:List (Option Str))(es:List E)(l:List Expr):Bool:=mE N sc vs (.bl true es) (.BoolOp .And l default)
section
variable{N:Nm}{sc:Scope}{vs:List (Option Str)}{p:Expr}{G:Expr→Prop}{i:Nat}{a b e:E}{es:List E}{ks:List (List Nat)}
@[elab_as_elim] theorem qU{l:List Expr}{G:List Expr→Prop}(h:dz N sc vs [] l=true)(k:G []):G l:=gF h k
@[elab_as_elim] theorem oh{l:List Expr}{G:List Expr→Prop}(h:dz N sc vs (e::es) l=true)(k:∀p ps,(!odd p)=true→mE N sc vs e p=true→dz N sc vs es ps=true→G (p::ps)):G l:=
 uj h λp ps h=>k p ps (a1 (a1 h)) (a2 (a1 h)) (a2 h)
@[elab_as_elim] theorem Le{d:D}(h:mE N sc vs (.lit d) p=true)(k:∀x n q,J8 d x=true→G (.Constant x n q)):G p:=xf h k
@[elab_as_elim] theorem Lf(h:mE N sc vs (.var i) p=true)(k:∀x q,vs[i]?=some (some x)→(x==("__debug__":Str))=false→G (.Name x q)):G p:=lC h λx q h=>k x q (eq_of_beq (a1 h)) (kq (a2 h))
@[elab_as_elim] theorem MF(h:mE N sc vs (.gl i) p=true)(k:∀x q,N.glob[i]?=some x→dX sc x=true→G (.Name x q)):G p:=lC h λx q h=>k x q (eq_of_beq (a1 h)) (a2 h)
@[elab_as_elim] theorem Lg(h:mE N sc vs (.tup es) p=true)(k:∀l n q,l.length<1000→dz N sc vs es l=true→G (.Tuple l n q)):G p:=xl h λl n q h=>k l n q (aR (a1 h)) (a2 h)
@[elab_as_elim] theorem Lh(h:mE N sc vs (.lst es) p=true)(k:∀l q,l.length<1000→dz N sc vs es l=true→G (.List l q)):G p:=Sx h λl q h=>k l q (aR (a1 h)) (a2 h)
@[elab_as_elim] theorem Kc(h:mE N sc vs (.attr e i) p=true)(k:∀o x q,f0 o=true→N.attr[i]?=some x→mE N sc vs e o=true→G (.Attribute o x q)):G p:=RE h λo x q h=>k o x q (a1 (a1 h)) (eq_of_beq (a2 (a1 h))) (a2 h)
@[elab_as_elim] theorem Li(h:mE N sc vs (.sub a b) p=true)(k:∀o j q,mE N sc vs a o=true→mE N sc vs b j=true→G (.Subscript o j q)):G p:=BN h λo j q h=>k o j q (a1 h) (a2 h)
@[elab_as_elim] theorem Lj{op}(h:mE N sc vs (.bin op a b) p=true)(k:∀l r q,mE N sc vs a l=true→mE N sc vs b r=true→G (.BinOp l op r q)):G p:=IH h λl o r q h=>eq_of_beq (a1 (a1 h))▸k l r q (a2 (a1 h)) (a2 h)
@[elab_as_elim] theorem Lk(h:mE N sc vs (.neg a) p=true)(k:∀x q,mE N sc vs a x=true→G (.UnaryOp .USub x q)):G p:=Jn h λo x q h=>eq_of_beq (a1 h)▸k x q (a2 h)
@[elab_as_elim] theorem MG(h:mE N sc vs (.no a) p=true)(k:∀x q,mE N sc vs a x=true→G (.UnaryOp .Not x q)):G p:=Jn h λo x q h=>eq_of_beq (a1 h)▸k x q (a2 h)
@[elab_as_elim] theorem Ll{op}(h:mE N sc vs (.cmp op a b) p=true)(k:∀l r q,(!odd r)=true→mE N sc vs a l=true→mE N sc vs b r=true→G (.Compare l [op] [r] q)):G p:=
 II h λl os rs q h=>iQ (G:=λos=>G (.Compare l os rs q)) h λo h=>iQ (G:=λrs=>G (.Compare l [o] rs q)) (a2 h) λr h'=>eq_of_beq (a1 h)▸k l r q (a1 (a1 h')) (a2 (a1 h')) (a2 h')
@[elab_as_elim] theorem Kd{o1 o2}(h:mE N sc vs (.iZ o1 o2 a b e) p=true)(k:∀l r t q,(!odd t)=true→mE N sc vs a l=true→mE N sc vs b r=true→mE N sc vs e t=true→G (.Compare l [o1,o2] [r,t] q)):G p:=
 II h λl os rs q h=>og (G:=λos=>G (.Compare l os rs q)) h λp1 p2 h=>og (G:=λrs=>G (.Compare l [p1,p2] rs q)) (a2 h) λr t h'=>
  eq_of_beq (a1 (a1 h))▸eq_of_beq (a2 (a1 h))▸k l r t q (a2 (a1 (a1 (a1 h')))) (a2 (a1 (a1 h'))) (a2 (a1 h')) (a2 h')
@[elab_as_elim] theorem MH{w}(h:mE N sc vs (.bl w es) p=true)(k:∀l q,dz N sc vs es l=true→G (.BoolOp (if w then .And else .Or) l q)):G p:=Ud h λo l q h=>eq_of_beq (a1 h)▸k l q (a2 h)
@[elab_as_elim] theorem Lm(h:mE N sc vs (.ite a b e) p=true)(k:∀l r t q,mE N sc vs a l=true→mE N sc vs b r=true→mE N sc vs e t=true→G (.IfExp l r t q)):G p:=Sy h λl r t q h=>k l r t q (a1 (a1 h)) (a2 (a1 h)) (a2 h)
@[elab_as_elim] theorem Ke(h:mE N sc vs (.call i es) p=true)(k:∀x q l r,N.fn[i]?=some x→(x==("":Str))=false→dX sc x=true→dz N sc vs es l=true→G (.Call (.Name x q) l [] r)):G p:=
 nR h λx q l r h=>k x q l r (eq_of_beq (a1 (a1 (a1 h)))) (kq (a2 (a1 (a1 h)))) (a2 (a1 h)) (a2 h)
@[elab_as_elim] theorem Kf(h:mE N sc vs (.bc e i es) p=true)(k:∀o x q l r,q.endLine=r.line→f0 o=true→N.bc[i]?=some x→l.length<29→mE N sc vs e o=true→dz N sc vs es l=true→G (.Call (.Attribute o x q) l [] r)):G p:=
 tZ h λo x q l r z h=>k o x q l r z (a1 (a1 (a1 (a1 h)))) (eq_of_beq (a2 (a1 (a1 (a1 h))))) (aR (a2 (a1 (a1 h)))) (a2 (a1 h)) (a2 h)
@[elab_as_elim] theorem Kg(h:mE N sc vs (.isin e i) p=true)(k:∀q a y q' r,dX sc "isinstance"=true→(!odd a)=true→Ka[i]?=some y→dX sc y=true→mE N sc vs e a=true→G (.Call (.Name "isinstance" q) [a,.Name y q'] [] r)):G p:=
 nR h λx q l r h=>og (G:=λl=>G (.Call (.Name x q) l [] r)) (a2 h) λa b g=>lC (G:=λb=>G (.Call (.Name x q) [a,b] [] r)) (a2 (a1 g)) λy q' f=>by
  have h':=a2 (a1 h);cases eq_of_beq (a1 (a1 h));exact k q a y q' r h' (a1 (a1 g)) (eq_of_beq (a1 f)) (a2 f) (a2 g)
@[elab_as_elim] theorem MI(h:mE N sc vs (.b1 i e) p=true)(k:∀x q a r,DB[i]?=some x→dX sc x=true→(!odd a)=true→mE N sc vs e a=true→G (.Call (.Name x q) [a] [] r)):G p:=
 nR h λx q l r h=>iQ (G:=λl=>G (.Call (.Name x q) l [] r)) (a2 h) λa g=>k x q a r (eq_of_beq (a1 (a1 h))) (a2 (a1 h)) (a1 g) (a2 g)
@[elab_as_elim] theorem MJ(h:mE N sc vs (.b2 i a b) p=true)(k:∀x q l r t,MD[i]?=some x→dX sc x=true→(!odd l)=true→(!odd r)=true→mE N sc vs a l=true→mE N sc vs b r=true→G (.Call (.Name x q) [l,r] [] t)):G p:=
 nR h λx q l t h=>og (G:=λl=>G (.Call (.Name x q) l [] t)) (a2 h) λl r g=>k x q l r t (eq_of_beq (a1 (a1 h))) (a2 (a1 h)) (a1 (a1 (a1 g))) (a2 (a1 (a1 g))) (a2 (a1 g)) (a2 g)
@[elab_as_elim] theorem Ln(h:mE N sc vs (.cnt a b) p=true)(k:∀o q x r,q.endLine=r.line→f0 o=true→mE N sc vs a o=true→(!odd x)=true→mE N sc vs b x=true→G (.Call (.Attribute o "count" q) [x] [] r)):G p:=
 tZ h λo n q l r z h=>iQ (G:=λl=>G (.Call (.Attribute o n q) l [] r)) (a2 h) λx g=>eq_of_beq (a2 (a1 (a1 h)))▸k o q x r z (a1 (a1 (a1 h))) (a2 (a1 h)) (a1 g) (a2 g)
@[elab_as_elim] theorem C9{f:List Expr→Bool}(h:dk ks f p=true)(k:∀ke l q,rp ks ke=true→decide (ks.length=l.length)=true→f l=true→G (.Dict ke l q)):G p:=RF h λke l q h=>k ke l q (a1 (a1 h)) (a2 (a1 h)) (a2 h)
@[elab_as_elim] theorem Kh(h:mE N sc vs (.gU ks es a) p=true)(k:∀ke l q' j q,rp ks ke=true→decide (ks.length=l.length)=true→dz N sc vs es l=true→mE N sc vs a j=true→G (.Subscript (.Dict ke l q') j q)):G p:=
 BN h λo j q h=>C9 (G:=λo=>G (.Subscript o j q)) (a1 h) λke l q' h1 h2 h3=>k ke l q' j q h1 h2 h3 (a2 h)
@[elab_as_elim] theorem Ki(h:mE N sc vs (.oZ ks es a) p=true)(k:∀ke l q' q x r,q.endLine=r.line→rp ks ke=true→decide (ks.length=l.length)=true→dz N sc vs es l=true→(!odd x)=true→mE N sc vs a x=true→G (.Call (.Attribute (.Dict ke l q') "get" q) [x] [] r)):G p:=
 tZ h λo n q l r z h=>iQ (G:=λl=>G (.Call (.Attribute o n q) l [] r)) (a2 h) λx g=>C9 (G:=λo=>G (.Call (.Attribute o n q) [x] [] r)) (a2 (a1 h)) λke l q' h1 h2 h3=>eq_of_beq (a1 (a1 h))▸k ke l q' q x r z h1 h2 h3 (a1 g) (a2 g)
@[elab_as_elim] theorem Kj(h:mE N sc vs (.o7 ks es a b) p=true)(k:∀ke l q' q x y r,q.endLine=r.line→rp ks ke=true→decide (ks.length=l.length)=true→dz N sc vs es l=true→(!odd x)=true→(!odd y)=true→mE N sc vs a x=true→mE N sc vs b y=true→
  G (.Call (.Attribute (.Dict ke l q') "get" q) [x,y] [] r)):G p:=
 tZ h λo n q l r z h=>og (G:=λl=>G (.Call (.Attribute o n q) l [] r)) (a2 h) λx y g=>C9 (G:=λo=>G (.Call (.Attribute o n q) [x,y] [] r)) (a2 (a1 h)) λke l q' h1 h2 h3=>
  eq_of_beq (a1 (a1 h))▸k ke l q' q x y r z h1 h2 h3 (a1 (a1 (a1 g))) (a2 (a1 (a1 g))) (a2 (a1 g)) (a2 g)
@[elab_as_elim] theorem Kk(h:mE N sc vs (.i6 a b) p=true)(k:∀q' q ar body sl q2 x r,q.endLine=r.line→vs[0]?=some (some ("self":Str))→sc.names.lookup ("self":Str)=some .cell→gJ ar sl=true→freeOk sc sl vs=true→mE N sl (gK sl vs) a body=true→(!odd x)=true→mE N sc vs b x=true→
  G (.Call (.Attribute (.Name "self" q') "reckoned" q) [.Lambda ar body sl q2,x] [] r)):G p:=
 tZ h λo n q l r z h=>og (G:=λl=>G (.Call (.Attribute o n q) l [] r)) (a2 h) λx y g=>Sz (G:=λx=>G (.Call (.Attribute o n q) [x,y] [] r)) (a2 (a1 g)) λar body sl q2 f=>
  lC (G:=λo=>G (.Call (.Attribute o n q) [.Lambda ar body sl q2,y] [] r)) (a2 (a1 (a1 (a1 h)))) λs q' e=>eq_of_beq (a1 (a1 (a1 (a1 h))))▸eq_of_beq e▸k q' q ar body sl q2 y r z (eq_of_beq (a2 (a1 (a1 h)))) (eq_of_beq (a2 (a1 h))) (a1 (a1 f)) (a2 (a1 f)) (a2 f) (a1 (a1 g)) (a2 g)
end
structure Cx where
 prog:Program
 w:World
 P:bJ
 N:Nm
 σ:Nat→Addr
 G:Heap→Prop
 Flt:Heap→Value→D→Prop
 fa:Nat→Addr
 aT:Addr→Prop
 cd:Value→Str→Prop
abbrev Cx.M(c:Cx):Model:=model c.prog c.w
def Nx(c:Cx)(s s':Shared):Prop:=∃h tk,s'={s with heap:=h,toks:=tk}∧aE s.heap h∧c.G h
def uU(env:Env)(h:Heap)(x:Str)(v:Value):Prop:=
 (env.kindOf x=some .local∧∃m,h.Ns env.locals m∧m x=some v)∨
 (∃a,(env.kindOf x=some .cell∨(env.kindOf x=some .free∧(x==("__classdict__":Str))=false))∧env.cells.lookup x=some a∧h.IsCell a (some v))
structure Fm(c:Cx)(sc:Scope)(env:Env)(h:Heap)(vs:List (Option Str))(ρ:List (Option D)):Prop where
 scope:env.scope=sc
 kind:env.scope.kind=.function
 bE:env.globals=mainGlobals
 blt:env.builtins=builtinsNs
 code:env.scope.names.lookup ("self":Str)=some .cell→c.cd env.code env.qual
 wf:∀(i:Nat) (x:Str),vs[i]?=some (some x)→env.kindOf x=some .cell→(env.cells.lookup x).isSome=true
 var:∀i x d,vs[i]?=some (some x)→cZ ρ i=some (some d)→∃v,uU env h x v∧Tells c.σ h v d
def bI(c:Cx)(A:Around)(h:Heap):Prop:=∃fr,A.frames=some fr∧∀env∈fr,env.scope.kind≠.module∧∃L o,env.frame=some L∧h.get? L=some o∧(∀vs,o.data≠.fields vs)∧o.cls=.type "frame"∧¬c.aT L
def aP(A:Around)(fu:Nat):Prop:=A.depth+2*fu<recursionLimit∧A.units+6*fu+30<cLine∧A.handled=none
structure St(c:Cx)(A:Around)(fu:Nat)(sc:Scope)(env:Env)(h:Heap)(vs:List (Option Str))(ρ:List (Option D)):Prop where
 g:c.G h
 f:Fm c sc env h vs ρ
 r:aP A fu
 o:bI c A h
section
variable{c:Cx}{A:Around}{s s' aS:Shared}{h h':Heap}
theorem Nx.refl(g:c.G s.heap):Nx c s s:=⟨s.heap,s.toks,rfl,aE.refl _,g⟩
theorem Nx.trans(x:Nx c s s')(y:Nx c s' aS):Nx c s aS:=by
 refine aO x λh tk e1q r2q=>?_;subst e1q;refine am (λk j=>?_) r2q;refine aO y λh' pN e3q r4q=>?_;subst e3q;refine am (λk' g'=>?_) r4q;exact⟨h',pN,rfl,k.trans k',g'⟩
theorem Nx.keep(x:Nx c s s'):aE s.heap s'.heap:=by refine aO x λh tk e5q r6q=>?_;subst e5q;refine am (λk j=>?_) r6q;exact k
theorem Nx.g(x:Nx c s s'):c.G s'.heap:=by refine aO x λh tk e7q r8q=>?_;subst e7q;refine am (λj g=>?_) r8q;exact g
theorem Nx.tok(g:c.G s.heap)(t:Nat):Nx c s {s with toks:=t}:=⟨s.heap,t,rfl,aE.refl _,g⟩
theorem aE.ns{a:Addr}{m}(k:aE h h')(n:h.Ns a m):h'.Ns a m:=by
 refine cF n λo es ep ho hd r=>?_;refine lM (k.2 a o ho) λo' e' j j f' j=>?_;exact⟨o',es,ep,e',(f' λvs q=>by rw[hd]at q;cases q).trans hd,r⟩
theorem aE.cell{a:Addr}{v}(k:aE h h')(n:h.IsCell a v):h'.IsCell a v:=by
 refine ah n λo ho hd=>?_;refine lM (k.2 a o ho) λo' e' j j f' j=>?_;exact⟨o',e',(f' λvs q=>by rw[hd]at q;cases q).trans hd⟩
theorem uU.keep{env:Env}{x:Str}{v:Value}(k:aE h h')(n:uU env h x v):uU env h' x v:=by
 rcases n with⟨a,m,b,d⟩|⟨a,b,d,e⟩
 ·exact .inl ⟨a,m,k.ns b,d⟩
 ·exact .inr ⟨a,b,d,k.cell e⟩
theorem Fm.keep{sc:Scope}{env:Env}{vs ρ}(k:aE h h')(F:Fm c sc env h vs ρ):Fm c sc env h' vs ρ:=
 ⟨F.scope,F.kind,F.bE,F.blt,F.code,F.wf,λi x d a b=>let⟨v,p,q⟩:=F.var i x d a b;⟨v,p.keep k,q.keep k⟩⟩
theorem bI.keep(k:aE h h')(F:bI c A h):bI c A h':=by
 refine ah F λfr e F=>?_;refine⟨fr,e,λenv he=>?_⟩;refine nV (F env he) λa L o b d f y z=>?_;refine lM (k.2 L o d) λo' e' c' j f' j=>?_;exact⟨a,L,o',b,e',λvs q=>f vs ((f' f)▸q),c'.trans y,z⟩
theorem St.nx{fu:Nat}{sc:Scope}{env:Env}{vs ρ}(n:Nx c s s')(F:St c A fu sc env s.heap vs ρ):St c A fu sc env s'.heap vs ρ:=
 ⟨n.g,F.f.keep n.keep,F.r,F.o.keep n.keep⟩
theorem aP.less{fu wi:Nat}(l:wi≤fu)(r:aP A fu):aP A wi:=⟨by have:=r.1;omega,by have:=r.2.1;omega,r.2.2⟩
theorem St.less{fu wi:Nat}{sc:Scope}{env:Env}{vs ρ}(l:wi≤fu)(F:St c A fu sc env h vs ρ):St c A wi sc env h vs ρ:=⟨F.g,F.f,F.r.less l,F.o⟩
end
section
variable(c:Cx)
def VP(s:Shared)(o:Out D):Value→Shared→Prop:=λv s'=>∃d,o=.ok d∧Tells c.σ s'.heap v d∧Nx c s s'
def EP{α:Type}(s:Shared)(o:Out α):Value→Shared→Prop:=λx s'=>∃d,o=.exc d∧c.Flt s'.heap x d∧Nx c s s'
def BP(s:Shared)(o:Out Bool):Bool→Shared→Prop:=λb s'=>o=.ok b∧Nx c s s'
def LP(s:Shared)(o:Out (List D)):List Value→Shared→Prop:=λvs s'=>∃ds,o=.ok ds∧ax c.σ s'.heap vs ds∧Nx c s s'
def bK(A:Around)(s:Shared)(t:Sem Value)(o:Out D):Prop:=wpAny c.M A t (VP c s o) (EP c s o) s
def gX(A:Around)(s:Shared)(t:Sem Bool)(o:Out Bool):Prop:=wpAny c.M A t (BP c s o) (EP c s o) s
def uV(A:Around)(s:Shared)(t:Sem (List Value))(o:Out (List D)):Prop:=wpAny c.M A t (LP c s o) (EP c s o) s
end
section
variable{c:Cx}{A:Around}{s s₀:Shared}
theorem bK.use{t:Sem Value}{o:Out D}{Q:Value→Shared→Prop}{E:Value→Shared→Prop}(h:bK c A s t o)
  (jc:∀v d s',o=.ok d→Tells c.σ s'.heap v d→Nx c s s'→Q v s')(hex:∀x d s',o=.exc d→c.Flt s'.heap x d→Nx c s s'→E x s'):wpAny c.M A t Q E s:=
 aL h (λv s' ⟨d,a,b,n⟩=>jc v d s' a b n) λx s' ⟨d,a,b,n⟩=>hex x d s' a b n
theorem gX.use{t:Sem Bool}{o:Out Bool}{Q:Bool→Shared→Prop}{E:Value→Shared→Prop}(h:gX c A s t o)
  (jc:∀b s',o=.ok b→Nx c s s'→Q b s')(hex:∀x d s',o=.exc d→c.Flt s'.heap x d→Nx c s s'→E x s'):wpAny c.M A t Q E s:=
 aL h (λv s' ⟨a,n⟩=>jc v s' a n) λx s' ⟨d,a,b,n⟩=>hex x d s' a b n
theorem uV.use{t:Sem (List Value)}{o:Out (List D)}{Q:List Value→Shared→Prop}{E:Value→Shared→Prop}(h:uV c A s t o)
  (jc:∀v d s',o=.ok d→ax c.σ s'.heap v d→Nx c s s'→Q v s')(hex:∀x d s',o=.exc d→c.Flt s'.heap x d→Nx c s s'→E x s'):wpAny c.M A t Q E s:=
 aL h (λv s' ⟨d,a,b,n⟩=>jc v d s' a b n) λx s' ⟨d,a,b,n⟩=>hex x d s' a b n
theorem bK.at{t:Sem Value}{o o':Out D}(n:Nx c s₀ s)(e:o'=o)(h:bK c A s t o'):wpAny c.M A t (VP c s₀ o) (EP c s₀ o) s:=by
 subst e;exact h.use (λv d s' a b m=>⟨d,a,b,n.trans m⟩) λx d s' a b m=>⟨d,a,b,n.trans m⟩
theorem gX.at{t:Sem Bool}{o o':Out Bool}(n:Nx c s₀ s)(e:o'=o)(h:gX c A s t o'):wpAny c.M A t (BP c s₀ o) (EP c s₀ o) s:=by
 subst e;exact h.use (λv s' a m=>⟨a,n.trans m⟩) λx d s' a b m=>⟨d,a,b,n.trans m⟩
theorem af0{α β:Type}{o:Out α}{o':Out β}{x:Value}{d:D}{s':Shared}(e:o'=.exc d)(f:c.Flt s'.heap x d)(n:Nx c s s'):EP c s o' x s':=⟨d,e,f,n⟩
theorem a9{α β:Type}{x:Out α}{a:α}{f:α→Out β}(e:x=.ok a):x.bind f=f a:=by subst e;rfl
theorem bo{α β:Type}{x:Out α}{d:D}{f:α→Out β}(e:x=.exc d):x.bind f=.exc d:=by subst e;rfl
theorem br{α β:Type}{x:Out α}{f:α→Out β}(h:x.bind f≠.stuck):x≠.stuck:=by rintro rfl;exact h rfl
theorem gL{α:Type}{x:Option α}(h:Out.of x≠.stuck):∃a,x=some a:=by cases x with|none=>exact absurd rfl h|some a=>exact⟨a,rfl⟩
theorem xq{α:Type}:∀(l:List α) (n:Nat),cZ l n=l[n]?
 |[],n=>by cases n<;>rfl
 |a::l,0=>rfl
 |a::l,n+1=>xq l n
theorem gD{α:Type}:∀(l:List α),cU l=l.length
 |[]=>rfl
 |a::l=>bp Nat.succ (gD l)
end
end Mine
namespace Mine
open PySem PySem.W PyProof.Rows PySem.SeqAt
set_option tactic.hygienic false
theorem qG:∀(x y:List Nat),sEq x y=eh x y
 |[],[]=>rfl
 |[],_::_=>rfl
 |_::_,[]=>rfl
 |a::x,b::y=>by
  show ap (Nat.beq a b) (sEq x y) false=(Nat.beq a b&&eh x y);rw[qG x y];cases Nat.beq a b<;>rfl
theorem Cw{α:Type}[BEq α][LawfulBEq α]{x y:α}{b:Bool}(h:b=true↔x=y):b=(x==y):=by
 cases b with
 |true=>rw[h.mp rfl,beq_self_eq_true]
 |false=>exact(beq_eq_false_iff_ne.mpr λe=>by have:=h.mpr e;cases this).symm
theorem MK{a b:Nat}:Nat.beq a b=true↔a=b:=⟨Nat.eq_of_beq_eq_true,λe=>e▸Nat.beq_refl a⟩
theorem qH(i j:Int):mH i j=(i==j):=Cw (by
 cases i<;>cases j
 ·exact MK.trans ⟨λe=>bp _ e,Int.ofNat.inj⟩
 ·exact⟨λh=>(nomatch h),λh=>(nomatch h)⟩
 ·exact⟨λh=>(nomatch h),λh=>(nomatch h)⟩
 ·exact MK.trans ⟨λe=>bp _ e,Int.negSucc.inj⟩)
theorem blt_eq(a b:Nat):Nat.blt a b=decide (a<b):=by
 cases h:Nat.blt a b with
 |true=>have:=kO h;symm;rw[decide_eq_true_eq];exact this
 |false=>
  symm;rw[decide_eq_false_iff_not];intro l;have:Nat.ble (a+1) b=true:=Nat.ble_eq_true_of_le l;unfold Nat.blt at h;rw[this]at h;cases h
theorem j7(i j:Int):eO i j=decide (i<j):=by
 cases i with
 |ofNat a=>cases j with
  |ofNat b=>show Nat.blt a b=_;rw[blt_eq];congr 1;exact propext Int.ofNat_lt.symm
  |negSucc b=>show false=_;symm;rw[decide_eq_false_iff_not];intro h;have:=Int.negSucc_lt_zero b;have h2:(0:Int)≤Int.ofNat a:=kQ a;omega
 |negSucc a=>cases j with
  |ofNat b=>show true=_;symm;rw[decide_eq_true_eq];have:=Int.negSucc_lt_zero a;have h2:(0:Int)≤Int.ofNat b:=kQ b;omega
  |negSucc b=>show Nat.blt b a=_;rw[blt_eq];congr 1;apply propext;rw[Int.negSucc_eq,Int.negSucc_eq];omega
theorem Ue(p:Bool):ro p=(if p then 1 else 0):=by cases p<;>rfl
theorem BF{b:Bool}{α:Type}{x:Option α}{r:α}(h:ap b x none=some r):b=true∧x=some r:=by
 cases b with
 |true=>exact⟨rfl,h⟩
 |false=>cases h
theorem nQ{α β:Type}{x:Option α}{f:α→Option β}{r:β}(h:cM x f=some r):∃a,x=some a∧f a=some r:=by
 cases x with
 |none=>cases h
 |some a=>exact⟨a,rfl,h⟩
theorem bb(p q:Bool):ap p q (ap q false true)=(p==q):=by cases p<;>cases q<;>rfl
theorem Uf(x y:List Nat):(ao x==ao y)=sEq x y:=by
 rw[←str_beq,qG];exact(Cw nP).symm
theorem Bo(a:Nat)(x:List Nat):gB (a::x)=(Nat.blt a 256&&gB x):=by
 show@Bool.rec (λZ=>Bool) false (gB x) (Nat.blt a 256)=_;cases Nat.blt a 256<;>rfl
theorem Jo:∀{x y:List Nat},gB x=true→gB y=true→x.map UInt8.ofNat=y.map UInt8.ofNat→x=y
 |[],[],_,_,_=>rfl
 |[],_::_,_,_,h=>by cases h
 |_::_,[],_,_,h=>by cases h
 |a::x,b::y,hx,hy,h=>by
  rw[Bo]at hx hy;refine am (λha hx=>?_) (Bool.and_eq_true_iff.mp hx);refine am (λhb hy=>?_) (Bool.and_eq_true_iff.mp hy);have ha:=kO ha;have hb:=kO hb;injection h with h1 h2
  have e:=bp UInt8.toNat h1;rw[UInt8.toNat_ofNat',UInt8.toNat_ofNat',Nat.mod_eq_of_lt ha,Nat.mod_eq_of_lt hb]at e;rw[e,Jo hx hy h2]
theorem Ug{x y:List Nat}(hx:gB x=true)(hy:gB y=true):((cH x).toList==(cH y).toList)=sEq x y:=by
 rw[qG];refine(Cw ⟨λh=>by rw[nP.mp h],λh=>nP.mpr (Jo hx hy ?_)⟩).symm;simpa using h
section
variable{f:D→D→Option Bool}{r:Bool}{b:D}
theorem Ih(h:K8 b=some r):b=.none∧r=true:=by cases b<;>first|exact⟨rfl,(au h).symm⟩|cases h
theorem Ii{p:Bool}(h:K9 p b=some r):∃q,b=.bool q∧r=(p==q):=by cases b<;>first|exact⟨_,rfl,(au h).symm.trans (bb _ _)⟩|cases h
theorem IJ{i:Int}(h:Mv i b=some r):∃j,b=.int j∧r=(i==j):=by cases b<;>first|exact⟨_,rfl,(au h).symm.trans (qH _ _)⟩|cases h
theorem IK{x:List Nat}(h:Mw x b=some r):∃y,b=.str y∧r=(ao x==ao y):=by cases b<;>first|exact⟨_,rfl,(au h).symm.trans (Uf _ _).symm⟩|cases h
theorem HG{x:List Nat}(h:J5 x b=some r):∃y,b=.bytes y∧r=((cH x).toList==(cH y).toList):=by
 cases b<;>first
  |(cases h;done)
  |(refine am (λh1 h=>?_) (BF h);refine am (λh2 h=>?_) (BF h);exact⟨_,rfl,(au h).symm.trans (Ug h1 h2).symm⟩)
theorem IL{xs:List D}(h:Mx f xs b=some r):(b=.none∧r=false)∨∃ys,b=.tuple ys∧lJ f xs ys=some r:=by cases b<;>first|exact .inl ⟨rfl,(au h).symm⟩|exact .inr ⟨_,rfl,h⟩|cases h
theorem Ht:∀{xs ys:List D} {r:Bool},lJ f xs ys=some r→
  ∃e:Nat→Bool,(∀j x y,xs[j]?=some x→ys[j]?=some y→f x y=some (e j))∧r=((List.range (min xs.length ys.length)).all e&&xs.length==ys.length)
 |[],[],r,h=>by cases h;exact⟨λZ=>true,(λZ Z Z q=>by cases q),rfl⟩
 |[],_::_,r,h=>by cases h;exact⟨λZ=>true,(λZ Z Z q=>by cases q),by simp⟩
 |_::_,[],r,h=>by cases h;exact⟨λZ=>true,(λZ Z Z Z q=>by cases q),by simp⟩
 |x::xs,y::ys,r,h=>by
  refine ah (nQ (x:=f x y) h) λa ha h=>?_;refine ah (nQ (x:=lJ f xs ys) h) λc hc h=>?_;cases au h;refine ah (Ht hc) λe he hb=>?_;refine⟨λj=>@Nat.rec (λZ=>Bool) a (λj Z=>e j) j,λj x' y' hx hy=>?_,?_⟩
  ·cases j with
   |zero=>cases hx;cases hy;exact ha
   |succ j=>exact he j x' y' hx hy
  ·rw[hb];rw[List.length_cons,List.length_cons,Nat.succ_min_succ,List.range_succ_eq_map,List.all_cons,List.all_map];have e1:(xs.length+1==ys.length+1)=(xs.length==ys.length):=by rw[Bool.eq_iff_iff,beq_iff_eq,beq_iff_eq];exact Nat.succ_inj
   rw[e1];cases a<;>rfl
end
section
variable{σ:Nat→Addr}{A:Around}{s:Shared}{v u:Value}
theorem Hu{f:D→D→Option Bool}{h:Heap}(hf:∀{v a b r},Tells σ h v a→Tells σ h v b→f a b=some r→r=true):∀{xs ys:List D} {vs:List Value} {r:Bool},ax σ h vs xs→ax σ h vs ys→lJ f xs ys=some r→r=true
 |[],ys,vs,r,x,y,e=>by
  obtain rfl:=x.rl;cases ys with
  |nil=>cases e;rfl
  |cons _ _=>refine aO y.lP λZ Z q Z=>?_;exact nomatch q
 |a::xs,ys,vs,r,x,y,e=>by
  refine aO x.lP λv us e9q abu=>?_;subst e9q;refine am (λx xs'=>?_) abu;cases ys with
  |nil=>exact nomatch y.rl
  |cons b ys=>
   refine cK y.lP λZ Z q y ys'=>?_;cases q;refine ah (nQ (x:=f a b) e) λp h1 e=>?_;refine ah (nQ (x:=lJ f xs ys) e) λq h2 e=>?_;cases au e;rw[hf x y h1,Hu hf xs' ys' h2]
theorem IM{h:Heap}:∀(n:Nat) {v:Value} {a b:D} {r:Bool},Tells σ h v a→Tells σ h v b→g6 n a b=some r→r=true
 |0,_,_,_,_,_,_,e=>nomatch e
 |n+1,v,a,b,r,x,y,e=>by
  cases a with
  |none=>exact(Ih e).2
  |bool p=>
   refine ah (Ii e) λq abv abw=>?_;subst abv;rcases abw with rfl
   obtain rfl:=x.vBool;cases y.vBool;exact beq_self_eq_true _
  |int i=>
   refine ah (IJ e) λq abx aby=>?_;subst abx;rcases aby with rfl
   refine ak x.vInt λZ abz=>?_;subst abz;refine ak y.vInt λZ h=>?_;cases h;exact beq_self_eq_true _
  |str z=>
   refine ah (IK e) λq abA abB=>?_;subst abA;rcases abB with rfl
   refine ak x.vStr λZ abC=>?_;subst abC;refine ak y.vStr λZ h=>?_;injection h with h1 _
   rw[h1];exact beq_self_eq_true _
  |bytes z=>
   refine ah (HG e) λq abD abE=>?_;subst abD;rcases abE with rfl
   refine ak x.uh λZ abF=>?_;subst abF;refine ak y.uh λZ h=>?_;injection h with h1 _
   rw[h1];exact beq_self_eq_true _
  |tuple xs=>
   refine aO x.iY λZ Z abG abH=>?_;subst abG;refine am (λhx tx=>?_) abH;rcases IL e with⟨rfl,_⟩|⟨ys,rfl,e⟩
   ·exact nomatch y.jy
   ·refine cK y.iY λZ Z q hy ty=>?_;cases q;obtain rfl:=hx.same hy;exact Hu (λx y e=>IM n x y e) tx ty e
  |_=>cases e
structure Eq3(A:Around)(s:Shared)(v u:Value)(r:Bool):Prop where
 e:EqAt A s v u r
 c:RcAt A s v u r
 n:RcNeAt A s v u (!r)
theorem IN{n:Nat}{xs ys:List D}{r:Bool}{vs us:List Value}(ih:∀{a b:D} {r:Bool},g6 n a b=some r→∀{v u:Value},Tells σ s.heap v a→Tells σ s.heap u b→EqAt A.in1 s v u r)(h:lJ (g6 n) xs ys=some r)(tx:ax σ s.heap vs xs)(ty:ax σ s.heap us ys):
  ∃e:Nat→Bool,(∀j (h1:j<vs.toArray.size) (h2:j<us.toArray.size),EqAt A.in1 s vs.toArray[j] us.toArray[j] (e j))∧r=((List.range (min vs.toArray.size us.toArray.size)).all e&&vs.toArray.size==us.toArray.size):=by
 refine ah (Ht h) λe he hb=>?_;have lx:=tx.length;have ly:=ty.length;refine⟨e,λj h1 h2=>?_,by rw[hb,List.size_toArray,List.size_toArray,lx,ly]⟩;have g1:j<xs.length:=lx▸h1;have g2:j<ys.length:=ly▸h2;have Oo:xs[j]?=some (xs[j]'g1):=jA g1;have Op:ys[j]?=some (ys[j]'g2):=jA g2;refine ah (tx.get Oo) λv' wj tv=>?_;refine ah (ty.get Op) λu' pO tu=>?_;have e1:vs.toArray[j]=v':=au ((jA (l:=vs) h1).symm.trans wj);have e2:us.toArray[j]=u':=au ((jA (l:=us) h2).symm.trans pO);rw[e1,e2];exact ih (he j _ _ Oo Op) tv tu
theorem afU{a:Addr}:EqAt A s (.ref a) (.ref a) true:=EqAt.same _
theorem ql:∀(n:Nat) {a b:D} {r:Bool},g6 n a b=some r→∀{A:Around} {v u:Value},Tells σ s.heap v a→Tells σ s.heap u b→A.units+n<cLine→Eq3 A s v u r
 |0,_,_,_,h,_,_,_,_,_,_=>nomatch h
 |n+1,a,b,r,h,A,v,u,hv,hu,hr=>by
  have h1:A.units<cLine:=iq (lY _ _) hr;cases a with
  |none=>
   refine am (λabI abJ=>?_) (Ih h);subst abI;rcases abJ with rfl
   obtain rfl:=hv.jy;obtain rfl:=hu.jy;exact⟨EqAt.same _,RcAt.none_none,RcNeAt.none_none⟩
  |bool p=>
   refine ah (Ii h) λq abK abL=>?_;subst abK;rcases abL with rfl
   obtain rfl:=hv.vBool;obtain rfl:=hu.vBool;exact⟨EqAt.bool_bool _ _,RcAt.bool_bool _ _,RcNeAt.bool_bool _ _⟩
  |int i=>
   refine ah (IJ h) λq abM abN=>?_;subst abM;rcases abN with rfl
   refine ak hv.vInt λZ abO=>?_;subst abO;refine ak hu.vInt λZ abP=>?_;subst abP;exact⟨EqAt.int_int _ _ _ _,RcAt.int_int _ _ _ _,RcNeAt.int_int _ _ _ _⟩
  |str x=>
   refine ah (IK h) λq abQ abR=>?_;subst abQ;rcases abR with rfl
   refine ak hv.vStr λZ abS=>?_;subst abS;refine ak hu.vStr λZ abT=>?_;subst abT;exact⟨EqAt.str_str _ _ _ _,RcAt.str_str _ _ _ _,RcNeAt.str_str _ _ _ _⟩
  |bytes x=>
   refine ah (HG h) λy abU abV=>?_;subst abU;rcases abV with rfl
   refine ak hv.uh λt abW=>?_;subst abW;refine ak hu.uh λw abX=>?_;subst abX;have rc:RcAt A s (.bytes (cH x) t) (.bytes (cH y) w) ((cH x).toList==(cH y).toList):=λprog w E Q hq=>eq_bytes hq;refine⟨λprog w E Q h=>?_,rc,λprog w E Q hq=>ne_bytes hq⟩;unfold eqBool;refine eX (wpAny_ite_split (λhab=>?_) λZ=>aj (rc prog w E _ (ir h)));have e:cH x=cH y:=by have:=eq_of_beq hab;injection this
   rw[e,beq_self_eq_true]at h;exact aj (wpAny_rule (aM h))
  |tuple xs=>
   refine aO hv.iY λa1 vs abY abZ=>?_;subst abY;refine am (λhx tx=>?_) abZ;rcases IL h with⟨rfl,rfl⟩|⟨ys,rfl,e⟩
   ·obtain rfl:=hu.jy;exact⟨EqAt.tuple_none hx.tuple h1,RcAt.tuple_none hx.tuple h1,RcNeAt.tuple_none hx.tuple h1⟩
   ·refine aO hu.iY λa2 us ab0 ab1=>?_;subst ab0;refine am (λhy ty=>?_) ab1;refine ah (IN (A:=A) (λh v u x y=>(ql n h x y (by show A.units+1+n<cLine;omega)).e) e tx ty) λe' items eb=>?_;have rc:=RcAt.tuples hx.tuple hy.tuple h1 items;have ne:=RcNeAt.tuples hx.tuple hy.tuple h1 items;rw[←eb]at rc ne;refine⟨?_,rc,ne⟩;by_cases q:a1=a2
    ·subst q;obtain rfl:=IM (n+1) hv hu h;exact EqAt.same _
    ·exact EqAt.of_refs q rc
  |_=>cases h
end
section
variable{σ:Nat→Addr}{h:Heap}
theorem HH{d:D}{ds:List D}(p:ig.qE (d::ds)=true):ig d=true∧ig.qE ds=true:=Bool.and_eq_true_iff.mp p
mutual
theorem Tells.func:∀(a:D) {v:Value} {b:D},Tells σ h v a→Tells σ h v b→ig a=true→ig b=true→a=b
 |.none,v,b,x,y,_,hb=>by
  obtain rfl:=x.jy;cases b with
  |none=>rfl
  |bool q=>exact nomatch y.vBool
  |int q=>refine ak y.vInt λw e=>?_;exact nomatch e
  |str q=>refine ak y.vStr λw e=>?_;exact nomatch e
  |tuple q=>refine aO y.iY λw w e w=>?_;exact nomatch e
  |_=>exact nomatch hb
 |.bool p,v,b,x,y,_,hb=>by
  obtain rfl:=x.vBool;cases b with
  |none=>exact nomatch y.jy
  |bool q=>exact bp _ (Value.bool.inj y.vBool)
  |int q=>refine ak y.vInt λw e=>?_;exact nomatch e
  |str q=>refine ak y.vStr λw e=>?_;exact nomatch e
  |tuple q=>refine aO y.iY λw w e w=>?_;exact nomatch e
  |_=>exact nomatch hb
 |.int p,v,b,x,y,_,hb=>by
  refine ak x.vInt λw Xb=>?_;subst Xb;cases b with
  |none=>exact nomatch y.jy
  |bool q=>exact nomatch y.vBool
  |int q=>refine ak y.vInt λw e=>?_;exact bp _ (Value.int.inj e).1
  |str q=>refine ak y.vStr λw e=>?_;exact nomatch e
  |tuple q=>refine aO y.iY λw w e w=>?_;exact nomatch e
  |_=>exact nomatch hb
 |.str p,v,b,x,y,_,hb=>by
  refine ak x.vStr λw Xc=>?_;subst Xc;cases b with
  |none=>exact nomatch y.jy
  |bool q=>exact nomatch y.vBool
  |int q=>refine ak y.vInt λw e=>?_;exact nomatch e
  |str q=>refine ak y.vStr λw e=>?_;exact bp _ (bp (λz:Str=>z.cps.toList) (Value.str.inj e).1)
  |tuple q=>refine aO y.iY λw w e w=>?_;exact nomatch e
  |_=>exact nomatch hb
 |.tuple xs,v,b,x,y,ha,hb=>by
  refine aO x.iY λw w Xd Xe=>?_;subst Xd;refine am (λhx tx=>?_) Xe;cases b with
  |none=>exact nomatch y.jy
  |bool q=>exact nomatch y.vBool
  |int q=>refine ak y.vInt λw e=>?_;exact nomatch e
  |str q=>refine ak y.vStr λw e=>?_;exact nomatch e
  |tuple ys=>
   refine cK y.iY λw w e hy ty=>?_;cases e;obtain rfl:=hx.same hy;exact bp _ (ax.func xs tx ty ha hb)
  |_=>exact nomatch hb
 |.bytes _,_,_,_,_,ha,_=>nomatch ha
 |.list _,_,_,_,_,ha,_=>nomatch ha
 |.obj _,_,_,_,_,ha,_=>nomatch ha
theorem ax.func:∀(xs:List D) {vs:List Value} {ys:List D},ax σ h vs xs→ax σ h vs ys→ig.qE xs=true→ig.qE ys=true→xs=ys
 |[],vs,ys,x,y,_,_=>by
  obtain rfl:=x.rl;cases ys with
  |nil=>rfl
  |cons _ _=>refine aO y.lP λw w e w=>?_;exact nomatch e
 |a::xs,vs,ys,x,y,ha,hb=>by
  refine aO x.lP λw w Xg Xh=>?_;subst Xg;refine am (λx1 x2=>?_) Xh;cases ys with
  |nil=>exact nomatch y.rl
  |cons b ys=>
   refine cK y.lP λw w e y1 y2=>?_;cases e;refine am (λha Fi=>?_) (HH ha);refine am (λhb wk=>?_) (HH hb);rw[Tells.func a x1 y1 ha hb,ax.func xs x2 y2 Fi wk]
end
end
section
variable{σ:Nat→Addr}{A:Around}{s:Shared}
open Classical in
noncomputable def jK(σ:Nat→Addr)(h:Heap)(n:Nat)(x:D)(v:Value):Bool:=decide (∃d,ig d=true∧Tells σ h v d∧g6 n d x=some true)
open Classical in
theorem Jp{n:Nat}{x y:D}{v:Value}{r:Bool}(hy:ig y=true)(t:Tells σ s.heap v y)(e:g6 n y x=some r):jK σ s.heap n x v=r:=by
 unfold jK;cases r with
 |true=>exact decide_eq_true ⟨y,hy,t,e⟩
 |false=>
  refine decide_eq_false ?_
  rintro⟨d,hd,td,ed⟩
  rw[Tells.func d td t hd hy,e]at ed;exact nomatch ed
theorem BG{x:D}{u:Value}(hu:Tells σ s.heap u x)(hr:A.units+8<cLine):∀{ds:List D} {vs:List Value} {r:Bool},anyF x ds=some r→ax σ s.heap vs ds→
  (∀y,y∈vs→EqAt A s y u (jK σ s.heap 8 x y))∧vs.any (jK σ s.heap 8 x)=r
 |[],vs,r,e,t=>by
  obtain rfl:=t.rl;cases e;exact⟨λw hm=>(nomatch hm),rfl⟩
 |d::ds,vs,r,e,t=>by
  refine aO t.lP λv us Xi Xj=>?_;subst Xi;refine am (λt ts=>?_) Xj;refine ah (nQ (x:=g6 8 d x) e) λa ha e=>?_;refine ah (nQ (x:=anyF x ds) e) λb hb e=>?_;refine am (λhp e=>?_) (BF e);cases au e;refine am (λh1 h2=>?_) (BG hu hr hb ts);have h0:=Jp hp t ha;refine⟨λy hy=>?_,by rw[List.any_cons,h0,h2];cases a<;>rfl⟩;rcases List.mem_cons.mp hy with rfl|hy
  ·rw[h0];exact(ql 8 ha t hu hr).e
  ·exact h1 y hy
end
namespace FBX
theorem Qj:Slot "bytes" (cmpInfo .Lt).2.1 "bytes.__lt__":=
 .of (owner:="bytes") (n:="__lt__") (by rw[typeLookup_type,builtinLookup_eq_fast];kernel_rfl) (by decide+kernel) (by decide+kernel) (by decide+kernel)
  (by first|exact .inl (by decide+kernel)|exact .inr (by decide+kernel)) (by rw[isSubtype_type];kernel_rfl)
theorem P5:entryFor table "bytes.__lt__"=some Builtin.«bytes.__lt__»:=entryFor_of_tree (by kernel_rfl)
theorem Ql(a b:Value):argsOk "bytes.__lt__" ⟨[a,b],[]⟩:=by unfold argsOk;kernel_rfl
theorem Qm:Slot "bytes" (cmpInfo .Gt).2.1 "bytes.__gt__":=
 .of (owner:="bytes") (n:="__gt__") (by rw[typeLookup_type,builtinLookup_eq_fast];kernel_rfl) (by decide+kernel) (by decide+kernel) (by decide+kernel)
  (by first|exact .inl (by decide+kernel)|exact .inr (by decide+kernel)) (by rw[isSubtype_type];kernel_rfl)
theorem P6:entryFor table "bytes.__gt__"=some Builtin.«bytes.__gt__»:=entryFor_of_tree (by kernel_rfl)
theorem Qn(a b:Value):argsOk "bytes.__gt__" ⟨[a,b],[]⟩:=by unfold argsOk;kernel_rfl
theorem Qo:Slot "bytes" (cmpInfo .GtE).2.1 "bytes.__ge__":=
 .of (owner:="bytes") (n:="__ge__") (by rw[typeLookup_type,builtinLookup_eq_fast];kernel_rfl) (by decide+kernel) (by decide+kernel) (by decide+kernel)
  (by first|exact .inl (by decide+kernel)|exact .inr (by decide+kernel)) (by rw[isSubtype_type];kernel_rfl)
theorem P7:entryFor table "bytes.__ge__"=some Builtin.«bytes.__ge__»:=entryFor_of_tree (by kernel_rfl)
theorem Qp(a b:Value):argsOk "bytes.__ge__" ⟨[a,b],[]⟩:=by unfold argsOk;kernel_rfl
end FBX
open Builtin in
theorem P8(b c:Array UInt8)(t u:Tok):Gives («bytes.__lt__» ⟨[.bytes b t,.bytes c u],[]⟩) (.val (.bool (Bytes.holds "__lt__" (Bytes.order b.toList c.toList)))):=by
 refine .of_wp λM A E s Q hq=>?_;show wpAny M A (isInstance (.bytes c u) (.type "bytes")>>=λr=>_) _ E s;refine aj (wpAny_isInstance (jB s c u) F.sub_bytes_bytes ?_);exact aM ⟨_,rfl,hq⟩
open Builtin in
theorem P9(b c:Array UInt8)(t u:Tok):Gives («bytes.__gt__» ⟨[.bytes b t,.bytes c u],[]⟩) (.val (.bool (Bytes.holds "__gt__" (Bytes.order b.toList c.toList)))):=by
 refine .of_wp λM A E s Q hq=>?_;show wpAny M A (isInstance (.bytes c u) (.type "bytes")>>=λr=>_) _ E s;refine aj (wpAny_isInstance (jB s c u) F.sub_bytes_bytes ?_);exact aM ⟨_,rfl,hq⟩
open Builtin in
theorem Qa(b c:Array UInt8)(t u:Tok):Gives («bytes.__ge__» ⟨[.bytes b t,.bytes c u],[]⟩) (.val (.bool (Bytes.holds "__ge__" (Bytes.order b.toList c.toList)))):=by
 refine .of_wp λM A E s Q hq=>?_;show wpAny M A (isInstance (.bytes c u) (.type "bytes")>>=λr=>_) _ E s;refine aj (wpAny_isInstance (jB s c u) F.sub_bytes_bytes ?_);exact aM ⟨_,rfl,hq⟩
theorem Ij{x:Option Bool}{r:Bool}(h:Dw x=some r):∃b,x=some b∧r=!b:=by
 refine ah (nQ (x:=x) h) λb h1 h2=>?_;exact⟨b,h1,(au h2).symm.trans (by cases b<;>rfl)⟩
section
variable{a b:D}{r:Bool}
theorem Jq{p:Prop}[Decidable p]{q:Prop}[Decidable q](h:q↔¬p):ap (decide p) false true=decide q:=by
 by_cases hp:p
 ·rw[decide_eq_true hp,decide_eq_false λhq=>h.mp hq hp]
 ·rw[decide_eq_false hp,decide_eq_true (h.mpr hp)]
theorem Ik{σ:Nat→Addr}{h:Heap}{v:Value}(T:Tells σ h v a):Dx a=(v==Value.none):=by
 cases a with
 |none=>exact oC T rfl
 |bool _=>exact ki T rfl
 |int _=>exact jG T λw=>rfl
 |str _=>exact jH T λw=>rfl
 |bytes _=>exact j5 T λw=>rfl
 |tuple _=>exact mf T λw w w w=>rfl
 |list _=>exact oE T λw w w w=>rfl
 |obj _=>exact rn T rfl
end
def j8(c:Cx):Prop:=∀(A:Around) (s:Shared) (k:Nat) (l:List (List Nat×D)) (x:List Nat) (t:Tok) (Q:Value→Shared→Prop) (E:Value→Shared→Prop),c.G s.heap→aP A 0→c.P.dict k=some l→
 (∀s',Nx c s s'→Q (.bool (look x l).isSome) s')→wpAny c.M A (compareOp .In (.str (ao x) t) (.ref (c.σ k))) Q E s
def jZ(c:Cx):Prop:=∀(A:Around) (s:Shared) (k:Nat) (l:List (List Nat×D)) (x:List Nat) (t:Tok) (Q:Value→Shared→Prop) (E:Value→Shared→Prop),c.G s.heap→aP A 0→c.P.dict k=some l→
 (∀s',Nx c s s'→Q (.bool !(look x l).isSome) s')→wpAny c.M A (compareOp .NotIn (.str (ao x) t) (.ref (c.σ k))) Q E s
section
variable{c:Cx}{A:Around}{s:Shared}{a b:D}{r:Bool}{v u:Value}{Q:Value→Shared→Prop}{E:Value→Shared→Prop}
@[elab_as_elim] theorem Kl{G:Value→Value→Prop}(h:Fg c.P a b=some r)(tv:Tells c.σ s.heap v a)(tu:Tells c.σ s.heap u b)(hr:A.units+8<cLine)
  (k1:∀a' (us:List Value),s.heap.IsTuple a' us.toArray→(∀y,y∈us.toArray→EqAt A s y v (jK c.σ s.heap 8 a y))→us.toArray.any (jK c.σ s.heap 8 a)=r→G v (.ref a'))
  (k2:∀a' (us:List Value),s.heap.IsList a' us.toArray→(∀y,y∈us.toArray→EqAt A s y v (jK c.σ s.heap 8 a y))→us.toArray.any (jK c.σ s.heap 8 a)=r→G v (.ref a'))
  (k3:∀k x t l,c.P.dict k=some l→(look x l).isSome=r→G (.str (ao x) t) (.ref (c.σ k))):G v u:=by
 cases b with
 |tuple ds=>exact mf tu λa' us hx tx=>am (λh1 h2=>k1 a' us hx.tuple (λy hy=>h1 y (List.mem_toArray.mp hy)) (List.any_toArray.trans h2)) (BG tv hr h tx)
 |list ds=>exact oE tu λa' us hx tx=>am (λh1 h2=>k2 a' us hx.list (λy hy=>h1 y (List.mem_toArray.mp hy)) (List.any_toArray.trans h2)) (BG tv hr h tx)
 |obj k=>exact rn tu (CZ h tv λx t e=>jb e λl h1 h2=>k3 k x t l h1 (au h2▸(by cases look x l<;>rfl)))
 |_=>exact aF h
theorem SD(h:On a b=some r)(tv:Tells c.σ s.heap v a)(tu:Tells c.σ s.heap u b)(hr:A.units+1+8<cLine)(q0:Q (.bool r) s):wpAny c.M A (compareOp .Eq v u) Q E s:=by
 have wl:A.units+8<cLine:=iq (Nat.add_le_add_right (di _) 8) hr;cases b with
 |list ys=>
  revert tu;refine yb h tv λxs w vv e hx tx tu=>oE tu λw uu hy ty=>?_;refine ah (IN (A:=A) (n:=7) (λh v u x y=>(ql 7 h x y (iq (Nat.add_le_add_left (di 7) _) hr)).e) e tx ty) λe items eb=>?_;by_cases hz:vv.toArray.size=uu.toArray.size
  ·refine SeqAt.eq_listAt hx.list hy.list hz (iq (lY _ 8) wl) items ?_;rw[hz,Nat.min_self,beq_self_eq_true,Bool.and_true,←hz]at eb;exact eb▸q0
  ·refine SeqAt.eq_list_lengthsAt hx.list hy.list (by rw[bne_iff_ne];exact hz) (iq (lY _ 8) wl) ?_;rw[beq_eq_false_iff_ne.mpr hz,Bool.and_false]at eb;exact eb▸q0
 |_=>exact(ql 8 h tv tu wl).c _ _ _ _ q0
theorem lz(H1:j8 c)(H2:jZ c){op:CmpOp}(h:fG c.P op a b=some r)
  (tv:Tells c.σ s.heap v a)(tu:Tells c.σ s.heap u b)(g:c.G s.heap)(rm:aP A 0)(hq:∀s',Nx c s s'→Q (.bool r) s'):wpAny c.M A (compareOp op v u) Q E s:=by
 have hr:A.units+1+8<cLine:=(show A.units+9<cLine from iq (Nat.add_le_add_left (m:=30) aX A.units) rm.2.1);have wl:A.units+8<cLine:=iq (Nat.add_le_add_right (di _) 8) hr;have q0:=hq s (Nx.refl g);have q:∀{b},some b=some r→Q (.bool b) s:=λe=>au e▸q0;cases op with
 |Eq=>exact SD h tv tu hr q0
 |NotEq=>exact ah (Ij h) λb h1 e=>(ql 8 h1 tv tu wl).n _ _ _ _ (e▸q0)
 |Lt=>cases a with
  |int i=>exact jG tv λt=>gI h tu λj t' e=>lt_int (by rw[←j7];exact q e)
  |bool p=>exact ki tv (ya h tu λj e=>lt_bool (by rw[j7]at e;have:=q e;cases p<;>cases j<;>exact this))
  |bytes x=>exact j5 tv λt=>qS h tu λj t' e=>compareOp_gives (op:=.Lt) (jB s _ _) (jB s _ _) FBX.Qj FBX.P5 (FBX.Ql _ _) (P8 _ _ _ _) (λe=>nomatch e) (q e)
  |_=>exact aF h
 |LtE=>exact gI h tv λi t e=>gI e tu λj t' e=>le_int (by rw[j7,Jq (q:=i≤j) Int.not_lt.symm]at e;exact q e)
 |Gt=>cases a with
  |int i=>exact jG tv λt=>gI h tu λj t' e=>gt_int (by rw[←j7];exact q e)
  |bool p=>exact ki tv (ya h tu λj e=>gt_bool (by rw[j7]at e;have:=q e;cases p<;>cases j<;>exact this))
  |bytes x=>exact j5 tv λt=>qS h tu λj t' e=>compareOp_gives (op:=.Gt) (jB s _ _) (jB s _ _) FBX.Qm FBX.P6 (FBX.Qn _ _) (P9 _ _ _ _) (λe=>nomatch e) (q e)
  |_=>exact aF h
 |GtE=>cases a with
  |int i=>exact jG tv λt=>gI h tu λj t' e=>ge_int (by rw[j7,Jq (q:=j≤i) Int.not_lt.symm]at e;exact q e)
  |bytes x=>exact j5 tv λt=>qS h tu λj t' e=>compareOp_gives (op:=.GtE) (jB s _ _) (jB s _ _) FBX.Qo FBX.P7 (FBX.Qp _ _) (Qa _ _ _ _) (λe=>nomatch e) (q e)
  |_=>exact aF h
 |Is=>cases b with
  |none=>exact oC tu (is_none (Ik tv▸q h))
  |bool p=>
   revert tu;exact ya h tv λj e tu=>ki tu (wpAny_is_plain rfl (by have:=q e;cases p<;>cases j<;>exact this))
  |_=>exact aF h
 |IsNot=>cases b with
  |none=>
   refine oC tu (isNot_none ?_);have e:=q h;rw[Ik tv]at e;cases hb:(v==Value.none)<;>rw[hb]at e<;>simpa[bne,hb]using e
  |_=>exact aF h
 |In=>exact Kl (A:=A.in1) h tv tu hr (λa' us hx h1 h2=>in_tupleAt _ hx h1 (h2▸q0)) (λa' us hx h1 h2=>in_listAt _ hx h1 (h2▸q0)) (λk x t l hk e=>H1 A s k l x _ Q E g rm hk (e▸hq))
 |NotIn=>
  refine ah (Ij h) λb' h' e=>?_;subst e;exact Kl (A:=A.in1) h' tv tu hr (λa' us hx h1 h2=>notIn_tupleAt _ hx h1 (h2▸q0)) (λa' us hx h1 h2=>notIn_listAt _ hx h1 (h2▸q0)) (λk x t l hk e=>H2 A s k l x _ Q E g rm hk (e▸hq))
end
end Mine
namespace Mine
open PySem PySem.W PyProof.Rows
set_option tactic.hygienic false
theorem SG{α:Type}{b:Bool}{x:Option α}{r:α}(h:ap b x none=some r):b=true∧x=some r:=fg h
theorem afR{α:Type}{b:Bool}{x:Option α}{r:α}(h:ap b none x=some r):b=false∧x=some r:=Ds h
@[elab_as_elim] theorem jo{σ:Nat→Addr}{hp:Heap}{a b r:D}{v u:Value}{f:Int→Int→Option D}{G:Value→Value→Prop}(h:iP f a b=some r)(tv:Tells σ hp v a)(tu:Tells σ hp u b)(k:∀i j t t',f i j=some r→G (.int i t) (.int j t')):G v u:=
 gI h tv λi t e=>gI e tu λj t' e=>k i j t t' e
theorem Ce{i:Int}(h:fits i=true):i.natAbs<2^4096:=by
 have e:fits i=Nat.blt i.natAbs big:=rfl;rw[e,blt_eq]at h;have:=aR h;have eb:big=2^4096:=by unfold big;rfl
 rwa[eb]at this
theorem Jr{i:Int}(h:i.natAbs<2^4096):Builtin.Int.intBits i≤4096:=by
 unfold Builtin.Int.intBits;split
 ·omega
 ·rename_i q;have h0:i.natAbs≠0:=by intro e;exact q (by rw[beq_iff_eq];exact Int.natAbs_eq_zero.mp e)
  have:=(Nat.log2_lt h0).mpr h;omega
theorem mulOk_of{i j:Int}(hi:i.natAbs<2^4096)(hj:j.natAbs<2^4096):IntMulOk i j:=by
 unfold IntMulOk;have h1:=Jr hi;have h2:=Jr hj;have h3:Builtin.Int.intTooBig (Builtin.Int.intBits i+Builtin.Int.intBits j)=false:=by
  unfold Builtin.Int.intTooBig;rw[decide_eq_false_iff_not];have hb:(bitsLine:Int)≥8192:=by decide
  omega
 rw[h3,Bool.and_false];decide
theorem Ra(x y:List Nat):ao x++ao y=ao (x++y):=by
 show Str.mk (x.toArray++y.toArray)=Str.mk (x++y).toArray;simp
theorem Bt(x:List Nat):(ao x).length=x.length:=rfl
theorem Rb(x y:List Nat):cH x++cH y=cH (x++y):=by
 show(x.map UInt8.ofNat).toArray++(y.map UInt8.ofNat).toArray=((x++y).map UInt8.ofNat).toArray;simp
theorem qo(x:List Nat):(cH x).size=x.length:=by simp[cH]
theorem BH{α:Type}{x y:List α}{d r:D}(h:short x y d=some r):x.length+y.length<10000∧d=r:=by
 refine am (λh1 h2=>?_) (SG h);rw[blt_eq,gD,gD]at h1;exact⟨aR h1,au h2⟩
theorem ax.append{σ:Nat→Addr}{h:Heap}{ds es:List D}{us:List Value}:∀{vs:List Value},ax σ h vs ds→ax σ h us es→ax σ h (vs++us) (ds++es):=by
 induction ds with
 |nil=>exact λT y=>kE T y
 |cons d ds ih=>exact λT y=>fN T λv vs x r=>.cons x (ih r y)
def bz(c:Cx):Prop:=∀h h',(∀b o,h.get? b=some o→h'.get? b=some o)→c.G h→c.G h'
theorem Nx.push{c:Cx}(H:bz c){s:Shared}(g:c.G s.heap)(o:Obj)(t:Nat):Nx c s {s with heap:=s.heap.push o,toks:=t}:=⟨_,_,rfl,aE.push _ _,H _ _ (λz z e=>bA _ e) g⟩
theorem Nx.ext{c:Cx}(H:bz c){s:Shared}(g:c.G s.heap)(h:Heap)(t:Nat)(k:∀b o,s.heap.get? b=some o→h.get? b=some o):Nx c s {s with heap:=h,toks:=t}:=⟨_,_,rfl,aE.gb k,H _ _ k g⟩
section
variable{c:Cx}{A:Around}{s:Shared}{v u:Value}{Q:Value→Shared→Prop}{E:Value→Shared→Prop}{r:D}
theorem Rd(H:bz c){a b:D}(h:My a b=some r)
  (tv:Tells c.σ s.heap v a)(tu:Tells c.σ s.heap u b)(g:c.G s.heap)(hq:∀x s',Tells c.σ s'.heap x r→Nx c s s'→Q x s'):wpAny c.M A (binaryOp .Add v u) Q E s:=by
 cases a with
 |int i=>exact jG tv λt=>gI h tu λj t' e=>PyProof.Rows.add_int (hq _ _ (au e▸.int _ _) (Nx.tok g _))
 |str x=>
  refine jH tv λt=>CZ h tu λy t' e=>am (λh1 h2=>?_) (BH e);refine PyProof.Rows.add_str (λt' tk=>?_) (by rw[Bt,Bt];exact eY (jC h1) aX);rw[Ra];exact hq _ _ (h2▸.str _ _) (Nx.tok g _)
 |bytes x=>
  refine j5 tv λt=>qS h tu λy t' e=>am (λh1 h2=>?_) (BH e);refine KBy.add_bytes (by rw[qo,qo];exact eY (jC h1) aX) (λt' k=>?_);rw[Rb];exact hq _ _ (h2▸.bytes _ _) (Nx.tok g _)
 |list x=>
  refine oE tv λl vs hx tx=>yb h tu λy l2 ws e hy ty=>am (λh1 h2=>?_) (BH e);refine bW hx λo n ho hc tA hd=>?_;obtain⟨cls,dd,data,sl⟩:=o;refine bW hy λo2 n2 Oq Ot af8 hd2=>?_;obtain⟨af9,As,data2,pP⟩:=o2;simp only at hc hd Ot hd2;subst hc hd Ot hd2;refine concat_meets ⟨_,ho,rfl⟩ ⟨_,Oq,rfl⟩ noFill_list_add seq_list_add PySem.F.slot_list_add PySem.F.entry_list_add (PySem.F.args_list_add_2 _ _)
   (list_addW l l2 vs.toArray ws.toArray n n2 dd As sl pP (by rw[List.size_toArray,List.size_toArray,tx.length,ty.length];exact eY (jC h1) aX)) ⟨ho,Oq,?_⟩
  rw[show vs.toArray++ws.toArray=(vs++ws).toArray from List.append_toArray vs ws];exact hq _ _ (h2▸.list aQ.push ((tx.keep (aE.push _ _)).append (ty.keep (aE.push _ _)))) (Nx.push H g _ _)
 |_=>exact aF h
theorem HJ(H:bz c){op:Operator}{a b:D}(h:jI op a b=some r)
  (tv:Tells c.σ s.heap v a)(tu:Tells c.σ s.heap u b)(g:c.G s.heap)(hq:∀x s',Tells c.σ s'.heap x r→Nx c s s'→Q x s'):wpAny c.M A (binaryOp op v u) Q E s:=by
 have q:∀{k t},some (D.int k)=some r→Q (.int k t) {s with toks:=s.toks+1}:=λe=>hq _ _ (au e▸.int _ _) (Nx.tok g _);cases op with
 |Add=>exact Rd H h tv tu g hq
 |Sub=>exact jo h tv tu λi j t t' e=>PyProof.Rows.sub_int' (q e)
 |Mult=>exact jo h tv tu λi j t t' e=>am (λh1 h=>am (λh2 e=>PyProof.Rows.mul_int (q e) (mulOk_of (Ce h1) (Ce h2))) (fg h)) (fg e)
 |FloorDiv=>
  refine jo h tv tu λi j t t' e=>am (λh1 h=>am (λh2 e=>?_) (fg h)) (Ds e);rw[qH,beq_eq_false_iff_ne]at h1;refine PyProof.Rows.floordiv_int h1 (q e) (.inl (PyProof.noPylong_of_log2 ?_));have h0:j.natAbs≠0:=λe=>h1 (Int.natAbs_eq_zero.mp e);exact Nat.lt_of_lt_of_le ((Nat.log2_lt h0).mpr (Ce h2)) aX
 |Mod=>
  refine jo h tv tu λi j t t' e=>am (λh1 e=>?_) (Ds e);rw[qH,beq_eq_false_iff_ne]at h1;exact PyProof.Rows.mod_int' h1 (q e)
 |Pow=>
  refine jo h tv tu λi j t t' e=>?_;cases i with
  |negSucc i=>exact aF e
  |ofNat i=>cases j with
   |negSucc j=>exact aF e
   |ofNat j=>
    refine am (λh1 h=>am (λh2 e=>?_) (fg h)) (fg e);rw[blt_eq,decide_eq_true_eq]at h1 h2;refine PyProof.Rows.pow_int_small (kQ j) (by show(j:Int)≤_;omega) (by show i<_;omega) ?_;rw[show(Int.ofNat i)^(Int.ofNat j).toNat=Int.ofNat (Nat.pow i j)from(Int.natCast_pow i j).symm];exact q e
 |BitAnd=>exact jo h tv tu λi j t t' e=>PyProof.Rows.and_int (q e)
 |BitOr=>exact jo h tv tu λi j t t' e=>PyProof.Rows.or_int (q e)
 |BitXor=>exact jo h tv tu λi j t t' e=>PyProof.Rows.xor_int (q e)
 |_=>exact aF h
theorem xe{a:D}{r:Bool}{Q:Bool→Shared→Prop}(h:truth a=some r)(tv:Tells c.σ s.heap v a)(hq:Q r s):wpAny c.M A (truthy v) Q E s:=by
 cases a with
 |none=>exact oC tv (PyProof.Rows.truthy_none (au h▸hq))
 |bool b=>exact ki tv (ir (au h▸hq))
 |int i=>
  refine jG tv λt=>PyProof.Rows.truthy_int ?_;have e:=au h;rw[qH]at e;rw[show(i !=0)=r from e▸(by show(!(i==0))=ap (i==0) false true;cases(i==0)<;>rfl)];exact hq
 |_=>exact aF h
end
def SE(c:Cx)(n:Nat):Prop:=∀(A:Around) (s:Shared) (sc:Scope) (env:Env) (vs:List (Option Str)) (ρ:List (Option D)) (e:E) (p:Expr),St c A n sc env s.heap vs ρ→mE c.N sc vs e p=true→
 (rec c.P n).ev ρ e≠.stuck→bK c A s (eval p env) ((rec c.P n).ev ρ e)
def jd(c:Cx)(n:Nat):Prop:=∀(A:Around) (s:Shared) (sc:Scope) (env:Env) (vs:List (Option Str)) (ρ:List (Option D)) (e:E) (p:Expr),St c A n sc env s.heap vs ρ→mE c.N sc vs e p=true→
 (rec c.P n).ts ρ e≠.stuck→gX c A s (isTrue p env (eval p env)) ((rec c.P n).ts ρ e)
section
variable{c:Cx}{A:Around}{s:Shared}{sc:Scope}{env:Env}{vs:List (Option Str)}{ρ:List (Option D)}{n:Nat}{Q:Value→Shared→Prop}{E₀:Value→Shared→Prop}
theorem xM{p:Expr}(h:(!odd p)=true)(op:CmpOp):behindInMarks op p=false:=by revert h;cases p<;>intro h<;>first|exact aw h|rfl
theorem iL{p:Expr}{ps:List Expr}(h:(!odd p)=true):starEach (p::ps) env=(false,eval p env)::starEach ps env:=by revert h;cases p<;>intro h<;>first|exact aw h|rfl
theorem Uh:(rec c.P n).ev ρ .stop=.stuck:=by cases n<;>rfl
theorem RG{x:Str}{v:Value}{p:Pos}(hs:env.scope.kind=.function)(hx:uU env s.heap x v)(hd:(x==("__debug__":Str))=false)(h:Q v s):wpAny c.M A (eval (.Name x p) env) Q E₀ s:=by
 refine wpAny_Name ?_ hd;rcases hx with⟨hl,m,hn,hm⟩|⟨a,hl|⟨hl,cq⟩,hc,hv⟩
 ·exact wpAny_loadName_local hs hl hn hm h
 ·exact wpAny_loadName_cell hs hl hc hv h
 ·exact wpAny_loadName_free hs hl hc hv h cq
theorem Js{i:Nat}{p:Expr}(F:St c A n sc env s.heap vs ρ)(hm:mE c.N sc vs (.var i) p=true)(af:uR ρ i≠.stuck):bK c A s (eval p env) (uR ρ i):=by
 refine Lf hm λx q hv hd=>?_;unfold uR at af⊢;cases hg:cZ ρ i with
 |none=>rw[hg]at af;exact absurd rfl af
 |some o=>cases o with
  |none=>rw[hg]at af;exact absurd rfl af
  |some d=>exact ah (F.f.var i x d hv hg) λv hh ht=>RG F.f.kind hh hd ⟨d,rfl,ht,Nx.refl F.g⟩
def Cy(c:Cx):Prop:=∀h,c.G h→∀k x,c.N.glob[k]?=some x→∃mg v,h.Ns mainGlobals mg∧mg x=some v∧Tells c.σ h v (c.P.glob k)
theorem SH{x:Str}(h:dX sc x=true):sc.names.lookup x=some .globalImplicit∧(x==("__debug__":Str))=false:=⟨eq_of_beq (a1 h),kq (a2 h)⟩
theorem ud{x:Str}{p:Pos}(F:Fm c sc env s.heap vs ρ)(hx:dX sc x=true)(h:wpAny c.M A (loadGlobal env x) Q E₀ s):wpAny c.M A (eval (.Name x p) env) Q E₀ s:=by
 refine am (λh1 h2=>?_) (SH hx);exact oN F.kind (by unfold Env.kindOf;rw[F.scope];exact h1) h h2
theorem Vs{k:Nat}{p:Expr}(H:Cy c)(F:St c A n sc env s.heap vs ρ)(hm:mE c.N sc vs (.gl k) p=true):bK c A s (eval p env) (.ok (c.P.glob k)):=
 MF hm λx q h1 h2=>cK (H _ F.g k x h1) λmg v g1 g2 g3=>ud F.f h2 (oO (by rw[F.f.bE];exact g1) g2 ⟨_,rfl,g3,Nx.refl F.g⟩)
theorem Ui{d:D}{p:Expr}(F:St c A n sc env s.heap vs ρ)(hm:mE c.N sc vs (.lit d) p=true):bK c A s (eval p env) (.ok d):=by
 refine Le hm λx k q hm=>?_;revert hm;cases d with
 |none=>cases x with|none=>exact λj=>lZ ⟨_,rfl,.none,Nx.refl F.g⟩|_=>exact aw
 |bool _=>cases x with|bool _=>exact λe=>eq_of_beq e▸rg ⟨_,rfl,.bool _,Nx.refl F.g⟩|_=>exact aw
 |int _=>cases x with|int _=>exact λe=>eq_of_beq e▸iu ⟨_,rfl,.int _ _,Nx.tok F.g _⟩|_=>exact aw
 |str _=>cases x with|str _=>exact λe=>eq_of_beq e▸l0 ⟨_,rfl,.str _ _,Nx.tok F.g _⟩|_=>exact aw
 |bytes b=>cases x with
  |bytes _=>exact λe=>eq_of_beq e▸(show wpAny c.M A (mkTextBytes (cH b).toList.toArray) (VP c s (.ok (.bytes b))) (EP c s (Out.ok (D.bytes b))) s from by rw[Array.toArray_toList];exact λj j j=>⟨_,rfl,.bytes _ _,Nx.tok F.g _⟩)
  |_=>exact aw
 |_=>exact aw
theorem BQ{f:E→Out D}{e:E}{es:List E}:cj f (e::es)=(f e).bind λd=>(cj f es).bind λds=>.ok (d::ds):=rfl
theorem BR(hE:SE c n){es:List E}{pos:Pos}:∀{ps:List Expr} {s:Shared},St c A n sc env s.heap vs ρ→dz c.N sc vs es ps=true→cj ((rec c.P n).ev ρ) es≠.stuck→
  uV c A s (spliced (backTo pos (starEach ps env))) (cj ((rec c.P n).ev ρ) es):=by
 induction es with
 |nil=>exact λF hm j=>qU (G:=λps=>uV c A _ (spliced (backTo pos (starEach ps env))) _) hm (ce ⟨_,rfl,.nil,Nx.refl F.g⟩)
 |cons e es ih=>
  intro ps s F hm af;rw[BQ]at af⊢;refine oh (G:=λps=>uV c A s (spliced (backTo pos (starEach ps env))) _) hm λp ps h0 h1 h2=>?_;rw[iL h0];refine aV (rest:=backTo pos (starEach ps env)) ((hE A s sc env vs ρ e p F h1 (br af)).use (λv d s' a b m=>?_) λx d s' a b m=>⟨d,bo a,b,m⟩);rw[a9 a]at af;refine(ih (F.nx m) h2 (br af)).use (λus ds aS a' b' m'=>⟨d::ds,?_,.cons (b.keep m'.keep) b',m.trans m'⟩) λx d' aS a' b' m'=>⟨d',?_,b',m.trans m'⟩
  ·rw[a9 a,a9 a']
  ·rw[a9 a,bo a']
theorem BS{α β:Type}{x:Out α}{f:α→Out β}{b:β}(h:x.bind f=.ok b):∃a,x=.ok a∧f a=.ok b:=by
 cases x with
 |ok a=>exact⟨a,rfl,h⟩
 |_=>cases h
theorem uk{α:Type}{a b:α}(h:Out.ok a=.ok b):a=b:=by cases h;rfl
theorem Cf{f:E→Out D}{es:List E}:∀{ds:List D},cj f es=.ok ds→ds.length=es.length:=by
 induction es with
 |nil=>exact λh=>uk h▸rfl
 |cons e es ih=>
  intro ds h;rw[BQ]at h;exact ah (BS h) λd j h=>ah (BS h) λr h1 h=>uk h▸bp Nat.succ (ih h1)
theorem Cg{es:List E}:∀{ps:List Expr},dz c.N sc vs es ps=true→es.length=ps.length:=by
 induction es with
 |nil=>exact λh=>qU (G:=λps=>0=ps.length) h rfl
 |cons e es ih=>exact λh=>oh (G:=λps=>es.length+1=ps.length) h λp ps j j h2=>bp Nat.succ (ih h2)
theorem Ju(H:bz c)(hE:SE c n){es:List E}{p:Expr}(F:St c A n sc env s.heap vs ρ)(hm:mE c.N sc vs (.tup es) p=true)(af:yD (rec c.P n) ρ es≠.stuck):
  bK c A s (eval p env) (yD (rec c.P n) ρ es):=by
 refine Lg hm λl k q h0 hm=>?_;have ns:=br af;refine Tuple_ ((BR hE F hm ns).use (λus ds s' a b m=>?_) λx d s' a b m=>⟨d,bo a,b,m⟩);refine wpAny_newTuple ⟨.tuple ds,a9 a,.tuple aQ.push (b.keep (aE.push _ _)),m.trans (Nx.push H m.g _ _)⟩ ?_;rw[b.length,Cf a,Cg hm];exact eY (jC h0) aX
theorem Uj(H:bz c)(hE:SE c n){es:List E}{p:Expr}(F:St c A n sc env s.heap vs ρ)(hm:mE c.N sc vs (.lst es) p=true)(af:Dy (rec c.P n) ρ es≠.stuck):
  bK c A s (eval p env) (Dy (rec c.P n) ρ es):=by
 refine Lh hm λl q h0 hm=>?_;have ns:=br af;refine List_ ((BR hE F hm ns).use (λus ds s' a b m=>?_) λx d s' a b m=>⟨d,bo a,b,m⟩);refine wpAny_newList ⟨.list ds,a9 a,.list aQ.push (b.keep (aE.push _ _)),m.trans (Nx.push H m.g _ _)⟩ ?_;rw[b.length,Cf a,Cg hm];exact eY (jC h0) aX
theorem Uk(H:bz c)(hE:SE c n){op:Operator}{a b:E}{p:Expr}(F:St c A n sc env s.heap vs ρ)(hm:mE c.N sc vs (.bin op a b) p=true)(af:yF (rec c.P n) ρ op a b≠.stuck):
  bK c A s (eval p env) (yF (rec c.P n) ρ op a b):=by
 refine Lj hm λl r q h1 h2=>?_;refine wpAny_BinOp ((hE A s sc env vs ρ a l F h1 (br af)).use (λv d s' e1 t1 m=>?_) λx d s' e1 f1 m=>⟨d,bo e1,f1,m⟩);unfold yF at af⊢;rw[a9 e1]at af⊢;refine(hE A s' sc env vs ρ b r (F.nx m) h2 (br af)).use (λu d2 s2 e2 t2 m2=>?_) λx d s2 e2 f1 m2=>⟨d,bo e2,f1,m.trans m2⟩;rw[a9 e2]at af⊢;refine ak (gL af) λz hz=>?_;rw[hz];exact HJ H hz (t1.keep m2.keep) t2 m2.g λx s3 t3 m3=>⟨z,rfl,t3,(m.trans m2).trans m3⟩
theorem Ul(hE:SE c n){a:E}{p:Expr}(F:St c A n sc env s.heap vs ρ)(hm:mE c.N sc vs (.neg a) p=true)(af:yG (rec c.P n) ρ a≠.stuck):bK c A s (eval p env) (yG (rec c.P n) ρ a):=by
 refine Lk hm λx q h1=>?_;refine wpAny_UnaryOp ((hE A s sc env vs ρ a x F h1 (br af)).use (λv d s' e1 t1 m=>?_) λx d s' e1 f1 m=>⟨d,bo e1,f1,m⟩);unfold yG at af⊢;rw[a9 e1]at af⊢;cases d<;>first|exact absurd rfl af|skip
 cases t1;exact neg_int ⟨_,rfl,.int _ _,m.trans (Nx.tok m.g _)⟩
theorem Vt(hE:SE c n){a:E}{p:Expr}(F:St c A n sc env s.heap vs ρ)(hm:mE c.N sc vs (.no a) p=true)(af:Ar (rec c.P n) ρ a≠.stuck):bK c A s (eval p env) (Ar (rec c.P n) ρ a):=by
 refine MG hm λx q h1=>?_;refine wpAny_UnaryOp ((hE A s sc env vs ρ a x F h1 (br af)).use (λv d s' e1 t1 m=>?_) λx d s' e1 f1 m=>⟨d,bo e1,f1,m⟩);unfold Ar at af⊢;rw[a9 e1]at af⊢;refine ak (gL (br af)) λt ht=>?_;rw[ht];refine not_of (xe ht t1 ?_);exact⟨.bool !t,by cases t<;>rfl,.bool _,m⟩
end
section
variable{c:Cx}{A:Around}{s:Shared}{sc:Scope}{env:Env}{vs:List (Option Str)}{ρ:List (Option D)}{n:Nat}{Q:Value→Shared→Prop}{E₀:Value→Shared→Prop}
theorem aP.zero(r:aP A n):aP A 0:=r.less (gO _)
theorem Km(H1:j8 c)(H2:jZ c)(hE:SE c n){op:CmpOp}{a b:E}{l r:Expr}{Q:Value→Shared→Prop}(F:St c A n sc env s.heap vs ρ)(h1:mE c.N sc vs a l=true)(h2:mE c.N sc vs b r=true)
  (af:jJ c.P (rec c.P n) ρ op a b≠.stuck)(hq:∀t s',jJ c.P (rec c.P n) ρ op a b=.ok t→Nx c s s'→Q (.bool t) s')
  (hx:∀x d s',jJ c.P (rec c.P n) ρ op a b=.exc d→c.Flt s'.heap x d→Nx c s s'→E₀ x s'):
  wpAny c.M A (eval l env) (λv an=>wpAny c.M A (eval r env) (λu cB=>wpAny c.M A (compareOp op v u) Q E₀ cB) E₀ an) E₀ s:=by
 unfold jJ at*;refine(hE A s sc env vs ρ a l F h1 (br af)).use (λv d s' e1 t1 m=>?_) λx d s' e1 f1 m=>hx x d s' (bo e1) f1 m;rw[a9 e1]at af hq hx;refine(hE A s' sc env vs ρ b r (F.nx m) h2 (br af)).use (λu d2 s2 e2 t2 m2=>?_) λx d s2 e2 f1 m2=>hx x d s2 (bo e2) f1 (m.trans m2);rw[a9 e2]at af hq hx;refine ak (gL af) λz hz=>?_;rw[hz]at hq;exact lz H1 H2 hz (t1.keep m2.keep) t2 m2.g F.r.zero λs3 m3=>hq z s3 rfl ((m.trans m2).trans m3)
theorem Um(H1:j8 c)(H2:jZ c)(hE:SE c n){op:CmpOp}{a b:E}{p:Expr}(F:St c A n sc env s.heap vs ρ)(hm:mE c.N sc vs (.cmp op a b) p=true)
  (af:kR (jJ c.P (rec c.P n) ρ op a b)≠.stuck):bK c A s (eval p env) (kR (jJ c.P (rec c.P n) ρ op a b)):=by
 refine Ll hm λl r q hb h1 h2=>?_;exact wpAny_Compare1 (Km H1 H2 hE F h1 h2 (br af) (λt s' e m=>⟨.bool t,a9 e,.bool _,m⟩) λx d s' e f m=>⟨d,bo e,f,m⟩) (xM hb _)
theorem Un(H1:j8 c)(H2:jZ c)(hE:SE c n){op:CmpOp}{a b:E}{p:Expr}(F:St c A n sc env s.heap vs ρ)(hm:mE c.N sc vs (.cmp op a b) p=true)
  (af:jJ c.P (rec c.P n) ρ op a b≠.stuck):gX c A s (isTrue p env (eval p env)) (jJ c.P (rec c.P n) ρ op a b):=by
 refine Ll hm λl r q hb h1 h2=>?_;exact rh (Km H1 H2 hE F h1 h2 af (λt s' e m=>ir ⟨e,m⟩) λx d s' e f m=>⟨d,e,f,m⟩) (xM hb _)
theorem BU{r:Rc}{o1 o2:CmpOp}{a b e:E}{P:bJ}{x y:D}{t:Bool}(h1:r.ev ρ a=.ok x)(h2:r.ev ρ b=.ok y)(h3:fG P o1 x y=some t):
  ij P r ρ o1 o2 a b e=ap t ((r.ev ρ e).bind λz=>.of (fG P o2 y z)) (.ok false):=by
 unfold ij;rw[a9 h1,a9 h2,h3]
theorem Jv(H1:j8 c)(H2:jZ c)(hE:SE c n){o1 o2:CmpOp}{a b e:E}{l r t:Expr}(F:St c A n sc env s.heap vs ρ)
  (h1:mE c.N sc vs a l=true)(h2:mE c.N sc vs b r=true)(h3:mE c.N sc vs e t=true)(af:ij c.P (rec c.P n) ρ o1 o2 a b e≠.stuck):
  bK c A s (eval l env) ((rec c.P n).ev ρ a)∧∀v x an,(rec c.P n).ev ρ a=.ok x→Tells c.σ an.heap v x→Nx c s an→bK c A an (eval r env) ((rec c.P n).ev ρ b)∧
   ∀u y cB,(rec c.P n).ev ρ b=.ok y→Tells c.σ cB.heap u y→Nx c an cB→∃z,fG c.P o1 x y=some z∧(∀Q E₀,(∀df,Nx c cB df→Q (.bool z) df)→wpAny c.M A (compareOp o1 v u) Q E₀ cB)∧
    ∀df,Nx c cB df→z=true→bK c A df (eval t env) ((rec c.P n).ev ρ e)∧∀k g kF,(rec c.P n).ev ρ e=.ok g→Tells c.σ kF.heap k g→Nx c df kF→∃w,fG c.P o2 y g=some w∧
     ∀Q E₀,(∀yM,Nx c kF yM→Q (.bool w) yM)→wpAny c.M A (compareOp o2 u k) Q E₀ kF:=by
 have ab2:=af;unfold ij at af;refine⟨hE A s sc env vs ρ a l F h1 (br af),λv x an e1 t1 m1=>?_⟩;rw[a9 e1]at af;refine⟨hE A an sc env vs ρ b r (F.nx m1) h2 (br af),λu y cB e2 t2 m2=>?_⟩;rw[a9 e2]at af;refine ak (gL (br af)) λz hz=>?_;refine⟨z,hz,λQ E₀ hq=>lz H1 H2 hz (t1.keep m2.keep) t2 m2.g F.r.zero hq,λdf m3 hz1=>?_⟩;subst hz1;have e3:=BU (e:=e) (o2:=o2) e1 e2 hz;have DC:((rec c.P n).ev ρ e).bind (λz=>Out.of (fG c.P o2 y z))≠.stuck:=by
  intro q;apply ab2;rw[e3];exact q
 refine⟨hE A df sc env vs ρ e t (((F.nx m1).nx m2).nx m3) h3 (br DC),λk g kF e4 t4 m4=>?_⟩;rw[a9 e4]at DC;refine ak (gL DC) λw hw=>?_;exact⟨w,hw,λQ E₀ hq=>lz H1 H2 hw ((t2.keep m3.keep).keep m4.keep) t4 m4.g F.r.zero hq⟩
theorem SI(H1:j8 c)(H2:jZ c)(hE:SE c n){o1 o2:CmpOp}{a b e:E}{p:Expr}(F:St c A n sc env s.heap vs ρ)(hm:mE c.N sc vs (.iZ o1 o2 a b e) p=true)
  (af:kR (ij c.P (rec c.P n) ρ o1 o2 a b e)≠.stuck):bK c A s (eval p env) (kR (ij c.P (rec c.P n) ρ o1 o2 a b e)):=by
 refine Kd hm λl r t q hb h1 h2 h3=>?_;refine am (λS1 K1=>?_) (Jv H1 H2 hE F h1 h2 h3 (br af));refine Compare_chain (S1.use (λv x an e1 t1 m1=>?_) λx d s' e1 f1 m=>⟨d,bo (bo e1),f1,m⟩) (xM hb _);refine am (λS2 K2=>?_) (K1 v x an e1 t1 m1);refine chain_link (S2.use (λu y cB e2 t2 m2=>?_) λx d s' e2 f1 m=>⟨d,bo (by unfold ij;rw[a9 e1];exact bo e2),f1,m1.trans m⟩);refine bS (K2 u y cB e2 t2 m2) λz hz S3 K3=>?_;refine S3 _ _ λdf m3=>ir ?_;have e3:=BU (e:=e) (o2:=o2) e1 e2 hz;have m:=(m1.trans m2).trans m3;cases z with
 |false=>exact⟨.bool false,a9 e3,.bool _,m⟩
 |true=>
  refine am (λS4 K4=>?_) (K3 df m3 rfl);refine chain_last (S4.use (λk g kF e4 t4 m4=>?_) λx d s' e4 f1 m'=>⟨d,bo (e3.trans (bo e4)),f1,m.trans m'⟩);refine ah (K4 k g kF e4 t4 m4) λw hw S5=>?_;refine S5 _ _ λyM m5=>⟨.bool w,a9 (e3.trans (by show Out.bind _ _=_;rw[a9 e4,hw])),.bool _,(m.trans m4).trans m5⟩
theorem SJ(H1:j8 c)(H2:jZ c)(hE:SE c n){o1 o2:CmpOp}{a b e:E}{p:Expr}(F:St c A n sc env s.heap vs ρ)(hm:mE c.N sc vs (.iZ o1 o2 a b e) p=true)
  (af:ij c.P (rec c.P n) ρ o1 o2 a b e≠.stuck):gX c A s (isTrue p env (eval p env)) (ij c.P (rec c.P n) ρ o1 o2 a b e):=by
 refine Kd hm λl r t q hb h1 h2 h3=>?_;refine am (λS1 K1=>?_) (Jv H1 H2 hE F h1 h2 h3 af);refine isTrue_chain (S1.use (λv x an e1 t1 m1=>?_) λx d s' e1 f1 m=>⟨d,bo e1,f1,m⟩) (xM hb _);refine am (λS2 K2=>?_) (K1 v x an e1 t1 m1);refine test_link (S2.use (λu y cB e2 t2 m2=>?_) λx d s' e2 f1 m=>⟨d,(by unfold ij;rw[a9 e1];exact bo e2),f1,m1.trans m⟩);refine bS (K2 u y cB e2 t2 m2) λz hz S3 K3=>?_;refine S3 _ _ λdf m3=>ir ?_;have e3:=BU (e:=e) (o2:=o2) e1 e2 hz;have m:=(m1.trans m2).trans m3;cases z with
 |false=>exact⟨e3,m⟩
 |true=>
  refine am (λS4 K4=>?_) (K3 df m3 rfl);refine test_last (S4.use (λk g kF e4 t4 m4=>?_) λx d s' e4 f1 m'=>⟨d,e3.trans (bo e4),f1,m.trans m'⟩);refine ah (K4 k g kF e4 t4 m4) λw hw S5=>?_;exact S5 _ _ λyM m5=>ir ⟨e3.trans (by show Out.bind _ _=_;rw[a9 e4,hw]),(m.trans m4).trans m5⟩
theorem Uo(hE:SE c n)(hT:jd c n){a b e:E}{p:Expr}(F:St c A n sc env s.heap vs ρ)(hm:mE c.N sc vs (.ite a b e) p=true)(af:yH (rec c.P n) ρ a b e≠.stuck):
  bK c A s (eval p env) (yH (rec c.P n) ρ a b e):=by
 refine Lm hm λl r t q h1 h2 h3=>?_;unfold yH at*;refine IfExp_ ((hT A s sc env vs ρ a l F h1 (br af)).use (λz an e1 m1=>?_) λx d s' e1 f1 m=>⟨d,bo e1,f1,m⟩);rw[a9 e1]at af⊢;cases z with
 |true=>exact(hE A an sc env vs ρ b r (F.nx m1) h2 af).at m1 rfl
 |false=>exact(hE A an sc env vs ρ e t (F.nx m1) h3 af).at m1 rfl
theorem Up(hT:jd c n){a b e:E}{p:Expr}(F:St c A n sc env s.heap vs ρ)(hm:mE c.N sc vs (.ite a b e) p=true)(af:yI (rec c.P n) ρ a b e≠.stuck):
  gX c A s (isTrue p env (eval p env)) (yI (rec c.P n) ρ a b e):=by
 refine Lm hm λl r t q h1 h2 h3=>?_;unfold yI at*;refine isTrue_IfExp ((hT A s sc env vs ρ a l F h1 (br af)).use (λz an e1 m1=>?_) λx d s' e1 f1 m=>⟨d,bo e1,f1,m⟩);rw[a9 e1]at af⊢;cases z with
 |true=>exact(hT A an sc env vs ρ b r (F.nx m1) h2 af).at m1 rfl
 |false=>exact(hT A an sc env vs ρ e t (F.nx m1) h3 af).at m1 rfl
end
section
variable{c:Cx}{A:Around}{s:Shared}{sc:Scope}{env:Env}{vs:List (Option Str)}{ρ:List (Option D)}{n:Nat}{Q:Value→Shared→Prop}{E₀:Value→Shared→Prop}
noncomputable def Ou(w:Bool)(x:Out D)(d:D):Out D:=@Option.rec Bool (λz=>Out D) .stuck (λt=>ap (ap w t (ap t false true)) x (.ok d)) (truth d)
theorem Uq(hE:SE c n){w:Bool}{q:Pos}{es:List E}:∀{ps:List Expr} {s:Shared},St c A n sc env s.heap vs ρ→dz c.N sc vs es ps=true→mh ((rec c.P n).ev ρ) w es≠.stuck→
  bK c A s (eval (.BoolOp (if w then .And else .Or) ps q) env) (mh ((rec c.P n).ev ρ) w es):=by
 induction es with
 |nil=>exact λz z h=>absurd rfl h
 |cons e es ih=>
  intro ps s F hm af;refine oh hm λp ps h0 h1 h2=>?_;cases es with
  |nil=>exact qU h2 (BoolOp_one (hE A s sc env vs ρ e p F h1 af))
  |cons e' es=>
   have h3:=h2;revert h3;refine oh h2 λp' ps z z z h2=>?_;have eo:mh ((rec c.P n).ev ρ) w (e::e'::es)=((rec c.P n).ev ρ e).bind (Ou w (mh ((rec c.P n).ev ρ) w (e'::es))):=rfl;generalize mh ((rec c.P n).ev ρ) w (e::e'::es)=o at af eo⊢;have key:∀v d s',(rec c.P n).ev ρ e=.ok d→Tells c.σ s'.heap v d→Nx c s s'→∃t,truth d=some t∧
     ((ap w t (ap t false true))=true→wpAny c.M A (eval (.BoolOp (if w then .And else .Or) (p'::ps) q) env) (VP c s o) (EP c s o) s')∧((ap w t (ap t false true))=false→VP c s o v s'):=by
    intro v d s' e1 t1 m;rw[a9 e1]at eo;unfold Ou at eo;cases ht:truth d with
    |none=>rw[ht]at eo;exact absurd eo af
    |some t=>
     rw[ht]at eo;dsimp only at eo;refine⟨t,rfl,λhw=>?_,λhw=>⟨d,by rw[eo,hw],t1,m⟩⟩;rw[hw]at eo;exact(ih (F.nx m) h2 λh=>af (eo.trans h)).at m eo.symm
   have S1:=hE A s sc env vs ρ e p F h1 (br (eo▸af));cases w with
   |true=>
    refine BoolOp_and (S1.use (λv d s' e1 t1 m=>?_) λx d s' e1 f1 m=>⟨d,eo.trans (bo e1),f1,m⟩);refine bS (key v d s' e1 t1 m) λt ht k1 k2=>xe ht t1 ?_;cases t
    ·exact k2 rfl
    ·exact k1 rfl
   |false=>
    refine BoolOp_or (S1.use (λv d s' e1 t1 m=>?_) λx d s' e1 f1 m=>⟨d,eo.trans (bo e1),f1,m⟩);refine bS (key v d s' e1 t1 m) λt ht k1 k2=>xe ht t1 ?_;cases t
    ·exact k1 rfl
    ·exact k2 rfl
theorem Vu(hE:SE c n){w:Bool}{es:List E}{p:Expr}(F:St c A n sc env s.heap vs ρ)(hm:mE c.N sc vs (.bl w es) p=true)(af:mh ((rec c.P n).ev ρ) w es≠.stuck):
  bK c A s (eval p env) (mh ((rec c.P n).ev ρ) w es):=MH hm λl q h1=>Uq hE F h1 af
theorem Ur(hT:jd c n){w:Bool}{q:Pos}{wh:Sem Value}{es:List E}:∀{ps:List Expr} {s:Shared},St c A n sc env s.heap vs ρ→dz c.N sc vs es ps=true→mj ((rec c.P n).ts ρ) w es≠.stuck→
  gX c A s (isTrue (.BoolOp (if w then .And else .Or) ps q) env wh) (mj ((rec c.P n).ts ρ) w es):=by
 induction es with
 |nil=>exact λF hm z=>qU hm (by cases w;exact isTrue_or_nil ⟨rfl,Nx.refl F.g⟩;exact isTrue_and_nil ⟨rfl,Nx.refl F.g⟩)
 |cons e es ih=>
  intro ps s F hm af;refine oh hm λp ps h0 h1 h2=>?_;have eo:mj ((rec c.P n).ts ρ) w (e::es)=((rec c.P n).ts ρ e).bind λt=>ap (ap w t (ap t false true)) (mj ((rec c.P n).ts ρ) w es) (.ok t):=rfl;generalize mj ((rec c.P n).ts ρ) w (e::es)=o at af eo⊢;have S1:=hT A s sc env vs ρ e p F h1 (br (eo▸af));cases w with
  |true=>
   refine isTrue_and (S1.use (λt s' e1 m=>?_) λx d s' e1 f1 m=>⟨d,eo.trans (bo e1),f1,m⟩);rw[a9 e1]at eo;cases t with
   |true=>exact(ih (F.nx m) h2 λh=>af (eo.trans h)).at m eo.symm
   |false=>exact⟨eo,m⟩
  |false=>
   refine isTrue_or (S1.use (λt s' e1 m=>?_) λx d s' e1 f1 m=>⟨d,eo.trans (bo e1),f1,m⟩);rw[a9 e1]at eo;cases t with
   |false=>exact(ih (F.nx m) h2 λh=>af (eo.trans h)).at m eo.symm
   |true=>exact⟨eo,m⟩
theorem Vv(hT:jd c n){w:Bool}{es:List E}{p:Expr}(F:St c A n sc env s.heap vs ρ)(hm:mE c.N sc vs (.bl w es) p=true)(af:mj ((rec c.P n).ts ρ) w es≠.stuck):
  gX c A s (isTrue p env (eval p env)) (mj ((rec c.P n).ts ρ) w es):=MH hm λl q h1=>Ur hT F h1 af
theorem Vw(hT:jd c n){a:E}{p:Expr}(F:St c A n sc env s.heap vs ρ)(hm:mE c.N sc vs (.no a) p=true)(af:(((rec c.P n).ts ρ a).bind λt=>Out.ok (ap t false true))≠.stuck):
  gX c A s (isTrue p env (eval p env)) (((rec c.P n).ts ρ a).bind λt=>.ok (ap t false true)):=by
 refine MG hm λx q h1=>?_;refine isTrue_not ((hT A s sc env vs ρ a x F h1 (br af)).use (λt s' e1 m=>?_) λx d s' e1 f1 m=>⟨d,bo e1,f1,m⟩);rw[a9 e1];exact⟨by cases t<;>rfl,m⟩
theorem SK(hE:SE c n){e:E}{p:Expr}(F:St c A n sc env s.heap vs ρ)(hm:mE c.N sc vs e p=true)(hp:isTrue p env (eval p env)=(do let v←eval p env;standAt p.pos;holding [v] (truthy v)))
  (af:lS (rec c.P n) ρ e≠.stuck):gX c A s (isTrue p env (eval p env)) (lS (rec c.P n) ρ e):=by
 unfold lS at*;refine isTrue_plain ((hE A s sc env vs ρ e p F hm (br af)).use (λv d s' e1 t1 m=>?_) λx d s' e1 f1 m=>⟨d,bo e1,f1,m⟩) hp;rw[a9 e1]at af⊢;refine ak (gL af) λt ht=>?_;rw[ht];exact xe ht t1 ⟨rfl,m⟩
end
theorem Us{ds:List D}{k:Int}{d:D}(h:Om ds k=some d): -(2^63)≤k∧k<2^63∧∃j,seqIndex? k ds.length=some j∧ds[j]?=some d:=by
 cases k with
 |ofNat m=>
  refine am (λh1 h=>?_) (fg h);rw[blt_eq,decide_eq_true_eq]at h1;rw[xq]at h;exact⟨Int.le_trans (by decide) (kQ m),Int.lt_trans (Int.ofNat_lt.mpr h1) (by decide),m,seqIndex_of (kQ m) (Int.ofNat_lt.mpr (List.getElem?_eq_some_iff.mp h).1),h⟩
 |negSucc m=>
  refine am (λh1 h=>am (λh2 h=>?_) (fg h)) (fg h);rw[blt_eq,decide_eq_true_eq]at h1 h2;rw[gD]at h2;rw[xq,gD]at h;refine⟨by omega,by omega,ds.length-1-m,(seqIndex_neg (Int.negSucc_lt_zero m) (by omega)).trans (bp some (by omega)),h⟩
def xt(c:Cx):Prop:=∀(A:Around) (s:Shared) (k:Nat) (l:List (List Nat×D)) (x:List Nat) (d:D) (t:Tok) (value slice:Expr) (Q:Value→Shared→Prop) (E:Value→Shared→Prop),c.G s.heap→aP A 0→c.P.dict k=some l→look x l=some d→
 (∀v s',Tells c.σ s'.heap v d→Nx c s s'→Q v s')→wpAny c.M A (subscriptTail value slice (.ref (c.σ k)) (.str (ao x) t)) Q E s
section
variable{c:Cx}{A:Around}{s:Shared}{sc:Scope}{env:Env}{vs:List (Option Str)}{ρ:List (Option D)}{n:Nat}{Q:Value→Shared→Prop}{E₀:Value→Shared→Prop}
theorem oj(slice:Expr)(o i:Value):∃ops,subscripted slice false o i=operate ops (getItem o i):=by
 cases slice with
 |Slice a b st=>cases st<;>exact⟨_,rfl⟩
 |_=>exact⟨_,rfl⟩
theorem Rf(H:xt c){value slice:Expr}{o i r:D}{v u:Value}(h:MB c.P o i=some r)(tv:Tells c.σ s.heap v o)(tu:Tells c.σ s.heap u i)(g:c.G s.heap)(rm:aP A 0)
  (hq:∀x s',Tells c.σ s'.heap x r→Nx c s s'→Q x s'):wpAny c.M A (subscriptTail value slice v u) Q E₀ s:=by
 cases o with
 |tuple ds=>
  exact mf tv λa us hx tx=>gI h tu λk t e=>JY (Us e) λh1 h2 j h3 h4=>ah (tx.get h4) λx h5 h6=>
   tail_any hx.tuple.typeIs slot_tuple_getitem.lookup (getItem_tuple hx.tuple h1 h2 (by rw[List.size_toArray,tx.length];exact h3) (by rw[List.getElem?_toArray];exact h5) (hq x s h6 (Nx.refl g))) (oj slice _ _).choose_spec
 |str x=>
  refine jH tv λt=>gI h tu λk t' e=>?_;cases k with
  |negSucc m=>exact aF e
  |ofNat m=>
   refine am (λh1 h=>jb h λcp hg e=>?_) (fg e);rw[blt_eq,decide_eq_true_eq]at h1;rw[xq]at hg;have hl:=(List.getElem?_eq_some_iff.mp hg).1;refine tail_any (typeIs_str _ _ _) F.slot_str_getitem.lookup (PyProof.Rows.getItem_str (c:=cp) ?_ ?_ (hq _ _ (au e▸.str [cp] _) (Nx.tok g _))) (oj slice _ _).choose_spec
   ·exact Bool.or_eq_false_iff.mpr ⟨decide_eq_false (Int.not_lt.mpr (Int.le_trans (by decide:(-2^63:Int)≤0) (kQ m))),decide_eq_false (Int.not_le.mpr (Int.lt_trans (Int.ofNat_lt.mpr h1) (by decide)))⟩
   ·rw[Bt,show seqIndex? (Int.ofNat m) x.length=some m from seqIndex_of (Int.natCast_nonneg m) (Int.ofNat_lt.mpr hl)];exact(ri ..).trans hg
 |obj k=>exact rn tv (CZ h tu λx t e=>jb e λl hd h'=>H A s k l x r _ value slice Q E₀ g rm hd h' hq)
 |_=>exact aF h
theorem Ut(H:xt c)(hE:SE c n){a b:E}{p:Expr}(F:St c A n sc env s.heap vs ρ)(hm:mE c.N sc vs (.sub a b) p=true)(af:yE c.P (rec c.P n) ρ a b≠.stuck):
  bK c A s (eval p env) (yE c.P (rec c.P n) ρ a b):=by
 ·refine Li hm λl r q h1 h2=>?_;refine Subscript_ ((hE A s sc env vs ρ a l F h1 (br af)).use (λv d s' e1 t1 m=>?_) λx d s' e1 f1 m=>⟨d,bo e1,f1,m⟩);unfold yE at af⊢;rw[a9 e1]at af⊢;refine(hE A s' sc env vs ρ b r (F.nx m) h2 (br af)).use (λu d2 s2 e2 t2 m2=>?_) λx d s2 e2 f1 m2=>⟨d,bo e2,f1,m.trans m2⟩;rw[a9 e2]at af⊢;refine ak (gL af) λz hz=>?_;rw[hz];exact Rf H hz (t1.keep m2.keep) t2 m2.g F.r.zero λx s3 t3 m3=>⟨z,rfl,t3,(m.trans m2).trans m3⟩
def xN(c:Cx):Prop:=∀(A:Around) (s:Shared) (k m:Nat) (a:Str) (d:D) (value:Expr) (Q:Value→Shared→Prop) (E:Value→Shared→Prop),c.G s.heap→aP A 0→c.N.attr[m]?=some a→c.P.attr k m=some d→
 (∀v s',Tells c.σ s'.heap v d→Nx c s s'→Q v s')→wpAny c.M A (do let r←holding [.ref (c.σ k)] (getAttr (.ref (c.σ k)) a true);letTemporaryGo value (.ref (c.σ k)) r;pure r) Q E s
theorem xg{o:Expr}{a:Str}{w:Sem Value}(h:f0 o=true):attributeBase o a env w=w:=by
 revert h;cases o with
 |Call g l k q=>cases g with
  |Name x p=>cases l with
   |nil=>cases k with|nil=>exact aw|cons _ _=>exact λy=>rfl
   |cons _ _=>exact λy=>rfl
  |_=>exact λy=>rfl
 |_=>exact λy=>rfl
theorem SM(H:xN c)(hE:SE c n){a:E}{k:Nat}{p:Expr}(F:St c A n sc env s.heap vs ρ)(hm:mE c.N sc vs (.attr a k) p=true)(af:yf c.P (rec c.P n) ρ a k≠.stuck):
  bK c A s (eval p env) (yf c.P (rec c.P n) ρ a k):=by
 ·refine Kc hm λo x q h2 hx h1=>?_;have e0:eval (.Attribute o x q) env=(attributeBase o x env (eval o env)>>=λov=>(standAt q.atName>>=λy=>(do let r←holding [ov] (getAttr ov x true);letTemporaryGo o ov r;pure r))):=rfl;rw[e0,xg h2];refine aj ((hE A s sc env vs ρ a o F h1 (br af)).use (λv d s' e1 t1 m=>?_) λx d s' e1 f1 m=>⟨d,bo e1,f1,m⟩);refine aj (iW ?_);unfold yf at af⊢;rw[a9 e1]at af⊢;refine ak (gL af) λz hz=>?_;rw[hz];exact WY hz t1 λk e=>H A s' _ _ x z o _ _ m.g F.r.zero hx e λv s2 t2 m2=>⟨z,rfl,t2,m.trans m2⟩
end
def DD(c:Cx):Prop:=∀h,c.G h→∀f x,c.N.fn[f]?=some x→(x==("":Str))=false→∃mg,h.Ns mainGlobals mg∧mg x=some (.ref (c.fa f))
def FnAt(c:Cx):Prop:=∀f,f<c.N.fn.length→∃o fd,(∀h,c.G h→h.get? (c.fa f)=some o)∧o.data=.func fd
def xO(c:Cx):Prop:=∀(A:Around) (s:Shared) (k m f:Nat) (x:Str) (pl:Sem Bool) (Q:Value×List Value→Shared→Prop) (E:Value→Shared→Prop),c.G s.heap→aP A 0→c.N.bc[m]?=some x→c.P.bc k m=some f→
 Q (.ref (c.fa f),[.ref (c.σ k)]) s→wpAny c.M A (getMethod (.ref (c.σ k)) x pl) Q E s
def Cz(c:Cx):Prop:=∀k m f,c.P.bc k m=some f→f<c.N.fn.length
def oo(c:Cx)(n:Nat):Prop:=∀(A:Around) (s:Shared) (f:Nat) (vs:List Value) (ds:List D),c.G s.heap→bI c A s.heap→aP A (n+1)→ax c.σ s.heap vs ds→gV c.P (rec c.P n) f ds≠.stuck→
 bK c A s (call (.ref (c.fa f)) vs) (gV c.P (rec c.P n) f ds)
section
variable{c:Cx}{A:Around}{s:Shared}{sc:Scope}{env:Env}{vs:List (Option Str)}{ρ:List (Option D)}{n:Nat}{Q:Value→Shared→Prop}{E₀:Value→Shared→Prop}
theorem Uu{P:bJ}{r:Rc}{f:Nat}{ds:List D}(h:gV P r f ds≠.stuck):∃q,cZ P.fn f=some q:=by
 cases e:cZ P.fn f with
 |none=>exfalso;apply h;unfold gV;rw[e]
 |some q=>exact⟨q,rfl⟩
theorem Bu(hE:SE c n){es:List E}:∀{ps:List Expr},dz c.N sc vs es ps=true→(backTo p (starEach ps env)).any (·.1)=false:=by
 induction es with
 |nil=>exact λh=>qU h rfl
 |cons e es ih=>exact λh=>oh h λp ps h0 w h2=>by rw[iL h0];exact ih h2
theorem xu(hE:SE c n){es:List E}{ps:List Expr}{pos:Pos}{fv:Value}{Q:Args→Shared→Prop}(F:St c A n sc env s.heap vs ρ)(hm:dz c.N sc vs es ps=true)(af:cj ((rec c.P n).ev ρ) es≠.stuck)
  (hq:∀us ds s',cj ((rec c.P n).ev ρ) es=.ok ds→ax c.σ s'.heap us ds→Nx c s s'→Q ⟨us,[]⟩ s')(hx:∀x d s',cj ((rec c.P n).ev ρ) es=.exc d→c.Flt s'.heap x d→Nx c s s'→E₀ x s'):
  wpAny c.M A (evalArgs fv true (backTo pos (starEach ps env)) []) Q E₀ s:=by
 have S:=BR hE (pos:=pos) F hm af;revert S;cases es with
 |nil=>exact qU hm λw=>evalArgs_kw_nil rfl (wpAny_evalAll_nil (hq [] [] s rfl .nil (Nx.refl F.g)))
 |cons e es=>
  refine oh hm λp ps h0 w w S=>?_;rw[iL h0]at S⊢;exact dj (S.use (λus ds s' a b m=>hq us ds s' a b m) λx d s' a b m=>hx x d s' a b m)
theorem SN(H1:DD c)(H2:FnAt c)(hE:SE c n)(hC:oo c n){f:Nat}{es:List E}{p:Expr}(F:St c A (n+1) sc env s.heap vs ρ)(hm:mE c.N sc vs (.call f es) p=true)
  (af:((cj ((rec c.P n).ev ρ) es).bind (gV c.P (rec c.P n) f))≠.stuck):bK c A s (eval p env) ((cj ((rec c.P n).ev ρ) es).bind (gV c.P (rec c.P n) f)):=by
 refine Ke hm λx q l r h1 h4 h2 h3=>?_;have F':=F.less (di n);have e0:eval (.Call (.Name x q) l [] r) env=(eval (.Name x q) env>>=λfv=>callWith r fv [] (backTo r (starEach l env)) []):=rfl;rw[e0];refine ah (H1 _ F.g f x h1 h4) λmg g1 g2=>?_;refine aj (ud F.f h2 (oO (by rw[F.f.bE];exact g1) g2 ?_));refine aO (H2 f (List.getElem?_eq_some_iff.mp h1).1) λo fd o1 o2=>?_;refine gm (o:=o) (fd:=fd) (xu hE F' h3 (br af) (λus ds s' e1 t1 m=>⟨⟨o1 _ m.g,o2⟩,?_⟩) λx d s' e1 f1 m=>⟨d,bo e1,f1,m⟩);rw[a9 e1]at af⊢;have F2:=F.nx m;exact(hC A s' f us ds m.g F2.o F.r t1 af).at m rfl
theorem lG{q:Expr}{x:Str}{l:List Expr}{r t:Pos}{es:List E}(hl:r.endLine=t.line)(hp:f0 q=true)(hlen:l.length<29)(a7:(backTo t (starEach l env)).any (·.1)=false)
  (h:wpAny c.M A (eval q env) (λov an=>∀pl,wpAny c.M A (getMethod ov x pl) (λz cB=>wpAny c.M A (callWith t z.1 z.2 (backTo t (starEach l env)) []) Q E₀ cB) E₀ an) E₀ s):
  wpAny c.M A (eval (.Call (.Attribute q x r) l [] t) env) Q E₀ s:=by
 have e0:eval (.Call (.Attribute q x r) l [] t) env=(attributeBase q x env (eval q env)>>=λov=>(standAt r.atName>>=λw=>methodCall q x r t env ov (l.length+0) (backTo t (starEach l env)) [])):=rfl;rw[e0,xg hp];refine aj (aL h (λov an k=>aj (iW ?_)) λw w y=>y);unfold methodCall;have hf:methodCallForm (l.length+0) (backTo t (starEach l env)) []=true:=by
  unfold methodCallForm;rw[show((backTo t (starEach l env)).all λx=>!x.1)=true from List.all_eq_not_any_not.trans (by simp only[Bool.not_not];rw[a7];rfl)];exact decide_eq_true (gP hlen)
 rw[hf];refine aj (eX ?_);unfold calleeOf;rw[if_pos rfl];refine aL (k _) (λz cB k2=>?_) λw w y=>y;have hm:methodCallPos true q env r t=pure t:=by
  unfold methodCallPos;rw[hl,if_pos (show(!true||t.line==t.line)=true from beq_self_eq_true t.line)]
 show wpAny c.M A (methodCallPos true q env r t>>=_) Q E₀ cB;rw[hm];exact aj (aM k2)
theorem SO(H1:xO c)(H2:FnAt c)(H3:Cz c)(hE:SE c n)(hC:oo c n){o:E}{k:Nat}{es:List E}{p:Expr}(F:St c A (n+1) sc env s.heap vs ρ)(hm:mE c.N sc vs (.bc o k es) p=true)
  (af:(((rec c.P n).ev ρ o).bind (uv c.P (rec c.P n) ρ k es))≠.stuck):bK c A s (eval p env) (((rec c.P n).ev ρ o).bind (uv c.P (rec c.P n) ρ k es)):=by
 refine Kf hm λq x r l t hl hp hx hlen h1 h2=>?_;have F':=F.less (di n);refine lG (es:=es) hl hp hlen (Bu hE h2) ((hE A s sc env vs ρ o q F' h1 (br af)).use (λv d s' e1 t1 m pl=>?_) λx d s' e1 f1 m=>⟨d,bo e1,f1,m⟩);rw[a9 e1]at af⊢;cases d with
 |obj j=>
  cases hf:c.P.bc j k with
  |none=>exact absurd (show uv c.P (rec c.P n) ρ k es (.obj j)=.stuck by show@Option.rec Nat (λw=>Out D) _ _ (c.P.bc j k)=_;rw[hf]) af
  |some f=>
   have e2:uv c.P (rec c.P n) ρ k es (.obj j)=(cj ((rec c.P n).ev ρ) es).bind λds=>gV c.P (rec c.P n) f (.obj j::ds):=by show@Option.rec Nat (λw=>Out D) _ _ (c.P.bc j k)=_;rw[hf]
   rw[e2]at af⊢;refine rn t1 ?_;refine aO (H2 f (H3 _ _ _ hf)) λob fd o1 o2=>?_;refine H1 A s' j k f x pl _ _ m.g F.r.zero hx hf ?_;refine gm (o:=ob) (fd:=fd) (xu hE (F'.nx m) h2 (br af) (λus ds s2 e3 t3 m3=>⟨⟨o1 _ m3.g,o2⟩,?_⟩) λx d s2 e3 f1 m3=>⟨d,bo e3,f1,m.trans m3⟩);rw[a9 e3]at af⊢;have F2:=(F.nx m).nx m3;exact(hC A s2 f (.ref (c.σ j)::us) (.obj j::ds) m3.g F2.o F.r (.cons (.obj j) t3) af).at (m.trans m3) rfl
 |_=>exact absurd rfl af
end
structure Wr(h₀:Heap)(env:Env)(h:Heap)(vs:List (Option Str))(ρ:List (Option D)):Prop where
 len:ρ.length=vs.length
 nodup:∀(i j:Nat) (x:Str),vs[i]?=some (some x)→vs[j]?=some (some x)→i=j
 loc:h₀.get? env.locals=none
 ns:∃m,h.Ns env.locals m
 kind:∀(i:Nat) (x:Str),vs[i]?=some (some x)→env.kindOf x=some .local∨(env.kindOf x=some .cell∧∃a v,env.cells.lookup x=some a∧h.IsCell a v∧h₀.get? a=none)
 apart:∀x y a,env.cells.lookup x=some a→env.cells.lookup y=some a→x=y
structure Ws(c:Cx)(A:Around)(fu:Nat)(sc:Scope)(env:Env)(h₀ h:Heap)(vs:List (Option Str))(ρ:List (Option D)):Prop where
 s:St c A fu sc env h vs ρ
 w:Wr h₀ env h vs ρ
 k:aE h₀ h
 g:c.G h₀
def qV(h:Heap)(L:Addr):Prop:=∃o,h.get? L=some o∧∀vs,o.data≠.fields vs
theorem BV{h:Heap}{a:Addr}{m}(n:h.Ns a m):qV h a:=let⟨o,es,ep,ho,hd,_⟩:=n;⟨o,ho,λvs q=>by rw[hd]at q;cases q⟩
theorem HK{h:Heap}{a:Addr}{v}(n:h.IsCell a v):qV h a:=let⟨o,ho,hd⟩:=n;⟨o,ho,λvs q=>by rw[hd]at q;cases q⟩
theorem qV.oY{h h':Heap}{L:Addr}(n:qV h L)(s:Heap.SameBut L h h'):gT h h':=λb o e k=>by
 refine(s.2 b ?_).trans e
 rintro rfl
 refine ah n λo' e' r=>?_;refine oW k λZ vs q=>?_;cases aD e e';exact r vs q
def eG(c:Cx):Prop:=∀h₀ h h' L,c.G h₀→h₀.get? L=none→qV h L→Heap.SameBut L h h'→c.G h→c.G h'
theorem Il:∀(ρ:List (Option D)) (i j:Nat) (d:D),cZ (fh i d ρ) j=if i=j∧j<ρ.length then some (some d)else cZ ρ j
 |[],i,j,d=>by
  rw[if_neg (λh=>Nat.not_lt_zero _ h.2)];rfl
 |x::ρ,0,0,d=>by rw[if_pos ⟨rfl,Nat.succ_pos _⟩];rfl
 |x::ρ,0,j+1,d=>by rw[if_neg (λh=>by cases h.1)];rfl
 |x::ρ,i+1,0,d=>by rw[if_neg (λh=>by cases h.1)];rfl
 |x::ρ,i+1,j+1,d=>by
  show cZ (fh i d ρ) j=_;rw[Il ρ i j d];by_cases h:i=j∧j<ρ.length
  ·rw[if_pos h,if_pos ⟨by rw[h.1],Nat.succ_lt_succ h.2⟩]
  ·rw[if_neg h,if_neg λq=>h ⟨Nat.succ.inj q.1,Nat.lt_of_succ_lt_succ q.2⟩];rfl
theorem BX:∀(ρ:List (Option D)) (i:Nat) (d:D),(fh i d ρ).length=ρ.length
 |[],i,d=>rfl
 |x::ρ,0,d=>rfl
 |x::ρ,i+1,d=>bp Nat.succ (BX ρ i d)
section
variable{c:Cx}{A:Around}{s:Shared}{sc:Scope}{env:Env}{vs:List (Option Str)}{ρ:List (Option D)}{n:Nat}{h₀ h h':Heap}
theorem aE.sameBut{L:Addr}(k:aE h₀ h)(hs:Heap.SameBut L h h')(hL:h₀.get? L=none):aE h₀ h':=by
 refine⟨trivial,λb o e=>?_⟩;refine ah (k.2 b o e) λo' e' r=>?_;exact⟨o',(hs.2 b λq=>by rw[q,hL]at e;exact aF e).trans e',r⟩
theorem bI.sameBut{L:Addr}{o:Obj}(F:bI c A h)(hs:Heap.SameBut L h h')(ho:h'.get? L=some o)(hd:∀vs,o.data≠.fields vs)(hc:∀bN,h.get? L=some bN→o.cls=bN.cls):bI c A h':=by
 refine ah F λfr e F=>?_;refine⟨fr,e,λenv he=>?_⟩;refine nV (F env he) λa L' o' b d f y z=>?_;by_cases q:L'=L
 ·subst q;exact⟨a,L',o,b,ho,hd,(hc _ d).trans y,z⟩
 ·exact⟨a,L',o',b,(hs.2 L' q).trans d,f,y,z⟩
theorem xx{a b:Addr}{m v}(n:h.Ns a m)(k:h.IsCell b v):b≠a:=by
 rintro rfl
 refine cF n λo es ep ho hd Z=>?_;refine ah k λo' eP a8=>?_;cases aD ho eP;rw[hd]at a8;cases a8
theorem ul{a:Addr}{m}(n:h.Ns a m)(t:String)(vs:List Value):¬aQ h a t vs:=by
 rintro⟨o',e,eP,_,_,a8⟩
 refine cF n λo es ep ho hd Z=>?_;cases aD ho eP;rw[hd]at a8;cases a8
theorem SQ{a:Addr}{v}(n:h.IsCell a v)(t:String)(vs:List Value):¬aQ h a t vs:=by
 rintro⟨o',e,eP,_,_,a8⟩
 refine ah n λo ho hd=>?_;cases aD ho eP;rw[hd]at a8;cases a8
theorem QW(name:Str)(hh:Int)(key v:Value)(o:Obj):(Obj.putName name hh key v o).cls=o.cls:=by
 rw[Obj.putName_eq];obtain⟨a,b,d,e⟩:=o;unfold Obj.putNameByArray;cases d<;>first|rfl|(dsimp only;split<;>rfl)
theorem Qq{name:Str}{hh:Int}{key v:Value}{o:Obj}{es:Array DictEntry}{ep:Nat}(hd:o.data=.dict es ep):(Obj.putName name hh key v o).isFreed=false:=by
 rw[Obj.putName_eq];obtain⟨a,b,d,e⟩:=o;cases hd;unfold Obj.putNameByArray;dsimp only;split<;>rfl
theorem RH{M:Model}{a:Addr}{m:Str→Option Value}{name:Str}{v:Value}{s:Shared}{Q:Unit→Shared→Prop}{E:Value→Shared→Prop}(hn:s.heap.Ns a m)
  (h:∀h',h'.Ns a (λx=>if x=name then some v else m x)→Heap.SameBut a s.heap h'→(∀o o',s.heap.get? a=some o→h'.get? a=some o'→o'.cls=o.cls)→Q () {s with heap:=h',toks:=s.toks+1}):
  wpAny M A (nsSet a name v) Q E s:=by
 intro Γ p hΓ;have lib:wpAny M A (nsSet a name v) (λZ s'=>s'.heap.Ns a (λx=>if x=name then some v else m x)∧Heap.SameBut a s.heap s'.heap) E s:=wpAny_nsSet hn λh' x y=>⟨x,y⟩;have l:=lib Γ p hΓ;refine eT hn λo es ep ho hd hk hm=>?_;have ab3:es.any (·.refKey)=false:=by
  rw[Array.any_eq_false'];intro e he;refine eM (hk e he) λn t h=>?_;simp[DictEntry.refKey,h]
 simp only[nsSet,strHash,Sem.wp_bind',Sem.wp_cmd_ask,Sem.wp_pure',Sem.wp_cmd_mkText]at l⊢;rw[Sem.wp_loadPart_of M Γ _ p {s with toks:=s.toks+1} (o:=o) _ ho]at l⊢;simp only[hd,aRefKeyMayBeTheName_eq,aRefKeyMayBeTheNameByArray,ab3,Bool.and_false,Bool.false_eq_true,if_false,Sem.wp_cmd_updatePart]at l⊢;refine⟨l.1,h _ l.2.1 l.2.2 λbN yN e1 e2=>?_⟩;cases aD ho e1;cases aD (jD _ ho (Qq hd)) e2;exact QW _ _ _ _ _
theorem tY{M:Model}{env:Env}{name:Str}{m:Str→Option Value}{v:Value}{s:Shared}{Q:Unit→Shared→Prop}{E:Value→Shared→Prop}(hl:env.kindOf name=some .local)(hn:s.heap.Ns env.locals m)
  (h:∀h',h'.Ns env.locals (λx=>if x=name then some v else m x)→Heap.SameBut env.locals s.heap h'→(∀o o',s.heap.get? env.locals=some o→h'.get? env.locals=some o'→o'.cls=o.cls)→Q () {s with heap:=h',toks:=s.toks+1})
  (hp:(env.scope.kind==.class||(env.scope.kind==.module&&env.locals !=env.globals))=false):wpAny M A (storeName env name v) Q E s:=by
 rw[storeName_local hl hp];exact RH hn h
theorem Bv{M:Model}{env:Env}{name:Str}{a:Addr}{ML:Option Value}{v:Value}{s:Shared}{Q:Unit→Shared→Prop}{E:Value→Shared→Prop}(hk:env.scope.kind=.function)(hl:env.kindOf name=some .cell)
  (hc:env.cells.lookup name=some a)(hv:s.heap.IsCell a ML)
  (h:∀h',h'.IsCell a (some v)→Heap.SameBut a s.heap h'→(∀o o',s.heap.get? a=some o→h'.get? a=some o'→o'.cls=o.cls)→Q () {s with heap:=h'}):wpAny M A (storeName env name v) Q E s:=by
 unfold storeName;simp only[hl,hk];refine ah hv λo ho hd=>?_;refine aj (wpAny_cellOf hc ?_);unfold cellSet;refine aj (wpAny_load ho ?_);rw[hd];have hu:=jD (λZ=>({o with data:=.cell (some v)}:Obj)) ho rfl;refine wpAny_update ho (h _ ⟨{o with data:=.cell (some v)},jD _ ho rfl,rfl⟩ (Heap.SameBut.update ..) λbN yN e1 e2=>?_);cases aD ho e1;cases aD (jD _ ho rfl) e2;rfl
theorem store(H:eG c){i:Nat}{x:Str}{v:Value}{d:D}{Q:Unit→Shared→Prop}{E₀:Value→Shared→Prop}(W:Ws c A n sc env h₀ s.heap vs ρ)(hx:vs[i]?=some (some x))(tv:Tells c.σ s.heap v d)
  (hq:∀h tk,Ws c A n sc env h₀ h vs (fh i d ρ)→cJ s.heap h→gT s.heap h→Q () {s with heap:=h,toks:=tk}):wpAny c.M A (storeName env x v) Q E₀ s:=by
 refine ak W.w.ns λm hm=>?_;have hi:i<ρ.length:=by rw[W.w.len];exact(List.getElem?_eq_some_iff.mp hx).1
 have vars:∀(j:Nat) (y:Str) (e:D),vs[j]?=some (some y)→cZ (fh i d ρ) j=some (some e)→(j=i∧y=x∧e=d)∨(j≠i∧y≠x∧cZ ρ j=some (some e)):=by
  intro j y e h1 h2;rw[Il]at h2;by_cases q:i=j
  ·subst q;rw[if_pos ⟨rfl,hi⟩]at h2;rw[hx]at h1;exact .inl ⟨rfl,(au (au h1)).symm,(au (au h2)).symm⟩
  ·rw[if_neg λz=>q z.1]at h2;exact .inr ⟨λz=>q z.symm,λz=>q (W.w.nodup i j x hx (z▸h1)),h2⟩
 rcases W.w.kind i x hx with hl|⟨hl,a,ML,hc,hv,ha⟩
 ·refine tY hl hm (λh' hn hs fS=>?_) (by rw[W.s.f.kind];rfl);have hk:cJ s.heap h':=cJ.sameBut hs (ul hm);have a7:=(BV hm).oY hs;refine cF (id hn) λo' At Fj eP a8 Z=>?_;refine hq h' _ ⟨⟨H _ _ _ _ W.g W.w.loc (BV hm) hs W.s.g,⟨W.s.f.scope,W.s.f.kind,W.s.f.bE,W.s.f.blt,W.s.f.code,W.s.f.wf,λj y e h1 h2=>?_⟩,W.s.r,W.s.o.sameBut hs eP (λvs q=>by rw[a8]at q;cases q) (λbN e=>fS bN _ e eP)⟩,
   ⟨(BX _ _ _).trans W.w.len,W.w.nodup,W.w.loc,⟨_,hn⟩,λj y h1=>?_,W.w.apart⟩,W.k.sameBut hs W.w.loc,W.g⟩ hk a7
  ·rcases vars j y e h1 h2 with⟨rfl,rfl,rfl⟩|⟨q1,q2,q3⟩
   ·exact⟨v,.inl ⟨hl,_,hn,by simp⟩,tv.seq hk⟩
   ·refine ah (W.s.f.var j y e h1 q3) λu hu tu=>?_;refine⟨u,?_,tu.seq hk⟩;rcases hu with⟨k1,m1,k2,k3⟩|⟨b,k1,k2,k3⟩
    ·refine .inl ⟨k1,_,hn,?_⟩;refine eT hm λo1 es1 ep1 g1 g2 g3 g4=>?_;refine eT k2 λo2 es2 ep2 f1 f2 f3 f4=>?_;cases aD g1 f1;rw[g2]at f2;cases f2;show(if y=x then some v else m y)=some u;rw[if_neg q2,←g4 y,f4 y,k3]
    ·have hb:=xx hm k3;refine ah k3 λo3 c1 c2=>?_;exact .inr ⟨b,k1,k2,o3,(hs.2 b hb).trans c1,c2⟩
  ·rcases W.w.kind j y h1 with k|⟨k,b,u,k2,k3,k4⟩
   ·exact .inl k
   ·have hb:=xx hm k3;refine ah k3 λo3 c1 c2=>?_;exact .inr ⟨k,b,u,k2,⟨o3,(hs.2 b hb).trans c1,c2⟩,k4⟩
 ·refine Bv W.s.f.kind hl hc hv λh' hn hs fS=>?_;have hk:cJ s.heap h':=cJ.sameBut hs (SQ hv);have a7:=(HK hv).oY hs;refine ah (id hn) λo' eP a8=>?_;have af:h'.Ns env.locals m:=hm.sameBut hs (bi (xx hm hv));refine hq h' s.toks ⟨⟨H _ _ _ _ W.g ha (HK hv) hs W.s.g,⟨W.s.f.scope,W.s.f.kind,W.s.f.bE,W.s.f.blt,W.s.f.code,W.s.f.wf,λj y e h1 h2=>?_⟩,W.s.r,W.s.o.sameBut hs eP (λvs q=>by rw[a8]at q;cases q) (λbN e=>fS bN _ e eP)⟩,
   ⟨(BX _ _ _).trans W.w.len,W.w.nodup,W.w.loc,⟨_,af⟩,λj y h1=>?_,W.w.apart⟩,W.k.sameBut hs ha,W.g⟩ hk a7
  ·rcases vars j y e h1 h2 with⟨rfl,rfl,rfl⟩|⟨q1,q2,q3⟩
   ·exact⟨v,.inr ⟨a,.inl hl,hc,hn⟩,tv.seq hk⟩
   ·refine ah (W.s.f.var j y e h1 q3) λu hu tu=>?_;refine⟨u,?_,tu.seq hk⟩;rcases hu with⟨k1,m1,k2,k3⟩|⟨b,k1,k2,k3⟩
    ·exact .inl ⟨k1,m1,k2.sameBut hs (bi (xx k2 hv)),k3⟩
    ·have hb:b≠a:=λq=>q2 (W.w.apart y x a (q▸k2) hc);refine ah k3 λo3 c1 c2=>?_;exact .inr ⟨b,k1,k2,o3,(hs.2 b hb).trans c1,c2⟩
  ·rcases W.w.kind j y h1 with k|⟨k,b,u,k2,k3,k4⟩
   ·exact .inl k
   ·by_cases q:b=a
    ·subst q;exact .inr ⟨k,b,some v,k2,hn,k4⟩
    ·refine ah k3 λo3 c1 c2=>?_;exact .inr ⟨k,b,u,k2,⟨o3,(hs.2 b q).trans c1,c2⟩,k4⟩
theorem Wr.keep(k:aE h h')(W:Wr h₀ env h vs ρ):Wr h₀ env h' vs ρ:=
 ⟨W.len,W.nodup,W.loc,let⟨m,e⟩:=W.ns;⟨m,k.ns e⟩,λi x hx=>(W.kind i x hx).imp id fun⟨a,b,v,d,e,f⟩=>⟨a,b,v,d,k.cell e,f⟩,W.apart⟩
theorem Ws.nx{s s':Shared}(m:Nx c s s')(W:Ws c A n sc env h₀ s.heap vs ρ):Ws c A n sc env h₀ s'.heap vs ρ:=⟨W.s.nx m,W.w.keep m.keep,W.k.trans m.keep,W.g⟩
end
noncomputable def comp(p:Expr):Bool:=by cases p with|ListComp _ _ _ _=>exact true|SetComp _ _ _ _=>exact true|DictComp _ _ _ _ _=>exact true|_=>exact false
noncomputable def Au(vs:List (Option Str))(x:Nat)(p:Expr):Bool:=jr (λy=>vs[x]?==some (some y)) p
noncomputable def kG(vs:List (Option Str))(xs:List Nat):List Expr→Bool:=@List.rec Nat (λj=>List Expr→Bool) gs (λx j ih=>tq λp ps=>Au vs x p&&ih ps) xs
noncomputable def mm(sc:Scope)(ts vl:List Expr):Option (Option (List Str)):=
 if !(ts.length==2||ts.length==3)||vl.length !=ts.length then some none
 else if vl.any fun|.Starred ..=>true|_=>false then some none
 else
  let line:=(ts.head?.map (·.pos.line)).getD 0;let names:=ts.filterMap fun
   |.Name id pos=>if sc.names.lookup id==some .local&&pos.line==line then some id else none
   |_=>none
  if names.length !=ts.length||names.eraseDups.length !=names.length then some none
  else if vl.all (foldedForSure 8)then some none
  else if vl.all (constantsAlone 8)then none
  else some (some names)
noncomputable def Lo(sc:Scope)(ts vl:List Expr):Bool:=iC (λo=>@Option.rec (List Str) (λj=>Bool) true (λns=>ns==ts.filterMap asName) o) (mm sc ts vl)
section
variable{p:Stmt}{G:Stmt→Prop}
noncomputable def yk(f:List Expr→Expr→Bool)(p:Stmt):Bool:=by cases p with|Assign ts v _=>exact f ts v|_=>exact false
@[elab_as_elim] theorem BY{f}(h:yk f p=true)(k:∀ts v q,f ts v=true→G (.Assign ts v q)):G p:=by
 revert h;cases p<;>intro h<;>first|exact aw h|exact k _ _ _ h
noncomputable def Lp(f:Expr→Bool)(p:Stmt):Bool:=by cases p with|Return v _=>exact iC f v|_=>exact false
@[elab_as_elim] theorem SR{f}(h:Lp f p=true)(k:∀v q,f v=true→G (.Return (some v) q)):G p:=by
 revert h;cases p<;>intro h<;>first|exact aw h|exact xK (G:=λv=>G (.Return v _)) h λv h=>k v _ h
noncomputable def MM(f:Expr→List Stmt→List Stmt→Bool)(p:Stmt):Bool:=by cases p with|If c a b _=>exact f c a b|_=>exact false
@[elab_as_elim] theorem Uv{f}(h:MM f p=true)(k:∀c a b q,f c a b=true→G (.If c a b q)):G p:=by
 revert h;cases p<;>intro h<;>first|exact aw h|exact k _ _ _ _ h
noncomputable def Jw(f:Expr→List Stmt→Bool)(p:Stmt):Bool:=by cases p with|While c a b _=>exact gs b&&f c a|_=>exact false
@[elab_as_elim] theorem Rg{f}(h:Jw f p=true)(k:∀c a q,f c a=true→G (.While c a [] q)):G p:=by
 revert h;cases p<;>intro h<;>first|exact aw h|exact gF (G:=λb=>G (.While _ _ b _)) (a1 h) (k _ _ _ (a2 h))
noncomputable def Lq(f:Expr→Expr→List Stmt→Bool)(p:Stmt):Bool:=by cases p with|For t i a b _=>exact gs b&&f t i a|_=>exact false
@[elab_as_elim] theorem SS{f}(h:Lq f p=true)(k:∀t i a q,f t i a=true→G (.For t i a [] q)):G p:=by
 revert h;cases p<;>intro h<;>first|exact aw h|exact gF (G:=λb=>G (.For _ _ _ b _)) (a1 h) (k _ _ _ _ (a2 h))
noncomputable def onRaise(f:Expr→Bool)(p:Stmt):Bool:=by cases p with
 |Raise e c _=>cases c with|none=>exact iC f e|some _=>exact false
 |_=>exact false
@[elab_as_elim] theorem HO{f}(h:onRaise f p=true)(k:∀e q,f e=true→G (.Raise (some e) none q)):G p:=by
 revert h;cases p with
 |Raise e c q=>cases c with|none=>exact λh=>xK (G:=λv=>G (.Raise v none q)) h λv h=>k v q h|some _=>exact aw
 |_=>exact aw
end
noncomputable def mS(N:Nm)(sc:Scope)(vs:List (Option Str))(b:S):Stmt→Bool:=@S.rec (λj=>Stmt→Bool) (λj=>List Stmt→Bool)
 (λx e=>yk λts v=>iA (λt=>Au vs x t&&!comp v&&mE N sc vs e v) ts)
 (λxs es=>yk λts v=>iA (lT λts=>lT (λvl=>kG vs xs ts&&decide xs.Nodup&&decide (vl.length<1000)&&Lo sc ts vl&&dz N sc vs es vl) v) ts)
 (λxs e=>yk λts v=>iA (lT λts=>kG vs xs ts&&!comp v&&!lT (λj=>true) v&&mE N sc vs e v) ts)
 (λe=>Lp (mE N sc vs e))
 (λe j j r t=>MM λc a b=>mE N sc vs e c&&r a&&t b)
 (λe j r=>Jw λc b=>mE N sc vs e c&&r b)
 (λx n j r=>Lq λt it y=>Au vs x t&&nZ (λf l=>f=="range"&&dX sc f&&iA (uc λk=>k==.int n) l) it&&decide (n<1000)&&r y)
 (λm sp=>onRaise (nZ λf l=>f=="ConstFault"&&dX sc f&&@Option.rec E (λj=>Bool) (iA (λa=>!odd a&&mE N sc vs m a) l) (λe=>kS (λa b=>!odd a&&!odd b&&mE N sc vs m a&&mE N sc vs e b) l) sp))
 (λj=>true)
 gs
 (λj j r t=>tq λp ps=>r p&&t ps)
 b
noncomputable def iD(N:Nm)(sc:Scope)(vs:List (Option Str))(b:List S)(l:List Stmt):Bool:=mS N sc vs (.pJ .stop b) (.While (.Name "" default) l [] default)
section
variable{N:Nm}{sc:Scope}{vs:List (Option Str)}{p:Stmt}{G:Stmt→Prop}{e m:E}{a b:List S}{x n:Nat}{xs:List Nat}{es:List E}
@[elab_as_elim] theorem CA{p:Expr}{G:Expr→Prop}(h:Au vs x p=true)(k:∀y q,vs[x]?=some (some y)→G (.Name y q)):G p:=lC h λy q h=>k y q (eq_of_beq h)
@[elab_as_elim] theorem Xk{l:List Stmt}{G:List Stmt→Prop}(h:iD N sc vs [] l=true)(k:G []):G l:=gF h k
@[elab_as_elim] theorem Vx{s:S}{l:List Stmt}{G:List Stmt→Prop}(h:iD N sc vs (s::b) l=true)(k:∀p ps,mS N sc vs s p=true→iD N sc vs b ps=true→G (p::ps)):G l:=uj h λp ps h=>k p ps (a1 h) (a2 h)
@[elab_as_elim] theorem Xl(h:mS N sc vs (.asg x e) p=true)(k:∀y q v q',vs[x]?=some (some y)→(!comp v)=true→mE N sc vs e v=true→G (.Assign [.Name y q] v q')):G p:=
 BY h λts v q' h=>iQ (G:=λts=>G (.Assign ts v q')) h λt h=>CA (G:=λt=>G (.Assign [t] v q')) (a1 (a1 h)) λy q hy=>k y q v q' hy (a2 (a1 h)) (a2 h)
@[elab_as_elim] theorem Vy(h:mS N sc vs (.ix xs es) p=true)(k:∀ts n1 q1 vl n2 q2 q,kG vs xs ts=true→xs.Nodup→vl.length<1000→Lo sc ts vl=true→dz N sc vs es vl=true→G (.Assign [.Tuple ts n1 q1] (.Tuple vl n2 q2) q)):G p:=
 BY h λts v q h=>iQ (G:=λts=>G (.Assign ts v q)) h λt h=>xl (G:=λt=>G (.Assign [t] v q)) h λts n1 q1 h=>xl (G:=λv=>G (.Assign [.Tuple ts n1 q1] v q)) h λvl n2 q2 h=>
  k ts n1 q1 vl n2 q2 q (a1 (a1 (a1 (a1 h)))) (aR (a2 (a1 (a1 (a1 h))))) (aR (a2 (a1 (a1 h)))) (a2 (a1 h)) (a2 h)
@[elab_as_elim] theorem Xm(h:mS N sc vs (.ja xs e) p=true)(k:∀ts n1 q1 v q,kG vs xs ts=true→(!comp v)=true→(!lT (λj=>true) v)=true→mE N sc vs e v=true→G (.Assign [.Tuple ts n1 q1] v q)):G p:=
 BY h λts v q h=>iQ (G:=λts=>G (.Assign ts v q)) h λt h=>xl (G:=λt=>G (.Assign [t] v q)) h λts n1 q1 h=>k ts n1 q1 v q (a1 (a1 (a1 h))) (a2 (a1 (a1 h))) (a2 (a1 h)) (a2 h)
@[elab_as_elim] theorem Xn(h:mS N sc vs (.ret e) p=true)(k:∀v q,mE N sc vs e v=true→G (.Return (some v) q)):G p:=SR h k
@[elab_as_elim] theorem ab4(h:mS N sc vs (.ite e a b) p=true)(k:∀c x y q,mE N sc vs e c=true→iD N sc vs a x=true→iD N sc vs b y=true→G (.If c x y q)):G p:=Uv h λc x y q h=>k c x y q (a1 (a1 h)) (a2 (a1 h)) (a2 h)
@[elab_as_elim] theorem Xo(h:mS N sc vs (.pJ e b) p=true)(k:∀c y q,mE N sc vs e c=true→iD N sc vs b y=true→G (.While c y [] q)):G p:=Rg h λc y q h=>k c y q (a1 h) (a2 h)
@[elab_as_elim] theorem Xp(h:mS N sc vs (.mG x n b) p=true)(k:∀z q0 q1 q2 q3 q4 y q,vs[x]?=some (some z)→dX sc "range"=true→n<1000→iD N sc vs b y=true→G (.For (.Name z q0) (.Call (.Name "range" q1) [.Constant (.int n) q2 q3] [] q4) y [] q)):G p:=
 SS h λt it y q h=>CA (G:=λt=>G (.For t it y [] q)) (a1 (a1 (a1 h))) λz q0 hz=>nR (G:=λit=>G (.For (.Name z q0) it y [] q)) (a2 (a1 (a1 h))) λf q1 l q4 g=>
  iQ (G:=λl=>G (.For (.Name z q0) (.Call (.Name f q1) l [] q4) y [] q)) (a2 g) λa g'=>xf (G:=λa=>G (.For (.Name z q0) (.Call (.Name f q1) [a] [] q4) y [] q)) g' λc q2 q3 g'=>by
   have i:=a2 (a1 g);cases eq_of_beq (a1 (a1 g));cases eq_of_beq g';exact k z q0 q1 q2 q3 q4 y q hz i (aR (a2 (a1 h))) (a2 h)
@[elab_as_elim] theorem Uw(h:mS N sc vs (.dG m none) p=true)(k:∀q1 a q2 q,dX sc "ConstFault"=true→(!odd a)=true→mE N sc vs m a=true→G (.Raise (some (.Call (.Name "ConstFault" q1) [a] [] q2)) none q)):G p:=
 HO h λv q h=>nR (G:=λv=>G (.Raise (some v) none q)) h λf q1 l q2 h=>iQ (G:=λl=>G (.Raise (some (.Call (.Name f q1) l [] q2)) none q)) (a2 h) λa g=>by
  have i:=a2 (a1 h);cases eq_of_beq (a1 (a1 h));exact k q1 a q2 q i (a1 g) (a2 g)
@[elab_as_elim] theorem Ux(h:mS N sc vs (.dG m (some e)) p=true)(k:∀q1 a b q2 q,dX sc "ConstFault"=true→(!odd a)=true→(!odd b)=true→mE N sc vs m a=true→mE N sc vs e b=true→G (.Raise (some (.Call (.Name "ConstFault" q1) [a,b] [] q2)) none q)):G p:=
 HO h λv q h=>nR (G:=λv=>G (.Raise (some v) none q)) h λf q1 l q2 h=>og (G:=λl=>G (.Raise (some (.Call (.Name f q1) l [] q2)) none q)) (a2 h) λa b g=>by
  have i:=a2 (a1 h);cases eq_of_beq (a1 (a1 h));exact k q1 a b q2 q i (a1 (a1 (a1 g))) (a2 (a1 (a1 g))) (a2 (a1 g)) (a2 g)
end
def Nz(c:Cx)(A:Around)(h₀:Heap)(s s':Shared):Prop:=∃h tk,s'={s with heap:=h,toks:=tk}∧aE h₀ h∧c.G h∧bI c A h∧gT s.heap h
section
variable(c:Cx)(A:Around)(fu:Nat)(sc:Scope)(env:Env)(h₀:Heap)(vs:List (Option Str))(s:Shared)
def SP(o:aZ):Flow→Shared→Prop:=λf s'=>(∃b9,o=.next b9∧f=.next∧Nz c A h₀ s s'∧Ws c A fu sc env h₀ s'.heap vs b9)∨∃d v,o=.ret d∧f=.ret v∧Tells c.σ s'.heap v d∧Nz c A h₀ s s'
def XP(o:aZ):Value→Shared→Prop:=λx s'=>∃d,o=.exc d∧c.Flt s'.heap x d∧Nz c A h₀ s s'
def gp(p:Sem Flow)(o:aZ):Prop:=wpAny c.M A p (SP c A fu sc env h₀ vs s o) (XP c A h₀ s o) s
end
def tB(c:Cx)(n:Nat):Prop:=∀(A:Around) (s:Shared) (sc:Scope) (env:Env) (h₀:Heap) (vs:List (Option Str)) (ρ:List (Option D)) (b:List S) (p:List Stmt),Ws c A n sc env h₀ s.heap vs ρ→iD c.N sc vs b p=true→
 (rec c.P n).ex ρ b≠.stuck→gp c A n sc env h₀ vs s (execs p env) ((rec c.P n).ex ρ b)
section
variable{c:Cx}{A:Around}{s s' aS:Shared}{sc:Scope}{env:Env}{vs:List (Option Str)}{ρ:List (Option D)}{n m:Nat}{h₀:Heap}
theorem Ws.less{h:Heap}(l:m≤n)(W:Ws c A n sc env h₀ h vs ρ):Ws c A m sc env h₀ h vs ρ:=⟨W.s.less l,W.w,W.k,W.g⟩
theorem Ws.room{h:Heap}(r:aP A m)(W:Ws c A n sc env h₀ h vs ρ):Ws c A m sc env h₀ h vs ρ:=⟨⟨W.s.g,W.s.f,r,W.s.o⟩,W.w,W.k,W.g⟩
theorem Nz.of(W:Ws c A n sc env h₀ s.heap vs ρ)(x:Nx c s s'):Nz c A h₀ s s':=by
 refine aO x λh tk Xq Xr=>?_;subst Xq;refine am (λk g=>?_) Xr;exact⟨h,tk,rfl,W.k.trans k,g,W.s.o.keep k,k.oY⟩
theorem Nz.ext(x:Nz c A h₀ s s')(y:Nz c A h₀ s' aS):Nz c A h₀ s aS:=by
 refine aO x λh tk Xs Xu=>?_;subst Xs;refine fc Xu λk g f z=>?_;refine aO y λh' pN Xv Xw=>?_;subst Xv;refine fc Xw λk' g' f' z'=>?_;exact⟨h',pN,rfl,k',g',f',z.trans z'⟩
theorem Nz.nx(x:Nz c A h₀ s s')(y:Nx c s' aS):Nz c A h₀ s aS:=by
 refine aO x λh tk Xx Xy=>?_;subst Xx;refine fc Xy λk g f z=>?_;refine aO y λh' pN Xz XA=>?_;subst Xz;refine am (λk' g'=>?_) XA;exact⟨h',pN,rfl,k.trans k',g',f.keep k',z.trans k'.oY⟩
theorem Nz.self(W:Ws c A n sc env h₀ s.heap vs ρ):Nz c A h₀ s s:=⟨s.heap,s.toks,rfl,W.k,W.s.g,W.s.o,gT.refl _⟩
theorem gp.at{p:Sem Flow}{o o':aZ}(x:Nz c A h₀ s s')(e:o'=o)(h:gp c A n sc env h₀ vs s' p o')(l:m≤n):wpAny c.M A p (SP c A m sc env h₀ vs s o) (XP c A h₀ s o) s':=
 aL h (λf s2 h2=>h2.elim (λh=>jv h λb9 a b z w=>.inl ⟨b9,e.symm.trans a,b,x.ext z,w.less l⟩) λh=>bW h λd v a b t z=>.inr ⟨d,v,e.symm.trans a,b,t,x.ext z⟩) λv s2 h=>bS h λd a b z=>⟨d,e.symm.trans a,b,x.ext z⟩
theorem Jx{v:Expr}{t:Option Expr}{l:Nat}(h:(!comp v)=true):swapsWith v t l env=pure false:=by
 revert h;cases v<;>intro h<;>first|exact aw h|rfl
theorem Vz(hE:SE c n){e:E}{p:Stmt}(W:Ws c A (n+1) sc env h₀ s.heap vs ρ)(hm:mS c.N sc vs (.ret e) p=true)(af:yK (rec c.P n) ρ e≠.stuck):gp c A (n+1) sc env h₀ vs s (exec p env) (yK (rec c.P n) ρ e):=by
 refine Xn hm λv q hm=>?_;unfold yK at af⊢;exact fE ((hE A s sc env vs ρ e v (W.s.less (di n)) hm λh=>af (by rw[h])).use (λv d s' e1 t1 m=>.inr ⟨d,v,by rw[e1],rfl,t1,Nz.of W m⟩) λx d s' e1 f1 m=>⟨d,by rw[e1],f1,Nz.of W m⟩)
theorem VA(H:eG c)(hE:SE c n){x:Nat}{e:E}{p:Stmt}(W:Ws c A (n+1) sc env h₀ s.heap vs ρ)(hm:mS c.N sc vs (.asg x e) p=true)(af:yJ (rec c.P n) ρ x e≠.stuck):gp c A (n+1) sc env h₀ vs s (exec p env) (yJ (rec c.P n) ρ x e):=by
 refine Xl hm λy q v q' hy h2 h3=>?_;unfold yJ at af⊢;refine gQ ((hE A s sc env vs ρ e v (W.s.less (di n)) h3 λh=>af (by rw[h])).use (λv d s' e1 t1 m=>?_) λx d s' e1 f1 m=>⟨d,by rw[e1],f1,Nz.of W m⟩) (Jx h2);exact store H (W.nx m) hy t1 λh tk W' k ks=>.inl ⟨_,by rw[e1],rfl,(Nz.of W m).ext ⟨h,tk,rfl,W'.k,W'.s.g,W'.s.o,ks⟩,W'⟩
theorem VB(hT:jd c n)(hS:tB c n){e:E}{a b:List S}{p:Stmt}(W:Ws c A (n+1) sc env h₀ s.heap vs ρ)(hm:mS c.N sc vs (.ite e a b) p=true)(af:yL (rec c.P n) ρ e a b≠.stuck):
  gp c A (n+1) sc env h₀ vs s (exec p env) (yL (rec c.P n) ρ e a b):=by
 refine ab4 hm λt x y q h1 h2 h3=>?_;unfold yL at af⊢;refine eZ ((hT A s sc env vs ρ e t (W.s.less (di n)) h1 λh=>af (by rw[h])).use (λz s' e1 m=>?_) λx d s' e1 f1 m=>⟨d,by rw[e1],f1,Nz.of W m⟩);rw[e1]at af⊢;have W':=(W.nx m).room (m:=n) (W.s.r.less (di n));have fin:∀{b y},iD c.N sc vs b y=true→(rec c.P n).ex ρ b≠.stuck→wpAny c.M A (execs y env) (SP c A (n+1) sc env h₀ vs s ((rec c.P n).ex ρ b)) (XP c A h₀ s ((rec c.P n).ex ρ b)) s':=λh af=>
  aL (hS A s' sc env h₀ vs ρ _ _ W' h af) (λf s2 h2=>h2.elim (λh=>jv h λb9 a b z w=>.inl ⟨b9,a,b,(Nz.of W m).ext z,w.room W.s.r⟩) λh=>bW h λd v a b t z=>.inr ⟨d,v,a,b,t,(Nz.of W m).ext z⟩) λv s2 h=>bS h λd a b z=>⟨d,a,b,(Nz.of W m).ext z⟩
 cases z with
 |true=>exact fin h2 af
 |false=>exact fin h3 af
end
inductive d9{α β:Type}(R:α→β→Prop):List α→List β→Prop
 |nil:d9 R [] []
 |cons {a:α} {b:β} {as:List α} {bs:List β}:R a b→d9 R as bs→d9 R (a::as) (b::bs)
theorem d9.app{α β:Type}{R:α→β→Prop}{as Fk:List α}{bs Fl:List β}(x:d9 R as bs)(y:d9 R Fk Fl):d9 R (as++Fk) (bs++Fl):=@d9.rec α β R (λas bs Z=>d9 R (as++Fk) (bs++Fl)) y (λx Z r=>.cons x r) as bs x
theorem d9.rev{α β:Type}{R:α→β→Prop}{as:List α}{bs:List β}(x:d9 R as bs):d9 R as.reverse bs.reverse:=
 @d9.rec α β R (λas bs Z=>d9 R as.reverse bs.reverse) .nil (fun{a b as bs} x _ r=>List.reverse_cons (a:=a) (as:=as)▸List.reverse_cons (a:=b) (as:=bs)▸r.app (.cons x .nil)) as bs x
section
variable{c:Cx}{A:Around}{s s' aS:Shared}{sc:Scope}{env:Env}{vs:List (Option Str)}{ρ:List (Option D)}{n m:Nat}{h₀:Heap}
theorem SU{t:List (Option D)→Out Bool}{f:List (Option D)→aZ}{k:Nat}{ρ:List (Option D)}:
  ml t f (k+1) ρ=@Out.rec Bool (λZ=>aZ) (λb=>ap b (@aZ.rec (λZ=>aZ) (ml t f k) .ret (λZ=>.stuck) .stuck (f ρ)) (.next ρ)) (λZ=>.stuck) .stuck (t ρ):=rfl
theorem VC(hT:jd c n)(hS:tB c n){e:E}{b:List S}{p:Stmt}(W:Ws c A (n+1) sc env h₀ s.heap vs ρ)(hm:mS c.N sc vs (.pJ e b) p=true)
  (af:ml (λρ=>(rec c.P n).ts ρ e) (λρ=>(rec c.P n).ex ρ b) 4 ρ≠.stuck):gp c A (n+1) sc env h₀ vs s (exec p env) (ml (λρ=>(rec c.P n).ts ρ e) (λρ=>(rec c.P n).ex ρ b) 4 ρ):=by
 ·refine Xo hm λt x q h1 h2=>?_;generalize ho:ml (λρ=>(rec c.P n).ts ρ e) (λρ=>(rec c.P n).ex ρ b) 4 ρ=o at af⊢;refine wpAny_While (codeAny_whileLoop (λk an=>∃b9,Nz c A h₀ s an∧Ws c A (n+1) sc env h₀ an.heap vs b9∧ml (λρ=>(rec c.P n).ts ρ e) (λρ=>(rec c.P n).ex ρ b) k b9=o) (λk an hI=>?_) 4 ⟨ρ,Nz.self W,W,ho⟩);refine bS hI λb9 z W' hw=>?_;cases k with
  |zero=>exact absurd hw.symm af
  |succ k=>
   rw[SU]at hw;have ns:(rec c.P n).ts b9 e≠.stuck:=by intro h;rw[h]at hw;exact af hw.symm
   refine(hT A an sc env vs b9 e t (W'.s.less (di n)) h1 ns).use (λw cB e1 m=>?_) λx d cB e1 f1 m=>?_
   ·rw[e1]at hw;have W2:=W'.nx m;have z2:Nz c A h₀ s cB:=z.nx m;cases w with
    |true=>
     have jN:@aZ.rec (λZ=>aZ) (ml (λρ=>(rec c.P n).ts ρ e) (λρ=>(rec c.P n).ex ρ b) k) .ret (λZ=>.stuck) .stuck ((rec c.P n).ex b9 b)=o:=hw;have Av:(rec c.P n).ex b9 b≠.stuck:=by intro h;rw[h]at jN;exact af jN.symm
     refine aL (hS A cB sc env h₀ vs b9 b x (W2.room (W.s.r.less (di n))) h2 Av) (λf df h3=>?_) λv df ⟨d,a,_,_⟩=>?_
     ·rcases h3 with⟨Fo,a,rfl,z3,w3⟩|⟨d,v,a,rfl,t3,z3⟩
      ·rw[a]at jN;exact⟨k,oP k,Fo,z2.ext z3,w3.room W.s.r,jN⟩
      ·rw[a]at jN;exact .inr ⟨d,v,jN.symm,rfl,t3,z2.ext z3⟩
     ·rw[a]at jN;exact absurd jN.symm af
    |false=>
     have jN:aZ.next b9=o:=hw
     exact cz (.inl ⟨b9,jN.symm,rfl,z2,W2⟩)
   ·rw[e1]at hw;exact absurd hw.symm af
theorem HP{x:Nat}{xs:List Nat}{d:D}{ds:List D}{ρ:List (Option D)}:eW (x::xs) (d::ds) ρ=eW xs ds (fh x d ρ):=rfl
theorem afQ{ds:List D}{ρ:List (Option D)}:eW [] ds ρ=ρ:=rfl
def Fp(c:Cx)(A:Around)(env:Env)(vs:List (Option Str))(E₀:Value→Shared→Prop)(x:Nat)(t:Value→Sem Unit):Prop:=∃y,vs[x]?=some (some y)∧∀(v:Value) (s:Shared) (Q:Unit→Shared→Prop),wpAny c.M A (storeName env y v) Q E₀ s→wpAny c.M A (t v) Q E₀ s
theorem stores(H:eG c){E₀:Value→Shared→Prop}{xs:List Nat}{ts:List (Value→Sem Unit)}
  (hf:d9 (Fp c A env vs E₀) xs ts):
  ∀{Q:Unit→Shared→Prop} {us:List Value} {ds:List D} {s:Shared} {ρ:List (Option D)},Ws c A n sc env h₀ s.heap vs ρ→ax c.σ s.heap us ds→xs.length=ds.length→
   (∀s',Nz c A h₀ s s'→Ws c A n sc env h₀ s'.heap vs (eW xs ds ρ)→Q () s')→wpAny c.M A (assignInOrder ts us) Q E₀ s:=by
 induction hf with
 |nil=>
  intro Q us ds s ρ W T hl hq;exact assignInOrder_nil (hq s (Nz.self W) W)
 |@cons x t xs ts hx hf ih=>
  intro Q us ds s ρ W T hl hq;refine ah hx λy hy ht=>?_;revert T;cases ds with
  |nil=>exact absurd hl (oQ _)
  |cons d ds=>
   refine λT=>fN T λu us t1 T=>?_;refine jE (ht _ _ _ (store H W hy t1 λh tk W' k ks=>?_));have z:Nz c A h₀ s {s with heap:=h,toks:=tk}:=⟨h,tk,rfl,W'.k,W'.s.g,W'.s.o,ks⟩;exact ih (s:={s with heap:=h,toks:=tk}) W' (T.seq k) (Nat.succ.inj hl) λs' z' W2=>hq s' (z.ext z') W2
theorem RI{d e:D}{ρ:List (Option D)}:∀{i j:Nat},i≠j→fh i d (fh j e ρ)=fh j e (fh i d ρ):=by
 induction ρ with
 |nil=>exact λZ=>rfl
 |cons x ρ ih=>
  intro i j h;cases i with
  |zero=>cases j with
   |zero=>exact absurd rfl h
   |succ j=>rfl
  |succ i=>cases j with
   |zero=>rfl
   |succ j=>exact bp (x:: ·) (ih λq=>h (bp Nat.succ q))
theorem RJ{i:Nat}{d:D}{xs:List Nat}:∀{ds:List D} {ρ:List (Option D)},i∉xs→eW xs ds (fh i d ρ)=fh i d (eW xs ds ρ):=by
 induction xs with
 |nil=>exact λZ=>rfl
 |cons x xs ih=>
  intro ds ρ h;cases ds with
  |nil=>rfl
  |cons e ds=>rw[HP,HP,RI (i:=x) (j:=i) λq=>h (q▸List.mem_cons_self)];exact ih λq=>h (bH _ q)
theorem RL{ys:List Nat}{es:List D}{xs:List Nat}:∀{ds:List D} {ρ:List (Option D)},xs.length=ds.length→eW (xs++ys) (ds++es) ρ=eW ys es (eW xs ds ρ):=by
 induction xs with
 |nil=>exact λh=>List.eq_nil_of_length_eq_zero h.symm▸rfl
 |cons x xs ih=>
  intro ds ρ h;cases ds with
  |nil=>exact absurd h (oQ _)
  |cons d ds=>exact ih (Nat.succ.inj h)
theorem RN{xs:List Nat}:∀{ds:List D} {ρ:List (Option D)},xs.Nodup→xs.length=ds.length→eW xs.reverse ds.reverse ρ=eW xs ds ρ:=by
 induction xs with
 |nil=>exact λZ Z=>rfl
 |cons x xs ih=>
  intro ds ρ h l;cases ds with
  |nil=>exact absurd l (oQ _)
  |cons d ds=>
   have l:=Nat.succ.inj l;rw[List.reverse_cons,List.reverse_cons,RL (by rw[List.length_reverse,List.length_reverse];exact l),ih (List.nodup_cons.mp h).2 l];exact(RJ (List.nodup_cons.mp h).1).symm
@[elab_as_elim] theorem CB{x:Nat}{xs:List Nat}{ps:List Expr}{G:List Expr→Prop}(h:kG vs (x::xs) ps=true)(k:∀y q ps,vs[x]?=some (some y)→kG vs xs ps=true→G (.Name y q::ps)):G ps:=
 uj h λp ps h=>CA (G:=λp=>G (p::ps)) (a1 h) λy q hy=>k y q ps hy (a2 h)
theorem BZ{xs:List Nat}:∀{ps:List Expr},kG vs xs ps=true→xs.length=ps.length:=by
 induction xs with
 |nil=>exact λh=>gF h rfl
 |cons x xs ih=>exact λh=>CB h λy q ps Z h=>bp Nat.succ (ih h)
theorem HQ{E₀:Value→Shared→Prop}{xs:List Nat}:∀{ps:List Expr},kG vs xs ps=true→(assignEach ps env).length=ps.length∧(assignEach ps env).findIdx? (·.1)=none∧d9 (Fp c A env vs E₀) xs ((assignEach ps env).map (·.2)):=by
 induction xs with
 |nil=>exact λh=>gF h ⟨rfl,rfl,.nil⟩
 |cons x xs ih=>
  refine λh=>CB h λy q ps hy h=>bY (ih h) λa b d=>?_;rw[show assignEach (.Name y q::ps) env=(false,assign (.Name y q) env)::assignEach ps env from rfl];exact⟨bp Nat.succ a,by rw[List.findIdx?_cons,b];rfl,.cons ⟨y,hy,λv s Q k=>assign_Name k⟩ d⟩
theorem RO{E₀:Value→Shared→Prop}{xs:List Nat}:∀{ps:List Expr},kG vs xs ps=true→(ps.filterMap asName).length=ps.length∧d9 (Fp c A env vs E₀) xs ((ps.filterMap asName).map λn=>bindName env n):=by
 induction xs with
 |nil=>exact λh=>gF h ⟨rfl,.nil⟩
 |cons x xs ih=>
  exact λh=>CB h λy q ps hy h=>am (λa d=>⟨bp Nat.succ a,.cons ⟨y,hy,λv s Q k=>wpAny_bindName k⟩ d⟩) (ih h)
end
section
variable{c:Cx}{A:Around}{s s' aS:Shared}{sc:Scope}{env:Env}{vs:List (Option Str)}{ρ:List (Option D)}{n m:Nat}{h₀:Heap}
theorem xP{α:Type}{c:Prop}[Decidable c]{a r:α}{x:Option α}{y:Sem α}(h:(if c then some a else x)=some r)(k:x=some r→y=pure r):(if c then pure a else y)=pure r:=by
 by_cases hc:c
 ·rw[if_pos hc]at h⊢;rw[Option.some.inj h]
 ·rw[if_neg hc]at h⊢;exact k h
theorem VD{α:Type}{c:Prop}[Decidable c]{b r:α}{y:Sem α}(h:(if c then none else some b)=some r):(if c then y else pure b)=pure r:=by
 by_cases hc:c
 ·rw[if_pos hc]at h;exact aF h
 ·rw[if_neg hc]at h⊢;rw[Option.some.inj h]
theorem nW{ts vl:List Expr}{k k2:Nat}{p p2:Pos}{r:Option (List Str)}(hs:env.scope=sc)(hk:env.scope.kind=.function)(h:mm sc ts vl=some r):
  swappedStores [.Tuple ts k p] (.Tuple vl k2 p2) env=pure r:=by
 have hb:(env.blockKind !=.function)=false:=by unfold Env.blockKind;rw[hk];rfl
 unfold mm at h;unfold swappedStores;subst hs;simp only[hb,Bool.or_false,Env.kindOf];exact xP h λh=>xP h λh=>xP h λh=>xP h λh=>VD h
theorem Rh{σ:Nat→Addr}{h:Heap}{ds:List D}:∀{us:List Value},ax σ h us ds→ax σ h us.reverse ds.reverse:=by
 induction ds with
 |nil=>exact λT=>kE T .nil
 |cons d ds ih=>exact λT=>fN T λu us x r=>by rw[List.reverse_cons,List.reverse_cons];exact(ih r).append (.cons x .nil)
theorem RP{α β:Type}{x:Out α}{f:α→Out β}{d:D}(h:x.bind f=.exc d)(k:∀a,f a≠.exc d):x=.exc d:=by
 cases x with
 |ok a=>exact absurd h (k a)
 |exc e=>exact bp Out.exc (by cases h;rfl)
 |stuck=>cases h
theorem Uy{α:Type}{f:α→Bool}{x:Option α}(h:iC f x=true):∃a,x=some a∧f a=true:=by
 cases x with
 |none=>exact aw h
 |some a=>exact⟨a,rfl,h⟩
theorem Uz{α β:Type}{x:List α}{y:List β}(h:Nat.beq (cU x) (cU y)=true):x.length=y.length:=by
 have:=Nat.eq_of_beq_eq_true h;rwa[gD,gD]at this
theorem IP{ds:List D}{xs:List Nat}{z o:aZ}(h:ap (Nat.beq (cU ds) (cU xs)) z .stuck=o)(af:o≠.stuck):ds.length=xs.length∧o=z:=by
 cases hb:Nat.beq (cU ds) (cU xs)with
 |false=>rw[hb]at h;exact absurd h.symm af
 |true=>rw[hb]at h;exact⟨Uz hb,h.symm⟩
theorem UA(H0:bz c)(H:eG c)(hE:SE c n){xs:List Nat}{es:List E}{p:Stmt}(W:Ws c A (n+1) sc env h₀ s.heap vs ρ)(hm:mS c.N sc vs (.ix xs es) p=true)(af:uw (rec c.P n) ρ xs es≠.stuck):
  gp c A (n+1) sc env h₀ vs s (exec p env) (uw (rec c.P n) ρ xs es):=by
 refine Vy hm λts k p1 vl k2 p2 q h1 pQ h3 h4 h5=>?_;have hmt:mE c.N sc vs (.tup es) (.Tuple vl k2 p2)=true:=(Bool.and_eq_true_iff (x:=decide (vl.length<1000))).mpr ⟨decide_eq_true h3,h5⟩;generalize ho:uw (rec c.P n) ρ xs es=o at af⊢;unfold uw at ho;have ns:cj ((rec c.P n).ev ρ) es≠.stuck:=λh=>af (by rw[←ho,h])
 have use:∀{Q:Value→Shared→Prop},(∀a us ds s',aQ s'.heap a "tuple" us→ax c.σ s'.heap us ds→Nx c s s'→ds.length=xs.length→o=.next (eW xs ds ρ)→Q (.ref a) s')→wpAny c.M A (eval (.Tuple vl k2 p2) env) Q (XP c A h₀ s o) s:=by
  intro Q hq;refine(Ju H0 hE (W.s.less (di n)) hmt (λh=>?_)).use (λv d s' e1 t1 m=>?_) λx d s' e1 f1 m=>⟨d,?_,f1,Nz.of W m⟩
  ·cases he:cj ((rec c.P n).ev ρ) es with
   |stuck=>exact ns he
   |_=>unfold yD at h;rw[he]at h;cases h
  ·refine ah (BS e1) λds he ed=>?_;rw[←uk ed]at t1;rw[he]at ho;exact am (λhl eo=>mf t1 λa us hx tx=>hq a us ds s' hx tx m hl eo) (IP ho af)
  ·rw[←ho,RP e1 λj h=>by cases h]
 refine ah (Uy h4) λw hw h4=>?_;cases w with
 |none=>
  refine Assign_Tuple (use λa us ds s' hx tx m hl eo=>?_) rfl (nW W.s.f.scope W.s.f.kind hw);subst eo
  refine bY (HQ (c:=c) (A:=A) (env:=env) (E₀:=XP c A h₀ s (.next (eW xs ds ρ))) h1) λa1 a2 a3=>?_;refine oS W.s.r.2.2 hx.tuple (by rw[a1,List.size_toArray,tx.length,hl,BZ h1]) a2 λh' hk=>?_;have m2:Nx c s' {s' with heap:=h'}:=Nx.ext H0 m.g h' s'.toks λb o e=>hk b o (bL (cA e)) e;exact stores H a3 ((W.nx m).nx m2) (tx.keep m2.keep) hl.symm λs3 z W3=>.inl ⟨_,rfl,rfl,((Nz.of W m).nx m2).ext z,W3⟩
 |some tC=>
  cases eq_of_beq (a:=tC) h4;refine Assign_Tuple_swapped (use λa us ds s' hx tx m hl eo=>?_) rfl (nW W.s.f.scope W.s.f.kind hw);subst eo
  refine am (λa2 a3=>?_) (RO (c:=c) (A:=A) (env:=env) (E₀:=XP c A h₀ s (.next (eW xs ds ρ))) h1);rw[show(ts.filterMap asName).length=us.toArray.size by rw[a2,List.size_toArray,tx.length,hl,BZ h1]];refine unpackItems_tuple W.s.r.2.2 hx.tuple λh' hk=>?_;have m2:Nx c s' {s' with heap:=h'}:=Nx.ext H0 m.g h' s'.toks λb o e=>hk b o (bL (cA e)) e;rw[show(us.toArray.toList).reverse=us.reverse from rfl,List.map_reverse];refine stores H a3.rev ((W.nx m).nx m2) (Rh (tx.keep m2.keep)) (by rw[List.length_reverse,List.length_reverse];exact hl.symm) λs3 z W3=>.inl ⟨_,rfl,rfl,((Nz.of W m).nx m2).ext z,?_⟩;rw[RN pQ hl.symm]at W3;exact W3
end
section
variable{c:Cx}{A:Around}{s s' aS:Shared}{sc:Scope}{env:Env}{vs:List (Option Str)}{ρ:List (Option D)}{n m:Nat}{h₀:Heap}
theorem VE{ts:List Expr}{k:Nat}{p:Pos}{v:Expr}(h:(!lT (λj=>true) v)=true):swappedStores [.Tuple ts k p] v env=pure none:=by
 revert h;cases v<;>intro h<;>first|rfl|exact aw h
theorem SV{ts:List Expr}{k:Nat}{p:Pos}{v:Expr}{l:Nat}(h:(!comp v)=true):swapsWithSole [.Tuple ts k p] v l env=pure false:=by unfold swapsWithSole;exact Jx h
theorem VF(H0:bz c)(H:eG c)(hE:SE c n){xs:List Nat}{e:E}{p:Stmt}(W:Ws c A (n+1) sc env h₀ s.heap vs ρ)(hm:mS c.N sc vs (.ja xs e) p=true)(af:uT (rec c.P n) ρ xs e≠.stuck):
  gp c A (n+1) sc env h₀ vs s (exec p env) (uT (rec c.P n) ρ xs e):=by
 refine Xm hm λts k p1 v q h1 h3 h4 h5=>?_;generalize ho:uT (rec c.P n) ρ xs e=o at af⊢;unfold uT at ho;refine Assign_Tuple ((hE A s sc env vs ρ e v (W.s.less (di n)) h5 λh=>af (by rw[←ho,h])).use (λv d s' e1 t1 m=>?_) λx d s' e1 f1 m=>⟨d,by rw[←ho,e1],f1,Nz.of W m⟩) (SV h3) (VE h4);rw[e1]at ho;cases d with
 |tuple ds=>
  refine am (λhl eo=>?_) (IP ho af);subst eo;refine mf t1 λa us hx tx=>?_
  refine bY (HQ (c:=c) (A:=A) (env:=env) (E₀:=XP c A h₀ s (.next (eW xs ds ρ))) h1) λa1 a2 a3=>?_;refine oS W.s.r.2.2 hx.tuple (by rw[a1,List.size_toArray,tx.length,hl,BZ h1]) a2 λh' hk=>?_;have m2:Nx c s' {s' with heap:=h'}:=Nx.ext H0 m.g h' s'.toks λb o e=>hk b o (bL (cA e)) e;exact stores H a3 ((W.nx m).nx m2) (tx.keep m2.keep) hl.symm λs3 z W3=>.inl ⟨_,rfl,rfl,((Nz.of W m).nx m2).ext z,W3⟩
 |_=>exact absurd ho.symm af
def yl(c:Cx)(n:Nat):Prop:=∀(A:Around) (s:Shared) (sc:Scope) (env:Env) (h₀:Heap) (vs:List (Option Str)) (ρ:List (Option D)) (x k:Nat) (b:List S) (p:Stmt),Ws c A (n+1) sc env h₀ s.heap vs ρ→mS c.N sc vs (.mG x k b) p=true→
 o9 (λρ=>(rec c.P n).ex ρ b) x k 0 ρ≠.stuck→gp c A (n+1) sc env h₀ vs s (exec p env) (o9 (λρ=>(rec c.P n).ex ρ b) x k 0 ρ)
def xQ(c:Cx)(n:Nat):Prop:=∀(A:Around) (s:Shared) (sc:Scope) (env:Env) (h₀:Heap) (vs:List (Option Str)) (ρ:List (Option D)) (e:E) (sp:Option E) (p:Stmt),Ws c A (n+1) sc env h₀ s.heap vs ρ→mS c.N sc vs (.dG e sp) p=true→
 kj (rec c.P n) ρ e sp≠.stuck→gp c A (n+1) sc env h₀ vs s (exec p env) (kj (rec c.P n) ρ e sp)
theorem Ri{P:bJ}{r:Rc}{ρ:List (Option D)}{st:S}{b:List S}:ux P r ρ (st::b)=@aZ.rec (λj=>aZ) (λb9=>ux P r b9 b) .ret .exc .stuck (xJ P r ρ st):=rfl
theorem VG(H0:bz c)(H:eG c)(hE:SE c n)(hT:jd c n)(hS:tB c n)(hR:yl c n)(hX:xQ c n){st:S}{p:Stmt}(W:Ws c A (n+1) sc env h₀ s.heap vs ρ)(hm:mS c.N sc vs st p=true)
  (af:xJ c.P (rec c.P n) ρ st≠.stuck):gp c A (n+1) sc env h₀ vs s (exec p env) (xJ c.P (rec c.P n) ρ st):=by
 cases st with
 |asg x e=>exact VA H hE W hm af
 |ix xs es=>exact UA H0 H hE W hm af
 |ja xs e=>exact VF H0 H hE W hm af
 |ret e=>exact Vz hE W hm af
 |ite a b e=>exact VB hT hS W hm af
 |pJ e b=>exact VC hT hS W hm af
 |mG x k b=>exact hR A s sc env h₀ vs ρ x k b p W hm af
 |dG e sp=>exact hX A s sc env h₀ vs ρ e sp p W hm af
 |stop=>exact absurd rfl af
theorem UB(H0:bz c)(H:eG c)(hE:SE c n)(hT:jd c n)(hS:tB c n)(hR:yl c n)(hX:xQ c n){b:List S}:∀{ps:List Stmt} {s:Shared} {ρ:List (Option D)},Ws c A (n+1) sc env h₀ s.heap vs ρ→
  iD c.N sc vs b ps=true→ux c.P (rec c.P n) ρ b≠.stuck→gp c A (n+1) sc env h₀ vs s (execs ps env) (ux c.P (rec c.P n) ρ b):=by
 induction b with
 |nil=>exact λW hm j=>Xk hm (cz (.inl ⟨_,rfl,rfl,Nz.self W,W⟩))
 |cons st b ih=>
  intro ps s ρ W hm af;refine Vx hm λp ps h1 h2=>?_;rw[Ri]at af⊢;refine aI (aL (VG H0 H hE hT hS hR hX W h1 λh=>af (by rw[h])) (λf s' h=>?_) λx s' h=>bS h λd a b z=>⟨d,by rw[a],b,z⟩);refine h.elim (λh=>jv h λb9 a b z W'=>?_) λh=>bW h λd v a b t z=>?_
  ·subst b;rw[a]at af⊢;exact gp.at z rfl (ih W' h2 af) (dp _)
  ·subst b;exact .inr ⟨d,v,by rw[a],rfl,t,z⟩
end
structure jO(c:Cx)(n:Nat):Prop where
 e:SE c n
 t:jd c n
 s:tB c n
theorem ab5{c:Cx}:jO c 0:=⟨λj j j j j j j j j j h=>absurd rfl h,λj j j j j j j j j j h=>absurd rfl h,λj j j j j j j j j j j h=>absurd rfl h⟩
structure Fq(c:Cx)(f np nl:Nat)(dn:Bool)(b:List S):Prop where
 ex:∃(o:Obj) (fd:FuncData) (body:List Stmt) (names:List Str),(∀h,c.G h→h.get? (c.fa f)=some o∧h.CodeRec fd.code fd.qualname)∧o.data=.func fd∧fd.body=.stmts body∧fd.globals=mainGlobals∧fd.builtins=builtinsNs∧fd.closure=[]∧
  fd.scope.isCoroutine=false∧fd.scope.isGenerator=false∧fd.scope.kind=.function∧names.length=np+nl∧names.Nodup∧
  (∀x∈names,fd.scope.names.lookup x=some .local∨(fd.scope.names.lookup x=some .cell∧∀L,((cellsFrom (L+1) fd.scope.names []).lookup x).isSome=true))∧
  iD c.N fd.scope (names.map some) b body=true∧
  (fd.scope.names.lookup ("self":Str)=some .cell→c.cd fd.code (fd.qualname++".<locals>."))∧
  (∀(s:Shared) (us:List Value),c.G s.heap→us.length=np→BindsTo s fd ⟨us,[]⟩ ((names.take np).zip us))∧
  (dn=true→∀(s:Shared) (us:List Value),c.G s.heap→us.length+1=np→BindsTo s fd ⟨us,[]⟩ ((names.take np).zip (us++[.none])))
def Db(c:Cx):Prop:=∀f np nl dn b,cZ c.P.fn f=some (np,nl,dn,b)→Fq c f np nl dn b
def gi(c:Cx):Prop:=∀h,c.G h→h.NoLimit
def av(c:Cx):Prop:=∀h a,c.G h→c.aT a→∃o,h.get? a=some o
def qA(c:Cx):Prop:=∀(A:Around) (s:Shared) (env:Env) (outer:List Env) (x:Value) (d:D) (Q:Unit→Shared→Prop) (E:Value→Shared→Prop),A.frames=some (env::outer)→bI c A s.heap→c.G s.heap→c.Flt s.heap x d→
 (∀s',c.Flt s'.heap x d→Nx c s s'→Q () s')→wpAny c.M A (leaving env x) Q E s
theorem Im{k:Str→Option NameKind}:∀(bs:List (Str×Value)) (m:Str→Option Value) (x:Str),(∀b∈bs,b.1≠x)→bindL k bs m x=m x
 |[],m,x,h=>rfl
 |(n,v)::r,m,x,h=>by
  unfold bindL;rw[Im r _ x λb hb=>h b (List.mem_cons_of_mem _ hb)];split
  ·show(if x=n then some v else m x)=m x;rw[if_neg λe=>h (n,v) List.mem_cons_self e.symm]
  ·rfl
theorem Io{k:Str→Option NameKind}:∀(bs:List (Str×Value)) (m:Str→Option Value) (x:Str),(∀b∈bs,b.1≠x)→bindC k bs m x=m x
 |[],m,x,h=>rfl
 |(n,v)::r,m,x,h=>by
  unfold bindC;rw[Io r _ x λb hb=>h b (List.mem_cons_of_mem _ hb)];split
  ·rfl
  ·show(if x=n then some v else m x)=m x;rw[if_neg λe=>h (n,v) List.mem_cons_self e.symm]
theorem Jy{ps:List Str}{us:List Value}{x:Str}(h:x∉ps):∀b∈ps.zip us,b.1≠x:=λb hb e=>h (e▸(fP (a:=b.1) (b:=b.2) hb).1)
theorem xm{k:Str→Option NameKind}:∀(ps:List Str) (us:List Value) (m:Str→Option Value) (i:Nat) (x:Str) (v:Value),ps.Nodup→ps[i]?=some x→us[i]?=some v→k x=some .local→bindL k (ps.zip us) m x=some v
 |[],us,m,i,x,v,hn,hx,hv,hk=>by cases hx
 |p::ps,[],m,i,x,v,hn,hx,hv,hk=>by cases hv
 |p::ps,u::us,m,0,x,v,hn,hx,hv,hk=>by
  cases hx;cases hv;rw[List.zip_cons_cons];unfold bindL;rw[Im _ _ _ (Jy (List.nodup_cons.mp hn).1),if_pos hk];simp
 |p::ps,u::us,m,i+1,x,v,hn,hx,hv,hk=>xm ps us _ i x v (List.nodup_cons.mp hn).2 hx hv hk
theorem IQ{k:Str→Option NameKind}:∀(ps:List Str) (us:List Value) (m:Str→Option Value) (i:Nat) (x:Str) (v:Value),ps.Nodup→ps[i]?=some x→us[i]?=some v→k x≠some .local→bindC k (ps.zip us) m x=some v
 |[],us,m,i,x,v,hn,hx,hv,hk=>by cases hx
 |p::ps,[],m,i,x,v,hn,hx,hv,hk=>by cases hv
 |p::ps,u::us,m,0,x,v,hn,hx,hv,hk=>by
  cases hx;cases hv;rw[List.zip_cons_cons];unfold bindC;rw[Io _ _ _ (Jy (List.nodup_cons.mp hn).1),if_neg hk];simp
 |p::ps,u::us,m,i+1,x,v,hn,hx,hv,hk=>IQ ps us _ i x v (List.nodup_cons.mp hn).2 hx hv hk
theorem HR:∀(n i:Nat) (d:D),cZ (yd n) i≠some (some d)
 |0,i,d=>by intro h;cases i<;>cases h
 |n+1,0,d=>by intro h;cases h
 |n+1,i+1,d=>HR n i d
theorem Hv:∀(ds:List D) (nl i:Nat) (d:D),cZ (j6 ds nl) i=some (some d)→ds[i]?=some d
 |[],nl,i,d,h=>absurd h (HR nl i d)
 |e::ds,nl,0,d,h=>by cases h;rfl
 |e::ds,nl,i+1,d,h=>Hv ds nl i d h
theorem Ip:∀n,(yd n).length=n
 |0=>rfl
 |n+1=>bp Nat.succ (Ip n)
theorem HU:∀(ds:List D) (nl:Nat),(j6 ds nl).length=ds.length+nl
 |[],nl=>by rw[show j6 [] nl=yd nl from rfl,Ip,List.length_nil,Nat.zero_add]
 |e::ds,nl=>by
  show(j6 ds nl).length+1=_;rw[HU ds nl,List.length_cons];omega
theorem cX{h:Heap}{a:Addr}(l:h.objs.size≤a):h.get? a=none:=by
 cases e:h.get? a with
 |none=>rfl
 |some o=>exact absurd (cA e) (Nat.not_lt.mpr l)
def ik(h:Heap)(L:Addr):Prop:=∀o,h.get? L=some o→o.cls=.type "frame"
theorem ik.other{h h':Heap}{L b:Addr}(x:ik h L)(hs:Heap.SameBut b h h')(hb:L≠b):ik h' L:=λo e=>x o ((hs.2 L hb).symm.trans e)
section
variable{M:Model}{A:Around}{E:Value→Shared→Prop}{s₀:Shared}{env:Env}
theorem Bq(f:Str×Value→PUnit→Sem (ForInStep PUnit))(hf:∀n v u,f (n,v) u=(do storeName env n v;pure (.yield ⟨⟩)))(hk:env.scope.kind=.function):
  ∀(binds:List (Str×Value)) (m cm:Str→Option Value) (s:Shared) (Q:PUnit→Shared→Prop),InCallC s₀ env.locals m env.cells cm s→ik s.heap env.locals→
   (∀x∈binds,env.kindOf x.1=some .local∨(env.kindOf x.1=some .cell∧(env.cells.lookup x.1).isSome=true))→
   (∀s',InCallC s₀ env.locals (bindL env.kindOf binds m) env.cells (bindC env.kindOf binds cm) s'→ik s'.heap env.locals→Q ⟨⟩ s')→wpAny M A (forIn binds ⟨⟩ f) Q E s
 |[],m,cm,s,Q,x,y,_,h=>by rw[List.forIn_nil];exact aM (h s x y)
 |(n,v)::r,m,cm,s,Q,x,y,ym,h=>by
  rw[List.forIn_cons,hf];have hr:∀z∈r,env.kindOf z.1=some .local∨(env.kindOf z.1=some .cell∧(env.cells.lookup z.1).isSome=true):=λz hz=>ym z (bH _ hz);have lt:∀b o,s₀.heap.get? b=some o→b<env.locals:=λb o e=>Nat.lt_of_lt_of_le (cA e) x.toInCall.fresh;rcases ym (n,v) dW with hl|⟨hl,hc⟩
  ·refine aj (aj (tY hl x.toInCall.ns (λh' g7 c9 fS=>aM (Bq f hf hk r _ _ _ Q
    ⟨⟨let⟨h₁,tk,e⟩:=x.toInCall.same;⟨h',s.toks+1,by rw[e]⟩,g7,λb o e=>c9.extBut b o (bL (lt b o e)) (x.toInCall.keep b o e),x.toInCall.fresh⟩,
     λk c hc=>(x.cell k c hc).sameBut c9 (Nat.ne_of_gt (x.above k c (mem_of_lookup hc))),x.apart,x.above⟩ (λo e=>?_) hr λaS Fs Ft=>h aS ?_ Ft)) (by rw[hk];rfl)))
   ·refine bC x.toInCall.ns λbN w w e1 w=>?_;exact(fS _ _ e1 e).trans (y _ e1)
   ·unfold bindL bindC;rw[if_pos hl,if_pos hl];exact Fs
  ·refine ak (Option.isSome_iff_exists.mp hc) λc hc=>?_;have Fu:=x.above n c (mem_of_lookup hc);have Ov:¬env.kindOf n=some .local:=by rw[hl];decide
   refine aj (aj (Bv hk hl hc (x.cell n c hc) λh' jP c9 w=>aM (Bq f hf hk r m (λy=>if y=n then some v else cm y) _ Q
    ⟨⟨let⟨h₁,tk,e⟩:=x.toInCall.same;⟨h',tk,by rw[e]⟩,x.toInCall.ns.sameBut c9 (bL Fu),λb o e=>c9.extBut b o (bL (Nat.lt_trans (lt b o e) Fu)) (x.toInCall.keep b o e),x.toInCall.fresh⟩,
     λk c' wp=>?_,x.apart,x.above⟩ (y.other c9 (bL Fu)) hr λaS Fs Ft=>h aS ?_ Ft)))
   ·by_cases Fv:k=n
    ·subst Fv;cases aD hc wp;simpa using jP
    ·rw[if_neg Fv];exact(x.cell k c' wp).sameBut c9 λe=>Fv (name_of_addr x.apart (mem_of_lookup wp) (e▸mem_of_lookup hc))
   ·unfold bindL bindC;rw[if_neg Ov,if_neg Ov];exact Fs
theorem xy{s:Shared}{scope:Scope}{globals:Addr}{binds:List (Str×Value)}{qual:Str}{func:Option Addr}{code:Value}{builtins:Addr}{Q:Env→Shared→Prop}(hk:scope.kind=.function)
  (ym:∀x∈binds,scope.names.lookup x.1=some .local∨(scope.names.lookup x.1=some .cell∧((cellsFrom (s.heap.objs.size+1) scope.names []).lookup x.1).isSome=true))
  (hQ:∀env,env=newEnv scope s.heap.objs.size globals (cellsFrom (s.heap.objs.size+1) scope.names []) qual func code none builtins→
   ∀s',InCallC s env.locals (bindL env.kindOf binds λw=>none) env.cells (bindC env.kindOf binds λw=>none) s'→ik s'.heap env.locals→Q env s'):
  wpAny M A (newFunctionEnv scope globals [] binds qual func code none builtins) Q E s:=by
 simp only[newFunctionEnv,Option.isSome_none,Bool.false_eq_true,if_false];refine aj (wpAny_alloc ?_);refine aj (wpAny_layCells _ (λname kind cells=>by cases wq:kind==NameKind.cell<;>simp[wq]) _ _ _ _ ?_);have ok:=cellsFrom_ok scope.names (s.heap.push {cls:=.type "frame",data:=.dict #[]}) (s.heap.objs.size+1) [] ⟨λw w hm=>(nomatch hm),List.Pairwise.nil⟩ (by rw[Heap.size_push];exact dp _);rw[Heap.size_push]at ok;rw[show({s with heap:=s.heap.push {cls:=.type "frame",data:=.dict #[]}}:Shared).heap.objs.size=s.heap.objs.size+1 from Heap.size_push ..];have hL:(pushCells (s.heap.push {cls:=.type "frame",data:=.dict #[]}) scope.names).get? s.heap.objs.size=some {cls:=.type "frame",data:=.dict #[]}:=pushCells_keeps _ _ _ _ (dy _ rfl);refine aj (Bq (s₀:=s) (env:=newEnv scope s.heap.objs.size globals (cellsFrom (s.heap.objs.size+1) scope.names []) qual func code none builtins)
  _ (λw w w=>rfl) hk binds (λw=>none) (λw=>none) _ _
  ⟨⟨⟨_,_,rfl⟩,(Heap.Ns.new s.heap (.type "frame")).keeps (pushCells_keeps _ _),λb o e=>pushCells_keeps _ _ b o (bA _ e),dp _⟩,
   λn c hc=>(ok.empty n c (mem_of_lookup hc)).1,ok.apart,λn c hm=>(ok.empty n c hm).2⟩
  (λo e=>by have:=e.symm.trans hL;cases au this;rfl) ym λs' x y=>aM (hQ _ rfl s' x y))
end
theorem enter{c:Cx}(H0:bz c)(H9:av c){A:Around}{n np nl:Nat}{s an:Shared}{fd:FuncData}{a:Addr}{names:List Str}{us:List Value}{ds:List D}(g:c.G s.heap)(fr:bI c A s.heap)(rm:aP A (n+1))
  (hg:fd.globals=mainGlobals)(hb:fd.builtins=builtinsNs)(hk:fd.scope.kind=.function)(cq:fd.scope.names.lookup ("self":Str)=some .cell→c.cd fd.code (fd.qualname++".<locals>."))(hl:names.length=np+nl)(hn:names.Nodup)
  (hv:∀x∈names,fd.scope.names.lookup x=some .local∨(fd.scope.names.lookup x=some .cell∧∀L,((cellsFrom (L+1) fd.scope.names []).lookup x).isSome=true))
  (hu:us.length=np)(T:ax c.σ s.heap us ds)(x:InCallC s (callEnvC fd s.heap.objs.size a).locals (bindL (callEnvC fd s.heap.objs.size a).kindOf ((names.take np).zip us) λw=>none) (callEnvC fd s.heap.objs.size a).cells
    (bindC (callEnvC fd s.heap.objs.size a).kindOf ((names.take np).zip us) λw=>none) an)(je:ik an.heap (callEnvC fd s.heap.objs.size a).locals):
  Ws c (A.deeper (callEnvC fd s.heap.objs.size a)) n fd.scope (callEnvC fd s.heap.objs.size a) s.heap an.heap (names.map some) (j6 ds nl):=by
 have keep:aE s.heap an.heap:=aE.gb x.toInCall.keep;have hf:s.heap.get? (callEnvC fd s.heap.objs.size a).locals=none:=cX (dp _);have fL:∀y,(callEnvC fd s.heap.objs.size a).kindOf y=fd.scope.names.lookup y:=λy=>rfl;have Ox:(names.take np).Nodup:=hn.sublist (List.take_sublist _ _);have uy:∀(i:Nat) (y:Str),(names.map some)[i]?=some (some y)→names[i]?=some y:=by
  intro i y h;rw[List.getElem?_map]at h;cases e:names[i]?with
  |none=>rw[e]at h;cases h
  |some z=>rw[e]at h;cases h;rfl
 refine cF (id x.toInCall.ns) λoL es ep ho hd w=>?_;refine⟨⟨H0 _ _ x.toInCall.keep g,⟨rfl,hk,hg,hb,cq,λi y h1 h2=>(hv y (tn (uy i y h1))).elim (λhl=>absurd (hl.symm.trans h2) (by decide)) (λhc=>hc.2 s.heap.objs.size),λi y d h1 h2=>?_⟩,⟨?_,?_,rm.2.2⟩,?_⟩,⟨?_,?_,hf,⟨_,x.toInCall.ns⟩,λi y h1=>?_,λy z b h1 h2=>name_of_addr x.apart (mem_of_lookup h1) (mem_of_lookup h2)⟩,keep,g⟩
 ·have pR:=uy i y h1;have wu:=Hv ds nl i d h2;refine ah (T.get wu) λu h3 h4=>?_;have hi:i<np:=by rw[←hu];exact(List.getElem?_eq_some_iff.mp h3).1
  have h5:(names.take np)[i]?=some y:=by rw[List.getElem?_take_of_lt hi];exact pR
  refine⟨u,?_,h4.keep keep⟩;rcases hv y (tn pR)with hl|⟨hl,hc⟩
  ·exact .inl ⟨hl,_,x.toInCall.ns,xm _ _ _ i y u Ox h5 h3 hl⟩
  ·refine ak (Option.isSome_iff_exists.mp (hc s.heap.objs.size)) λb hb=>?_;refine .inr ⟨b,.inl hl,hb,?_⟩;have:=x.cell y b hb;rw[IQ _ _ _ i y u Ox h5 h3 (by rw[fL,hl];decide)]at this;exact this
 ·have:=rm.1;rw[depth_deeper];omega
 ·have:=rm.2.1;rw[units_deeper];omega
 ·refine ah fr λFw e F=>?_;refine⟨_,l7 e,λenv he=>?_⟩;rcases List.mem_cons.mp he with rfl|he
  ·exact⟨by show fd.scope.kind≠_;rw[hk];decide,_,oL,rfl,ho,λvs q=>(by rw[hd]at q;cases q),je _ ho,λz=>by refine ak (H9 _ _ g z) λo e=>?_;exact absurd (e.symm.trans hf) (by intro q;exact oV q)⟩
  ·refine Cd (F env he) λa1 L' o' b1 d1 f1 z1=>?_;exact⟨a1,L',o',b1,x.toInCall.keep _ _ d1,f1,z1⟩
 ·rw[HU,List.length_map,hl,←hu,T.length]
 ·intro i j y h1 h2;have pR:=uy i y h1;have wu:=uy j y h2;exact(List.getElem?_inj (List.getElem?_eq_some_iff.mp pR).1 hn).mp (pR.trans wu.symm)
 ·have pR:=uy i y h1;rcases hv y (tn pR)with hl|⟨hl,hc⟩
  ·exact .inl hl
  ·refine ak (Option.isSome_iff_exists.mp (hc s.heap.objs.size)) λb hb=>?_;exact .inr ⟨hl,b,_,hb,x.cell y b hb,cX (jC (x.above y b (mem_of_lookup hb)))⟩
theorem gE{a b:Nat}(h:Nat.beq a b=true):a=b:=Nat.eq_of_beq_eq_true h
theorem UC{P:bJ}{r:Rc}{f np nl:Nat}{dn:Bool}{b:List S}{ds:List D}(hq:cZ P.fn f=some (np,nl,dn,b))(af:gV P r f ds≠.stuck):
  ∃g8,((g8=ds∧ds.length=np)∨(dn=true∧ds.length+1=np∧g8=ds++[.none]))∧gV P r f ds=C0 (r.ex (j6 g8 nl) b):=by
 have e:gV P r f ds=uQ r np nl b (ap dn (ap (Nat.beq (Nat.succ (cU ds)) np) (ds++[.none]) ds) ds):=by unfold gV;rw[hq]
 rw[e]at af⊢;have key:∀g8,uQ r np nl b g8≠.stuck→g8.length=np∧uQ r np nl b g8=C0 (r.ex (j6 g8 nl) b):=by
  intro g8 h;unfold uQ at h⊢;cases hb:Nat.beq (cU g8) np with
  |false=>rw[hb]at h;exact absurd rfl h
  |true=>exact⟨by have:=gE hb;rwa[gD]at this,rfl⟩
 cases dn with
 |false=>
  refine am (λa b'=>?_) (key _ af);exact⟨ds,.inl ⟨rfl,a⟩,b'⟩
 |true=>
  have e2:ap true (ap (Nat.beq (Nat.succ (cU ds)) np) (ds++[D.none]) ds) ds=ap (Nat.beq (Nat.succ (cU ds)) np) (ds++[D.none]) ds:=rfl;rw[e2]at af⊢;cases hb:Nat.beq (Nat.succ (cU ds)) np with
  |false=>
   rw[hb]at af;refine am (λa b'=>?_) (key _ af);exact⟨ds,.inl ⟨rfl,a⟩,b'⟩
  |true=>
   rw[hb]at af;refine am (λa b'=>?_) (key _ af);refine⟨ds++[.none],.inr ⟨rfl,?_,rfl⟩,b'⟩;have:=gE hb;rwa[gD]at this
theorem Kn{c:Cx}{n:Nat}(H0:bz c)(H9:av c)(HF:Db c)(HL:gi c)(HX:qA c)(hS:tB c n):oo c n:=by
 intro A s f us ds g fr rm T af;refine ak (Uu af) λXB hq=>?_;obtain⟨np,nl,dn,b⟩:=XB;refine ah (UC hq af) λg8 gu he=>?_;rw[he]at af⊢;refine Uc ((HF f np nl dn b hq).ex) λo fd body names hG hd XC kU tD pa kW kH hk hl hn hv hm yn Fx Fy=>?_;obtain⟨pS,T',pO,Dc⟩:∃pS,ax c.σ s.heap pS g8∧pS.length=np∧BindsTo s fd ⟨us,[]⟩ ((names.take np).zip pS):=by
  rcases gu with⟨rfl,h1⟩|⟨rfl,h1,rfl⟩
  ·exact⟨us,T,by rw[T.length,h1],Fx s us g (by rw[T.length,h1])⟩
  ·exact⟨us++[.none],T.append (.cons .none .nil),by rw[List.length_append,T.length,List.length_singleton,h1],Fy rfl s us g (by rw[T.length,h1])⟩
 refine am (λho cq=>?_) (hG _ g);refine dq (codeAny_call_function (by have:=rm.1;omega) ho hd kW kH XC cq (Dc _ _ _ _ ?_));rw[pa];refine xy hk (λy hy=>?_) λenv bP an x je=>?_
 ·have:y.1∈names:=oU (fP (a:=y.1) (b:=y.2) hy).1;exact(hv _ this).imp id fun⟨a,k⟩=>⟨a,k _⟩
 have XD:env=callEnvC fd s.heap.objs.size (c.fa f):=bP;subst XD;have W:=enter H0 H9 g fr rm kU tD hk yn hl hn hv pO T' x je;refine⟨HL _ W.s.g,codeAny_func ?_⟩;have ns:(rec c.P n).ex (j6 g8 nl) b≠.stuck:=by intro h;rw[h]at af;exact af rfl
 have sm:=x.toInCall.same;refine aL (hS _ an _ _ _ _ _ _ _ W hm ns) (λfl s' h=>?_) λe s' h=>?_
 ·refine eM sm λh₁ lU XE=>?_;subst XE;rcases h with⟨b9,a,rfl,z,_⟩|⟨d,v,a,rfl,t,z⟩
  ·refine aO z λh2 Aw XF XG=>?_;subst XF;refine bY XG λk2 g2 j=>?_;exact⟨.none,by rw[a];rfl,.none,h2,Aw,rfl,k2,g2⟩
  ·refine aO z λh2 Aw XH XI=>?_;subst XH;refine bY XI λk2 g2 j=>?_;exact⟨d,by rw[a];rfl,t,h2,Aw,rfl,k2,g2⟩
 ·refine eM sm λh₁ lU XJ=>?_;subst XJ;refine bS h λd a fl z=>?_;refine aO z λh2 Aw XK XM=>?_;subst XK;refine fc XM λk2 g2 fr2 j=>?_;refine ah fr λmJ bF j=>?_;refine HX (A.deeper (callEnvC fd s.heap.objs.size (c.fa f))) _ _ mJ e d _ _ (l7 bF) fr2 g2 fl λs3 f3 n3=>?_;refine aO n3 λh3 Fz XN XO=>?_;subst XN;refine am (λk3 g3=>?_) XO;exact⟨d,by rw[a];rfl,f3,h3,Fz,rfl,k2.trans k3,g3⟩
noncomputable def plainT(p:Expr):Bool:=by cases p with
 |UnaryOp o _ _=>cases o with|Not=>exact false|_=>exact true
 |BoolOp _ _ _=>exact false
 |IfExp _ _ _ _=>exact false
 |Compare _ _ _ _=>exact false
 |_=>exact true
theorem PV{p:Expr}{env:Env}{w:Sem Value}(h:plainT p=true):isTrue p env w=(do let v←w;standAt p.pos;holding [v] (truthy v)):=by
 revert h;cases p with
 |UnaryOp op x q=>cases op<;>intro h<;>first|rfl|exact aw h
 |BoolOp _ _ _=>exact aw
 |IfExp _ _ _ _=>exact aw
 |Compare _ _ _ _=>exact aw
 |_=>exact λj=>rfl
noncomputable def special(e:E):Bool:=by cases e with
 |isin _ _=>exact true|b1 _ _=>exact true|b2 _ _ _=>exact true|cnt _ _=>exact true|gU _ _ _=>exact true|oZ _ _ _=>exact true|o7 _ _ _ _=>exact true|i6 _ _=>exact true
 |_=>exact false
def NodeOk(c:Cx)(n:Nat):Prop:=∀(A:Around) (s:Shared) (sc:Scope) (env:Env) (vs:List (Option Str)) (ρ:List (Option D)) (e:E) (p:Expr),special e=true→St c A (n+1) sc env s.heap vs ρ→mE c.N sc vs e p=true→
 qT c.P (rec c.P n) ρ e≠.stuck→bK c A s (eval p env) (qT c.P (rec c.P n) ρ e)
structure Ob(c:Cx):Prop where
 push:bz c
 aT:av c
 store:eG c
 wv:j8 c
 uW:jZ c
 gU:xt c
 glob:Cy c
 attr:xN c
 bc:xO c
 mix:Cz c
 fn:DD c
 fnAt:FnAt c
 fns:Db c
 lim:gi c
 leave:qA c
 mG:∀n,jO c n→yl c n
 dG:∀n,jO c n→xQ c n
 node:∀n,jO c n→oo c n→NodeOk c n
section
variable{c:Cx}{n:Nat}
theorem ab6(O:Ob c)(L:jO c n)(hC:oo c n):SE c (n+1):=by
 intro A s sc env vs ρ e p F hm af;have F':=F.less (di n);have e0:(rec c.P (n+1)).ev ρ e=qT c.P (rec c.P n) ρ e:=rfl;rw[e0]at af⊢;cases e with
 |lit d=>exact Ui F' hm
 |var i=>exact Js F' hm af
 |gl k=>exact Vs O.glob F' hm
 |tup es=>exact Ju O.push L.e F' hm af
 |lst es=>exact Uj O.push L.e F' hm af
 |attr e k=>exact SM O.attr L.e F' hm af
 |sub e i=>exact Ut O.gU L.e F' hm af
 |bin op a b=>exact Uk O.push L.e F' hm af
 |neg a=>exact Ul L.e F' hm af
 |no a=>exact Vt L.e F' hm af
 |cmp op a b=>exact Um O.wv O.uW L.e F' hm af
 |iZ o1 o2 a b d=>exact SI O.wv O.uW L.e F' hm af
 |bl w es=>exact Vu L.e F' hm af
 |ite a b d=>exact Uo L.e L.t F' hm af
 |call f es=>exact SN O.fn O.fnAt L.e hC F hm af
 |bc o k es=>exact SO O.bc O.fnAt O.mix L.e hC F hm af
 |stop=>exact absurd rfl af
 |_=>exact O.node n L hC A s sc env vs ρ _ p rfl F hm af
theorem ab7(O:Ob c)(L:jO c n):jd c (n+1):=by
 intro A s sc env vs ρ e p F hm af;have F':=F.less (di n);have e0:(rec c.P (n+1)).ts ρ e=stepT c.P (rec c.P n) ρ e:=rfl;rw[e0]at af⊢;have eD:plainT p=true→lS (rec c.P n) ρ e≠.stuck→gX c A s (isTrue p env (eval p env)) (lS (rec c.P n) ρ e):=λhp hn=>SK L.e F' hm (PV hp) hn;cases e with
 |no a=>exact Vw L.t F' hm af
 |bl w es=>exact Vv L.t F' hm af
 |ite a b d=>exact Up L.t F' hm af
 |cmp op a b=>exact Un O.wv O.uW L.e F' hm af
 |iZ o1 o2 a b d=>exact SJ O.wv O.uW L.e F' hm af
 |lit d=>exact eD (Le hm λj j j j=>rfl) af
 |var i=>exact eD (Lf hm λj j j j=>rfl) af
 |gl k=>exact eD (MF hm λj j j j=>rfl) af
 |tup es=>exact eD (Lg hm λj j j j j=>rfl) af
 |lst es=>exact eD (Lh hm λj j j j=>rfl) af
 |attr e k=>exact eD (Kc hm λj j j j j j=>rfl) af
 |sub e i=>exact eD (Li hm λj j j j j=>rfl) af
 |bin op a b=>exact eD (Lj hm λj j j j j=>rfl) af
 |neg a=>exact eD (Lk hm λj j j=>rfl) af
 |call f es=>exact eD (Ke hm λj j j j j j j j=>rfl) af
 |bc o k es=>exact eD (Kf hm λj j j j j j j j j j j=>rfl) af
 |isin e t=>exact eD (Kg hm λj j j j j j j j j j=>rfl) af
 |b1 b e=>exact eD (MI hm λj j j j j j j j=>rfl) af
 |b2 b x y=>exact eD (MJ hm λj j j j j j j j j j j=>rfl) af
 |cnt l x=>exact eD (Ln hm λj j j j j j j j j=>rfl) af
 |gU ks es k=>exact eD (Kh hm λj j j j j j j j j=>rfl) af
 |oZ ks es k=>exact eD (Ki hm λj j j j j j j j j j j j=>rfl) af
 |o7 ks es k z=>exact eD (Kj hm λj j j j j j j j j j j j j j j=>rfl) af
 |i6 a b=>exact eD (Kk hm λj j j j j j j j j j j j j j j j=>rfl) af
 |stop=>exact absurd (show lS (rec c.P n) ρ .stop=_ by unfold lS;rw[Uh]) af
theorem ww(O:Ob c):∀n,jO c n
 |0=>ab5
 |n+1=>by
  have L:=ww O n;have hC:=Kn O.push O.aT O.fns O.lim O.leave L.s;exact⟨ab6 O L hC,ab7 O L,λA s sc env h₀ vs ρ b p W hm af=>UB O.push O.store L.e L.t L.s (O.mG n L) (O.dG n L) W hm af⟩
theorem calls(O:Ob c)(n:Nat):oo c n:=Kn O.push O.aT O.fns O.lim O.leave (ww O n).s
end
theorem ty_bool:typeOf (Value.type "bool")=pure (Value.type "type"):=by kernel_rfl
theorem ty_int:typeOf (Value.type "int")=pure (Value.type "type"):=by kernel_rfl
theorem ty_bytes:typeOf (Value.type "bytes")=pure (Value.type "type"):=by kernel_rfl
theorem VH:isSubtype (.type "NoneType") (.type "bool")=pure false:=by rw[isSubtype_type];kernel_rfl
theorem VI:isSubtype (.type "NoneType") (.type "int")=pure false:=by rw[isSubtype_type];kernel_rfl
theorem VJ:isSubtype (.type "NoneType") (.type "bytes")=pure false:=by rw[isSubtype_type];kernel_rfl
theorem VK:isSubtype (.type "bool") (.type "bool")=pure true:=by rw[isSubtype_type];kernel_rfl
theorem VL:isSubtype (.type "bool") (.type "int")=pure true:=by rw[isSubtype_type];kernel_rfl
theorem VM:isSubtype (.type "bool") (.type "bytes")=pure false:=by rw[isSubtype_type];kernel_rfl
theorem VN:isSubtype (.type "int") (.type "bool")=pure false:=by rw[isSubtype_type];kernel_rfl
theorem VO:isSubtype (.type "int") (.type "int")=pure true:=by rw[isSubtype_type];kernel_rfl
theorem VQ:isSubtype (.type "int") (.type "bytes")=pure false:=by rw[isSubtype_type];kernel_rfl
theorem VR:isSubtype (.type "str") (.type "bool")=pure false:=by rw[isSubtype_type];kernel_rfl
theorem VS:isSubtype (.type "str") (.type "int")=pure false:=by rw[isSubtype_type];kernel_rfl
theorem VT:isSubtype (.type "str") (.type "bytes")=pure false:=by rw[isSubtype_type];kernel_rfl
theorem VU:isSubtype (.type "bytes") (.type "bool")=pure false:=by rw[isSubtype_type];kernel_rfl
theorem VV:isSubtype (.type "bytes") (.type "int")=pure false:=by rw[isSubtype_type];kernel_rfl
theorem VW:isSubtype (.type "bytes") (.type "bytes")=pure true:=by rw[isSubtype_type];kernel_rfl
section
variable{prog:Program}{w:World}{A:Around}{E:Value→Shared→Prop}{s:Shared}{Q:Value→Shared→Prop}{T:String}
theorem Br(bk:(Value.type "NoneType"==Value.type T)=false)(fT:typeOf (.type T)=pure (.type "type"))(hs:isSubtype (.type "NoneType") (.type T)=pure false)(h:Q (.bool false) {s with toks:=s.toks+1}):
  wpAny (model prog w) A (call (.builtin "isinstance") [.none,.type T]) Q E s:=call_isinstance_of (isinstance_nested_false_none bk fT hs h) (by intro e;cases e)
theorem QX{b:Bool}(bk:(Value.type "bool"==Value.type T)=false)(fT:typeOf (.type T)=pure (.type "type"))(hs:isSubtype (.type "bool") (.type T)=pure false)(h:Q (.bool false) {s with toks:=s.toks+1}):
  wpAny (model prog w) A (call (.builtin "isinstance") [.bool b,.type T]) Q E s:=call_isinstance_of (isinstance_nested_false_bool bk fT hs h) (by intro e;cases e)
theorem HV{i:Int}{t:Tok}(bk:(Value.type "int"==Value.type T)=false)(fT:typeOf (.type T)=pure (.type "type"))(hs:isSubtype (.type "int") (.type T)=pure false)(h:Q (.bool false) {s with toks:=s.toks+1}):
  wpAny (model prog w) A (call (.builtin "isinstance") [.int i t,.type T]) Q E s:=call_isinstance_of (isinstance_nested_false_int bk fT hs h) (by intro e;cases e)
theorem Bw{x:Str}{t:Tok}(bk:(Value.type "str"==Value.type T)=false)(fT:typeOf (.type T)=pure (.type "type"))(hs:isSubtype (.type "str") (.type T)=pure false)(h:Q (.bool false) {s with toks:=s.toks+1}):
  wpAny (model prog w) A (call (.builtin "isinstance") [.str x t,.type T]) Q E s:=call_isinstance_of (isinstance_nested_false_str bk fT hs h) (by intro e;cases e)
theorem Ho{x:Array UInt8}{t:Tok}(bk:(Value.type "bytes"==Value.type T)=false)(fT:typeOf (.type T)=pure (.type "type"))(hs:isSubtype (.type "bytes") (.type T)=pure false)(h:Q (.bool false) {s with toks:=s.toks+1}):
  wpAny (model prog w) A (call (.builtin "isinstance") [.bytes x t,.type T]) Q E s:=call_isinstance_of (isinstance_nested_false_bytes bk fT hs h) (by intro e;cases e)
end
noncomputable def DE(t:Nat):String:=@Nat.rec (λz=>String) "bool" (λt z=>@Nat.rec (λz=>String) "int" (λz z=>"bytes") t) t
section
variable{c:Cx}{A:Around}{s:Shared}{d:D}{b:Bool}{v:Value}{Q:Value→Shared→Prop}{E:Value→Shared→Prop}
theorem Rj{t:Nat}(ht:t<3)(h:yc t d=some b)(tv:Tells c.σ s.heap v d)(g:c.G s.heap)
  (hq:∀s',Nx c s s'→Q (.bool b) s'):wpAny c.M A (call (.builtin "isinstance") [v,.type (DE t)]) Q E s:=by
 have q0:∀{x},some x=some b→Q (.bool x) s:=λe=>au e▸hq s (Nx.refl g);have q1:∀{x},some x=some b→Q (.bool x) {s with toks:=s.toks+1}:=λe=>au e▸hq _ (Nx.tok g (s.toks+1));rcases t with _|_|_|t
 ·cases d with
  |none=>exact oC tv (Br (by decide) ty_bool VH (q1 h))
  |bool=>exact ki tv (call_isinstance_yes (PySem.typeIs_bool _ _) ty_bool VK (q0 h))
  |int=>exact jG tv λz=>HV (by decide) ty_bool VN (q1 h)
  |str=>exact jH tv λz=>Bw (by decide) ty_bool VR (q1 h)
  |bytes=>exact j5 tv λz=>Ho (by decide) ty_bool VU (q1 h)
  |_=>exact aF h
 ·cases d with
  |none=>exact oC tv (Br (by decide) ty_int VI (q1 h))
  |bool=>exact ki tv (call_isinstance_yes (PySem.typeIs_bool _ _) ty_int VL (q0 h))
  |int=>exact jG tv λz=>call_isinstance_yes (typeIs_int _ _ _) ty_int VO (q0 h)
  |str=>exact jH tv λz=>Bw (by decide) ty_int VS (q1 h)
  |bytes=>exact j5 tv λz=>Ho (by decide) ty_int VV (q1 h)
  |_=>exact aF h
 ·cases d with
  |none=>exact oC tv (Br (by decide) ty_bytes VJ (q1 h))
  |bool=>exact ki tv (QX (by decide) ty_bytes VM (q1 h))
  |int=>exact jG tv λz=>HV (by decide) ty_bytes VQ (q1 h)
  |str=>exact jH tv λz=>Bw (by decide) ty_bytes VT (q1 h)
  |bytes=>exact j5 tv λz=>call_isinstance_yes (jB _ _ _) ty_bytes VW (q0 h)
  |_=>exact aF h
 ·exact absurd ht (Nat.not_lt.mpr (Nat.le_add_left 3 t))
end
noncomputable def lV:List Str:=["isinstance","len","abs","int","list","bytes","sorted","min","max","bool","range"]
theorem Hl:bootBuiltins "isinstance"=some (.builtin "isinstance"):=by boot_fast
theorem Jz:bootBuiltins "bool"=some (.type "bool"):=by boot_fast
theorem CC:bootBuiltins "int"=some (.type "int"):=by boot_fast
theorem B3:bootBuiltins "bytes"=some (.type "bytes"):=by boot_by_name
theorem CD:bootBuiltins "min"=some (.builtin "min"):=by boot_fast
theorem CE:bootBuiltins "max"=some (.builtin "max"):=by boot_fast
theorem CF:bootBuiltins "len"=some (.builtin "len"):=by boot_by_name
theorem Ko:bootBuiltins "abs"=some (.builtin "abs"):=by boot_by_name
theorem Iq:bootBuiltins "sorted"=some (.builtin "sorted"):=by boot_by_name
theorem JA:bootBuiltins "list"=some (.type "list"):=by boot_by_name
theorem B4:bootBuiltins "range"=some (.type "range"):=by boot_by_name
def fO(c:Cx):Prop:=∀h,c.G h→∃mg mb,h.Ns mainGlobals mg∧h.Ns builtinsNs mb∧∀x∈lV,mg x=none∧mb x=bootBuiltins x
section
variable{c:Cx}{A:Around}{s:Shared}{sc:Scope}{env:Env}{vs:List (Option Str)}{ρ:List (Option D)}{n:Nat}{Q:Value→Shared→Prop}{E₀:Value→Shared→Prop}
theorem qp(HB:fO c)(F:St c A n sc env s.heap vs ρ){x:Str}{q:Pos}{v:Value}(hg:dX sc x=true)(hx:x∈lV)(hv:bootBuiltins x=some v)(h:Q v s):wpAny c.M A (eval (.Name x q) env) Q E₀ s:=by
 refine cK (HB _ F.g) λmg mb g1 g2 g3=>?_;refine am (λh1 h2=>?_) (g3 x hx);exact ud F.f hg (Calls.loadGlobal_builtin (by rw[F.f.bE];exact g1) h1 (by rw[F.f.blt];exact g2) (h2.trans hv) h)
theorem afW(HB:fO c)(hE:SE c n){es:List E}{ps:List Expr}{x:Str}{q r:Pos}{v:Value}(F:St c A n sc env s.heap vs ρ)(hg:dX sc x=true)(hx:x∈lV)(hv:bootBuiltins x=some v)
  (hk:(∃id,v=.builtin id)∨∃T,v=.type T)(hm:dz c.N sc vs es ps=true)(af:cj ((rec c.P n).ev ρ) es≠.stuck)
  (hq:∀us ds s',cj ((rec c.P n).ev ρ) es=.ok ds→ax c.σ s'.heap us ds→Nx c s s'→wpAny c.M A (call v us) Q E₀ s')
  (kX:∀x d s',cj ((rec c.P n).ev ρ) es=.exc d→c.Flt s'.heap x d→Nx c s s'→E₀ x s'):wpAny c.M A (eval (.Call (.Name x q) ps [] r) env) Q E₀ s:=by
 have e0:eval (.Call (.Name x q) ps [] r) env=(eval (.Name x q) env>>=λfv=>callWith r fv [] (backTo r (starEach ps env)) []):=rfl;rw[e0];refine aj (qp HB F hg hx hv ?_);rcases hk with⟨id,rfl⟩|⟨T,rfl⟩
 ·exact jF (Bu hE hm) (xu hE F hm af hq kX)
 ·exact PyProof.Rows.callWith_type (Bu hE hm) (xu hE F hm af hq kX)
theorem oF{a:Expr}{p:Pos}(h:(!odd a)=true):(backTo p (starEach [a] env)).any (·.1)=false:=by rw[iL h];rfl
theorem yo{a b:Expr}{p:Pos}(h:(!odd a)=true)(k:(!odd b)=true):(backTo p (starEach [a,b] env)).any (·.1)=false:=by rw[iL h,iL k];rfl
theorem xz(hE:SE c n){α:Type}{e:E}{a:Expr}{pos:Pos}{fv:Value}{Q:Args→Shared→Prop}{f:D→Out α}(F:St c A n sc env s.heap vs ρ)(h1:(!odd a)=true)(h2:mE c.N sc vs e a=true)(af:((rec c.P n).ev ρ e).bind f≠.stuck)
  (hq:∀v d s',((rec c.P n).ev ρ e).bind f=f d→f d≠.stuck→Tells c.σ s'.heap v d→Nx c s s'→Q ⟨[v],[]⟩ s')(hx:∀x d s',((rec c.P n).ev ρ e).bind f=.exc d→c.Flt s'.heap x d→Nx c s s'→E₀ x s'):
  wpAny c.M A (evalArgs fv true (backTo pos (starEach [a] env)) []) Q E₀ s:=by
 rw[iL h1];exact dj (aV ((hE A s sc env vs ρ e a F h2 (br af)).use (λv d s' e1 t1 m=>ce (hq v d s' (a9 e1) (λh=>af ((a9 e1).trans h)) t1 m)) λx d s' e1 f1 m=>hx x d s' (bo e1) f1 m))
theorem Ch(hE:SE c n){α:Type}{e g:E}{a b:Expr}{pos:Pos}{fv:Value}{Q:Args→Shared→Prop}{f:D→D→Out α}(F:St c A n sc env s.heap vs ρ)(h1:(!odd a)=true)(h3:(!odd b)=true)(h2:mE c.N sc vs e a=true)(h4:mE c.N sc vs g b=true)
  (af:(((rec c.P n).ev ρ e).bind λx=>((rec c.P n).ev ρ g).bind (f x))≠.stuck)
  (hq:∀v u d d' s',(((rec c.P n).ev ρ e).bind λx=>((rec c.P n).ev ρ g).bind (f x))=f d d'→f d d'≠.stuck→Tells c.σ s'.heap v d→Tells c.σ s'.heap u d'→Nx c s s'→Q ⟨[v,u],[]⟩ s')
  (hx:∀x d s',(((rec c.P n).ev ρ e).bind λx=>((rec c.P n).ev ρ g).bind (f x))=.exc d→c.Flt s'.heap x d→Nx c s s'→E₀ x s'):
  wpAny c.M A (evalArgs fv true (backTo pos (starEach [a,b] env)) []) Q E₀ s:=by
 rw[iL h1,iL h3];refine dj (aV ((hE A s sc env vs ρ e a F h2 (br af)).use (λv d s' e1 t1 m=>?_) λx d s' e1 f1 m=>hx x d s' (bo e1) f1 m));rw[a9 e1]at af hq hx;exact aV ((hE A s' sc env vs ρ g b (F.nx m) h4 (br af)).use (λu d' s2 e2 t2 m2=>ce (hq v u d d' s2 (a9 e2) (λh=>af ((a9 e2).trans h)) (t1.keep m2.keep) t2 (m.trans m2))) λx d s2 e2 f2 m2=>hx x d s2 (bo e2) f2 (m.trans m2))
theorem SW(HB:fO c)(hE:SE c n){e:E}{t:Nat}{p:Expr}(F:St c A n sc env s.heap vs ρ)(hm:mE c.N sc vs (.isin e t) p=true)(af:((rec c.P n).ev ρ e).bind (λd=>kR (.of (yc t d)))≠.stuck):
  bK c A s (eval p env) (((rec c.P n).ev ρ e).bind λd=>kR (.of (yc t d))):=by
 refine Kg hm λq a y qy r h2 h5 fT h7 h4=>?_;have ht:t<3:=(List.getElem?_eq_some_iff.mp fT).1;have Oy:y=Str.ofString (DE t)∧bootBuiltins y=some (.type (DE t))∧y∈lV:=by
  rcases t with _|_|_|t
  ·exact au fT▸⟨rfl,Jz,al 9⟩
  ·exact au fT▸⟨rfl,CC,al 3⟩
  ·exact au fT▸⟨rfl,B3,al 5⟩
  ·exact aF fT
 rw[show eval (.Call (.Name "isinstance" q) [a,.Name y qy] [] r) env=(eval (.Name "isinstance" q) env>>=λfv=>callWith r fv [] (backTo r (starEach [a,.Name y qy] env)) [])from rfl,iL h5];refine aj (qp HB F h2 (al 0) Hl ?_);refine jF rfl (dj (aV ((hE A s sc env vs ρ e a F h4 (br af)).use (λv d s' e1 t1 m=>?_) λx d s' e1 f1 m=>⟨d,bo e1,f1,m⟩)));refine aV (qp HB (F.nx m) h7 Oy.2.2 Oy.2.1 (ce ?_));rw[a9 e1]at af⊢;refine ak (gL (br af)) λb hb=>?_;rw[hb];exact Rj ht hb t1 m.g λs2 m2=>⟨.bool b,rfl,.bool b,m.trans m2⟩
theorem VX(H0:bz c)(HB:fO c)(hE:SE c n){b:Nat}{x y:E}{p:Expr}(F:St c A n sc env s.heap vs ρ)(hm:mE c.N sc vs (.b2 b x y) p=true)
  (af:((rec c.P n).ev ρ x).bind (λi=>((rec c.P n).ev ρ y).bind λj=>Out.of (Aq b i j))≠.stuck):
  bK c A s (eval p env) (((rec c.P n).ev ρ x).bind λi=>((rec c.P n).ev ρ y).bind λj=>.of (Aq b i j)):=by
 refine MJ hm λnm q a e r h3 h4 h1 h2 h5 h6=>?_;have fin:∀{t} {z:Value} {h' tk} {s':Shared} {w d},Nx c s s'→(∀b o,s'.heap.get? b=some o→h'.get? b=some o)→some (D.int w)=some d→z=.int w t→VP c s (.ok d) z {s' with heap:=h',toks:=tk}:=fun{t z h' tk s' w d} m k e ez=>⟨_,rfl,au e▸ez▸.int _ _,m.trans (Nx.ext H0 m.g h' tk k)⟩;have key:∀{v u d d' z s'},Tells c.σ s'.heap v d→Tells c.σ s'.heap u d'→Nx c s s'→Aq b d d'=some z→∃f,bootBuiltins nm=some (.builtin f)∧nm∈lV∧wpAny c.M A (call (.builtin f) [v,u]) (VP c s (.ok z)) (EP c s (Out.ok z)) s':=by
  intro v u d d' z s' t1 t2 m hz;rcases b with _|_|b
  ·refine au h3▸⟨_,CD,al 7,jo hz t1 t2 λi j t t' e=>min_two_ints F.r.2.2 λh' tk k=>?_⟩;unfold Mz at e;rw[j7]at e;by_cases kY:j<i
   ·rw[decide_eq_true kY]at e;rw[if_pos kY];exact fin m k e rfl
   ·rw[decide_eq_false kY]at e;rw[if_neg kY];exact fin m k e rfl
  ·refine au h3▸⟨_,CE,al 8,jo hz t1 t2 λi j t t' e=>max_two_ints F.r.2.2 λh' tk k=>?_⟩;unfold MA at e;rw[j7]at e;by_cases kY:i<j
   ·rw[decide_eq_true kY]at e;rw[if_pos (show j>i from kY)];exact fin m k e rfl
   ·rw[decide_eq_false kY]at e;rw[if_neg (show¬j>i from kY)];exact fin m k e rfl
  ·exact aF h3
 have hv:∃f,bootBuiltins nm=some (.builtin f)∧nm∈lV:=by
  rcases b with _|_|b
  ·exact au h3▸⟨_,CD,al 7⟩
  ·exact au h3▸⟨_,CE,al 8⟩
  ·exact aF h3
 refine ah hv λf hf hm=>?_;rw[show eval (.Call (.Name nm q) [a,e] [] r) env=(eval (.Name nm q) env>>=λfv=>callWith r fv [] (backTo r (starEach [a,e] env)) [])from rfl];refine aj (qp HB F h4 hm hf (jF (yo h1 h2) (Ch hE F h1 h2 h5 h6 af (λv u d d' s' e0 ns t1 t2 m=>?_) λx d s' e f m=>⟨d,e,f,m⟩)));rw[e0];refine ak (gL ns) λz hz=>?_;rw[hz];exact bS (key t1 t2 m hz) λf' FD Z k=>by cases aD hf FD;exact k
end
structure rq where
 e:Addr
 oe:Obj
 dd:Addr
 vs:Array Value
 md:Str→Option Value
 m:Value
 v:Value
structure Oz where
 T:Addr
 oT:Obj
 ts:Array Value
structure mq(st:Addr→Prop)(σ:Nat→Addr)(cf:Addr)(h:Heap)(d:D)(r:rq):Prop where
 st:¬st r.e
 he:h.get? r.e=some r.oe
 hc:r.oe.cls=.ref cf
 eQ:r.oe.dict=some r.dd
 hd:r.oe.data=.fields r.vs
 h4:4<r.vs.size
 h2:d=.int 0→r.vs[2]?=some .none
 n:h.Ns r.dd r.md
 hm:r.md "message"=some r.m
 hs:r.md "spot"=some r.v
 t:Tells σ h r.v d
 ms:∃mx mt,r.m=.str mx mt
structure Ax(st:Addr→Prop)(h:Heap)(r:rq)(fl:Value)(q:Oz):Prop where
 v1:r.vs[1]?=some (.ref q.T)
 st:¬st q.T
 ne:q.T≠r.e
 hT:h.get? q.T=some q.oT
 hc:q.oT.cls=.type "traceback"
 hd:q.oT.data=.fields q.ts
 h3:q.ts[3]?=some fl
def ej(st:Addr→Prop)(σ:Nat→Addr)(cf:Addr)(h:Heap)(x:Value)(d:D):Prop:=∃r,x=.ref r.e∧mq st σ cf h d r∧(r.vs[1]?=some .none∨∃q,Ax st h r .none q)
def xR:Heap:=⟨#[],{}⟩
theorem Rk(a:Addr):xR.get? a=none:=cX (gO _)
theorem Lr{h:Heap}:∀{l:List Env},(∀env∈l,env.scope.kind≠.module∧∃L o,env.frame=some L∧h.get? L=some o∧(∀vs,o.data≠.fields vs))→h.FunFrames xR l
 |[],_=>trivial
 |env::l,H=>by
  refine Ub (H env dW) λa L o b d f=>?_;exact⟨a,⟨L,o,b,Rk L,d,f⟩,Lr λe he=>H e (bH _ he)⟩
section
variable{M:Model}{A:Around}{E:Value→Shared→Prop}{s:Shared}
def fH(st:Addr→Prop)(σ:Nat→Addr)(cf:Addr)(h:Heap)(x:Value)(d:D)(fl:Value):Prop:=∃r q,x=.ref r.e∧mq st σ cf h d r∧Ax st h r fl q
theorem fH.at{st:Addr→Prop}{σ:Nat→Addr}{cf:Addr}{h:Heap}{x:Value}{d:D}(F:fH st σ cf h x d .none):ej st σ cf h x d:=cK F λr q e B T=>⟨r,e,B,.inr ⟨q,T⟩⟩
theorem Kp{env:Env}{outer:List Env}{L e:Addr}{oe:Obj}{vs:Array Value}{head:Value}{UD:Bool}{Q:Unit→Shared→Prop}
  (bF:A.frames=some (env::outer))(hl:s.heap.FunFrames xR (env::outer))(hf:env.frame=some L)
  (he:s.heap.get? e=some oe)(hd:oe.data=.fields vs)(iE:1<vs.size)
  (h:∀h' T oT ts,h'.get? e=some (Obj.mapFields (·.setIfInBounds 1 (Value.ref T)) oe)→s.heap.objs.size≤T→T≠e→h'.get? T=some oT→oT.cls=.type "traceback"→oT.data=.fields ts→ts[3]?=some (rawInt L)→
   (∀b o,b≠e→s.heap.get? b=some o→h'.get? b=some o∨(b∈(env::outer).filterMap (·.frame)∧∃sl,h'.get? b=some {o with slots:=sl}))→Q () {s with heap:=h'}):
  wpAny M A (do let a←frameOf env;let pl←entryPlaceOf L UD;let b←EntryCells.newEntry head a .none (rawInt L) .none pl;setField (.ref e) 1 b) Q E s:=by
 have ab8:e∉(env::outer).filterMap (·.frame):=λhm=>by
  refine xZ (hl.mem hm) λz o ho pT=>?_;rw[he]at ho;injection ho with ho;subst ho;exact pT vs hd
 refine aj (wpAny_frameOf_fun bF hl hf λh₁ ku=>?_);refine aj (wpAny_entryPlaceOf λpl FE=>?_);unfold EntryCells.newEntry newFields;refine aj (wpAny_newObj_type ?_ (FE.sizeOk5 _ _ _ _ _));generalize Ay:([head,Value.ref L,.none,rawInt L,.none]++(if pl.isEmpty then List.replicate 6 Value.none else pl)).toArray=ts;have ab9:ts[3]?=some (rawInt L):=by rw[←Ay];simp
 have gM:h₁.get? e=some oe:=(ku.2.1 e ab8).trans he;have uz:=bA (h:=h₁) {cls:=.type "traceback",dict:=none,data:=.fields ts} gM;have tE:h₁.objs.size≠e:=Nat.ne_of_gt (cA gM);have De:=l8 hd (·.setIfInBounds 1 (Value.ref h₁.objs.size));refine wpAny_setField uz hd iE (h _ h₁.objs.size _ ts (jD _ uz (Obj.isFreed_of_fields De)) (by rw[ku.1];exact dp _) tE ((Heap.get?_update_other _ _ (bi tE)).trans (dy h₁ rfl)) rfl rfl ab9 λb o hbe hb=>?_);refine ak (ku.2.2 b o hb) λsl FG=>?_;rw[Heap.get?_update_other _ _ (Ne.symm hbe)];by_cases hm:b∈(env::outer).filterMap (·.frame)
 ·exact .inr ⟨hm,sl,bA _ FG⟩
 ·exact .inl (bA _ ((ku.2.1 b hm).trans hb))
end
def uA(h h':Heap):Prop:=∀b o,h.get? b=some o→o.cls=.type "code"→(∃vs,o.data=.fields vs)→∃o',h'.get? b=some o'∧o'.cls=o.cls∧o'.data=o.data
theorem aE.codes{h h':Heap}(k:aE h h'):uA h h':=λb o e hc hv=>let⟨o',e',c',_,_,g⟩:=k.2 b o e;⟨o',e',c',(g.1 ⟨.inl hc,hv⟩).1⟩
def az(c:Cx):Prop:=∀h h',(∀b o,c.aT b→h.get? b=some o→h'.get? b=some o)→uA h h'→c.G h→c.G h'
theorem az.push{c:Cx}(H:az c):bz c:=λh h' k g=>H h h' (λb o z e=>k b o e) (aE.gb k).codes g
theorem az.store{c:Cx}(H:az c)(H9:av c):eG c:=λh₀ h h' L bj hL hr hs g=>H h h' (λb o st e=>by
 have:b≠L:=by
  rintro rfl
  refine ak (H9 _ _ bj st) λo' e'=>?_;exact bg hL e'
 exact(hs.2 b this).trans e) (λb o e hc ⟨vs,hv⟩=>by
 have:b≠L:=by
  rintro rfl
  refine ah hr λo' e' r=>?_;cases aD e e';exact r vs hv
 exact⟨o,(hs.2 b this).trans e,rfl,rfl⟩) g
def yO(h':Heap)(e:Addr)(o:Obj):Prop:=∃o' vs mK,h'.get? e=some o'∧o'.cls=o.cls∧o'.dict=o.dict∧o'.slots=o.slots∧¬qR o∧o.data=.fields vs∧o'.data=.fields mK
theorem aE.two{h h':Heap}{e T:Addr}(he:∀o,h.get? e=some o→yO h' e o)(hT:∀o,h.get? T=some o→yO h' T o)
  (hr:∀b o,b≠e→b≠T→h.get? b=some o→h'.get? b=some o∨((∀vs,o.data≠.fields vs)∧o.cls=.type "frame"∧∃sl,h'.get? b=some {o with slots:=sl})):aE h h':=by
 refine⟨trivial,λb o hb=>?_⟩;by_cases q:b=e
 ·subst q;refine J3 (he o hb) λo' vs mK a b1 c1 s1 d1 f1 g1=>?_;exact⟨o',a,b1,c1,λk=>absurd f1 (k vs),λk=>absurd k d1,λj=>s1⟩
 by_cases q':b=T
 ·subst q';refine J3 (hT o hb) λo' vs mK a b1 c1 s1 d1 f1 g1=>?_;exact⟨o',a,b1,c1,λk=>absurd f1 (k vs),λk=>absurd k d1,λj=>s1⟩
 rcases hr b o q q' hb with h1|⟨h2,h3,sl,h1⟩
 ·exact⟨_,h1,rfl,rfl,λj=>rfl,λj=>⟨rfl,rfl⟩,λj=>rfl⟩
 ·exact⟨_,h1,rfl,rfl,λj=>rfl,λk=>(by refine ak k.2 λvs z=>?_;exact absurd z (h2 vs)),λk=>absurd h3 k⟩
theorem Bx{o:Obj}{vs:Array Value}(f:Array Value→Array Value)(h:o.data=.fields vs):(Obj.mapFields f o).slots=o.slots:=by
 obtain⟨a,b,c,d⟩:=o;cases h;rfl
theorem xi{o:Obj}{vs:Array Value}(f:Array Value→Array Value)(h:o.data=.fields vs):(Obj.mapFields f o).dict=o.dict:=by
 obtain⟨a,b,c,d⟩:=o;cases h;rfl
theorem IR{o:Obj}(h:o.cls≠.type "code"∧o.cls≠.type "range_iterator"∧o.cls≠.type "list_iterator"):¬qR o:=λk=>k.1.elim h.1 λk=>k.elim h.2.1 h.2.2
theorem mq.keep{st:Addr→Prop}{σ:Nat→Addr}{cf:Addr}{h h':Heap}{d:D}{r:rq}(B:mq st σ cf h d r)(k:aE h h'){wx:Obj}{mK:Array Value}(mM:h'.get? r.e=some wx)(jP:wx.cls=r.oe.cls)(a8:wx.dict=r.oe.dict)(wj:wx.data=.fields mK)(h4:4<mK.size)(h2:d=.int 0→mK[2]?=some .none):
  mq st σ cf h' d {r with oe:=wx,vs:=mK}:=⟨B.st,mM,jP.trans B.hc,a8.trans B.eQ,wj,h4,h2,k.ns B.n,B.hm,B.hs,B.t.keep k,B.ms⟩
theorem mq.code{st:Addr→Prop}{σ:Nat→Addr}{cf:Addr}{h:Heap}{d:D}{r:rq}(B:mq st σ cf h d r):¬qR r.oe:=IR (by rw[B.hc];exact⟨nofun,nofun,nofun⟩)
theorem Ax.code{st:Addr→Prop}{h:Heap}{r:rq}{fl:Value}{q:Oz}(B:Ax st h r fl q):¬qR q.oT:=IR (by rw[B.hc];decide)
theorem XQ{vs:Array Value}(h:4<vs.size)(x:Value):4<(vs.setIfInBounds 1 x).size:=by simpa using h
theorem aca{vs:Array Value}(h:4<vs.size)(x:Value):(vs.setIfInBounds 1 x)[1]?=some x:=by
 have:1<vs.size:=by omega
 simp[this]
theorem acb{vs:Array Value}{y:Option Value}(h:4<vs.size)(x:Value)(e:vs[2]?=y):(vs.setIfInBounds 1 x)[2]?=y:=by
 rw[Array.getElem?_setIfInBounds_ne (by decide)];exact e
section
variable{c:Cx}{cf:Addr}{A:Around}{s:Shared}{env:Env}{outer:List Env}{x:Value}{d:D}{Q:Unit→Shared→Prop}{E:Value→Shared→Prop}{L:Addr}{fl:Value}
theorem It{M:Model}(F:fH c.aT c.σ cf s.heap x d (rawInt L))(hL:env.frame=some L)(h:Q () s):wpAny M A (noteFrame x env) Q E s:=by
 refine cK F λr q e B T=>?_;subst e;unfold noteFrame;simp only[hL];refine aj (wpAny_field B.he B.hd T.v1 ?_);rw[if_pos (show(Value.ref q.T !=Value.none)=true from rfl)];refine aj (wpAny_field T.hT T.hd T.h3 ?_);rw[if_pos (by rw[beq_self_eq_true])];exact aM h
theorem qt(HM:az c)(H9:av c)(fr:Option Addr)(g:c.G s.heap)(F:fH c.aT c.σ cf s.heap x d fl)(hQ:∀s',fH c.aT c.σ cf s'.heap x d (fr.elim .none λf=>rawInt f)→Nx c s s'→Q () s'):wpAny c.M A (setFlight x fr) Q E s:=by
 refine cK F λr q e B T=>?_;subst e;unfold setFlight;refine aj (wpAny_field B.he B.hd T.v1 ?_);rw[if_pos (show(Value.ref q.T !=Value.none)=true from rfl)];have h3:3<q.ts.size:=(Array.getElem?_eq_some_iff.mp T.h3).1;refine wpAny_setField T.hT T.hd h3 ?_;generalize(fr.elim Value.none λf=>rawInt f)=y at hQ⊢;have hT:=jD (Obj.mapFields (·.setIfInBounds 3 y)) T.hT (Obj.isFreed_of_fields (l8 T.hd _));have other:∀b,b≠q.T→(s.heap.update q.T (Obj.mapFields (·.setIfInBounds 3 y))).get? b=s.heap.get? b:=λb hb=>Heap.get?_update_other _ _ (bi hb);generalize s.heap.update q.T (Obj.mapFields (·.setIfInBounds 3 y))=h' at hT other⊢;have k1:∀o,s.heap.get? q.T=some o→yO h' q.T o:=λo e=>by
  cases aD T.hT e;exact⟨_,q.ts,_,hT,Obj.cls_mapFields _ _,xi _ T.hd,Bx _ T.hd,T.code,T.hd,l8 T.hd _⟩
 have k:aE s.heap h':=aE.two (e:=q.T) (T:=q.T) k1 k1 λb o q j hb=>.inl ((other b q).trans hb);have g':c.G h':=HM _ _ (λb o st hb=>(other b λe=>T.st (e▸st)).trans hb) k.codes g;exact hQ {s with heap:=h'} ⟨{r with oe:=r.oe,vs:=r.vs},⟨q.T,Obj.mapFields (·.setIfInBounds 3 y) q.oT,q.ts.setIfInBounds 3 y⟩,rfl,B.keep k ((other r.e (bi T.ne)).trans B.he) rfl rfl B.hd B.h4 B.h2,⟨T.v1,T.st,T.ne,hT,(Obj.cls_mapFields _ _).trans T.hc,l8 T.hd _,by rw[Array.getElem?_setIfInBounds_self_of_lt h3]⟩⟩ ⟨_,s.toks,rfl,k,g'⟩
theorem bI.acd(fr:bI c A s.heap)(bF:A.frames=some (env::outer)):s.heap.FunFrames xR (env::outer)∧∀b∈(env::outer).filterMap (·.frame),¬c.aT b∧∀o,s.heap.get? b=some o→(∀vs,o.data≠.fields vs)∧o.cls=.type "frame":=by
 refine ah fr λmJ ace FF=>?_;cases aD bF ace;refine⟨Lr λen jQ=>nV (FF en jQ) λa L o b d f j j=>⟨a,L,o,b,d,f⟩,λb hb=>ah (List.mem_filterMap.mp hb) λen jQ e=>nV (FF en jQ) λj L o b1 b2 b3 y z=>?_⟩;cases aD b1 e;exact⟨z,λo e=>by cases aD b2 e;exact⟨b3,y⟩⟩
theorem IS(HM:az c)(H9:av c){r:rq}{h₁ h':Heap}{T:Addr}{oT:Obj}{ts:Array Value}(B:mq c.aT c.σ cf s.heap d r)(g:c.G s.heap)(ff:∀b∈(env::outer).filterMap (·.frame),¬c.aT b∧∀o,s.heap.get? b=some o→(∀vs,o.data≠.fields vs)∧o.cls=.type "frame")
  (mM:h'.get? r.e=some (Obj.mapFields (·.setIfInBounds 1 (Value.ref T)) r.oe))(dc:s.heap.objs.size≤T)(tE:T≠r.e)(wy:h'.get? T=some oT)(FH:oT.cls=.type "traceback")(FI:oT.data=.fields ts)(h3:ts[3]?=some (rawInt L))
  {T':Addr}(k1:∀o,s.heap.get? T'=some o→yO h' T' o)(a7:¬c.aT T')(il:∀b o,b≠r.e→b≠T'→s.heap.get? b=some o→h'.get? b=some o∨(b∈(env::outer).filterMap (·.frame)∧∃sl,h'.get? b=some {o with slots:=sl}))
  (hQ:∀s',fH c.aT c.σ cf s'.heap (.ref r.e) d (rawInt L)→Nx c s s'→Q () s'):Q () {s with heap:=h'}:=by
 have k:aE s.heap h':=aE.two (e:=r.e) (T:=T') (λo q=>by cases aD B.he q;exact⟨_,r.vs,_,mM,Obj.cls_mapFields _ _,xi _ B.hd,Bx _ B.hd,B.code,B.hd,l8 B.hd _⟩) k1
  λb o q q' hb=>(il b o q q' hb).imp id λz=>am (λz1 z2=>⟨z1,z2,z.2⟩) ((ff b z.1).2 o hb)
 have g':c.G h':=HM _ _ (λb o st hb=>(il b o (λe=>B.st (e▸st)) (λe=>a7 (e▸st)) hb).elim id λz=>absurd st (ff b z.1).1) k.codes g;exact hQ {s with heap:=h'} ⟨{r with oe:=Obj.mapFields (·.setIfInBounds 1 (Value.ref T)) r.oe,vs:=r.vs.setIfInBounds 1 (Value.ref T)},⟨T,oT,ts⟩,rfl,B.keep k mM (Obj.cls_mapFields _ _) (xi _ B.hd) (l8 B.hd _) (XQ B.h4 _) (λq=>acb B.h4 _ (B.h2 q)),⟨aca B.h4 _,λst=>ak (H9 _ _ g st) λo e=>absurd (cA e) (Nat.not_lt.mpr dc),tE,wy,FH,FI,h3⟩⟩ ⟨h',s.toks,rfl,k,g'⟩
theorem CG(HM:az c)(H9:av c)(bF:A.frames=some (env::outer))(hL:env.frame=some L)(fr:bI c A s.heap)(g:c.G s.heap)(F:ej c.aT c.σ cf s.heap x d)
  (hQ:∀s',fH c.aT c.σ cf s'.heap x d (rawInt L)→Nx c s s'→Q () s'):wpAny c.M A (noteFrame x env) Q E s:=by
 refine am (λDF ff=>?_) (fr.acd bF);refine bS F λr e B Az=>?_;subst e;have OA:1<r.vs.size:=iq aX B.h4;unfold noteFrame;simp only[hL];refine Az.elim (λh1=>?_) λz=>ak z λq T=>?_
 ·refine aj (wpAny_field B.he B.hd h1 ?_);rw[if_neg (by decide)];exact Kp bF DF hL B.he B.hd OA λh' T oT ts mM dc tE wy FH FI h3 il=>IS HM H9 (h₁:=h') (T':=T) B g ff mM dc tE wy FH FI h3 (λo e=>absurd (cA e) (Nat.not_lt.mpr dc)) (λst=>ak (H9 _ _ g st) λo e=>absurd (cA e) (Nat.not_lt.mpr dc)) (λb o hb j=>il b o hb) hQ
 ·refine aj (wpAny_field B.he B.hd T.v1 ?_);rw[if_pos (show(Value.ref q.T !=Value.none)=true from rfl)];refine aj (wpAny_field T.hT T.hd T.h3 ?_);rw[if_neg (show¬((Value.none==rawInt L)=true)from nofun)];refine aj (wpAny_setField T.hT T.hd (Array.getElem?_eq_some_iff.mp T.h3).1 ?_);have other:∀b,b≠q.T→(s.heap.update q.T (Obj.mapFields (·.setIfInBounds 3 Value.none))).get? b=s.heap.get? b:=λb hb=>Heap.get?_update_other _ _ (bi hb);have OB:=jD (Obj.mapFields (·.setIfInBounds 3 Value.none)) T.hT (Obj.isFreed_of_fields (l8 T.hd _));have iE:(s.heap.update q.T (Obj.mapFields (·.setIfInBounds 3 Value.none))).objs.size=s.heap.objs.size:=Heap.size_update ..;generalize s.heap.update q.T (Obj.mapFields (·.setIfInBounds 3 Value.none))=h₁ at other OB iE⊢;have SX:∀b o,s.heap.get? b=some o→(∀vs,o.data≠.fields vs)→b≠q.T:=λb o hb pT e=>by
   rw[e]at hb;cases aD T.hT hb;exact pT q.ts T.hd
  have XR:=DF.of_keeps (h':=h₁) λb o hb pT=>⟨o,(other b (SX b o hb pT)).trans hb,rfl⟩;have hTf:q.T∉(env::outer).filterMap (·.frame):=λe=>xZ (DF.mem e) λj o ho pT=>by cases aD T.hT ho;exact pT q.ts T.hd
  refine Kp (s:={s with heap:=h₁}) bF XR hL ((other r.e (bi T.ne)).trans B.he) B.hd OA λh' T' oT' ts' mM dc acf wy acg ach h3' il=>?_;have hTh:h'.get? q.T=some (Obj.mapFields (·.setIfInBounds 3 Value.none) q.oT):=(il q.T _ T.ne OB).elim id λz=>absurd z.1 hTf;exact IS (s:=s) HM H9 (h₁:=h') (T':=q.T) B g ff mM (iE▸dc) acf wy acg ach h3' (λo e=>by cases aD T.hT e;exact⟨_,q.ts,_,hTh,Obj.cls_mapFields _ _,xi _ T.hd,Bx _ T.hd,T.code,T.hd,l8 T.hd _⟩) T.st (λb o hb wk e=>il b o hb ((other b wk).trans e)) hQ
end
theorem JB{c:Cx}{cf:Addr}(HM:az c)(H9:av c)(HF:c.Flt=ej c.aT c.σ cf):qA c:=by
 intro A s env outer x d Q E bF fr g fl hQ;rw[HF]at fl hQ;obtain⟨L,hL⟩:∃L,env.frame=some L:=by
  refine ah fr λmJ e F=>?_;cases aD bF e;refine Vm (F env dW) λj L j b j=>?_;exact⟨L,b⟩
 unfold leaving;exact aj (CG HM H9 bF hL fr g fl λs1 f1 n1=>qt HM H9 none n1.g f1 λs2 f2 n2=>hQ s2 f2.at (n1.trans n2))
end Mine
namespace Mine
open PySem PySem.W PyProof.Rows Builtin Builtin.ObjectAttr
set_option tactic.hygienic true
structure qI(K:Frag)(C:Addr)(cd:ClassData):Prop where
 cls:clsIn K C=some cd
 set:findIn K (.ref C) "__setattr__"=some (some (.builtin "object.__setattr__"))
 dict:cd.hasDict=true
 has:cd.mro.contains (.type "object")=true
 passes:∀self:Value,refuseLoop self "__setattr__" cd.mro=pure ()
theorem JC{h:Heap}{x C:Addr}{m:Str→Option Value}(I:h.Inst x C m):∃o od,InstAt h x o C od:=by
 refine jv I λo ho hc hn hd=>?_;have no:notCls o=true:=by
  unfold notCls;split
  ·rename_i c q;exact absurd q (hn c)
  ·rfl
 rcases hd with⟨hd,_⟩|⟨dx,hd,_,od,es,ep,e,_⟩
 ·exact⟨o,none,ho,hc,no,by rw[hd];trivial⟩
 ·exact⟨o,some od,ho,hc,no,by rw[hd];exact e⟩
section
variable{prog:Program}{w:World}{A:Around}{E:Value→Shared→Prop}{s:Shared}{K:Frag}{x C:Addr}{cd:ClassData}{name:Str}{v:Value}{m:Str→Option Value}{ns:List Str}
theorem SY{tk:Tok}{R:Result→Shared→Prop}(S:qI K C cd)(X:K.In s.heap)(ht:takerIn K C name=some none)(I:s.heap.Inst x C m)(hw:Within m ns)(hz:ns.length≤1000)
  (hq:∀h' tk,h'.Inst x C (λy=>if y=name then some v else m y)→
   (∀b o,b≠x→(∀bV dx,s.heap.get? x=some bV→bV.dict=some dx→b≠dx)→s.heap.get? b=some o→h'.get? b=some o)→
   (∀bV,s.heap.get? x=some bV→∃bN,h'.get? x=some bN∧bN.cls=bV.cls∧bN.data=bV.data∧bN.slots=bV.slots∧(∀dx,bV.dict=some dx→bN.dict=some dx)∧(bV.dict=none→bN.dict=some s.heap.objs.size))→R (.ok (.ret .none)) {s with heap:=h',toks:=tk}):
  codeAny (model prog w) A (.call (.builtin "object.__setattr__") ⟨[.ref x,.str name tk,v],[]⟩) R s:=by
 refine eM (JC I) λox odx IA=>?_;have SF:=PySem.F.store_object;have bk:cd.mro.isEmpty=false:=by
  cases q:cd.mro with
  |nil=>have:=S.has;rw[q]at this;cases this
  |cons _ _=>rfl
 have sub:Looks (model prog w) s.heap (isInstance (.ref x) (.type "object")) true:=IA.type.andThen (looks_mroIn X (by unfold mroIn;rw[S.cls,Option.bind_some,if_neg (by rw[bk];decide),S.has]));refine codeAny_call_builtin SF.slot.plain SF.entry (@check_slot (model prog w) _ _ s "object.__setattr__" "object" "__setattr__" (.ref x) [.str name tk,v] [] _ SF.kind SF.split sub (SF.args (.ref x) (.str name tk) v) ?_);refine ah (Option.bind_eq_some_iff.mp ht) λattr ha hr=>?_;have hm:Looks (model prog w) s.heap (mroOf (.ref C)) cd.mro:=(looks_clsIn X S.cls).andThen .now;have L3:Looks (model prog w) s.heap (storeTaker? attr) none:=by
  cases attr with
  |none=>exact .now
  |some a=>
   refine ah (Option.map_eq_some_iff.mp hr) λb hb e=>?_;refine(looks_takesIn X hb).andThen ?_;cases b with
   |true=>cases e
   |false=>exact .now
 rw[osa_eq,refuse_eq];refine aj (aj (IA.type.here (aj (hm.here ?_))));rw[S.passes];refine aM (aj (IA.type.here (aj ((looks_findIn X ha).here (aj (L3.here ?_))))));refine jv I λo hx hc tF hd=>?_;obtain⟨oc,odi,AA,OC⟩:=o;dsimp only at hc hd;subst hc;refine aj (aM (aj (aj (wpAny_loadPart hx (aj ((looks_clsIn X S.cls).here ?_))))));rw[S.dict];rcases hd with⟨rfl,hmA⟩|⟨dx,rfl,FJ,af⟩
 ·have Ls:(s.heap.push {cls:=.type "dict",data:=.dict #[]}).get? x=some ⟨.ref C,none,AA,OC⟩:=bA _ hx;have FM:x≠s.heap.objs.size:=bL (cA hx);have bF:=(Heap.get?_some_iff.mp hx).2;have go:wpAny (model prog w) A.in1 (do let d←alloc {cls:=.type "dict",data:=.dict #[]};update x (λo=>{o with dict:=some d});dictMade (.ref C) x d)
    (λr s'=>wpAny (model prog w) A.in1 (match r with|some d=>storeInDict d (.str name tk) name v|none=>noDictFor (.ref x) (.ref C) name attr.isSome)
     (λfin s'=>match fin with|.done f=>R (.ok f) s'|.again c'=>c'.quiet=true∧codeAny (model prog w) A c' R s') (λe s'=>R (.error e) s') s') (λe s'=>R (.error e) s') s:=by
   refine aj (wpAny_alloc ?_);refine aj (wpAny_update Ls (aM ?_));have hgd:((s.heap.push {cls:=.type "dict",data:=.dict #[]}).update x λo=>{o with dict:=some s.heap.objs.size}).get? s.heap.objs.size=some {cls:=.type "dict",data:=.dict #[]}:=
    (Heap.get?_update_ne _ _ _ _ FM.symm).trans (Heap.get?_push_at rfl rfl)
   have pQ:((s.heap.push {cls:=.type "dict",data:=.dict #[]}).update x λo=>{o with dict:=some s.heap.objs.size}).Ns s.heap.objs.size (λz=>none):=
    ⟨_,#[],_,hgd,rfl,λe he=>absurd he (by simp),λz=>rfl⟩
   show wpAny _ _ (storeInDict s.heap.objs.size (.str name tk) name v) _ _ _;unfold storeInDict newKeyGuard;refine aj (aM (aj (wpAny_nsSet1 (Heap.Ns1.of_empty pQ) λh' g7 hs=>?_)));refine cF (g7.count (aW name v cP)) λoD esD epD FN FO FP=>?_;refine aj (wpAny_lookBehind FN (by rw[FO];exact pastItsLine_dict (eY FP (by rw[List.length_cons,List.length_nil,sizeLine_eq];omega))) (aM ?_));have kX:h'.get? x=some ⟨.ref C,some s.heap.objs.size,AA,OC⟩:=by
    refine(hs.2 x FM).trans (jD _ Ls ?_);cases AA<;>first|rfl|exact bF
   refine hq h' _ ⟨_,kX,rfl,tF,.inr ⟨s.heap.objs.size,rfl,FM.symm,?_⟩⟩ (λb ob hbx z hb=>?_)
    (λbV h₀=>by cases aD hx h₀;exact⟨_,kX,rfl,rfl,rfl,(λdx e=>by cases e),λz=>rfl⟩)
   ·refine xH g7 λo' es ep e1 e2 e3 eu e4=>?_;exact⟨o',es,ep,e1,e2,e3,eu,λy=>by rw[e4 y];by_cases hy:y=name<;>simp[hy,hmA]⟩
   ·exact(hs.2 b (bL (cA hb))).trans ((Heap.get?_update_ne _ _ _ _ hbx).trans (bA _ hb))
  dsimp only;rw[if_neg (by decide)];cases AA<;>first|exact absurd rfl (tF _)|exact go
 ·refine aM (a:=some dx) ?_;show wpAny _ _ (storeInDict dx (.str name tk) name v) _ _ _;unfold storeInDict newKeyGuard;refine aj (aM (aj (wpAny_nsSet1 af λh' g7 hs=>?_)));refine cF (g7.count (aW name v hw)) λoD esD epD FN FO FP=>?_;refine aj (wpAny_lookBehind FN (by rw[FO];exact pastItsLine_dict (eY FP (by rw[List.length_cons,sizeLine_eq];omega))) (aM ?_));refine hq h' _ ⟨_,(hs.2 x FJ.symm).trans hx,rfl,tF,.inr ⟨dx,rfl,FJ,g7⟩⟩ (λb ob z FQ hb=>?_)
   (λbV h₀=>⟨bV,(hs.2 x FJ.symm).trans h₀,rfl,rfl,rfl,λz e=>e,λe=>by cases aD hx h₀;cases e⟩)
  exact(hs.2 b (FQ _ dx hx rfl)).trans hb
theorem B5{Q:Unit→Shared→Prop}(S:qI K C cd)(X:K.In s.heap)(ht:takerIn K C name=some none)(I:s.heap.Inst x C m)(hw:Within m ns)(hz:ns.length≤1000)
  (hq:∀h' tk,h'.Inst x C (λy=>if y=name then some v else m y)→
   (∀b o,b≠x→(∀bV dx,s.heap.get? x=some bV→bV.dict=some dx→b≠dx)→s.heap.get? b=some o→h'.get? b=some o)→
   (∀bV,s.heap.get? x=some bV→∃bN,h'.get? x=some bN∧bN.cls=bV.cls∧bN.data=bV.data∧bN.slots=bV.slots∧(∀dx,bV.dict=some dx→bN.dict=some dx)∧(bV.dict=none→bN.dict=some s.heap.objs.size))→Q () {s with heap:=h',toks:=tk}):
  wpAny (model prog w) A (setAttr (.ref x) name v) Q E s:=by
 refine eM (JC I) λox odx IA=>?_;exact set_plain X IA S.set (SY (s:={s with toks:=s.toks+1}) S X ht I hw hz hq)
end
set_option tactic.hygienic false
structure ky(bm:List Value):Prop where
 e:bm.contains (.type "Exception")=true
 b:bm.contains (.type "BaseException")=true
 a:bm.contains (.type "AttributeError")=false
 n:bm.contains (.type "NameError")=false
section
variable{prog:Program}{w:World}{A:Around}{E:Value→Shared→Prop}{h:Heap}{g:Array GenState}{d:Drawn}{t:Nat}{os:OsState}
variable{nm q:Str}{C N:Addr}{bs bm:List Value}{gq:Bool}{sn:List Str}{sub:List Value}{ab:Bool}{col:Option Bool}{dd:Option Addr}{k0 k1 k2 k3 k5:Option Value}{K:Frag}
theorem VY{M:Model}(B:ky bm){rest:List Value}{Q:Unit→Shared→Prop}(hC:h.get? C=some (excClassObj nm q C N bs bm gq sn sub ab col dd k0 k1 k2 k3 k5 "Exception.__new__"))
  (hq:Q () ⟨h,g,d,t,os⟩):wpAny M A (checkBuiltinCall "Exception.__new__" ⟨.ref C::rest,[]⟩) Q E ⟨h,g,d,t,os⟩:=by
 have F:=uO;have XS:(Value.ref C::bm).contains (.type "Exception")=true:=by rw[List.contains_cons,B.e,Bool.or_true]
 have af1:=F.noStar;simp only[checkBuiltinCall,F.newKind,F.newSplit,F.newRow]
 repeat(first|refine kD hC ?_|(refine wpAny_isSubtype_exc hC ?_;rw[XS])|refine wpAny_staticBase_exc hC ?_|refine wpAny_madeBy_exc hC ?_|simp only[bne_self_eq_false,Bool.false_eq_true,if_false]|wp_step)
 exact hq
abbrev lK(C t:Addr):Obj:={cls:=.ref C,data:=.fields #[.ref t,.none,.none,.none,.bool false,.none]}
theorem newX(B:ky bm){rest:List Value}{R:Result→Shared→Prop}(hC:h.get? C=some (excClassObj nm q C N bs bm gq sn sub ab col dd k0 k1 k2 k3 k5 "Exception.__new__"))
  (hq:R (.ok (.ret (.ref (h.objs.size+1)))) ⟨(h.push {cls:=.type "tuple",data:=.seq rest.toArray}).push (lK C h.objs.size),g,d,t,os⟩)(il:rest.length≤sizeLine:=by size_fits):
  codeAny (model prog w) A (.builtin "Exception.__new__" ⟨.ref C::rest,[]⟩) R ⟨h,g,d,t,os⟩:=by
 have F:=uO;have af2:=F.ends;have wz:(Value.ref C::bm).contains (.type "Exception")=true:=by rw[List.contains_cons,B.e,Bool.or_true]
 have hcA:(Value.ref C::bm).contains (.type "AttributeError")=false:=by rw[List.contains_cons,B.a];rfl
 have hcN:(Value.ref C::bm).contains (.type "NameError")=false:=by rw[List.contains_cons,B.n];rfl
 refine codeAny_builtinAt F.entry ?_;unfold Builtin.«BaseException.__new__»;refine PySem.wpAt_bind ?_;show PySem.wpAt _ _ _ (stack>>=_) _ _ _;refine PySem.wpAt_bind (PySem.wpAt_stack λp below=>PySem.wpAt_of_wpAny ?_)
 wp_walk
 refine PySem.wpAt_of_wpAny ?_;rw[F.owner]
 repeat(first|with_reducible refine wpAny_madeHere_exc F.canon hC ?_|with_reducible refine kD hC ?_|(with_reducible refine wpAny_isSubtype_exc hC ?_;first|rw[wz]|rw[hcA]|rw[hcN])|wp_step)
 show R _ _;rw[Heap.size_push];exact hq
theorem RQ(B:ky bm){rest:List Value}{fI:Addr}{Q:Fin→Shared→Prop}
  (hC:h.get? C=some (excClassObj nm q C N bs bm gq sn sub ab col dd k0 k1 k2 k3 k5 "Exception.__new__"))(X:K.In h)(hi:findIn K (.ref C) "__init__"=some (some (.ref fI)))(hf:typeIn K (.ref fI)=some (.type "function"))
  (hq:∀h' e,Heap.MadeExcOf h h' e (.ref C) rest→
   wpAny (model prog w) A (call (.ref fI) (.ref e::rest)) (λr s'=>r=.none∧Q (.done (.ret (.ref e))) s') E ⟨h',g,d,t,os⟩)(il:rest.length≤sizeLine:=by size_fits):
  wpAny (model prog w) A (Builtin.«type.__call__» ⟨.ref C::rest,[]⟩) Q E ⟨h,g,d,t,os⟩:=by
 have F:=uO
 repeat(first|with_reducible refine kD hC ?_|with_reducible refine wpAny_madeBy_exc hC ?_|wp_step)
 refine codeAny_call_builtin_code (Code.quiet_builtin _ F.quiet) (VY B hC ?_);refine newX B hC ?_ il;show wpAny _ _ _ _ _ _;have hk:∀b o,h.get? b=some o→((h.push {cls:=.type "tuple",data:=.seq rest.toArray}).push (lK C h.objs.size)).get? b=some o:=λb o e=>bA _ (bA _ e);have XT:=hk _ _ hC;have uX:=X.keeps hk;have MN:((h.push {cls:=.type "tuple",data:=.seq rest.toArray}).push (lK C h.objs.size)).get? (h.objs.size+1)=some (lK C h.objs.size):=by heap_get
 have hcC:(Value.ref C::bm).contains (.ref C)=true:=by simp
 unfold isInstance
 repeat(first|with_reducible refine kD MN ?_|(with_reducible refine wpAny_isSubtype_exc XT ?_;rw[hcC])|wp_step)
 show wpAny _ _ (typeLookup (.ref C) _) _ _ _;refine(looks_findIn uX hi).here ?_;refine eX (aj ((bind_fn uX _ hf).here ?_));refine aj (aL (hq _ (h.objs.size+1) ⟨hk,Heap.get?_none_of_le (di _),h.objs.size,MN,Heap.get?_none_of_le (dp _),?_⟩) (λr s' hr=>?_) λz z x=>x)
 ·exact bA _ (Heap.get?_push_at rfl rfl)
 ·obtain⟨rfl,hQ⟩:=hr
  wp_walk
  exact hQ
theorem XU(B:ky bm){rest:List Value}{fI:Addr}{Q:Value→Shared→Prop}
  (hC:h.get? C=some (excClassObj nm q C N bs bm gq sn sub ab col dd k0 k1 k2 k3 k5 "Exception.__new__"))(X:K.In h)(hi:findIn K (.ref C) "__init__"=some (some (.ref fI)))(hf:typeIn K (.ref fI)=some (.type "function"))
  (hq:∀h' e,Heap.MadeExcOf h h' e (.ref C) rest→
   wpAny (model prog w) (A.under (.builtin "type.__call__" ⟨.ref C::rest,[]⟩)) (call (.ref fI) (.ref e::rest)) (λr s'=>r=.none∧Q (.ref e) s') E ⟨h',g,d,t,os⟩)(il:rest.length≤sizeLine:=by size_fits):
  wpAny (model prog w) A (call (.ref C) rest) Q E ⟨h,g,d,t,os⟩:=by
 have f1:=tc_lookup;have f2:=tc_bind (.ref C);have hT:(⟨h,g,d,t,os⟩:Shared).TypeIs (.ref C) "type":=⟨_,hC,rfl⟩;refine dq (codeAny_of_tree ?_);show wpAny _ _ (callAny (.ref C) _) _ _ _
 repeat(any_goals(first|assumption|with_reducible refine kD hC ?_|wp_step))
 refine⟨rfl,?_⟩;refine codeAny_call_builtin_at (Code.quiet_builtin _ (by decide+kernel)) entry_typeCall (wpAny_check_type_call_sub hC (RQ B hC X hi hf (λh' e hm=>?_) il));exact hq h' e hm
end
theorem CH(h:Heap):Frag.In [] h:=λz z e=>by cases e
theorem UE:findCls [] (.type "Exception") (.type "type") "__init__"=some (.val (.builtin "Exception.__init__")):=by kernel_rfl
theorem Lu:findIn [] (.type "type") "__getattribute__"=some (some (.builtin "type.__getattribute__")):=by kernel_rfl
theorem VZ:subIn [] (.type "type") (.type "type")=some true:=by kernel_rfl
theorem S6:(Manifest.canonical "type.__getattribute__"!="object.__getattribute__")=true:=by decide+kernel
theorem V0{M:Model}{h:Heap}:Looks M h (opaqueClassAbove (.type "Exception")) none:=Looks.of_pure (by kernel_rfl)
theorem Lv{M:Model}{h:Heap}:Looks M h (typeOf (.type "Exception")) (.type "type"):=Looks.of_pure rfl
theorem UF{M:Model}{h:Heap}:Looks M h (hookBefore (.type "type")) none:=Looks.of_pure (by kernel_rfl)
theorem V1:handedOut (.builtin "Exception.__init__")=pure (.builtin "Exception.__init__"):=by kernel_rfl
section
variable{prog:Program}{w:World}{A:Around}{E:Value→Shared→Prop}{s:Shared}
theorem PS{pl:Sem Bool}{Q:Value×List Value→Shared→Prop}(h:∀tk,Q (.builtin "Exception.__init__",[]) {s with toks:=tk}):wpAny (model prog w) A (getMethod (.type "Exception") "__init__" pl) Q E s:=by
 unfold getMethod;refine aj (aj (Lv.here ((looks_findIn (CH _) Lu).here ?_)));dsimp only;rw[if_pos S6];refine aj (cls_open (CH _) V0 Lv Lu UF VZ UE ?_);show wpAny _ _ (ret _) _ _ _;refine aM ?_;show wpAny _ _ (handedOut _) _ _ _;rw[V1];exact aM (aM (h _))
end
section
variable{prog:Program}{w:World}{A:Around}{E:Value→Shared→Prop}{h:Heap}{g:Array GenState}{d:Drawn}{t:Nat}{os:OsState}
variable{nm q:Str}{C N:Addr}{bs bm:List Value}{gq:Bool}{sn:List Str}{sub:List Value}{ab:Bool}{col:Option Bool}{dd:Option Addr}{k0 k1 k2 k3 k5:Option Value}
theorem V2(B:ky bm){M:Model}{e:Addr}{oe:Obj}{rest:List Value}{Q:Unit→Shared→Prop}
  (hC:h.get? C=some (excClassObj nm q C N bs bm gq sn sub ab col dd k0 k1 k2 k3 k5 "Exception.__new__"))(he:h.get? e=some oe)(aci:oe.cls=.ref C)(hq:Q () ⟨h,g,d,t,os⟩):
  wpAny M A (checkBuiltinCall "Exception.__init__" ⟨.ref e::rest,[]⟩) Q E ⟨h,g,d,t,os⟩:=by
 have F:=uO;have wz:(Value.ref C::bm).contains (.type "Exception")=true:=by rw[List.contains_cons,B.e,Bool.or_true]
 have afX:=F.noStar;simp only[checkBuiltinCall,F.initKind,F.initSplit,F.initRow]
 repeat(first|(with_reducible refine kD he ?_;rw[aci])|with_reducible refine kD hC ?_|(with_reducible refine wpAny_isSubtype_exc hC ?_;rw[wz])|wp_step)
 refine wpAny_onRaise ?_;rw[show∀(a b:String) (n:Nat),Bind.check ⟨.positional,"*","Exception",.self,[⟨"args",.varPos,false⟩]⟩ a b n (List.map (λx=>x.fst) ({pos:=Value.ref e::rest}:Args).kw)=pure ()from
  λa b n=>check_star_args _ _ _ _ _ _]
 exact aM hq
theorem XV(B:ky bm){e:Addr}{tp:Addr}{m:Value}{Q:Value→Shared→Prop}
  (hC:h.get? C=some (excClassObj nm q C N bs bm gq sn sub ab col dd k0 k1 k2 k3 k5 "Exception.__new__"))(he:h.get? e=some (lK C tp))
  (hq:∀h',(∀b o,b≠e→h.get? b=some o→h'.get? b=some o)→(∃tp',h'.get? e=some (lK C tp'))→Q .none ⟨h',g,d,t,os⟩):
  wpAny (model prog w) A (call (.builtin "Exception.__init__") [.ref e,m]) Q E ⟨h,g,d,t,os⟩:=by
 have F:=uO;refine dq (codeAny_call_builtin F.init.plain F.initEntry (V2 B hC he rfl ?_));have bk:e≠h.objs.size:=bL (cA he);unfold Builtin.«BaseException.__init__»
 wp_walk
 refine hq _ (λb o hb ho=>?_) ⟨h.objs.size,?_⟩
 ·rw[Heap.get?_update_other _ _ (Ne.symm hb)];exact bA _ ho
 ·rw[Heap.get?_update_self _ (Heap.get?_push_of_some _ he) rfl];rfl
end
def B6(p1 p2 p3 p4 p5 p6 p7 p8 p9 fw fx fU jR jS:Pos):List Stmt:=
 [.Expr (.Call (.Attribute (.Name "Exception" p1) "__init__" p2) [.Name "self" p3,.Name "message" p4] [] p5) p6,
   .Assign [.Attribute (.Name "self" p7) "message" p8] (.Name "message" p9) fw,
   .Assign [.Attribute (.Name "self" fx) "spot" fU] (.Name "spot" jR) jS]
structure Loc(env:Env)(h:Heap)(x:Str)(v:Value):Prop where
 k:env.kindOf x=some .local
 n:∃m,h.Ns env.locals m∧m x=some v
section
variable{prog:Program}{w:World}{A:Around}{E:Value→Shared→Prop}{s:Shared}{env:Env}
theorem t9{h h':Heap}{e:Addr}{x:Str}{v:Value}{vs:Array Value}{oe:Obj}(L:Loc env h x v)(he:h.get? e=some oe)(hd:oe.data=.fields vs)(k:∀b o,b≠e→h.get? b=some o→h'.get? b=some o):Loc env h' x v:=by
 obtain⟨a,m,⟨o,es,ep,ho,tG,r⟩,b⟩:=L;refine⟨a,m,⟨o,es,ep,k _ _ ?_ ho,tG,r⟩,b⟩
 rintro q
 rw[q,he]at ho;cases au ho;rw[hd]at tG;cases tG
theorem qu{x:Str}{v:Value}{p:Pos}{Q:Value→Shared→Prop}(hk:env.scope.kind=.function)(L:Loc env s.heap x v)(hd:(x==("__debug__":Str))=false)(h:Q v s):wpAny (model prog w) A (eval (.Name x p) env) Q E s:=by
 obtain⟨a,m,n,b⟩:=L;exact wpAny_Name (wpAny_loadName_local hk a n b h) hd
theorem af3{h:Heap}{e a:Addr}{m:Str→Option Value}{oe:Obj}{vs:Array Value}(n:h.Ns a m)(he:h.get? e=some oe)(hd:oe.data=.fields vs):a≠e:=by
 rintro rfl
 refine cF n λo es ep ho tG j=>?_;cases aD he ho;rw[hd]at tG;cases tG
def Made(C e:Addr)(m sp:Value)(h:Heap):Prop:=∃tp dd md,h.get? e=some ⟨.ref C,some dd,.fields #[.ref tp,.none,.none,.none,.bool false,.none],#[]⟩∧h.Ns dd md∧md "message"=some m∧md "spot"=some sp
variable{nm q:Str}{C N:Addr}{bs bm:List Value}{gq:Bool}{sn:List Str}{sub:List Value}{ab:Bool}{col:Option Bool}{dd:Option Addr}{k0 k1 k2 k3 k5:Option Value}{K:Frag}{cd:ClassData}
theorem S7(B:ky bm)(S:qI K C cd)(t1:takerIn K C "message"=some none)(t2:takerIn K C "spot"=some none)
  {p1 p2 p3 p4 p5 p6 p7 p8 p9 fw fx fU jR jS:Pos}(hp:p2.endLine=p5.line){e tp:Addr}{m sp:Value}{mg mb:Str→Option Value}{Q:Flow→Shared→Prop}
  (hC:s.heap.get? C=some (excClassObj nm q C N bs bm gq sn sub ab col dd k0 k1 k2 k3 k5 "Exception.__new__"))(X:K.In s.heap)(AB:∀a o,K.lookup a=some o→a≠e)
  (hk:env.scope.kind=.function)(hx:env.kindOf "Exception"=some .globalImplicit)(L1:Loc env s.heap "self" (.ref e))(L2:Loc env s.heap "message" m)(L3:Loc env s.heap "spot" sp)
  (hg:s.heap.Ns env.globals mg)(FR:mg "Exception"=none)(hb:s.heap.Ns env.builtins mb)(FS:mb "Exception"=some (.type "Exception"))(he:s.heap.get? e=some (lK C tp))
  (hq:∀h' tk,(∀b o,b≠e→s.heap.get? b=some o→h'.get? b=some o)→Made C e m sp h'→Q .next {s with heap:=h',toks:=tk}):
  wpAny (model prog w) A (execs (B6 p1 p2 p3 p4 p5 p6 p7 p8 p9 fw fx fU jR jS) env) Q E s:=by
 have hCe:C≠e:=by rintro rfl;rw[he]at hC;cases hC
 refine aI (wpAny_Expr ?_ (by unfold interactive;rw[hk];rfl) (by rfl));have e0:eval (.Call (.Attribute (.Name "Exception" p1) "__init__" p2) [.Name "self" p3,.Name "message" p4] [] p5) env=(attributeBase (.Name "Exception" p1) "__init__" env (eval (.Name "Exception" p1) env)>>=λov=>
  (standAt p2.atName>>=λj=>methodCall (.Name "Exception" p1) "__init__" p2 p5 env ov 2 (backTo p5 (starEach [.Name "self" p3,.Name "message" p4] env)) [])):=rfl
 rw[e0,xg rfl];refine aj (oN hk hx (Calls.loadGlobal_builtin hg FR hb FS (aj (iW ?_))) rfl);unfold methodCall;have hf:methodCallForm 2 (backTo p5 (starEach [.Name "self" p3,.Name "message" p4] env)) []=true:=rfl;rw[hf];refine aj (eX ?_);unfold calleeOf;rw[if_pos rfl];refine PS λtk=>?_;have hm:methodCallPos true (.Name "Exception" p1) env p2 p5=pure p5:=by
  unfold methodCallPos;rw[hp];simp
 show wpAny (model prog w) A (methodCallPos true _ env p2 p5>>=_) _ _ _;rw[hm];refine aj (aM ?_);refine jF rfl (dj (aV (qu hk L1 rfl (aV (qu hk L2 rfl (ce ?_))))));refine XV B hC he λh₁ rr ⟨XW,gM⟩=>?_;have N1:=t9 L1 he rfl rr;have N2:=t9 L2 he rfl rr;have N3:=t9 L3 he rfl rr;have uX:K.In h₁:=λa o ha=>rr a o (AB a o ha) (X a o ha);refine aI (plainObj_wpAny_Assign_Attribute (qu hk N2 rfl (qu hk N1 rfl ?_)) rfl);refine B5 (m:=λj=>none) (ns:=[]) S uX t1 ⟨_,gM,rfl,(λc q=>by cases q),.inl ⟨rfl,λj=>rfl⟩⟩ cP (by decide) λd7 yp acj DG yN=>?_;refine eV (yN _ gM) λaf4 uz c₂ ack XX j eQ=>?_;have eQ:=eQ rfl;have yq:∀b o,b≠e→h₁.get? b=some o→d7.get? b=some o:=λb o hb ho=>DG b o hb (λbV dx h0 h1=>by cases aD gM h0;cases h1) ho;have M1:=t9 N1 gM rfl yq;have M3:=t9 N3 gM rfl yq;have acl:K.In d7:=λa o ha=>yq a o (AB a o ha) (uX a o ha);refine aI (plainObj_wpAny_Assign_Attribute (qu hk M3 rfl (qu hk M1 rfl ?_)) rfl);refine B5 (ns:=["message"]) S acl t2 acj (aW _ _ cP) (by decide) λfe XY acm acn aco=>?_;refine eV (aco _ uz) λXZ Lx MO MP Ly De j=>?_;refine cz (hq fe XY (λb o hb ho=>?_) ?_)
 ·have dc:b<h₁.objs.size:=cA (rr b o hb ho);refine acn b o hb (λbV dx h0 h1 q=>?_) (yq b o hb (rr b o hb ho));cases aD uz h0;cases aD eQ h1;exact bL dc q
 ·refine jv acm λoe g1 g2 g3 g4=>?_;cases aD Lx g1;rcases g4 with⟨z,_⟩|⟨dx,z1,z2,z3⟩
  ·exact bg z (De _ eQ)
  ·obtain⟨a,b,c,d⟩:=XZ;dsimp only at MO MP Ly z1;subst z1;refine⟨XW,dx,_,?_,z3.ns,(bD (by decide)).trans (cT rfl),cT rfl⟩;rw[Lx,MO,MP,Ly,c₂,ack,XX]
end
structure yP where
 nm:Str
 q:Str
 N:Addr
 bs:List Value
 bm:List Value
 gq:Bool
 sn:List Str
 sub:List Value
 ab:Bool
 col:Option Bool
 dd:Option Addr
 k0:Option Value
 k1:Option Value
 k2:Option Value
 k3:Option Value
 k5:Option Value
noncomputable def yP.obj(k:yP)(C:Addr):Obj:=excClassObj k.nm k.q C k.N k.bs k.bm k.gq k.sn k.sub k.ab k.col k.dd k.k0 k.k1 k.k2 k.k3 k.k5 "Exception.__new__"
def X4(b:List Stmt):Prop:=∀G:List Stmt→Prop,(∀(p1 p2 p3 p4 p5 p6 p7 p8 p9 fw fx fU jR jS:Pos),p2.endLine=p5.line→G (B6 p1 p2 p3 p4 p5 p6 p7 p8 p9 fw fx fU jR jS))→G b
structure CI where
 k:yP
 K:Frag
 cd:ClassData
 fI:Addr
 oI:Obj
 fd:FuncData
 t0:Tok
 bd:List Stmt
structure um(c:Cx)(C:Addr)(x:CI):Prop where
 B:ky x.k.bm
 S:qI x.K C x.cd
 t1:takerIn x.K C "message"=some none
 t2:takerIn x.K C "spot"=some none
 hi:findIn x.K (.ref C) "__init__"=some (some (.ref x.fI))
 hf:typeIn x.K (.ref x.fI)=some (.type "function")
 X:∀h,c.G h→x.K.In h
 hC:∀h,c.G h→h.get? C=some (x.k.obj C)
 hI:∀h,c.G h→h.get? x.fI=some x.oI
 cq:∀h,c.G h→h.CodeRec x.fd.code x.fd.qualname
 hd:x.oI.data=.func x.fd
 hb:x.fd.body=.stmts x.bd
 OD:X4 x.bd
 kU:x.fd.globals=mainGlobals
 tD:x.fd.builtins=builtinsNs
 pa:x.fd.closure=[]
 kW:x.fd.scope.isCoroutine=false
 kH:x.fd.scope.isGenerator=false
 hk:x.fd.scope.kind=.function
 l1:x.fd.scope.names.lookup ("self":Str)=some .local
 l2:x.fd.scope.names.lookup ("message":Str)=some .local
 l3:x.fd.scope.names.lookup ("spot":Str)=some .local
 l4:x.fd.scope.names.lookup ("Exception":Str)=some .globalImplicit
 b1:∀(s:Shared) (e m sp:Value),c.G s.heap→BindsTo s x.fd ⟨[e,m,sp],[]⟩ [("self",e),("message",m),("spot",sp)]
 b2:∀(s:Shared) (e m:Value),c.G s.heap→BindsTo s x.fd ⟨[e,m],[]⟩ [("self",e),("message",m),("spot",.int 0 x.t0)]
 hE:∀h,c.G h→∃mg mb,h.Ns mainGlobals mg∧mg "Exception"=none∧h.Ns builtinsNs mb∧mb "Exception"=some (.type "Exception")
def js(c:Cx)(C:Addr):Prop:=∃x,um c C x
def DH(rest:List Value)(m sp:Value):Prop:=rest=[m,sp]∨(rest=[m]∧∃t0,sp=.int 0 t0)
def FT(rest:List Value)(m sp dJ:Value):Prop:=dJ=sp∨(rest=[m]∧∃t0,dJ=.int 0 t0)
section
variable{c:Cx}{A:Around}{s:Shared}{C:Addr}{E:Value→Shared→Prop}
theorem V3{s₀ s:Shared}{env:Env}{cm:Str→Option Value}{x:Str}{v:Value}{bs:List (Str×Value)}(x0:InCallC s₀ env.locals (bindL env.kindOf bs λz=>none) env.cells cm s)(hk:env.kindOf x=some .local)(h:bindL env.kindOf bs (λz=>none) x=some v):Loc env s.heap x v:=
 ⟨hk,_,x0.toInCall.ns,h⟩
theorem um.binds{x:CI}(F:um c C x){rest:List Value}{m sp:Value}(hr:DH rest m sp)(s:Shared)(g:c.G s.heap)(e:Value):∃dJ,FT rest m sp dJ∧BindsTo s x.fd ⟨e::rest,[]⟩ [("self",e),("message",m),("spot",dJ)]:=
 hr.elim (λh=>h▸⟨sp,.inl rfl,F.b1 s e m sp g⟩) λh=>⟨.int 0 x.t0,.inr ⟨h.1,_,rfl⟩,h.1▸F.b2 s e m g⟩
theorem um.body{x:CI}(F:um c C x)(HL:gi c){s₀ an:Shared}{env:Env}{e tp:Addr}{m sp:Value}{cm:Str→Option Value}{Q:Flow→Shared→Prop}(fL:∀y,env.kindOf y=x.fd.scope.names.lookup y)(AC:env.scope.kind=.function)(fS:env.globals=mainGlobals)(hbn:env.builtins=builtinsNs)
  (x0:InCallC s₀ env.locals (bindL env.kindOf [("self",.ref e),("message",m),("spot",sp)] λz=>none) env.cells cm an)(i7:c.G an.heap)(AB:∀a o,x.K.lookup a=some o→a≠e)(he:an.heap.get? e=some (lK C tp))
  (hq:∀h' tk,(∀b o,b≠e→an.heap.get? b=some o→h'.get? b=some o)→Made C e m sp h'→Q .next {an with heap:=h',toks:=tk}):wpAny c.M A (execs x.bd env) Q E an:=by
 refine bW (F.hE _ i7) λmg mb e1 e2 e3 e4=>?_;have n1:env.kindOf "self"=some .local:=(fL _).trans F.l1;have n2:env.kindOf "message"=some .local:=(fL _).trans F.l2;have n3:env.kindOf "spot"=some .local:=(fL _).trans F.l3;have L:∀(i:Nat) (y:Str) (v:Value),(["self","message","spot"]:List Str)[i]?=some y→([.ref e,m,sp]:List Value)[i]?=some v→env.kindOf y=some .local→Loc env an.heap y v:=λi y v h1 h2 h3=>
  V3 x0 h3 (xm ["self","message","spot"] [.ref e,m,sp] _ i y _ (by decide) h1 h2 h3)
 exact F.OD (λb=>wpAny c.M A (execs b env) Q E an) λp1 p2 p3 p4 p5 p6 p7 p8 p9 fw fx fU jR jS hp=>S7 F.B F.S F.t1 F.t2 hp (F.hC _ i7) (F.X _ i7) AB AC ((fL _).trans F.l4) (L 0 _ _ rfl rfl n1) (L 1 _ _ rfl rfl n2) (L 2 _ _ rfl rfl n3) (by rw[fS];exact e1) e2 (by rw[hbn];exact e3) e4 he hq
theorem UG(H0:bz c)(HL:gi c)(F:js c C)(g:c.G s.heap)(rm:A.depth+1<recursionLimit){m sp:Value}{rest:List Value}{Q:Value→Shared→Prop}(hr:DH rest m sp)
  (hq:∀e h tk dJ,s.heap.get? e=none→(∀b o,s.heap.get? b=some o→h.get? b=some o)→Made C e m dJ h→FT rest m sp dJ→Q (.ref e) {s with heap:=h,toks:=tk}):
  wpAny c.M A (call (.ref C) rest) Q E s:=by
 refine ak F λx F=>?_;have hlen:rest.length≤sizeLine:=by rw[sizeLine_eq];exact hr.elim (λh=>h▸aX) λh=>h.1▸aX
 obtain⟨hh,gg,dr,tk,os⟩:=s;refine XU (prog:=c.prog) (w:=c.w) F.B (F.hC _ g) (F.X _ g) F.hi F.hf (λh' e hm=>?_) hlen;have k:∀b o,hh.get? b=some o→h'.get? b=some o:=hm.keeps;have g':c.G h':=H0 _ _ k g;refine ah hm.there λtp he z=>?_;refine ah (F.binds hr ⟨h',gg,dr,tk,os⟩ g' (.ref e)) λdJ jf Dc=>?_;refine dq (codeAny_call_function (by rw[depth_under_make];exact rm) (F.hI _ g') F.hd F.kW F.kH F.hb (F.cq _ g') (Dc _ _ _ _ ?_));rw[F.pa];refine wpAny_newFunctionEnv_cells F.hk (λy hy=>.inl ?_) λenv bP an x0=>?_
 ·simp only[List.mem_cons,List.not_mem_nil,or_false]at hy;rcases hy with rfl|rfl|rfl
  ·exact F.l1
  ·exact F.l2
  ·exact F.l3
 have k₁:=x0.toInCall.keep;have i7:c.G an.heap:=H0 _ _ k₁ g';refine⟨HL _ i7,codeAny_func ?_⟩;refine F.body HL (λy=>by rw[bP];rfl) (by rw[bP];exact F.hk) (by rw[bP];exact F.kU) (by rw[bP];exact F.tD) x0 i7 (λa o ha q=>?_) (k₁ _ _ he) λh3 Fz r3 M3=>⟨rfl,?_⟩
 ·exact bg hm.new (q▸F.X _ g _ _ ha)
 refine eM x0.toInCall.same λh₁ lU e=>?_;subst e;exact hq _ h3 Fz dJ hm.new (λb o hb=>r3 b o (λe=>bg hm.new (e▸hb)) (k₁ _ _ (k _ _ hb))) M3 jf
end
section
variable{M:Model}{A:Around}{E:Value→Shared→Prop}{env:Env}
variable{nm q:Str}{C N:Addr}{bs bm:List Value}{gq:Bool}{sn:List Str}{sub:List Value}{ab:Bool}{col:Option Bool}{dd:Option Addr}{k0 k1 k2 k3 k5:Option Value}{newId:String}
theorem Rl{s:Shared}{x:Sem Value}{Q:Flow→Shared→Prop}(Df:bm.contains (.type "BaseException")=true)
  (h:wpAny M A x (λv an=>∃e t od,v=.ref e∧an.heap.get? C=some (excClassObj nm q C N bs bm gq sn sub ab col dd k0 k1 k2 k3 k5 newId)∧
   an.heap.get? e=some ⟨.ref C,od,.fields #[.ref t,.none,.none,.none,.bool false,.none],#[]⟩∧wpAny M A (raiseNew (.ref e):Sem Flow) Q E an) E s):
  wpAny M A (raiseStmt env (some x) none) Q E s:=by
 have wz:(Value.ref C::bm).contains (.type "BaseException")=true:=by rw[List.contains_cons,Df,Bool.or_true]
 unfold raiseStmt;refine aj (aL h (λv an h₁=>?_) λz z x=>x);refine bC h₁ λe t od X5 X6=>?_;subst X5;refine bY X6 λhC he hE=>?_;obtain⟨hp,g,d,tk,os⟩:=an
 repeat(first|with_reducible refine kD he ?_|with_reducible refine kD hC ?_|(with_reducible refine wpAny_isSubtype_exc hC ?_;rw[wz])|wp_step)
 exact hE
theorem S8{s:Shared}{Q:Keeper→Shared→Prop}(hC:s.heap.get? C=some (excClassObj nm q C N bs bm gq sn sub ab col dd k0 k1 k2 k3 k5 newId))(hq:Q .machine s):wpAny M A (keeperOf (.ref C)) Q E s:=by
 obtain⟨hh,gg,dr,tk,os⟩:=s;exact wpAny_keeperOf_exc hC hq
theorem Qu{s:Shared}{f:Value}{pos:Pos}{args:List (Bool×Sem Value)}{Q:Value→Shared→Prop}(a7:args.any (·.1)=false)
  (h:wpAny M A (evalArgs f true args []) (λa an=>a.kw=[]∧(∀Q:Keeper→Shared→Prop,Q .machine an→wpAny M A (keeperOf f) Q E an)∧wpAny M A (call f a.pos) Q E an) E s):wpAny M A (callWith pos f [] args []) Q E s:=by
 unfold callWith;refine aj (eX (aL h (λa an h=>?_) λz z q=>q));refine aj (iW ?_);simp only[a7,List.any_nil,Bool.or_false];refine aj (h.2.1 _ ?_);rw[h.1];exact aj (aL h.2.2 (λr s' hr=>aj (eX (wpAny_point (aM hr)))) λz z q=>q)
theorem RR(k:yP){s:Shared}{x:Sem Value}{Q:Flow→Shared→Prop}(Df:k.bm.contains (.type "BaseException")=true)
  (h:wpAny M A x (λv an=>∃e t od,v=.ref e∧an.heap.get? C=some (k.obj C)∧
   an.heap.get? e=some ⟨.ref C,od,.fields #[.ref t,.none,.none,.none,.bool false,.none],#[]⟩∧wpAny M A (raiseNew (.ref e):Sem Flow) Q E an) E s):
  wpAny M A (raiseStmt env (some x) none) Q E s:=Rl Df h
end
section
variable{c:Cx}{A:Around}{s:Shared}{env:Env}{C:Addr}{E:Value→Shared→Prop}
def acp(c:Cx)(A:Around)(C:Addr)(Q:Flow→Shared→Prop)(E:Value→Shared→Prop)(a:Args)(cB:Shared):Prop:=∃m sp,a.kw=[]∧c.G cB.heap∧DH a.pos m sp∧
   ∀e h tk dJ,cB.heap.get? e=none→(∀b o,cB.heap.get? b=some o→h.get? b=some o)→Made C e m dJ h→FT a.pos m sp dJ→wpAny c.M A (raiseNew (.ref e):Sem Flow) Q E {cB with heap:=h,toks:=tk}
theorem B7(H0:bz c)(HL:gi c)(F:js c C)(rm:A.depth+1<recursionLimit){x:Str}{np DI pos:Pos}{args:List Expr}{Q:Flow→Shared→Prop}(V4:(backTo DI (starEach args env)).any (·.1)=false)
  (h:wpAny c.M A (eval (.Name x np) env) (λf an=>f=.ref C∧wpAny c.M A (evalArgs (.ref C) true (backTo DI (starEach args env)) []) (acp c A C Q E) E an) E s):
  wpAny c.M A (exec (.Raise (some (.Call (.Name x np) args [] DI)) none pos) env) Q E s:=by
 refine ak F λr R=>?_;rw[arm_exec_Raise];refine aj (iW ?_);rw[arm_evalOpt_some];refine RR (C:=C) r.k R.B.b
  (aj (aL (wpAny_Call_ofName (aL h (λf an h₁=>?_) λz z x=>x)) (λv df fe=>aj (iW (aM fe))) λz z x=>x))
 obtain⟨rfl,h₁⟩:=h₁;refine Qu V4 (aL h₁ (λa cB d7=>?_) λz z x=>x);refine bW d7 λm sp hkw hg hr hq=>⟨hkw,λz k=>?_,?_⟩
 ·exact S8 (R.hC _ hg) k
 ·refine UG H0 HL F hg rm hr λe h' pN dJ hn hk hM jf=>?_;exact bC (id hM) λtp dd' md he z=>⟨e,tp,_,rfl,hk _ _ (R.hC _ hg),he,hq e h' pN dJ hn hk hM jf⟩
end
end Mine
namespace Mine
open PySem PySem.W PyProof.Rows
set_option tactic.hygienic false
def lH(c:Cx)(C:Addr):Prop:=∀h,c.G h→∃mg,h.Ns mainGlobals mg∧mg "ConstFault"=some (.ref C)
theorem S9{c:Cx}{C e:Addr}{m sp:Value}{h h':Heap}{d:D}(H9:av c)(g:c.G h)(hn:h.get? e=none)(M:Made C e m sp h')(t:Tells c.σ h' sp d)(ms:∃mx mt,m=.str mx mt):ej c.aT c.σ C h' (.ref e) d:=by
 refine eT M λtp dd md he n e1 e2=>?_;exact⟨⟨e,⟨.ref C,some dd,.fields #[.ref tp,.none,.none,.none,.bool false,.none],#[]⟩,dd,#[.ref tp,.none,.none,.none,.bool false,.none],md,m,sp⟩,rfl,⟨λst=>ak (H9 _ _ g st) λo q=>bg hn q,he,rfl,rfl,rfl,aX,(λj=>rfl),n,e1,e2,t,ms⟩,.inl rfl⟩
section
variable{c:Cx}{A:Around}{s s' aS:Shared}{sc:Scope}{env:Env}{vs:List (Option Str)}{ρ:List (Option D)}{n m:Nat}{h₀:Heap}{C:Addr}
theorem RS{r:Rc}{e:E}(af:kj r ρ e none≠.stuck):∃x,r.ev ρ e=.ok (.str x)∧kj r ρ e none=.exc (.int 0):=by
 unfold kj at af⊢;cases h:r.ev ρ e with
 |ok d=>rw[h]at af;cases d with
  |str x=>exact⟨x,rfl,rfl⟩
  |_=>exact absurd rfl af
 |_=>rw[h]at af;exact absurd rfl af
theorem RU{r:Rc}{e sp:E}(af:kj r ρ e (some sp)≠.stuck):∃x d,r.ev ρ e=.ok (.str x)∧r.ev ρ sp=.ok d∧kj r ρ e (some sp)=.exc d:=by
 have e0:kj r ρ e (some sp)=@Out.rec D (λj=>aZ) (λd=>ap (isStr d) (Dz (r.ev ρ sp)) .stuck) (λj=>.stuck) .stuck (r.ev ρ e):=rfl;rw[e0]at af⊢;cases h:r.ev ρ e with
 |ok d=>rw[h]at af;cases d with
  |str x=>
   have af:Dz (r.ev ρ sp)≠.stuck:=af;cases h':r.ev ρ sp with
   |ok d=>exact⟨x,d,rfl,rfl,rfl⟩
   |_=>rw[h']at af;exact absurd rfl af
  |_=>exact absurd rfl af
 |_=>rw[h]at af;exact absurd rfl af
theorem Iu(H0:bz c)(H9:av c)(HF:c.Flt=ej c.aT c.σ C){o:aZ}{v:Value}{x:List Nat}{dJ:Value}{d:D}{e:Addr}{h:Heap}{tk:Tok}(W:Ws c A (n+1) sc env h₀ s.heap vs ρ)(hy:o=.exc d)(n':Nx c s s')(hf:s'.heap.get? e=none)(hk:∀b o,s'.heap.get? b=some o→h.get? b=some o)(hM:Made C e v dJ h)(ht:Tells c.σ h dJ d)(hv:Tells c.σ s'.heap v (.str x)):
  wpAny c.M A (raiseNew (.ref e):Sem Flow) (SP c A (n+1) sc env h₀ vs s o) (XP c A h₀ s o) {s' with heap:=h,toks:=tk}:=by
 refine wpAny_raiseNew_none W.s.r.2.2 ⟨d,hy,?_,(Nz.of W n').nx (Nx.ext H0 n'.g h tk hk)⟩;rw[HF];exact S9 H9 n'.g hf hM ht (hv.vStr.elim λt e=>⟨_,t,e⟩)
theorem Lz{α:Type}{a:α}:Out.ok a≠.stuck:=λh=>by cases h
theorem LA{α:Type}{a:α}{d:D}{G:Prop}(h:Out.ok a=.exc d):G:=by cases h
theorem V5(H0:bz c)(H9:av c)(HL:gi c)(F:js c C)(HN:lH c C)(HF:c.Flt=ej c.aT c.σ C)(L:jO c n):xQ c n:=by
 intro A s sc env h₀ vs ρ e sp p W hm af;refine ah (HN _ W.s.g) λmg g1 g2=>?_;have rm:A.depth+1<recursionLimit:=iq (Nat.add_le_add_left (m:=2*(n+1)) (eY aX (Nat.mul_le_mul_left 2 (Nat.succ_le_succ (gO n)))) _) W.s.r.1;have W':=W.s.less (di n);cases sp with
 |none=>
  refine Uw hm λq1 a q2 q h2 h4 h5=>?_;refine ah (RS af) λx hx hy=>?_;refine B7 H0 HL F rm (oF h4) (ud W.s.f h2 (oO (by rw[W.s.f.bE];exact g1) g2 ⟨rfl,?_⟩));refine xz (f:=λd=>Out.ok d) L.e W' h4 h5 (hx▸Lz) (λv d s' e0 j t1 m=>?_) λj j j e1 j j=>LA ((hx▸e1:Out.ok (D.str x)=.exc _));rw[hx]at e0;rw[←uk e0]at t1;exact⟨_,.int 0 0,rfl,m.g,.inr ⟨rfl,_,rfl⟩,λe h tk dJ hf hk hM jf=>Iu H0 H9 HF W hy m hf hk hM (jf.elim (λe=>e▸.int 0 _) λz=>oW z λj t0 e=>e▸.int 0 _) t1⟩
 |some e'=>
  refine Ux hm λq1 a b q2 q h2 h5 h7 h6 h8=>?_;refine cK (RU af) λx d hx hd hy=>?_;have FU:(((rec c.P n).ev ρ e).bind λx=>((rec c.P n).ev ρ e').bind λy=>Out.ok (x,y))=.ok (.str x,d):=by rw[hx,hd]
  refine B7 H0 HL F rm (yo h5 h7) (ud W.s.f h2 (oO (by rw[W.s.f.bE];exact g1) g2 ⟨rfl,?_⟩));refine Ch (f:=λx y=>Out.ok (x,y)) L.e W' h5 h7 h6 h8 (FU▸Lz) (λv u d1 d2 s' e0 j t1 t2 m=>?_) λj j j e1 j j=>LA (FU.symm.trans e1);have e0:=uk (FU.symm.trans e0);obtain⟨rfl,rfl⟩:=Prod.mk.inj e0;exact⟨_,_,rfl,m.g,.inl rfl,λe h tk dJ hf hk hM jf=>Iu H0 H9 HF W hy m hf hk hM (jf.elim (λe=>e▸t2.keep (aE.gb hk)) λz=>absurd (show 2=1 from bp List.length z.1) (by decide)) t1⟩
end
structure Own(h₀ h:Heap)(I:Addr):Prop where
 new:h₀.get? I=none
 at_:∃o vs,h.get? I=some o∧o.data=.fields vs∧o.cls=.type "range_iterator"
theorem Own.ne{h₀ h:Heap}{I b:Addr}{o:Obj}(w:Own h₀ h I)(e:h.get? b=some o)(hd:∀vs,o.data≠.fields vs):b≠I:=by
 rintro rfl
 refine cK w.at_ λo' vs e' d u=>?_;cases aD e e';exact hd vs d
section
variable{c:Cx}{A:Around}{s s' aS:Shared}{sc:Scope}{env:Env}{vs:List (Option Str)}{ρ:List (Option D)}{n m:Nat}{h₀ h h':Heap}{I:Addr}
theorem Own.seq(w:Own h₀ h I)(k:Heap.ExtBut I h h'):cJ h h':=λa c vs ⟨o,e,ho,r1,r2,r3⟩=>⟨o,e,k a o (w.ne ho λvs q=>by rw[r3]at q;cases q) ho,r1,r2,r3⟩
theorem Own.ns(w:Own h₀ h I)(k:Heap.ExtBut I h h'){a:Addr}{m}(n:h.Ns a m):h'.Ns a m:=by
 refine cF n λo es ep ho hd r=>?_;exact⟨o,es,ep,k a o (w.ne ho λvs q=>by rw[hd]at q;cases q) ho,hd,r⟩
theorem Own.cell(w:Own h₀ h I)(k:Heap.ExtBut I h h'){a:Addr}{v}(n:h.IsCell a v):h'.IsCell a v:=by
 refine ah n λo ho hd=>?_;exact⟨o,k a o (w.ne ho λvs q=>by rw[hd]at q;cases q) ho,hd⟩
theorem Own.g(w:Own h₀ h I)(HM:az c)(H9:av c)(bj:c.G h₀)(g:c.G h)(k:Heap.ExtBut I h h'):c.G h':=HM _ _ (λb o st e=>k b o (by
  rintro rfl
  refine ak (H9 _ _ bj st) λo' e'=>?_;exact bg w.new e') e) (λb o e hc u=>⟨o,k b o (by
  rintro rfl
  refine cK w.at_ λo' vs e' u z=>?_;cases aD e e';rw[hc]at z;exact absurd z (by decide)) e,rfl,rfl⟩) g
theorem Ws.iter(W:Ws c A n sc env h₀ h vs ρ)(w:Own h₀ h I)(HM:az c)(H9:av c)(k:Heap.ExtBut I h h'):Ws c A n sc env h₀ h' vs ρ:=by
 refine⟨⟨w.g HM H9 W.g W.s.g k,⟨W.s.f.scope,W.s.f.kind,W.s.f.bE,W.s.f.blt,W.s.f.code,W.s.f.wf,λi x d a b=>?_⟩,W.s.r,?_⟩,⟨W.w.len,W.w.nodup,W.w.loc,let⟨m,e⟩:=W.w.ns;⟨m,w.ns k e⟩,λi x hx=>?_,W.w.apart⟩,?_,W.g⟩
 ·refine ah (W.s.f.var i x d a b) λv p q=>?_;refine⟨v,?_,q.seq (w.seq k)⟩;rcases p with⟨a,m,b,d⟩|⟨a,b,d,e⟩
  ·exact .inl ⟨a,m,w.ns k b,d⟩
  ·exact .inr ⟨a,b,d,w.cell k e⟩
 ·refine ah W.s.o λfr e F=>?_;refine⟨fr,e,λenv he=>?_⟩;refine nV (F env he) λa L o b d f y z=>?_;exact⟨a,L,o,b,k L o (w.ne d f) d,f,y,z⟩
 ·exact(W.w.kind i x hx).imp id fun⟨a,b,v,d,e,f⟩=>⟨a,b,v,d,w.cell k e,f⟩
 ·refine⟨trivial,λb o e=>?_⟩;refine ah (W.k.2 b o e) λo' e' r=>?_;exact⟨o',k b o' (λq=>by rw[q,w.new]at e;exact aF e) e',r⟩
theorem Nz.iter{tk:Tok}(x:Nz c A h₀ s s')(W:Ws c A n sc env h₀ s'.heap vs ρ)(hs:s.heap.get? I=none)(w:Own h₀ s'.heap I)(HM:az c)(H9:av c)(k:Heap.ExtBut I s'.heap h'):Nz c A h₀ s {s' with heap:=h',toks:=tk}:=by
 have W':=W.iter w HM H9 k;refine aO x λh t X7 X8=>?_;subst X7;refine fc X8 λu u u z=>?_;exact⟨h',tk,rfl,W'.k,W'.s.g,W'.s.o,λb o e a7=>k b o (λq=>by rw[q,hs]at e;exact aF e) (z b o e a7)⟩
theorem Ta{f:List (Option D)→aZ}{x k i:Nat}{ρ:List (Option D)}:o9 f x (k+1) i ρ=@aZ.rec (λu=>aZ) (λb9=>o9 f x k (i+1) b9) .ret (λu=>.stuck) .stuck (f (fh x (.int (.ofNat i)) ρ)):=rfl
theorem X9(H0:bz c)(HM:az c)(H9:av c)(H:eG c)(HB:fO c)(L:jO c n):yl c n:=by
 intro A s sc env h₀ vs ρ x N b p W hm af
 ·refine Xp hm λz q' q1 q2 q3 q4 y q5 hz h3 hN h5=>?_;generalize ho:o9 (λρ=>(rec c.P n).ex ρ b) x N 0 ρ=o at af⊢;refine wpAny_For ?_;have e0:eval (.Call (.Name "range" q1) [.Constant (.int N) q2 q3] [] q4) env=(eval (.Name "range" q1) env>>=λfv=>callWith q4 fv [] (backTo q4 (starEach [.Constant (.int N) q2 q3] env)) []):=rfl;rw[e0];refine aj (qp HB W.s h3 (al 10) B4 ?_);refine PyProof.Rows.callWith_type rfl (dj (aV (iu (k:=q2) (pos:=q3) (ce (call_range_1 ?_)))));refine wpAny_pyIter_range (IsRange.new _ 0 N 1 _ _ _) (small_one (by decide) (by decide) (by omega) (by omega)) ?_;have iE:Builtin.Range.rangeSize 0 (N:Int) 1=N:=by
   rw[rangeSize_one];split<;>omega
  rw[iE];generalize hr:s.heap.push _=hp;have kp:∀b o,s.heap.get? b=some o→hp.get? b=some o:=λb o e=>hr▸bA _ e;have FV:s.heap.objs.size≤hp.objs.size:=by rw[←hr,Heap.size_push];exact di _
  have k1:∀b o,s.heap.get? b=some o→(hp.push {cls:=.type "range_iterator",data:=.fields #[rawInt 0,rawInt N,rawInt 1]}).get? b=some o:=λb o e=>bA _ (kp b o e);have tH:s.heap.get? hp.objs.size=none:=cX FV;have wA:h₀.get? hp.objs.size=none:=by
   cases e:h₀.get? hp.objs.size with
   |none=>rfl
   |some o'=>obtain⟨o2,e2,_⟩:=W.k.2 _ _ e;rw[tH]at e2;cases e2
  have m1:=Nx.ext H0 W.s.g _ (s.toks+1+1+1) k1;refine codeAny_forLoop (λk an=>∃b9 i,k=N+1-i∧i≤N∧Nz c A h₀ s an∧Ws c A (n+1) sc env h₀ an.heap vs b9∧o9 (λρ=>(rec c.P n).ex ρ b) x (N-i) i b9=o∧IsRangeIter an.heap hp.objs.size i ((N:Int)-i) 1) (λk an hI=>?_) (N+1)
   ⟨ρ,0,rfl,gO _,Nz.of W m1,W.nx m1,ho,by simpa using dy _ rfl⟩
  obtain⟨b9,i,rfl,hi,z1,W1,hw,it⟩:=hI;have w:Own h₀ an.heap hp.objs.size:=⟨wA,_,_,it,rfl,rfl⟩;by_cases dc:i<N
  ·refine wpAny_pyNext_range_item it (by omega) λh₁ it₁ ku=>?_;have W2:=W1.iter w HM H9 ku.extBut;have z2:=z1.iter (tk:=an.toks+1) W1 tH w HM H9 ku.extBut;refine wpAny_assign_Name (store H (s:={an with heap:=h₁,toks:=an.toks+1}) (d:=.int (.ofNat i)) W2 hz (.int (.ofNat i) _) λd7 yp W3 u st=>?_);have it₂:IsRangeIter d7 hp.objs.size (i+1) ((N:Int)-i-1) 1:=st _ _ it₁ ⟨.inr (.inl rfl),_,rfl⟩;have z3:Nz c A h₀ s {an with heap:=d7,toks:=yp}:=z2.ext ⟨d7,yp,rfl,W3.k,W3.s.g,W3.s.o,st⟩;obtain⟨j,hj⟩:∃j,N-i=j+1:=⟨N-i-1,by omega⟩;rw[hj,Ta]at hw;have ns:(rec c.P n).ex (fh x (.int (.ofNat i)) b9) b≠.stuck:=by intro q;rw[q]at hw;exact af hw.symm
   refine aL (L.s A {an with heap:=d7,toks:=yp} sc env h₀ vs _ b y (W3.room (W.s.r.less (di n))) h5 ns) (λf df h3=>?_) λv df h=>bS h λd a u u=>?_
   ·refine h3.elim (λh=>jv h λFo a b z4 w3=>?_) λh=>bW h λd v a b t3 z4=>?_
    ·rw[a]at hw;subst b;refine⟨N+1-(i+1),by omega,Fo,i+1,rfl,dc,z3.ext z4,w3.room W.s.r,by rw[show N-(i+1)=j from by omega];exact hw,?_⟩;refine aO z4 λh4 t4 Yb Yc=>?_;subst Yb;refine fc Yc λu u u AD=>?_;have:=AD _ _ it₂ ⟨.inr (.inl rfl),_,rfl⟩;rw[show((i+1:Nat):Int)=(i:Int)+1 from rfl,show(N:Int)-((i:Int)+1)=(N:Int)-i-1 from by omega];exact this
    ·rw[a]at hw;subst b;exact .inr ⟨d,v,hw.symm,rfl,t3,z3.ext z4⟩
   ·rw[a]at hw;exact absurd hw.symm af
  ·obtain rfl:i=N:=by omega
   refine wpAny_pyNext_range_end W.s.r.2.2 it (by omega) λh₁ gM=>cz ?_;rw[Nat.sub_self]at hw;exact .inl ⟨b9,hw.symm,rfl,z1.iter W1 tH w HM H9 gM,W1.iter w HM H9 gM⟩
end
theorem RV:isSubtype (.type "bytes") (.type "bytes")=pure true:=by rw[isSubtype_type];kernel_rfl
section
variable{prog:Program}{w:World}{A:Around}{E:Value→Shared→Prop}{s:Shared}
def Kq(b:Array UInt8)(i:Nat)(v:Value):Prop:=∃c u,b[i]?=some c∧v=.int (c.toNat:Int) u
theorem RW{R:Result→Shared→Prop}(hh:A.handled=none)(b:Array UInt8)(t:Tok)(S:Addr)(res:Value)(c₀:Nat)(hS:s.heap.get? S=some {cls:=.type "list",data:=.seq #[] c₀})
  (hR:∀h' tk kI c',(∀b o,b≠S→s.heap.get? b=some o→h'.get? b=some o)→h'.get? S=some {cls:=.type "list",dict:=none,data:=.seq kI c',slots:=#[]}→
   ItemsOf (Kq b) kI b.size→R (.ok (.ret res)) {s with heap:=h',toks:=tk})(hn:b.size≤sizeLine):
  wpAny (model prog w) A.in1 (Builtin.List.listExtendWith (.ref S) (.bytes b t) res)
   (λfin s'=>match fin with|.done f=>R (.ok f) s'|.again c'=>c'.quiet=true∧codeAny (model prog w) A c' R s') (λe s'=>R (.error e) s') s:=by
 have hSI:S≠s.heap.objs.size:=bL (cA hS);have hSf:S∉[s.heap.objs.size]:=λhm=>hSI (List.mem_singleton.mp hm);unfold Builtin.List.listExtendWith;refine aj (wpAny_typeOf (T:="bytes") (v:=.bytes b t) rfl ?_);have h1:Builtin.List.listSameRef (.ref S) (.bytes b t)=false:=rfl;have h2:(Value.type "bytes"==Value.type "list")=false:=by decide
 have h3:(Value.type "bytes"==Value.type "tuple")=false:=by decide
 simp only[h1,h2,h3,Bool.or_false,Bool.false_eq_true,if_false];refine aj (KBw.pyIter_bytes ?_);refine aj (eX ?_);unfold Builtin.List.listLengthHint;refine aj (wpAny_specialOf (T:="bytes") (v:=.bytes b t) rfl FB.slot_bytes_len.lookup ?_)
 wp_delta
 refine aj (wpAny_isInstance (T:="bytes") (v:=.bytes b t) (b:=true) rfl RV ?_);show wpAny _ _ (typeOf (Value.bytes b t)>>=_) _ _ _;refine aj (wpAny_typeOf (T:="bytes") (v:=.bytes b t) rfl ?_);refine aM ?_;rw[if_neg (by decide)];refine aM ⟨plainId_quiet F.plain_extend_loop _,codeAny_extend_loopS (KBw.walks (A:=A.in1) hh s.heap.objs.size b t).toS hn _ hSf _ b.size 0 _ _ _ rfl (gO _) ⟨_,dy _ rfl,rfl,rfl⟩ (bA _ hS) (ItemsOf.nil _) λs' kI c' hm FW DJ=>?_⟩;rw[Moved.eq_with hm];refine hR s'.heap s'.toks kI c' (λb ob hb e=>hm.heap b ob (λDK=>?_) (bA _ e)) FW DJ;rcases List.mem_cons.mp DK with e'|DK
 ·exact hb e'
 ·exact absurd (cA e) (by rw[List.mem_singleton.mp DK];exact Nat.lt_irrefl _)
theorem PW{Q:Value→Shared→Prop}(hh:A.handled=none)(b:Array UInt8)(t:Tok)
  (hQ:∀h' tk kI c',(∀b o,s.heap.get? b=some o→h'.get? b=some o)→
   h'.get? s.heap.objs.size=some {cls:=.type "list",dict:=none,data:=.seq kI c',slots:=#[]}→ItemsOf (Kq b) kI b.size→Q (.ref s.heap.objs.size) {s with heap:=h',toks:=tk})(hn:b.size≤sizeLine):
  wpAny (model prog w) A (call (.type "list") [.bytes b t]) Q E s:=by
 refine callType_codes (Q₁:=λobj an=>obj=.ref s.heap.objs.size∧an={s with heap:=s.heap.push {cls:=.type "list",data:=.seq #[]}}) F.called_list (F.typeCall_list_1 _) F.entry_list_init
  (code_list_new _ ⟨rfl,rfl⟩) λobj an h₁=>?_
 refine am (λYd Ye=>?_) h₁;subst Yd;rcases Ye with rfl
 have hS:(s.heap.push {cls:=.type "list",data:=.seq #[]}).get? s.heap.objs.size=some {cls:=.type "list",data:=.seq #[]}:=dy _ rfl;refine⟨⟨_,hS,rfl⟩,F.args_list_init_2 _ _,?_⟩;show wpAny _ _ (do let old←Builtin.List.listItems (.ref s.heap.objs.size);Builtin.List.listUpdate (.ref s.heap.objs.size) (λz=>#[]);letGo old.toList.reverse;Builtin.List.listExtendWith (.ref s.heap.objs.size) (.bytes b t) .none) _ _ _;refine aj ?_;unfold Builtin.List.listItems;refine aj (wpAny_seqItems hS rfl (aM ?_));show wpAny _ _ (updateSeq s.heap.objs.size (λz=>#[])>>=λz=>letGo (#[]:Array Value).toList.reverse>>=λz=>Builtin.List.listExtendWith (.ref s.heap.objs.size) (.bytes b t) .none) _ _ _;refine aj (wpAny_updateSeq hS rfl ?_);have Yg:=jD (Obj.mapSeq (λz=>(#[]:Array Value))) hS rfl;refine aj (wpAny_letGo ?_);refine RW (A:=A.in1) hh b t _ .none _ Yg (λh' tk kI c' hk FW DJ=>⟨rfl,hQ h' tk kI c' (λb o e=>?_) FW DJ⟩) hn;have bk:b≠s.heap.objs.size:=bL (cA e);exact hk b o bk ((Heap.get?_update_other _ _ (bi bk)).trans (bA _ e))
end
theorem UH{σ:Nat→Addr}{h:Heap}{ds:List D}:∀{vs:List Value} {x:List Nat},ax σ h vs ds→bytesOf ds=some x→IntsAre vs (x.map λn:Nat=>(n:Int))∧gB x=true:=by
 induction ds with
 |nil=>exact λT e=>kE T (au e▸⟨.nil,rfl⟩)
 |cons d ds ih=>
  intro vs x T e;refine fN T λv vs t ts=>?_;have e:dI (La λn=>cM (bytesOf ds) λx=>ap (Nat.blt n 256) (some (n::x)) none) d=some x:=e;refine gI e t λi tk e=>?_;cases i with
  |ofNat n=>exact jb e λr hr e=>am (λhb e=>am (λa b=>by cases au e;exact⟨.cons _ _ a,by rw[Bo,hb,b];rfl⟩) (ih ts hr)) (fg e)
  |negSucc n=>exact aF e
theorem Hw{x:List Nat}:gB x=true→∀n∈x,n<256:=by
 induction x with
 |nil=>exact λz z h=>absurd h List.not_mem_nil
 |cons a x ih=>
  exact λh n hm=>am (λh1 h2=>(List.mem_cons.mp hm).elim (λe=>e▸aR (blt_eq ..▸h1)) (ih h2 n)) (ba (Bo a x▸h))
theorem QY(x:List Nat):byteArr (x.map λn:Nat=>(n:Int))=cH x:=by
 unfold byteArr cH;rw[List.map_map];rfl
theorem RX{σ:Nat→Addr}{h:Heap}{vs:List Value}:∀{ds:List D},vs.length=ds.length→(∀(i:Nat) v d,vs[i]?=some v→ds[i]?=some d→Tells σ h v d)→ax σ h vs ds:=by
 induction vs with
 |nil=>exact λe z=>List.eq_nil_of_length_eq_zero e.symm▸.nil
 |cons v vs ih=>
  intro ds e k;cases ds with
  |nil=>exact absurd e (oQ _)
  |cons d ds=>exact .cons (k 0 v d rfl rfl) (ih (Nat.succ.inj e) λi v d a b=>k (i+1) v d a b)
noncomputable def uB(b:Nat):Value:=(cZ [.builtin "len",.builtin "abs",.type "int",.type "list",.type "bytes"] b).getD (.builtin "sorted")
theorem V6{u:List Nat}:∀{v:List Nat},PySem.Spec.ltCps u v=false→PySem.Spec.ltCps v u=false→u=v:=by
 induction u with
 |nil=>intro v h1 h2;cases v with
  |nil=>rfl
  |cons _ _=>exact Bool.noConfusion (show true=false from h1)
 |cons c u ih=>intro v h1 h2;cases v with
  |nil=>exact Bool.noConfusion (show true=false from h2)
  |cons e v=>
   have h1:(decide (c<e)||(c==e&&PySem.Spec.ltCps u v))=false:=h1;have h2:(decide (e<c)||(e==c&&PySem.Spec.ltCps v u))=false:=h2;rw[Bool.or_eq_false_iff,decide_eq_false_iff_not]at h1 h2;have hce:c=e:=Nat.le_antisymm (Nat.not_lt.mp h2.1) (Nat.not_lt.mp h1.1);subst hce;have a1:=h1.2;have a2:=h2.2;rw[beq_self_eq_true,Bool.true_and]at a1 a2;rw[ih a1 a2]
theorem Tc{x y:List Nat}{ss:List Str}(hp:ss.Perm [ao x,ao y])(hs:sortedS ss=true):ss=ap (pK x y) [ao x,ao y] [ao y,ao x]:=by
 have hl:ss.length=2:=hp.length_eq;rcases ss with _|⟨a,_|⟨b,_|⟨d,ss⟩⟩⟩
 ·exact absurd hl (by decide)
 ·exact absurd hl (by decide:¬1=2)
 ·have h1:(!PySem.Spec.ltCps b.cps.toList a.cps.toList&&true)=true:=hs;rw[Bool.and_true]at h1;refine(List.mem_cons.mp (hp.mem_iff.mp dW)).elim (λe=>?_) λhm=>?_
  ·subst e;cases List.singleton_perm_singleton.mp ((List.perm_cons _).mp hp);rw[show pK x y=true from h1]
  ·cases List.mem_singleton.mp hm;cases List.singleton_perm_singleton.mp ((List.perm_cons _).mp (hp.trans (List.Perm.swap ..)));have h1:PySem.Spec.ltCps x y=false:=kq h1;unfold pK;cases hq:PySem.Spec.ltCps y x with
   |true=>rfl
   |false=>rw[V6 h1 hq];rfl
 ·exact absurd hl (by rw[List.length_cons,List.length_cons,List.length_cons];exact λh=>oQ _ (Nat.succ.inj (Nat.succ.inj h)))
section
variable{c:Cx}{A:Around}{s:Shared}{sc:Scope}{env:Env}{vs:List (Option Str)}{ρ:List (Option D)}{n:Nat}{Q:Value→Shared→Prop}{E₀:Value→Shared→Prop}
theorem RY(H0:bz c){a:Addr}{us:List Value}{x y:List Nat}(hl:aQ s.heap a "list" us)(tl:ax c.σ s.heap us [.str x,.str y])(g:c.G s.heap)
  (hq:∀z s',Tells c.σ s'.heap z (.list (ap (pK x y) [.str x,.str y] [.str y,.str x]))→Nx c s s'→Q z s'):wpAny c.M A (call (.builtin "sorted") [.ref a]) Q E₀ s:=by
 have hu:∃t1 t2,us=[.str (ao x) t1,.str (ao y) t2]:=fN tl λv us t1 tl=>fN tl λu us t2 tl=>kE tl (jH t1 λt=>jH t2 λt'=>⟨t,t',rfl⟩);refine eM hu λt1 t2 e=>?_;subst e;refine sorted_strs hl.list (.cons _ _ (.cons _ _ .nil)) aX λout ss' a1 a2 a3=>?_;rw[Tc a2 a3]at a1;refine ak (sortedAll_at s.heap [.str (ao x) t1,.str (ao y) t2] out) λen he=>?_;have two:∀{u v:List Nat} {hh:Heap},StrsAre out.toList [ao u,ao v]→ax c.σ hh out.toList [.str u,.str v]:=by
  intro u v hh h;generalize out.toList=ol at h;rcases h with _|⟨_,_,h⟩
  rcases h with _|⟨_,_,h⟩
  cases h;exact .cons (.str _ _) (.cons (.str _ _) .nil)
 have key:ax c.σ (sortedAll s.heap [.str (ao x) t1,.str (ao y) t2] out) out.toList (ap (pK x y) [.str x,.str y] [.str y,.str x]):=by
  cases hle:pK x y with
  |true=>rw[hle]at a1;exact two a1
  |false=>rw[hle]at a1;exact two a1
 exact hq _ _ (.list (vs:=out.toList) ⟨_,en,he,rfl,rfl,rfl⟩ key) ⟨_,s.toks,rfl,aE.gb λw w=>sortedAll_old,H0 _ _ (λw w=>sortedAll_old) g⟩
theorem Rm(H0:bz c){x:List Nat}{t:Tok}{r:D}(g:c.G s.heap)(rm:aP A 0)(h1:gB x=true)(h3:x.length<10000)(e:some (.list (x.map λn=>.int (.ofNat n)))=some r)(hq:∀z s',Tells c.σ s'.heap z r→Nx c s s'→Q z s'):
  wpAny c.M A (call (.type "list") [.bytes (cH x) t]) Q E₀ s:=by
 refine PW rm.2.2 (cH x) _ (λh' tk acc c' k hS hi=>hq _ _ (au e▸.list (vs:=acc.toList) ⟨_,c',hS,rfl,rfl,rfl⟩ (RX ?_ λi v d a b=>?_)) (Nx.ext H0 g h' tk k)) (by rw[qo,sizeLine_eq];exact eY (jC h3) aX)
 ·rw[Array.length_toList,hi.1,qo,List.length_map]
 ·refine aO (hi.2 i v (by rw[←Array.getElem?_toList];exact a)) λcc u e1 e2=>?_;rw[List.getElem?_map]at b;cases hx:x[i]?with
  |none=>rw[hx]at b;exact aF b
  |some m=>
   rw[hx]at b;have this:(cH x)[i]?=some (UInt8.ofNat m):=by rw[List.getElem?_toArray,List.getElem?_map,hx];rfl
   rw[e2,aD e1 this,UInt8.toNat_ofNat',Nat.mod_eq_of_lt (Hw h1 m (List.mem_of_getElem? hx)),←Option.some.inj b];exact .int _ _
theorem Tf(H0:bz c){b:Nat}{d r:D}{v:Value}(hb:b<6)(h:pL b d=some r)(tv:Tells c.σ s.heap v d)(g:c.G s.heap)(rm:aP A 0)
  (hq:∀x s',Tells c.σ s'.heap x r→Nx c s s'→Q x s'):wpAny c.M A (call (uB b) [v]) Q E₀ s:=by
 have q:∀{k t t'},some (D.int k)=some r→Q (.int k t) {s with toks:=t'}:=λe=>hq _ _ (au e▸.int _ _) (Nx.tok g _);rcases b with _|_|_|_|_|_|b
 ·refine qS h tv λx t e=>am (λh1 e=>?_) (fg e);rw[gD,blt_eq]at h1;rw[gD,←qo]at e;exact len_bytes (by rw[qo];exact eY (jC (aR h1)) aX) (q e)
 ·refine gI h tv λi t e=>call_abs_int λu tk=>?_;have e':(if i<0 then-i else i)=Int.ofNat i.natAbs:=by
   by_cases q:i<0
   ·rw[if_pos q];show-i=((i.natAbs:Nat):Int);omega
   ·rw[if_neg q];show i=((i.natAbs:Nat):Int);omega
  rw[e'];exact hq _ _ (au e▸.int _ _) (Nx.tok g _)
 ·exact ya h tv λp e=>call_int_bool (by rw[←Ue];exact q e)
 ·exact qS h tv λx t e=>am (λh1 e=>am (λh3 e=>Rm H0 g rm h1 (aR (gD x▸blt_eq ..▸h3)) e hq) (fg e)) (fg e)
 ·refine yb h tv λds a us e hl tl=>am (λh3 e=>jb e λx hx e=>am (λh1 h2=>?_) (UH tl hx)) (fg e);rw[gD,blt_eq]at h3;refine call_bytes_ints hl.list h1 (λm hm=>ah (List.mem_map.mp hm) λj hj e=>?_) (by rw[tl.length,sizeLine_eq];exact eY (jC (aR h3)) aX) rm.2.2 λh' t k kk=>?_
  ·subst e;have:=Hw h2 j hj;omega
  ·rw[QY];exact hq _ _ (au e▸.bytes _ _) (Nx.ext H0 g h' k kk)
 ·refine yb h tv λds a us e hl tl=>?_;rcases ds with _|⟨d1,_|⟨d2,_|⟨d3,ds⟩⟩⟩
  ·exact aF e
  ·exact aF e
  ·cases d1 with
   |str x=>cases d2 with
    |str y=>exact RY H0 hl tl g λz s' t n=>hq z s' (au e▸t) n
    |_=>exact aF e
   |_=>exact aF e
  ·exact aF e
 ·exact absurd hb (Nat.not_lt.mpr (Nat.le_add_left 6 b))
end
end Mine
namespace Mine
open PySem PySem.W PyProof.Rows PySem.SeqAt
set_option tactic.hygienic false
section
variable{c:Cx}{A:Around}{s:Shared}{sc:Scope}{env:Env}{vs:List (Option Str)}{ρ:List (Option D)}{n:Nat}{Q:Value→Shared→Prop}{E₀:Value→Shared→Prop}
theorem V7{b:Nat}{x:Str}(h:DB[b]?=some x):b<6∧bootBuiltins x=some (uB b)∧x∈lV∧((∃id,uB b=.builtin id)∨∃T,uB b=.type T):=by
 rcases b with _|_|_|_|_|_|b
 ·exact au h▸⟨by decide,CF,al 1,.inl ⟨_,rfl⟩⟩
 ·exact au h▸⟨by decide,Ko,al 2,.inl ⟨_,rfl⟩⟩
 ·exact au h▸⟨by decide,CC,al 3,.inr ⟨_,rfl⟩⟩
 ·exact au h▸⟨by decide,JA,al 4,.inr ⟨_,rfl⟩⟩
 ·exact au h▸⟨by decide,B3,al 5,.inr ⟨_,rfl⟩⟩
 ·exact au h▸⟨by decide,Iq,al 6,.inl ⟨_,rfl⟩⟩
 ·exact aF h
theorem V8(H0:bz c)(HB:fO c)(hE:SE c n){b:Nat}{e:E}{p:Expr}(F:St c A n sc env s.heap vs ρ)(hm:mE c.N sc vs (.b1 b e) p=true)(af:((rec c.P n).ev ρ e).bind (λd=>Out.of (pL b d))≠.stuck):
  bK c A s (eval p env) (((rec c.P n).ev ρ e).bind λd=>.of (pL b d)):=by
 refine MI hm λx q a r kZ h3 h1 h4=>fc (V7 kZ) λhb hv hx hk=>?_;rw[show eval (.Call (.Name x q) [a] [] r) env=(eval (.Name x q) env>>=λfv=>callWith r fv [] (backTo r (starEach [a] env)) [])from rfl];refine aj (qp HB F h3 hx hv ?_);generalize hf:uB b=fv at hk;have K:=xz (fv:=fv) (pos:=r) (E₀:=EP c s (((rec c.P n).ev ρ e).bind λd=>.of (pL b d))) (Q:=λg s'=>wpAny c.M A (call fv ([]++g.pos) g.kw) (VP c s (((rec c.P n).ev ρ e).bind λd=>.of (pL b d))) (EP c s (((rec c.P n).ev ρ e).bind λd=>.of (pL b d))) s') hE F h1 h4 af
  (λv d s' e0 ns t m=>by
   rw[e0,←hf];refine ak (gL ns) λz hz=>?_;rw[hz];exact Tf H0 hb hz t m.g F.r.zero λx s2 t m2=>⟨z,rfl,t,m.trans m2⟩) λx d s' e f m=>⟨d,e,f,m⟩
 rcases hk with⟨id,rfl⟩|⟨T,rfl⟩
 ·exact jF (oF h1) K
 ·exact PyProof.Rows.callWith_type (oF h1) K
theorem RZ{x:D}{u:Value}(hu:Tells c.σ s.heap u x)(hr:A.units+8<cLine):∀{ds:List D} {us:List Value} {r:Nat},yC x ds=some r→ax c.σ s.heap us ds→
  (∀y,y∈us→EqAt A s y u (jK c.σ s.heap 8 x y))∧us.countP (jK c.σ s.heap 8 x)=r:=by
 intro ds
 induction ds with
 |nil=>
  intro us r e t;exact kE t ⟨λj hm=>absurd hm List.not_mem_nil,au e⟩
 |cons d ds ih=>
  intro us r e t;refine fN t λv us t ts=>jb (x:=g6 8 d x) e λa ha e=>jb (x:=yC x ds) e λk h2 e=>am (λhp e=>?_) (fg e);cases au e;refine am (λk1 k2=>?_) (ih h2 ts);have h0:=Jp hp t ha;refine⟨λy hy=>?_,?_⟩
  ·rcases List.mem_cons.mp hy with rfl|hy
   ·rw[h0];exact(ql 8 ha t hu hr).e
   ·exact k1 y hy
  ·rw[List.countP_cons,k2,h0];cases a<;>rfl
theorem UI(hE:SE c n){l x:E}{p:Expr}(F:St c A n sc env s.heap vs ρ)(hm:mE c.N sc vs (.cnt l x) p=true)(af:uS (rec c.P n) ρ l x≠.stuck):bK c A s (eval p env) (uS (rec c.P n) ρ l x):=by
 refine Ln hm λq r a t hl h2 h4 h1 h5=>?_;generalize ho:uS (rec c.P n) ρ l x=o at af⊢;unfold uS at ho;refine lG (es:=[x]) hl h2 aX (oF h1) ((hE A s sc env vs ρ l q F h4 (br (ho▸af))).use (λv d s' e1 t1 m pl=>?_) λw d s' e1 f1 m=>⟨d,ho▸bo e1,f1,m⟩);rw[a9 e1]at ho;cases d with
 |list ds=>
  have ho:((rec c.P n).ev ρ x).bind (λy=>(Out.of (yC y ds)).bind λn=>.ok (D.int (.ofNat n)))=o:=ho;refine oE t1 λa' us hx tx=>?_;refine bW (id hx) λo' nn eP hc tA hd=>?_;refine getMethod_builtin hx.list.typeIs PySem.F.plainAttrs_list PySem.F.slot_list_count PySem.F.type_list_count (λb e=>by cases e;exact⟨o',eP,tA⟩) ?_;refine jF (oF h1) (xz hE (F.nx m) h1 h5 (ho▸af) (λw y s2 e2 ns t2 m2=>?_) λw d s2 e2 f2 m2=>⟨d,ho▸e2,f2,m.trans m2⟩);refine ak (gL (br ns)) λk hk=>?_;have eo:o=.ok (.int k):=ho.symm.trans (e2.trans (by rw[hk];rfl));refine am (λk1 k2=>?_) (RZ (A:=A.in1) t2 (show A.units+9<cLine from iq (eY (lY _ (6*n+21)) (by omega)) F.r.2.1) hk (tx.keep m2.keep));refine bW (hx.keep m2.keep) λo2 nn' e' c' dn' a8=>?_;obtain⟨c1,c2,c3,c4⟩:=o2;dsimp only at c' a8;subst c' a8;refine call_meets PySem.F.slot_list_count ⟨_,e',rfl⟩ PySem.F.entry_list_count (PySem.F.args_list_count_2 _ _) (SeqAt.list_countAt _ _ _ _ _ _ _) ⟨e',λy hy=>k1 y (List.mem_toArray.mp hy),?_⟩;rw[List.toList_toArray,k2];exact⟨.int k,eo,.int _ _,(m.trans m2).trans (Nx.tok m2.g _)⟩
 |_=>exact absurd ho.symm af
end
end Mine
namespace Mine
open PySem PySem.W PyProof.Rows
set_option tactic.hygienic false
section
variable{α:Type}{n:Nat}{l:List α}{G:List α→Prop}
@[elab_as_elim] theorem lenZ(h:0=l.length)(k:G []):G l:=by cases l with|nil=>exact k|cons _ _=>exact absurd h.symm (oQ _)
@[elab_as_elim] theorem ru(h:n+1=l.length)(k:∀a l,n=l.length→G (a::l)):G l:=by cases l with|nil=>exact absurd h (oQ _)|cons a l=>exact k a l (Nat.succ.inj h)
end
def PK(ks:List (List Nat)):List Value→List (Value×Value)→Prop:=@List.rec (List Nat) (λz=>List Value→List (Value×Value)→Prop) (λus r=>us=[]∧r=[]) (λk z ih us r=>∃t u pS r',us=u::pS∧r=(.str (ao k) t,u)::r'∧ih pS r') ks
theorem xA{x y:List Nat}(h:ao x=ao y):x=y:=by
 have:=bp (λs:Str=>s.cps.toList) h;simpa using this
theorem R4{ks:List (List Nat)}(h:ks.Nodup):(ks.map ao).Nodup:=by
 induction ks with
 |nil=>exact .nil
 |cons k ks ih=>exact am (λa b=>List.nodup_cons.mpr ⟨λm=>ah (List.mem_map.mp m) λy hy e=>a (xA e▸hy),ih b⟩) (List.nodup_cons.mp h)
theorem PK.UJ{prog:Program}{w:World}{ks:List (List Nat)}:∀{us:List Value} {r:List (Value×Value)},PK ks us r→Carries (strKind prog w) r ((ks.map ao).zip us):=by
 induction ks with
 |nil=>exact λh=>by rw[h.1,h.2];trivial
 |cons k ks ih=>exact λh=>xG h λt u us r e1 e2 h=>by rw[e1,e2];exact⟨eK prog w _ _,rfl,ih h⟩
theorem IT{ks:List Str}:∀{us:List Value},ks.length=us.length→(ks.zip us).map (·.1)=ks:=by
 induction ks with
 |nil=>exact λz=>rfl
 |cons k ks ih=>exact λh=>ru h λu us h=>bp (k:: ·) (ih h)
theorem R7{x k:List Nat}{d:D}{l:List (List Nat×D)}:look x ((k,d)::l)=ap (sEq k x) (some d) (look x l):=rfl
theorem QL{k x:Str}{v:Value}{l:List (Str×Value)}:valueAt ((k,v)::l) x=if k=x then some v else valueAt l x:=by
 unfold valueAt;rw[List.find?_cons];by_cases q:k=x
 ·rw[if_pos q,decide_eq_true q];rfl
 ·rw[if_neg q,decide_eq_false q]
theorem qj{σ:Nat→Addr}{h:Heap}(x:List Nat){ks:List (List Nat)}:∀{us:List Value} {ds:List D},ax σ h us ds→ks.length=ds.length→
  (look x (ks.zip ds)=none→valueAt ((ks.map ao).zip us) (ao x)=none)∧∀d,look x (ks.zip ds)=some d→∃v,valueAt ((ks.map ao).zip us) (ao x)=some v∧Tells σ h v d:=by
 induction ks with
 |nil=>exact λz z=>⟨λz=>rfl,λd h=>aF h⟩
 |cons k ks ih=>
  intro us ds T l;revert T;refine ru l λd ds l T=>fN T λv us t ts=>am (λa b=>?_) (ih ts l);rw[List.zip_cons_cons,R7,List.map_cons,List.zip_cons_cons,QL];cases hs:sEq k x with
  |true=>
   rw[qG]at hs;obtain rfl:=nP.mp hs;rw[if_pos rfl];exact⟨λh=>oV h,λd' h=>⟨v,rfl,au h▸t⟩⟩
  |false=>
   rw[if_neg λq=>by rw[xA q,qG,nP.mpr rfl]at hs;exact Bool.noConfusion hs];exact⟨a,b⟩
section
variable{c:Cx}{A:Around}{s:Shared}{sc:Scope}{env:Env}{vs:List (Option Str)}{ρ:List (Option D)}{n:Nat}{Q:Value→Shared→Prop}{E₀:Value→Shared→Prop}
theorem R8(hE:SE c n){pos:Pos}{ks:List (List Nat)}:∀{es:List E} {ke:List (Option Expr)} {l:List Expr} {s:Shared},St c A n sc env s.heap vs ρ→ks.length=ke.length→ks.length=l.length→
  ((ks.zip ke).all λq=>iC (λe=>qz e==some (.str (ao q.1))) q.2)=true→dz c.N sc vs es l=true→cj ((rec c.P n).ev ρ) es≠.stuck→
  wpAny c.M A (evalPairs (pairTrees ke l env pos)) (λr s'=>∃ds us,cj ((rec c.P n).ev ρ) es=.ok ds∧ax c.σ s'.heap us ds∧PK ks us r∧Nx c s s') (λx s'=>∃d,cj ((rec c.P n).ev ρ) es=.exc d∧c.Flt s'.heap x d∧Nx c s s') s:=by
 induction ks with
 |nil=>
  intro es ke l s F h1 h2 _ hm af;revert hm;refine lenZ h1 (lenZ h2 λhm=>?_);cases es with
  |nil=>exact pairTrees_nil_walk ⟨[],[],rfl,.nil,⟨rfl,rfl⟩,Nx.refl F.g⟩
  |cons e es=>exact aw hm
 |cons k ks ih=>
  intro es ke l s F h1 h2 hk hm af;revert hk hm;refine ru h1 λko ke h1=>ru h2 λv l h2 hk hm=>?_;have hk:(iC (λe=>qz e==some (.str (ao k))) ko&&(ks.zip ke).all λq=>iC (λe=>qz e==some (.str (ao q.1))) q.2)=true:=hk;cases es with
  |nil=>exact aw hm
  |cons e es=>
   have hm:(!odd v&&mE c.N sc vs e v&&dz c.N sc vs es l)=true:=hm;rw[BQ]at af⊢;refine xK (G:=λko=>wpAny c.M A (evalPairs (pairTrees (ko::ke) (v::l) env pos)) _ _ s) (a1 hk) λkx wq=>Q9 (G:=λkx=>wpAny c.M A (evalPairs (pairTrees (some kx::ke) (v::l) env pos)) _ _ s) (eq_of_beq wq) λkk kp=>?_;refine pairTrees_cons_walk (l0 ((hE A _ sc env vs ρ e v (F.nx (Nx.tok F.g _)) (a2 (a1 hm)) (br af)).use (λu d s1 e1 t1 m1=>?_) λx d s1 e1 f1 m1=>⟨d,bo e1,f1,(Nx.tok F.g _).trans m1⟩));rw[a9 e1]at af⊢;have FX:=(Nx.tok F.g _).trans m1;refine aL (ih (F.nx FX) h1 h2 (a2 hk) (a2 hm) (br af)) (λr s2 h=>?_) λx s2 h=>bS h λd' a b m2=>⟨d',bo a,b,FX.trans m2⟩;exact bW h λds us e2 t2 pk m2=>⟨d::ds,u::us,by rw[a9 e2],.cons (t1.keep m2.keep) t2,⟨_,u,us,r,rfl,rfl,pk⟩,FX.trans m2⟩
theorem Tg{f:List Nat→Expr→Bool}{ks:List (List Nat)}:∀{ke:List (Option Expr)},ks.length=ke.length→((ks.zip ke).all λq=>iC (f q.1) q.2)=true→ke.all (·.isSome)=true:=by
 induction ks with
 |nil=>exact λh z=>lenZ h rfl
 |cons k ks ih=>
  intro ke h kJ;revert kJ;refine ru h λko ke h kJ=>?_;have kJ:(iC (f k) ko&&(ks.zip ke).all λq=>iC (f q.1) q.2)=true:=kJ;exact xK (G:=λko=>(ko::ke).all (·.isSome)=true) (a1 kJ) λe z=>ih (ke:=ke) h (a2 kJ)
theorem Ci(H0:bz c)(H9:eG c)(HB:fO c)(hE:SE c n){ks:List (List Nat)}{es:List E}{ke:List (Option Expr)}{l:List Expr}{pos:Pos}(F:St c A n sc env s.heap vs ρ)(hk:rp ks ke=true)(hl:decide (ks.length=l.length)=true)
  (hm:dz c.N sc vs es l=true)(af:cj ((rec c.P n).ev ρ) es≠.stuck)
  (hq:∀a ds us s',cj ((rec c.P n).ev ρ) es=.ok ds→ax c.σ s'.heap us ds→ks.length=ds.length→s'.heap.DictOf (strKind c.prog c.w) a ((ks.map ao).zip us)→(a==sysModules)=false→Nx c s s'→Q (.ref a) s')
  (hx:∀x d s',cj ((rec c.P n).ev ρ) es=.exc d→c.Flt s'.heap x d→Nx c s s'→E₀ x s'):wpAny c.M A (eval (.Dict ke l pos) env) Q E₀ s:=by
 have hl:=aR hl;have kJ:=a2 hk;have hlen:ks.length=ke.length:=eq_of_beq (a2 (a1 hk));have FY:=aR (a2 (a1 (a1 hk)));have acq:=aR (a2 (a1 (a1 (a1 hk))));have pQ:=aR (a1 (a1 (a1 (a1 hk))));have Dg:ke.all (·.isSome)=true:=Tg (f:=λk e=>qz e==some (.str (ao k))) hlen kJ;have fresh:s.heap.get? s.heap.objs.size=none:=cX (dp _);have n0:Nx c s {s with heap:=s.heap.push {cls:=.type "dict",data:=.dict #[]}}:=Nx.ext H0 F.g _ s.toks λb o e=>bA _ e;have c6:(s.heap.objs.size==sysModules)=false:=by
  refine aO (HB _ F.g) λmg mb g1 z=>?_;have h3:3<s.heap.objs.size:=g1.lt;exact beq_eq_false_iff_ne.mpr λq=>absurd h3 (by rw[show s.heap.objs.size=1 from q];decide)
 refine wpAny_Dict_walk (knd:=strKind c.prog c.w) Dg (by rw[←hlen,hl]) (λq=>absurd acq (by rw[hlen,q];decide)) (by rw[←hlen];exact FY) (aL (R8 hE (F.nx n0) hlen hl kJ hm af) (λr s1 h=>?_) λx s1 h=>bS h λd a b m=>hx x d s1 a b (n0.trans m));refine bW h λds us e1 t1 pk m1=>?_;have gu:ks.length=ds.length:=by rw[Cf e1,Cg hm,hl]
 have eE:s1.heap.DictOf (strKind c.prog c.w) s.heap.objs.size []:=by
  have h:(s.heap.push {cls:=.type "dict",data:=.dict #[]}).get? s.heap.objs.size=some {cls:=.type "dict",data:=.dict #[]}:=dy _ rfl;refine eV (m1.keep.2 _ _ h) λo' e' c' d' f' z s'=>?_;have aS:=s' (show Value.type "dict"≠Value.type "frame" by decide);obtain⟨c1,c2,c3,c4⟩:=o';dsimp only at c' d' aS;subst c' d' aS;have Ff:c3=.dict #[]:=f' λvs q=>by cases q
  subst Ff;exact⟨_,#[],_,e',⟨rfl,rfl,rfl⟩,rfl,(λe he=>absurd he (Array.not_mem_empty e)),.nil,.nil⟩
 refine⟨_,pk.UJ,eE,λh' hd hs=>?_⟩;have acr:(((ks.map ao).zip us).map (·.1)).Nodup:=by
  rw[IT (by rw[List.length_map,t1.length,gu])];exact R4 pQ
 rw[merged_nil_of_nodup _ acr]at hd;have FZ:=n0.trans m1;have kk:aE s.heap h':=FZ.keep.sameBut hs fresh;refine eT (id eE) λo0 es0 ep0 OE z LB z=>?_;have nr:qV s1.heap s.heap.objs.size:=⟨o0,OE,λvs q=>by rw[LB]at q;cases q⟩;have g':c.G h':=H9 _ _ _ _ F.g fresh nr hs FZ.g;have ksq:cJ s1.heap h':=cJ.sameBut hs λt vs h=>bW h λo e a1 z z a4=>by cases aD OE a1;rw[LB]at a4;cases a4
 refine aO FZ λh1 k1 Yh af5=>?_;subst Yh;exact hq _ ds us _ e1 (t1.seq ksq) gu hd c6 ⟨h',_,rfl,kk,g'⟩
end
theorem hZ{prog:Program}{w:World}{h h':Heap}{a:Addr}{bq:List (Str×Value)}(k:aE h h')(x:h.DictOf (strKind prog w) a bq):h'.DictOf (strKind prog w) a bq:=by
 refine eT x λo es ep ho Yi hd r=>?_;refine bY Yi λhc eQ FG=>?_;refine eV (k.2 _ _ ho) λo' e' c' d' f' Z s'=>?_;exact⟨o',es,ep,e',⟨c'.trans hc,d'.trans eQ,(s' (by rw[hc];decide)).trans FG⟩,(f' λvs q=>by rw[hd]at q;cases q).trans hd,r⟩
@[elab_as_elim] theorem B8{σ:Nat→Addr}{h:Heap}{v:Value}{d:D}{f:List Nat→Out D}{G:Value→Prop}(e:onStr d f≠.stuck)(T:Tells σ h v d)(k:∀x t,onStr d f=f x→G (.str (ao x) t)):G v:=by
 cases d with
 |str x=>exact jH T λt=>k x t rfl
 |_=>exact absurd rfl e
section
variable{c:Cx}{A:Around}{s:Shared}{sc:Scope}{env:Env}{vs:List (Option Str)}{ρ:List (Option D)}{n:Nat}{Q:Value→Shared→Prop}{E₀:Value→Shared→Prop}
theorem Th(H0:bz c)(H9:eG c)(HB:fO c)(hE:SE c n){ks:List (List Nat)}{es:List E}{k:E}{p:Expr}(F:St c A n sc env s.heap vs ρ)(hm:mE c.N sc vs (.gU ks es k) p=true)
  (af:yg (rec c.P n) ρ ks es k≠.stuck):bK c A s (eval p env) (yg (rec c.P n) ρ ks es k):=by
 refine Kh hm λke l q2 j q hk hl h1 h2=>?_;unfold yg at af⊢;refine Subscript_ (Ci H0 H9 HB hE F hk hl h1 (br af) (λa ds us s' e1 t1 gu hd c6 m=>?_) λx d s' e1 f1 m=>⟨d,bo e1,f1,m⟩);rw[a9 e1]at af⊢;refine(hE A s' sc env vs ρ k j (F.nx m) h2 (br af)).use (λu d2 s2 e2 t2 m2=>?_) λx d s2 e2 f1 m2=>⟨d,bo e2,f1,m.trans m2⟩;rw[a9 e2]at af⊢;refine B8 af t2 λx t e3=>?_;rw[e3]at af⊢;refine ak (gL af) λz hz=>?_;have hd2:=hZ m2.keep hd;refine ah ((qj x (t1.keep m2.keep) gu).2 z hz) λv hv tv=>?_;exact tail_any hd2.typeIs slot_dict_getitem.lookup (wpAny_getItem_of (eK _ _ _ _) hd2.mapOf hv ⟨z,bp Out.of hz,tv,(m.trans m2).trans (Nx.tok m2.g _)⟩) (oj _ _ _).choose_spec
theorem JD{x:List Nat}{ks:List (List Nat)}{ds:List D}{us:List Value}{s':Shared}{o:Out D}{z:D}{v:Value}{tk:Nat}(t1:ax c.σ s'.heap us ds)(gu:ks.length=ds.length)(tz:Tells c.σ s'.heap v z)(eo:o=.ok ((look x (ks.zip ds)).getD z))(m:Nx c s s'):
  VP c s o ((valueAt ((ks.map ao).zip us) (ao x)).getD v) {s' with toks:=tk}:=by
 refine am (λv1 v2=>?_) (qj x t1 gu);cases hz:look x (ks.zip ds)with
 |none=>rw[v1 hz];exact⟨z,by rw[eo,hz];rfl,tz,m.trans (Nx.tok m.g _)⟩
 |some z'=>exact ah (v2 z' hz) λv hv tv=>by rw[hv];exact⟨z',by rw[eo,hz];rfl,tv,m.trans (Nx.tok m.g _)⟩
theorem Ti(H0:bz c)(H9:eG c)(HB:fO c)(hE:SE c n){ks:List (List Nat)}{es:List E}{k:E}{p:Expr}(F:St c A n sc env s.heap vs ρ)(hm:mE c.N sc vs (.oZ ks es k) p=true)
  (af:yh (rec c.P n) ρ ks es k≠.stuck):bK c A s (eval p env) (yh (rec c.P n) ρ ks es k):=by
 refine Ki hm λke l q2 r x t fV hk hl h5 h1 h4=>?_;unfold yh at af⊢;refine lG (es:=[k]) fV rfl aX (oF h1) (Ci H0 H9 HB hE F hk hl h5 (br af) (λa' ds us s' e1 t1 gu hd c6 m pl=>?_) λx d s' e1 f1 m=>⟨d,bo e1,f1,m⟩);rw[a9 e1]at af⊢;refine getMethod_builtin hd.typeIs PySem.F.plainAttrs_dict rj PySem.F.type_dict_get hd.mapOf.noDict ?_;refine jF (oF h1) (xz hE (F.nx m) h1 h4 af (λw y s2 e2 ns t2 m2=>?_) λw d s2 e2 f2 m2=>⟨d,e2,f2,m.trans m2⟩);rw[e2];refine B8 ns t2 λx t e3=>?_;have hd2:=hZ m2.keep hd;refine call_meetsIn rj hd2.typeIs PySem.F.entry_dict_get (PySem.F.args_dict_get_2 _ _) (meets_dict_get (strKind c.prog c.w) a' (eK _ _ _ _) c6) ⟨_,hd2.mapOf,?_⟩;exact JD (t1.keep m2.keep) gu .none e3 (m.trans m2)
theorem Tj(H0:bz c)(H9:eG c)(HB:fO c)(hE:SE c n){ks:List (List Nat)}{es:List E}{k z:E}{p:Expr}(F:St c A n sc env s.heap vs ρ)(hm:mE c.N sc vs (.o7 ks es k z) p=true)
  (af:yi (rec c.P n) ρ ks es k z≠.stuck):bK c A s (eval p env) (yi (rec c.P n) ρ ks es k z):=by
 refine Kj hm λke l q2 r x y t fV hk hl h5 h1 h7 h4 h6=>?_;unfold yi at af⊢;refine lG (es:=[k,z]) fV rfl aX (yo h1 h7) (Ci H0 H9 HB hE F hk hl h5 (br af) (λa' ds us s' e1 t1 gu hd c6 m pl=>?_) λx d s' e1 f1 m=>⟨d,bo e1,f1,m⟩);rw[a9 e1]at af⊢;refine getMethod_builtin hd.typeIs PySem.F.plainAttrs_dict rj PySem.F.type_dict_get hd.mapOf.noDict ?_;refine jF (yo h1 h7) (Ch (f:=λx z=>onStr x λx=>.ok ((look x (ye ks ds)).getD z)) hE (F.nx m) h1 h7 h4 h6 af (λw u y y' s2 e2 ns t2 t3 m2=>?_) λw d s2 e2 f2 m2=>⟨d,e2,f2,m.trans m2⟩);rw[e2];refine B8 ns t2 λx t e3=>?_;have hd2:=hZ m2.keep hd;refine call_meetsIn rj hd2.typeIs PySem.F.entry_dict_get (PySem.F.args_dict_get_3 _ _ _) (meets_dict_get_default (strKind c.prog c.w) a' (eK _ _ _ _) c6 _) ⟨_,hd2.mapOf,?_⟩;exact JD (t1.keep m2.keep) gu t3 e3 (m.trans m2)
end
end Mine
namespace Mine
open PySem PySem.W PyProof.Rows Builtin Builtin.ObjectAttr
set_option tactic.hygienic false
theorem Iv{h:Heap}{a:Addr}{m:Str→Option Value}{name:Str}{v:Value}(n:h.Ns a m)(e:m name=some v):∃o,h.get? a=some o∧lookIn name o=some (some v):=by
 refine eT n λo es ep ho hd hk hf=>?_;refine⟨o,ho,?_⟩;have q:=(hf name).trans e;unfold lookIn;rw[hd];dsimp only;have q':(es.find? λe=>e.key.isStr name).map (·.val)=some v:=q;refine ah (Option.map_eq_some_iff.mp q') λen h1 h2=>?_;rw[Array.find?_toList,h1];exact bp (λz=>some (some z)) h2
theorem Hm{K:Frag}{C:Addr}{cd:ClassData}{o:Obj}{name:Str}{v:Value}(hc:clsIn K C=some cd)(hd:cd.hasDict=true)(hn:findIn K (.ref C) name=some none)(e:lookIn name o=some (some v)):
  findObj K C (some o) name=some (.value v):=by
 unfold findObj;rw[hc,Option.bind_some,hn,Option.bind_some];dsimp only[Option.bind_some];unfold PySem.W.ownOf;rw[hd,if_pos rfl];dsimp only;rw[e,Option.bind_some]
section
variable{prog:Program}{w:World}{A:Around}{E:Value→Shared→Prop}{h:Heap}{g:Array GenState}{d:Drawn}{t:Nat}{os:OsState}{K:Frag}{x C:Addr}{ox:Obj}{od:Option Obj}{name:Str}{expr:Bool}
theorem Q0{tk:Tok}{v:Value}{Q:Fin→Shared→Prop}(X:K.In h)(I:InstAt h x ox C od)(hf:findObj K C od name=some (.value v))(hq:Q (.done (.ret v)) ⟨h,g,d,t,os⟩):
  wpAny (model prog w) A (Builtin.«object.__getattribute__» ⟨[.ref x,.str name tk],[]⟩) Q E ⟨h,g,d,t,os⟩:=by
 have L0:=I.type (M:=model prog w);have L3:=looks_find (M:=model prog w) X I hf;unfold Builtin.«object.__getattribute__»;refine aj (wpAny_of_eq (a:=(Value.ref x,[Value.str name tk])) rfl ?_);refine aj (wpAny_of_eq (a:=name) rfl ?_);refine aj (L0.at (aj (L3.at ?_)));exact aM hq
theorem Rn{v:Value}{Q:Value→Shared→Prop}(X:K.In h)(I:InstAt h x ox C od)(hga:findIn K (.ref C) "__getattribute__"=some (some (.builtin "BaseException.__getattribute__")))(hgt:findIn K (.ref C) "__getattr__"=some none)
  (hf:findObj K C od name=some (.value v))(hh:handedIn v=true)(hB:mroIn K C (.type "BaseException")=some true)(hq:Q v ⟨h,g,d,t+1,os⟩):wpAny (model prog w) A (getAttr (.ref x) name expr) Q E ⟨h,g,d,t,os⟩:=by
 have L0:=I.type (M:=model prog w);have L1:=looks_findIn (M:=model prog w) X hga;have L2:=looks_findIn (M:=model prog w) X hgt;have L4:Looks (model prog w) h (isInstance (.ref x) (.type "BaseException")) true:=L0.andThen (looks_mroIn X hB);have f3:=PySem.F.attr_Exception.ga.bind (.ref x);have F0:(expr&&onTheHeap (Value.builtin "BaseException.__getattribute__"))=false:=by cases expr<;>rfl
 have hx2:(Value.builtin "BaseException.__getattribute__"==Value.builtin "object.__getattribute__")=false:=by decide+kernel
 have hx1:(onTheHeap (Value.ref C)&&Value.builtin "BaseException.__getattribute__"==Value.builtin "object.__getattribute__")=false:=by rw[hx2];rfl
 unfold getAttr;refine aj (wpAny_mkText ?_);unfold getAttrBy;refine eX (aj (L0.at (aj (L1.at ?_))));dsimp only;rw[hx1,if_neg (by decide)];unfold getAttrByItsOwn hookBefore;rw[if_pos (show onTheHeap (Value.ref C)=true from rfl)];refine aj (L2.at (aj (wpAny_attempt (eX ?_))));unfold callGetattribute;rw[F0,if_neg (by decide)];unfold boundAndCalled;rw[f3];refine aj (aM ?_);refine dq (codeAny_call_builtin PySem.F.attr_Exception.ga.plain PySem.F.entry_bexc_ga ?_);have hk:builtinKind "BaseException.__getattribute__"=some .slot:=by decide+kernel
 have V9:splitId "BaseException.__getattribute__"=some ("BaseException","__getattribute__"):=by decide+kernel
 refine@check_slot (model prog w) _ _ _ "BaseException.__getattribute__" "BaseException" "__getattribute__" (.ref x) [.str name t] [] _ hk V9 L4 (PySem.F.args_bexc_ga _ _) ?_;refine Q0 X I hf ?_;show wpAny _ _ (handedOut v) _ _ _;rw[handedOut_of hh];exact aM hq
end
structure oq(c:Cx)(C:Addr):Prop where
 ex:∃(K:Frag) (cd:ClassData),(∀h,c.G h→K.In h)∧clsIn K C=some cd∧cd.hasDict=true∧findIn K (.ref C) "message"=some none∧findIn K (.ref C) "spot"=some none∧
  findIn K (.ref C) "__getattribute__"=some (some (.builtin "BaseException.__getattribute__"))∧findIn K (.ref C) "__getattr__"=some none∧mroIn K C (.type "BaseException")=some true
theorem IU{c:Cx}{C e dd:Addr}{A:Around}{s:Shared}{oe:Obj}{vs:Array Value}{md:Str→Option Value}{name:Str}{v:Value}{expr:Bool}{Q:Value→Shared→Prop}{E:Value→Shared→Prop}(FA:oq c C)(g:c.G s.heap)(hn:name="message"∨name="spot")
  (he:s.heap.get? e=some oe)(hc:oe.cls=.ref C)(eQ:oe.dict=some dd)(hd:oe.data=.fields vs)(n:s.heap.Ns dd md)(hv:md name=some v)(hh:handedIn v=true)(hq:Q v {s with toks:=s.toks+1}):wpAny c.M A (getAttr (.ref e) name expr) Q E s:=by
 refine J2 FA.ex λK cd X h1 h2 h3 h4 h5 h6 h7=>?_;refine ah (Iv n hv) λod ho hl=>?_;obtain⟨hp,gg,dr,tk,os⟩:=s;refine Rn (prog:=c.prog) (w:=c.w) (X _ g) (ox:=oe) (od:=some od) ⟨he,hc,(by unfold notCls;rw[hd]),(by rw[eQ];exact ho)⟩ h5 h6 (Hm h1 h2 ?_ hl) hh h7 hq;rcases hn with rfl|rfl
 ·exact h3
 ·exact h4
end Mine
namespace Mine
open PySem PySem.W PyProof.Rows
set_option tactic.hygienic false
section
variable{c:Cx}{C:Addr}{h h':Heap}{L:Addr}{x:Value}{d:D}{fl:Value}{mL:Str→Option Value}
theorem Cj(F:fH c.aT c.σ C h x d fl)(n:h.Ns L mL)(hm:mL "message"=none)(hs:Heap.SameBut L h h'):fH c.aT c.σ C h' x d fl:=by
 refine cK F λr q e B T=>?_;have nf:∀{b:Addr} {o:Obj} {ws:Array Value},h.get? b=some o→o.data=.fields ws→b≠L:=fun{b o ws} e1 e2 e=>cF n λo' es ep ho hd j=>by
  rw[e]at e1;cases aD e1 ho;rw[e2]at hd;cases hd
 have eQ:r.dd≠L:=λe=>eT n λo1 es1 ep1 g1 g2 j g4=>eT B.n λo2 es2 ep2 f1 f2 j f4=>by
  rw[e]at f1;cases aD g1 f1;rw[g2]at f2;cases f2;exact bg ((f4 _).symm.trans ((g4 _).trans hm)) B.hm
 exact⟨r,q,e,⟨B.st,(hs.2 _ (nf B.he B.hd)).trans B.he,B.hc,B.eQ,B.hd,B.h4,B.h2,B.n.sameBut hs eQ,B.hm,B.hs,B.t.seq (cJ.sameBut hs (ul n)),B.ms⟩,⟨T.v1,T.st,T.ne,(hs.2 _ (nf T.hT T.hd)).trans T.hT,T.hc,T.hd,T.h3⟩⟩
variable{A:Around}{s₀ s s' aS:Shared}
theorem Nx.loc(H:eG c)(bj:c.G s₀.heap)(x:Nx c s₀ s)(hL:s₀.heap.get? L=none)(n:s.heap.Ns L mL)(hs:Heap.SameBut L s.heap h')(tk:Tok):Nx c s₀ {s with heap:=h',toks:=tk}:=by
 refine aO x λh1 t1 Yj Yk=>?_;subst Yj;refine am (λk g=>?_) Yk;exact⟨h',tk,rfl,k.sameBut hs hL,H _ _ _ _ bj hL (BV n) hs g⟩
end
structure Hd(c:Cx)(A:Around)(env:Env)(L:Addr)(s₀ s:Shared)(mL:Str→Option Value):Prop where
 fr:bI c A s.heap
 frames:∃outer,A.frames=some (env::outer)
 frame:env.frame=some L
 loc:env.locals=L
 kind:env.scope.kind=.function
 bE:env.globals=mainGlobals
 new:s₀.heap.get? L=none
 bj:c.G s₀.heap
 nx:Nx c s₀ s
 ns:s.heap.Ns L mL
 msg:mL "message"=none
 cf:env.kindOf "ConstFault"=some .globalImplicit
theorem Hd.on{c:Cx}{A:Around}{env:Env}{L:Addr}{s₀ s s':Shared}{mL:Str→Option Value}(H:Hd c A env L s₀ s mL)(n:Nx c s s'):Hd c A env L s₀ s' mL:=
 ⟨H.fr.keep n.keep,H.frames,H.frame,H.loc,H.kind,H.bE,H.new,H.bj,H.nx.trans n,n.keep.ns H.ns,H.msg,H.cf⟩
theorem Hd.mark{c:Cx}{A:Around}{env:Env}{L:Addr}{s₀ s:Shared}{mL:Str→Option Value}(H:Hd c A env L s₀ s mL)(x:Option Value):Hd c (A.mark x) env L s₀ s mL:=
 ⟨H.fr,H.frames,H.frame,H.loc,H.kind,H.bE,H.new,H.bj,H.nx,H.ns,H.msg,H.cf⟩
theorem R9{α:Type}{M:Model}{A:Around}{p:Sem α}{Q:α→Shared→Prop}{E:Value→Shared→Prop}{s:Shared}(h:∀(Q':α→Shared→Prop) (E':Value→Shared→Prop),(∀v s,Q v s→Q' v s)→(∀x s,E x s→E' x s)→wpAny M A p Q' E' s):wpAny M A p Q E s:=
 h Q E (λj j q=>q) (λj j q=>q)
def uY(c:Cx)(A:Around)(env:Env)(e:Value)(E:Value→Shared→Prop):Value→Shared→Prop:=notedBy c.M (A.mark (some e)) env λx s'=>cameBackBy c.M A env E x s'
def acs(c:Cx)(A:Around)(env:Env)(n:Str)(pos:Pos)(Q:Flow→Shared→Prop)(E:Value→Shared→Prop)(f:Flow)(s2:Shared):Prop:=
 wpAny c.M A (do bindName env n .none;unbindBehindTheSuite env n pos) (λj s3=>Q f s3) E s2
def yQ(c:Cx)(A:Around)(env:Env)(n:Str)(pos:Pos)(e:Value)(E:Value→Shared→Prop)(x:Value)(s2:Shared):Prop:=
 wpAny c.M (A.mark (some e)) (noteFrame x env) (λj s3=>wpAny c.M (A.mark (some e)) (do bindName env n .none;unbindBehindTheSuite env n pos)
  (λj s4=>wpAny c.M (A.mark (some e)) (passOn "try.except-as" x env:Sem Flow) (λj j=>False) (uY c A env e E) s4)
  (λy s4=>wpAny c.M (A.mark (some e)) (setFlight x none) (λj s5=>uY c A env e E y s5) (uY c A env e E) s4) s3) (uY c A env e E) s2
def Dh(c:Cx)(A:Around)(env:Env)(hs:List ExceptHandler)(Q:Flow→Shared→Prop)(E:Value→Shared→Prop)(x:Value)(s:Shared):Prop:=
 wpAny c.M A (noteFrame x env) (λj s1=>wpAny c.M A (setFlight x none) (λj s2=>wpAny c.M A (handleBy x env hs) Q E s2) E s1) E s
section
variable{c:Cx}{C:Addr}{A:Around}{env:Env}{L:Addr}{s₀ s:Shared}{mL:Str→Option Value}{x:Value}{d:D}{E:Value→Shared→Prop}
theorem Hd.store(H0:eG c)(H:Hd c A env L s₀ s mL){n:Str}{v:Value}{Q:Unit→Shared→Prop}(hl:env.kindOf n=some .local)(hn:n≠"message")
  (hq:∀s',Hd c A env L s₀ s' (λy=>if y=n then some v else mL y)→(∃h',Heap.SameBut L s.heap h'∧s'.heap=h')→Q () s'):wpAny c.M A (storeName env n v) Q E s:=by
 have af:=H.ns;rw[←H.loc]at af;refine tY hl af (λh' g7 hs fS=>?_) (by rw[H.kind];rfl);rw[H.loc]at g7 hs fS;refine cF (id g7) λo' At Fj eP a8 j=>?_;exact hq _ ⟨H.fr.sameBut hs eP (λvs q=>by rw[a8]at q;cases q) (λbN e=>fS bN _ e eP),H.frames,H.frame,H.loc,H.kind,H.bE,H.new,H.bj,H.nx.loc H0 H.bj H.new H.ns hs _,g7,(bD (λq=>hn q.symm)).trans H.msg,H.cf⟩ ⟨h',hs,rfl⟩
theorem IV{body orelse:List Stmt}{h₀:ExceptHandler}{hs:List ExceptHandler}{pos:Pos}{Q:Flow→Shared→Prop}(h:∀E':Value→Shared→Prop,(∀x s,Dh c A env (h₀::hs) Q E x s→E' x s)→wpAny c.M A (execs body env) (λf an=>match f with|.next=>wpAny c.M A (execs orelse env) Q E an|f=>Q f an) E' s):
  wpAny c.M A (exec (.Try body (h₀::hs) orelse [] pos) env) Q E s:=wpAny_Try_except (h _ λx s k=>k)
theorem Iw(HM:az c)(H9:av c)(F:js c C)(HN:lH c C)(H:Hd c A env L s₀ s mL){n:Str}{MQ:Stmt}{LC:List Stmt}{p pos:Pos}{rest:List ExceptHandler}{Q:Flow→Shared→Prop}
  (hl:env.kindOf n=some .local)(hn:n≠"message")(fl:ej c.aT c.σ C s.heap x d)
  (k:∀e s1,x=.ref e→fH c.aT c.σ C s1.heap (.ref e) d .none→Hd c A env L s₀ s1 (λy=>if y=n then some (.ref e)else mL y)→
   wpAny c.M (A.mark (some (.ref e))) (execs (MQ::LC) env) (acs c A env n pos Q E) (yQ c A env n pos (.ref e) E) s1):
  Dh c A env (.ExceptHandler (some (.Name "ConstFault" p)) (some n) (MQ::LC) pos::rest) Q E x s:=by
 unfold Dh;refine ak H.frames λouter bF=>?_;refine CG HM H9 bF H.frame H.fr H.nx.g fl λs1 f1 n1=>?_;refine qt HM H9 none n1.g f1 λs2 f2 n2=>?_;have H2:=(H.on n1).on n2;refine cK (id f2) λr tb ex B T=>?_;subst ex;refine ah (HN _ H2.nx.g) λmg g1 g2=>?_;refine wpAny_handleBy_cons (codeAny_handlers_test (prog:=c.prog) (w:=c.w) (oN H2.kind H2.cf (oO (by rw[H2.bE];exact g1) g2 ?_))) (by simp[byPass]);refine ak F λk' R=>?_;obtain⟨hh,gg,dr,tk,os⟩:=s2;refine wpAny_excMatches_sub_self (R.hC _ H2.nx.g) B.he B.hc R.B.b ?_;refine codeAny_handlers_suite_as (prog:=c.prog) (w:=c.w) (qt (A:=A.mark (some (.ref r.e))) HM H9 none H2.nx.g f2 λs3 f3 n3=>?_);refine((H2.on n3).mark (some (.ref r.e))).store (HM.store H9) hl hn λs4 H4 z=>ah z λh' hs e4=>?_;have f4:=Cj f3 (H2.on n3).ns H.msg hs;rw[←e4]at f4;exact k r.e s4 rfl f4 ⟨H4.fr,H.frames,H4.frame,H4.loc,H4.kind,H4.bE,H4.new,H4.bj,H4.nx,H4.ns,H4.msg,H4.cf⟩
end
theorem Qv:entryFor table "proto.unchain"=some Builtin.«proto.unchain»:=entryFor_of_tree (by kernel_rfl)
section
variable{prog:Program}{w:World}{A:Around}{E:Value→Shared→Prop}{s:Shared}
theorem Sa{α:Type}{e e2:Addr}{oe o2:Obj}{vs OF:Array Value}{Q:α→Shared→Prop}(hh:A.handled=some (.ref e))(bk:e≠e2)(h2:s.heap.get? e2=some o2)(hd2:o2.data=.fields OF)(hz:2<OF.size)
  (he:s.heap.get? e=some oe)(hd:oe.data=.fields vs)(hc:vs[2]?=some .none)(hq:E (.ref e2) {s with heap:=s.heap.update e2 (Obj.mapFields (·.setIfInBounds 2 (.ref e)))}):
  wpAny (model prog w) A (raiseNew (.ref e2):Sem α) Q E s:=by
 unfold raiseNew;refine aj (wpAny_handled ?_);rw[hh];have hb:(Value.ref e !=Value.ref e2)=true:=by simp[bk]
 show wpAny _ _ (if(Value.ref e !=Value.ref e2)=true then _ else _) _ _ _;rw[if_pos hb];refine aj (eX (wpAny_runValue (codeAny_builtin Qv ?_)));unfold Builtin.«proto.unchain»;refine aj (wpAny_field he hd hc ?_);rw[if_pos (by rfl)];refine aj (aM ?_);refine aM ?_;show wpAny _ _ (updateField e2 2 (.ref e)>>=_) _ _ _;unfold updateField;refine aj (aj (wpAny_load h2 ?_));rw[hd2];dsimp only;rw[if_pos hz];exact wpAny_update h2 (wpAny_throw hq)
end
def B9(p1 p2 p3 p4 p5 p6 p7 p8 p9 fw fx fU:Pos):List Stmt:=
 [.Try [.Return (some (.Call (.Name "call" p1) [] [] p2)) p3]
  [.ExceptHandler (some (.Name "ConstFault" p4)) (some "fault") [.Raise (some (.Call (.Name "ConstFault" p5) [.Attribute (.Name "fault" p6) "message" p7,.Name "spot" p8] [] p9)) none fw] fx]
  [] [] fU]
def Wa(b:List Stmt):Prop:=∀G:List Stmt→Prop,(∀(p1 p2 p3 p4 p5 p6 p7 p8 p9 fw fx fU:Pos),G (B9 p1 p2 p3 p4 p5 p6 p7 p8 p9 fw fx fU))→G b
structure Yl(c:Cx)(fr:Addr)(o:Obj)(fd:FuncData)(bd:List Stmt):Prop where
 ho:∀h,c.G h→h.get? fr=some o
 cq:∀h,c.G h→h.CodeRec fd.code fd.qualname
 hd:o.data=.func fd
 hb:fd.body=.stmts bd
 txt:Wa bd
 kU:fd.globals=mainGlobals
 tD:fd.builtins=builtinsNs
 pa:fd.closure=[]
 kW:fd.scope.isCoroutine=false
 kH:fd.scope.isGenerator=false
 hk:fd.scope.kind=.function
 l1:fd.scope.names.lookup ("self":Str)=some .local
 l2:fd.scope.names.lookup ("call":Str)=some .local
 l3:fd.scope.names.lookup ("spot":Str)=some .local
 l4:fd.scope.names.lookup ("fault":Str)=some .local
 l5:fd.scope.names.lookup ("ConstFault":Str)=some .globalImplicit
 b:∀(s:Shared) (a b d:Value),BindsTo s fd ⟨[a,b,d],[]⟩ [("self",a),("call",b),("spot",d)]
def yr(c:Cx)(fr:Addr):Prop:=∃o fd bd,Yl c fr o fd bd
def wB(L:Addr)(h h':Heap):Prop:=∃h1 m1,h1.Ns L m1∧m1 "message"=none∧Heap.SameBut L h h1∧Heap.SameBut L h1 h'
theorem wB.tells{L:Addr}{h h':Heap}{m}(U:wB L h h')(n:h.Ns L m){σ:Nat→Addr}{v:Value}{d:D}(t:Tells σ h v d):Tells σ h' v d:=bW U λh1 m1 n1 j s1 s2=>(t.seq (cJ.sameBut s1 (ul n))).seq (cJ.sameBut s2 (ul n1))
theorem wB.flt{c:Cx}{C L:Addr}{h h':Heap}{m}(U:wB L h h')(n:h.Ns L m)(hm:m "message"=none){x:Value}{d:D}{fl:Value}(f:fH c.aT c.σ C h x d fl):fH c.aT c.σ C h' x d fl:=bW U λh1 m1 n1 e1 s1 s2=>Cj (Cj f n hm s1) n1 e1 s2
section
variable{c:Cx}{C:Addr}{A:Around}{env:Env}{L:Addr}{s₀ s:Shared}{mL:Str→Option Value}{E:Value→Shared→Prop}
theorem Hd.load{n:Str}{v:Value}{p:Pos}{Q:Value→Shared→Prop}(H:Hd c A env L s₀ s mL)(hl:env.kindOf n=some .local)(hv:mL n=some v)(hd:(n==("__debug__":Str))=false)(h:Q v s):wpAny c.M A (eval (.Name n p) env) Q E s:=
 wpAny_Name (wpAny_loadName_local H.kind hl (by rw[H.loc];exact H.ns) hv h) hd
theorem Hd.unbind(H0:eG c)(H:Hd c A env L s₀ s mL){n:Str}{pos:Pos}{Q:Unit→Shared→Prop}(hl:env.kindOf n=some .local)(hn:n≠"message")
  (hq:∀s',Nx c s₀ s'→wB L s.heap s'.heap→Q () s'):wpAny c.M A (do bindName env n .none;unbindBehindTheSuite env n pos) Q E s:=by
 refine aj (wpAny_bindName (H.store H0 hl hn λs1 H1 z=>ah z λh1 fW e1=>?_));unfold unbindBehindTheSuite;refine wpAny_onRaise (wpAny_unbindName_local hl (by rw[H1.loc];exact H1.ns) (cT rfl) (by rw[H1.kind];rfl) λh2 u tI F4=>?_);rw[H1.loc]at F4;refine hq _ (H1.nx.loc H0 H1.bj H1.new H1.ns F4 s1.toks) ⟨h1,_,e1▸H1.ns,H1.msg,fW,e1▸F4⟩
end
section
variable{c:Cx}{C:Addr}{A:Around}{env:Env}{L:Addr}{s₀ s:Shared}{mL:Str→Option Value}{E:Value→Shared→Prop}
theorem Qc(H0:bz c)(HM:az c)(H9:av c){α:Type}{e e2:Addr}{m sp:Value}{d2:D}{h:Heap}{tk:Tok}{Q:α→Shared→Prop}(hh:A.handled=some (.ref e))(g:c.G s.heap)
  (f:fH c.aT c.σ C s.heap (.ref e) (.int 0) .none)(hn:s.heap.get? e2=none)(hk:∀b o,s.heap.get? b=some o→h.get? b=some o)(M:Made C e2 m sp h)(t:Tells c.σ h sp d2)(ms:∃mx mt,m=.str mx mt)(hd2:d2≠.int 0)
  (hq:∀s',ej c.aT c.σ C s'.heap (.ref e2) d2→Nx c s s'→E (.ref e2) s'):wpAny c.M A (raiseNew (.ref e2):Sem α) Q E {s with heap:=h,toks:=tk}:=by
 refine cK (id f) λr q e' B T=>?_;cases e';refine eT M λtp As md2 la n2 k1 k2=>?_;have bk:r.e≠e2:=λe=>bg hn (e▸B.he);refine Sa hh bk la rfl aX (hk _ _ B.he) B.hd (B.h2 rfl) ?_;have hu:=jD (Obj.mapFields (·.setIfInBounds 2 (Value.ref r.e))) la rfl;have other:∀b,b≠e2→(h.update e2 (Obj.mapFields (·.setIfInBounds 2 (Value.ref r.e)))).get? b=h.get? b:=λb hb=>Heap.get?_update_other _ _ (bi hb);generalize h.update e2 (Obj.mapFields (·.setIfInBounds 2 (Value.ref r.e)))=h' at hu other⊢;have old:∀b o,s.heap.get? b=some o→h'.get? b=some o:=λb o e=>(other b λq=>bg hn (q▸e)).trans (hk b o e);have dn:As≠e2:=λe=>cF n2 λo es ep ho hd j=>by rw[e]at ho;cases aD la ho;cases hd
 refine hq {s with heap:=h',toks:=tk} ⟨⟨e2,_,As,_,md2,m,sp⟩,rfl,⟨λst=>ak (H9 _ _ g st) λo q=>bg hn q,hu,rfl,rfl,rfl,aX,λq=>absurd q hd2,bC n2 λo es ep ho r=>⟨o,es,ep,(other _ dn).trans ho,r⟩,k1,k2,?_,ms⟩,.inl rfl⟩ ⟨_,_,rfl,aE.gb old,H0 _ _ old g⟩;exact t.seq λa cc ws z=>bW z λo nn ho r1 r2 r3=>⟨o,nn,(other a λe=>by rw[e]at ho;cases aD la ho;cases r3).trans ho,r1,r2,r3⟩
theorem Ym{k:Str→Option NameKind}{a b d:Value}(h1:k "self"=some .local)(h2:k "call"=some .local)(h3:k "spot"=some .local):
  bindL k [("self",a),("call",b),("spot",d)] (λj=>none)=fun(y:Str)=>if y="spot" then some d else if y="call" then some b else if y="self" then some a else none:=by
 funext y
 unfold bindL bindL bindL bindL;rw[if_pos h1,if_pos h2,if_pos h3]
theorem Tl(HM:az c)(H9:av c){e e2:Addr}{jg:D}{n:Str}{pos:Pos}(f5:ej c.aT c.σ C s.heap (.ref e2) jg)(H5:Hd c (A.mark (some (.ref e))) env L s₀ s mL)(kn:env.kindOf n=some .local)(hn:n≠"message")
  (hE:∀s',fH c.aT c.σ C s'.heap (.ref e2) jg (rawInt L)→Nx c s₀ s'→E (.ref e2) s'):yQ c A env n pos (.ref e) E (.ref e2) s:=by
 refine ak H5.frames λouter act=>?_;unfold yQ;refine CG HM H9 act H5.frame H5.fr H5.nx.g f5 λs6 f6 n6=>?_;refine(H5.on n6).unbind (HM.store H9) kn hn λs7 n7 U=>?_;have f7:=U.flt (H5.on n6).ns (H5.on n6).msg f6;unfold PySem.passOn;refine cK (id f7) λr q ex B T=>?_;cases ex;refine aj (wpAny_field B.he B.hd T.v1 ?_);rw[if_neg (show¬((Value.ref q.T==Value.none)=true)from nofun)];refine aj (qt HM H9 env.frame n7.g f7 λs8 f8 n8=>wpAny_throw ?_);rw[H5.frame]at f8;unfold uY;refine It f8 H5.frame ?_;unfold cameBackBy;refine cK (id f8) λr' q ex B T=>?_;rw[ex];refine aj (wpAny_field B.he B.hd T.v1 ?_);rw[if_neg (show¬((Value.ref q.T==Value.none)=true)from nofun),←ex];refine qt HM H9 env.frame (n7.trans n8).g f8 λs9 f9 n9=>?_;rw[H5.frame]at f9;exact hE s9 f9 ((n7.trans n8).trans n9)
theorem Ro(H0:bz c)(HM:az c)(H9:av c)(HL:gi c)(F:js c C)(FA:oq c C)(HN:lH c C){e:Addr}{lb:Value}{jg:D}(H3:Hd c A env L s₀ s mL)(f3:fH c.aT c.σ C s.heap (.ref e) (.int 0) .none)(AE:mL "fault"=some (.ref e))(jf:mL "spot"=some lb)
  (m3:env.kindOf "spot"=some .local)(m4:env.kindOf "fault"=some .local)(rm:A.depth+1<recursionLimit)(F5:Tells c.σ s.heap lb jg)(hz:jg≠.int 0){p5 p6 p7 p8 p9 fw fx:Pos}{Q:Flow→Shared→Prop}
  (hE:∀e2 s',fH c.aT c.σ C s'.heap (.ref e2) jg (rawInt L)→Nx c s₀ s'→E (.ref e2) s'):
  wpAny c.M (A.mark (some (.ref e))) (execs [.Raise (some (.Call (.Name "ConstFault" p5) [.Attribute (.Name "fault" p6) "message" p7,.Name "spot" p8] [] p9)) none fw] env) Q (yQ c A env "fault" fx (.ref e) E) s:=by
 have H4:=H3.mark (some (Value.ref e));refine ah (HN _ H3.nx.g) λmg g1 g2=>?_;refine aI (B7 (A:=A.mark (some (.ref e))) H0 HL F rm rfl (oN H3.kind H3.cf (oO (by rw[H3.bE];exact g1) g2 ⟨rfl,?_⟩)));refine cK (id f3) λr tb ex B T=>eM B.ms λmx mt em=>?_;cases ex;refine dj (aV (Attribute_name (H4.load m4 AE rfl (IU FA H3.nx.g (.inl rfl) B.he B.hc B.eQ B.hd B.n B.hm (by rw[em];rfl) ?_))));have nt:=Nx.tok H3.nx.g (s.toks+1);refine aV ((H4.on nt).load m3 jf rfl (ce ⟨r.m,lb,rfl,H3.nx.g,.inl rfl,λe2 h tk dJ hn OG hM acu=>?_⟩));cases(acu.elim id λz=>absurd (show 2=1 from bp List.length z.1) (by decide):dJ=lb);exact Qc (s:={s with toks:=s.toks+1}) H0 HM H9 rfl nt.g f3 hn OG hM (F5.keep (aE.gb OG)) ⟨mx,mt,em⟩ hz λs5 f5 n5=>Tl HM H9 f5 ((H4.on nt).on n5) m4 (by decide) (hE e2)
theorem Sb(H0:bz c)(HM:az c)(H9:av c)(HL:gi c)(F:js c C)(FA:oq c C)(HN:lH c C)(HF:c.Flt=ej c.aT c.σ C){fr:Addr}(RK:yr c fr){a lb:Value}{lam:Addr}{jg:D}{o o':Out D}
  (g:c.G s.heap)(bF:bI c A s.heap)(rm:A.depth+2<recursionLimit)(hA:A.handled=none)(F5:Tells c.σ s.heap lb jg)(hz:jg≠.int 0)
  (DL:∀s',Nx c s s'→∃ol pU,s'.heap.get? lam=some ol∧ol.data=.func pU)
  (Di:∀env s',bI c (A.deeper env) s'.heap→Nx c s s'→wpAny c.M (A.deeper env) (call (.ref lam) []) (VP c s' o) (EP c s' o) s')
  (jc:∀v,o=.ok v→o'=.ok v)(hex:∀d,o=.exc d→d=.int 0∧o'=.exc jg):bK c A s (call (.ref fr) [a,.ref lam,lb]) o':=by
 refine ak RK λob z=>eM z λfd bd R=>?_;refine dq (codeAny_call_function (iq (lY _ 2) rm) (R.ho _ g) R.hd R.kW R.kH R.hb (R.cq _ g) (R.b s a (.ref lam) lb _ _ _ _ ?_));rw[R.pa];refine xy R.hk (λy hy=>.inl ?_) λenv bP an x je=>?_
 ·simp only[List.mem_cons,List.not_mem_nil,or_false]at hy;rcases hy with rfl|rfl|rfl
  ·exact R.l1
  ·exact R.l2
  ·exact R.l3
 have fL:∀y,env.kindOf y=fd.scope.names.lookup y:=λy=>by rw[bP];rfl
 have AC:env.scope.kind=.function:=by rw[bP];exact R.hk
 have n1:Nx c s an:=by
  refine eM x.toInCall.same λh₁ lU e=>?_;have k₁:=x.toInCall.keep;rw[e]at k₁⊢;exact Nx.ext H0 g h₁ lU k₁
 have hL:env.locals=s.heap.objs.size:=by rw[bP];rfl
 have pV:env.frame=some env.locals:=by rw[bP];rfl
 have kU:env.globals=mainGlobals:=by rw[bP];exact R.kU
 have m3:=(fL "spot").trans R.l3;have m4:=(fL "fault").trans R.l4;have af:=x.toInCall.ns;rw[Ym ((fL "self").trans R.l1) ((fL "call").trans R.l2) m3]at af;have dH:s.heap.get? env.locals=none:=by rw[hL];exact cX (dp _)
 clear bP;have HD:Hd c (A.deeper env) env env.locals s an (fun(y:Str)=>if y="spot" then some lb else if y="call" then some (.ref lam)else if y="self" then some a else none):=by
  refine cF (id af) λoL es ep OH jh j=>ah (id bF) λmJ jL FF=>?_;refine⟨⟨_,l7 jL,λen he=>(List.mem_cons.mp he).elim (λe=>?_) λhe=>Cd (FF en he) λa1 L' o' b1 d1 f1 z1=>⟨a1,L',o',b1,x.toInCall.keep _ _ d1,f1,z1⟩⟩,⟨_,l7 jL⟩,pV,rfl,AC,kU,dH,g,n1,af,rfl,(fL _).trans R.l5⟩;subst e;exact⟨by rw[AC];decide,_,oL,pV,OH,λvs q=>(by rw[jh]at q;cases q),je _ OH,λz=>ak (H9 _ _ g z) λo e=>bg dH e⟩
 refine⟨HL _ n1.g,codeAny_func (R9 λQQ EE hQQ hEE=>?_)⟩;refine R.txt (λb=>wpAny c.M (A.deeper env) (execs b env) QQ EE an) λp1 p2 p3 p4 p5 p6 p7 p8 p9 fw fx fU=>?_;unfold B9;refine aI (IV λE' hE=>aI (fE ?_));rw[show eval (.Call (.Name "call" p1) [] [] p2) env=(eval (.Name "call" p1) env>>=λfv=>callWith p2 fv [] (backTo p2 (starEach [] env)) [])from rfl];refine aj (HD.load ((fL "call").trans R.l2) rfl rfl ?_);refine aO (DL _ n1) λol pU F6 tJ=>?_;refine gm (o:=ol) (fd:=pU) (evalArgs_kw_nil rfl (wpAny_evalAll_nil ⟨⟨F6,tJ⟩,?_⟩));refine aL (Di env an HD.fr n1) (λv s2 h=>bS h λd e1 t1 n2=>hQQ (.ret v) s2 ⟨d,jc d e1,t1,n1.trans n2⟩) λxv s2 h=>bS h λd e1 f1 n2=>am (λed eP=>?_) (hex d e1);subst ed;rw[HF]at f1;refine hE _ _ (Iw HM H9 F HN (HD.on n2) m4 (by decide) f1 λe s3 hx f3 H3=>?_);refine Ro H0 HM H9 HL F FA HN H3 f3 (cT rfl) ((bD (by decide)).trans (cT rfl)) m3 m4 rm (F5.keep H3.nx.keep) hz λe2 s9 f9 n9=>hEE _ _ ?_;unfold leaving;refine aj (It f9 pV (qt HM H9 none n9.g f9 λs10 f10 n10=>⟨jg,eP,?_,n9.trans n10⟩));rw[HF];exact f10.at
end
def iV(h:Heap)(cv:Value)(q:Str):Prop:=∃c' o vs t,cv=.ref c'∧h.get? c'=some o∧o.cls=.type "code"∧o.data=.fields vs∧vs[1]?=some (.str q t)
theorem iV.Yn{h:Heap}{cv:Value}{q:Str}(x:iV h cv q):h.CodeRec cv q:=let⟨c',o,vs,t,a,b,_,d,e⟩:=x;⟨c',o,vs,t,a,b,d,e⟩
theorem iV.uC{h h':Heap}{cv:Value}{q:Str}(k:uA h h')(x:iV h cv q):iV h' cv q:=by
 refine jw x λc' o vs t Yo Yp=>?_;subst Yo;refine fc Yp λb hc hd e=>?_;refine bS (k c' o b hc ⟨vs,hd⟩) λo' e' c1 d1=>?_;exact⟨c',o',vs,t,rfl,e',c1.trans hc,d1.trans hd,e⟩
noncomputable def eH(env:Env):List (Str×NameKind)→List (Str×Addr)→List (Str×Addr)
 |[],acc=>acc
 |(x,k)::r,acc=>if k==.free then eH env r ((x,(env.cells.lookup x).getD 0)::acc)else eH env r acc
theorem Iy{env:Env}(f:Str×NameKind→List (Str×Addr)→Sem (ForInStep (List (Str×Addr))))
  (hf:∀x k cs,f (x,k) cs=if k==.free then(do let a←cellOf env x;pure (.yield ((x,a)::cs)))else pure (.yield cs)):
  ∀(names:List (Str×NameKind)) (acc:List (Str×Addr)),(∀q∈names,q.2=.free→(env.cells.lookup q.1).isSome=true)→forIn names acc f=pure (eH env names acc)
 |[],acc,_=>by rw[List.forIn_nil];rfl
 |(x,k)::r,acc,h=>by
  rw[List.forIn_cons,hf];have hr:=Iy f hf r;unfold eH;by_cases hk:(k==.free)=true
  ·rw[if_pos hk,if_pos hk];refine ak (Option.isSome_iff_exists.mp (h (x,k) dW (by simpa using hk))) λa ha=>?_;have:cellOf env x=pure a:=by unfold cellOf;rw[ha]
   rw[this,ha];simp only[pure_bind];exact hr _ λq hq=>h q (bH _ hq)
  ·rw[if_neg hk,if_neg hk];simp only[pure_bind];exact hr _ λq hq=>h q (bH _ hq)
theorem Rp{env:Env}{sl:Scope}(h:∀q∈sl.names,q.2=.free→(env.cells.lookup q.1).isSome=true):closureFor sl env=pure (eH env sl.names []):=by
 simp only[closureFor];rw[Iy _ (λx k cs=>by cases hk:k==NameKind.free<;>simp[hk]) _ _ h];rfl
theorem By{env:Env}:∀{names:List (Str×NameKind)} {acc:List (Str×Addr)},(∀q∈names,q.2=.free→(env.cells.lookup q.1).isSome=true)→(∀p∈acc,env.cells.lookup p.1=some p.2)→
  (∀p∈eH env names acc,env.cells.lookup p.1=some p.2)∧(∀p∈acc,p∈eH env names acc)∧∀x,(x,.free)∈names→∃a,(x,a)∈eH env names acc
 |[],acc,_,ha=>⟨ha,λz h=>h,λx h=>(nomatch h)⟩
 |(y,k)::r,acc,h,ha=>by
  unfold eH;by_cases hk:(k==.free)=true
  ·rw[if_pos hk];refine ak (Option.isSome_iff_exists.mp (h (y,k) dW (by simpa using hk))) λa hl=>?_;have Fi:∀p∈(y,(env.cells.lookup y).getD 0)::acc,env.cells.lookup p.1=some p.2:=λp hp=>by
    rcases List.mem_cons.mp hp with rfl|hp
    ·rw[hl];rfl
    ·exact ha p hp
   refine bY (By (names:=r) (λq hq=>h q (bH _ hq)) Fi) λq1 q2 q3=>?_;refine⟨q1,λp hp=>q2 p (bH _ hp),λx hx=>?_⟩;rcases List.mem_cons.mp hx with e|hx
   ·cases e;exact⟨_,q2 _ dW⟩
   ·exact q3 x hx
  ·rw[if_neg hk];refine bY (By (names:=r) (λq hq=>h q (bH _ hq)) ha) λq1 q2 q3=>?_;refine⟨q1,q2,λx hx=>?_⟩;rcases List.mem_cons.mp hx with e|hx
   ·cases e;exact absurd rfl hk
   ·exact q3 x hx
theorem lookup_mem{α:Type}:∀{l:List (Str×α)} {x:Str} {a:α},(x,a)∈l→∃b,l.lookup x=some b
 |(y,b)::r,x,a,h=>by
  rw[List.lookup_cons];cases hb:x==y with
  |true=>exact⟨b,rfl⟩
  |false=>
   rcases List.mem_cons.mp h with e|h
   ·cases e;rw[beq_self_eq_true]at hb;cases hb
   ·exact lookup_mem h
theorem Qw{env:Env}{names:List (Str×NameKind)}(h:∀q∈names,q.2=.free→(env.cells.lookup q.1).isSome=true){x:Str}(hx:(x,.free)∈names):(eH env names []).lookup x=env.cells.lookup x:=by
 refine bY (By h (acc:=[]) (λp hp=>(nomatch hp))) λq1 z q3=>?_;refine ak (q3 x hx) λa ha=>?_;refine ak (lookup_mem ha) λb hb=>?_;rw[hb];exact(q1 _ (mem_of_lookup hb)).symm
theorem Hp:∀{names:List (Str×NameKind)} {n:Nat} {acc:List (Str×Addr)},(∀q∈names,q.2≠.cell)→cellsFrom n names acc=acc
 |[],_,_,_=>rfl
 |(x,k)::r,n,acc,h=>by
  unfold cellsFrom;rw[if_neg (by simpa using h (x,k) List.mem_cons_self)];exact Hp λq hq=>h q (bH _ hq)
theorem Hq:∀{names:List (Str×NameKind)} {h:Heap},(∀q∈names,q.2≠.cell)→pushCells h names=h
 |[],_,_=>rfl
 |(x,k)::r,h,hn=>by
  unfold pushCells;rw[if_neg (by simpa using hn (x,k) List.mem_cons_self)];exact Hq λq hq=>hn q (bH _ hq)
theorem UK{M:Model}{A:Around}{E:Value→Shared→Prop}{s:Shared}{scope:Scope}{globals:Addr}{cl:List (Str×Addr)}{qual:Str}{func:Option Addr}{code:Value}{builtins:Addr}{Q:Env→Shared→Prop}(hn:∀q∈scope.names,q.2≠.cell)
  (hQ:Q (newEnv scope s.heap.objs.size globals cl qual func code none builtins) {s with heap:=s.heap.push {cls:=.type "frame",data:=.dict #[]}}):wpAny M A (newFunctionEnv scope globals cl [] qual func code none builtins) Q E s:=by
 simp only[newFunctionEnv,Option.isSome_none,Bool.false_eq_true,if_false];refine aj (wpAny_alloc ?_);refine aj (wpAny_layCells _ (λname kind cells=>by cases wq:kind==NameKind.cell<;>simp[wq]) _ _ _ _ ?_);rw[Hp hn,Hq hn];simp only[List.forIn_nil];exact aj (aM (aM hQ))
theorem bind_none{name qual:Str}{body:Expr}{scope:Scope}{cl:List (Str×Addr)}{pm cv ct:Value}:
  bindArgs (kla_fn name qual {posonlyargs:=[],args:=[],vararg:=none,kwonlyargs:=[],kw_defaults:=[],kwarg:=none,defaults:=[]} body scope cl pm cv ct) ⟨[],[]⟩=pure []:=by
 first|rfl|kernel_rfl|(unfold bindArgs;simp;rfl)
structure Bs where
 hs:Heap
 tabs:List (Addr×Addr×Str)
def qW(h:Heap)(t:Addr×Addr×Str):Prop:=∃ps:Array Value,h.get? t.2.1=some (tabObj ps)∧TriplesOk ps.toList∧∀pos cv,codeAmong pos ps.toList=some cv→iV h cv (t.2.2++"<lambda>")
def Bs.G(B:Bs)(h:Heap):Prop:=(∀b o,B.hs.get? b=some o→h.get? b=some o)∧∀t∈B.tabs,qW h t
def Bs.aT(B:Bs)(b:Addr):Prop:=(∃o,B.hs.get? b=some o)∨∃t∈B.tabs,t.2.1=b
def Bs.cd(B:Bs)(cv:Value)(q:Str):Prop:=∃ca P,cv=.ref ca∧(ca,P,q)∈B.tabs
def lc(prog:Program)(w:World)(P:bJ)(N:Nm)(σ:Nat→Addr)(fa:Nat→Addr)(C:Addr)(B:Bs):Cx:=
 {prog,w,P,N,σ,G:=B.G,Flt:=ej B.aT σ C,fa,aT:=B.aT,cd:=B.cd}
structure Bs.Ok(B:Bs):Prop where
 hd:∀t∈B.tabs,CodeHd B.hs t.1 t.2.1∧B.hs.get? t.2.1=none
 apart:∀t∈B.tabs,∀u∈B.tabs,t.2.1=u.2.1→t=u
 bE:∃mg bm ob,B.hs.Ns mainGlobals mg∧mg "__builtins__"=some (.ref bm)∧bm≠builtinsNs∧bm≠mainGlobals∧B.hs.get? bm=some ob∧ob.cls=.type "module"∧ob.dict=some builtinsNs∧ob.data=.plain
theorem Bz{h h':Heap}{t:Addr×Addr×Str}(x:qW h t)(e:∀o,h.get? t.2.1=some o→h'.get? t.2.1=some o)(k:uA h h'):qW h' t:=by
 refine bS x λps a b d=>?_;exact⟨ps,e _ a,b,λpos cv q=>(d pos cv q).uC k⟩
section
variable{prog:Program}{w:World}{P:bJ}{N:Nm}{σ:Nat→Addr}{fa:Nat→Addr}{C:Addr}{B:Bs}
theorem ii:az (lc prog w P N σ fa C B):=λh h' hk kc ⟨g1,g2⟩=>⟨λb o e=>hk b o (.inl ⟨o,e⟩) (g1 b o e),λt ht=>Bz (g2 t ht) (λo e=>hk _ _ (.inr ⟨t,ht,rfl⟩) e) kc⟩
theorem jp:av (lc prog w P N σ fa C B):=λh a ⟨g1,g2⟩ st=>by
 rcases st with⟨o,e⟩|⟨t,ht,rfl⟩
 ·exact⟨o,g1 _ _ e⟩
 ·refine ah (g2 t ht) λps e j=>?_;exact⟨_,e⟩
theorem Sc{h h':Heap}(k:∀b o,h.get? b=some o→h'.get? b=some o):uA h h':=λb o e j j=>⟨o,k b o e,rfl,rfl⟩
theorem Tm{h h':Heap}{Pt:Addr}{ps ps':Array Value}(k:Heap.ExtBut Pt h h')(e:h.get? Pt=some (tabObj ps))(e':h'.get? Pt=some (tabObj ps')):aE h h':=by
 refine⟨trivial,λb o hb=>?_⟩;by_cases q:b=Pt
 ·subst q;cases aD e hb;exact⟨_,e',rfl,rfl,λk=>absurd rfl (k ps),λk=>(by rcases k.1 with z|z|z<;>cases z),λj=>rfl⟩
 ·exact⟨o,k b o q hb,rfl,rfl,λj=>rfl,λj=>⟨rfl,rfl⟩,λj=>rfl⟩
end
theorem Rq{pos p':Pos}{cn cv:Value}(l:List Value)(h:TriplesOk l)(hq:codeAmong p' (l++[rawInt pos.line,rawInt pos.col,cn])=some cv):codeAmong p' l=some cv∨cv=cn:=by
 fun_induction TriplesOk l with
 |case1=>
  simp only[List.nil_append,rawInt,codeAmong]at hq;split at hq
  ·cases au hq;exact .inr rfl
  ·exact aF hq
 |case2 a t b u x rest ih=>
  simp only[List.cons_append,codeAmong]at hq⊢;split at hq
  ·rename_i hc;rw[if_pos hc];exact .inl hq
  ·rename_i hc;rw[if_neg hc];exact ih h hq
 |case3 l h1 h2=>exact h.elim
section
variable{prog:Program}{w:World}{P:bJ}{N:Nm}{σ:Nat→Addr}{fa:Nat→Addr}{C:Addr}{B:Bs}{A:Around}{E:Value→Shared→Prop}{s:Shared}{env:Env}
theorem To(OK:B.Ok){n1:Str}{ar:Arguments}{sl:Scope}{body:FuncBody}{pos:Pos}{fl:Nat}{Q:Value→Shared→Prop}(g:B.G s.heap)(cq:B.cd env.code env.qual)
  (hq:∀cv s',iV s'.heap cv (env.qual++"<lambda>")→Nx (lc prog w P N σ fa C B) s s'→Q cv s'):wpAny (model prog w) A (functionCode env pos fl n1 (env.qual++"<lambda>") ar sl body) Q E s:=by
 refine aO cq λca Pt hc ht=>?_;refine bS (g.2 _ ht) λps h1 h2 h3=>?_;refine am (λhd hP=>?_) (OK.hd _ ht);have a8:=hd.keeps g.1;cases hf:codeAmong pos ps.toList with
 |some cv=>exact wpAny_functionCode_hit hc (a8.code h1 h2) hf (hq cv s (h3 _ _ hf) (Nx.refl g))
 |none=>
  refine wpAny_functionCodeX hc (a8.code h1 h2) (a8.tab h1) hf λc' h' tk hx OI dc j acv Az dH=>?_;refine jv dH λP' j j Yq j=>?_;refine bW Yq λoc vc AF tK OJ j=>?_;refine J0 acv λc₂ yN Yr acw acx acy DG acz=>?_;cases acx;cases aD AF acy;have ck:iV h' (.ref c') (env.qual++"<lambda>"):=⟨c',oc,Yr,acw,rfl,AF,tK,DG,acz⟩;have kp:aE s.heap h':=Tm hx h1 Az.2;refine hq _ _ ck ⟨h',tk,rfl,kp,λb o e=>?_,λt OL=>?_⟩
  ·exact hx b o (λq=>by rw[q,hP]at e;exact aF e) (g.1 b o e)
  ·by_cases q:t.2.1=Pt
   ·obtain rfl:=OK.apart _ OL _ ht q;refine⟨_,Az.2,?_,λp' cv F8=>?_⟩
    ·have:=TriplesOk_snoc pos.line pos.col (.ref c') _ h2;simpa using this
    ·have:codeAmong p' (ps.toList++[rawInt pos.line,rawInt pos.col,.ref c'])=some cv:=by simpa using F8
     rcases Rq _ h2 this with h|rfl
     ·exact(h3 _ _ h).uC kp.codes
     ·exact ck
   ·exact Bz (g.2 _ OL) (λo e=>hx _ _ q e) kp.codes
theorem Tp(OK:B.Ok){body:Expr}{sl:Scope}{pos:Pos}{Q:Value→Shared→Prop}(g:B.G s.heap)(acA:env.globals=mainGlobals)(cq:B.cd env.code env.qual)
  (Ys:∀q∈sl.names,q.2=.free→(env.cells.lookup q.1).isSome=true)
  (hq:∀lam cv pm ct s',Nx (lc prog w P N σ fa C B) s s'→iV s'.heap cv (env.qual++"<lambda>")→
   s'.heap.get? lam=some {cls:=.type "function",data:=.func (kla_fn "<lambda>" (env.qual++"<lambda>") {posonlyargs:=[],args:=[],vararg:=none,kwonlyargs:=[],kw_defaults:=[],kwarg:=none,defaults:=[]} body sl (eH env sl.names []) pm cv ct)}→Q (.ref lam) s'):
  wpAny (model prog w) A (eval (.Lambda {posonlyargs:=[],args:=[],vararg:=none,kwonlyargs:=[],kw_defaults:=[],kwarg:=none,defaults:=[]} body sl pos) env) Q E s:=by
 refine kla_eval rfl ?_;refine Vn OK.bE λmg bm ob b1 b2 b3 b4 b5 b6 b7 b8=>?_;rw[makeFunction_eq];simp only[List.zip_nil_right,List.filterMap_nil,List.isEmpty_nil,if_true,pure_bind];unfold makeTail;rw[Rp Ys,acA];refine aj (aM ?_);have fin:∀(ct:Value) (s':Shared),Nx (lc prog w P N σ fa C B) s s'→wpAny (model prog w) A (do
   let code←functionCode env pos pos.line "<lambda>" (env.qual++"<lambda>") {posonlyargs:=[],args:=[],vararg:=none,kwonlyargs:=[],kw_defaults:=[],kwarg:=none,defaults:=[]} sl (.expr body);let builtins←builtinsFor mainGlobals env.builtins;let nm←nsGet mainGlobals "__name__";let doc←pure Value.none
   newObj (.type "function") (.func {name:="<lambda>",qualname:=env.qual++"<lambda>",params:={posonlyargs:=[],args:=[],vararg:=none,kwonlyargs:=[],kw_defaults:=[],kwarg:=none,defaults:=[]},body:=.expr body,scope:=sl,globals:=mainGlobals,closure:=eH env sl.names [],closureTuple:=ct,code:=code,builtins:=builtins,defaults:=.none,kwdefaults:=.none,annotations:=none,pyModule:=nm.getD .none,doc:=doc})) Q E s':=by
  intro ct s' n1;refine aj (To (prog:=prog) (w:=w) (P:=P) (N:=N) (σ:=σ) (fa:=fa) (C:=C) OK n1.g cq λcv s2 ck n2=>?_);have g2:=n2.g;refine aj (wpAny_builtinsFor (b1.keeps g2.1) b2 b3 (g2.1 _ _ b5) b6 b7 b8 ?_);refine aj (wpAny_nsGet (b1.keeps g2.1) ?_);refine aj (aM (wpAny_newObj_type (hq _ cv _ ct _ ((n1.trans n2).trans (Nx.push ii.push g2 _ _)) (ck.uC (Sc λb o e=>bA _ e)) (dy _ rfl)) (by size_fits)))
 cases fS:(eH env sl.names [])with
 |nil=>
  rw[fS]at fin hq;simp only[List.isEmpty_nil,if_true];exact aj (aM (fin _ _ (Nx.refl g)))
 |cons q r=>
  rw[fS]at fin hq;simp only[List.isEmpty_cons,Bool.false_eq_true,if_false];exact aj (wpAny_newTextTuple (fin _ _ (Nx.push ii.push g _ _)))
end
theorem Iz{sl:Scope}{vs:List (Option Str)}{i:Nat}{x:Str}(h:(gK sl vs)[i]?=some (some x)):vs[i]?=some (some x)∧sl.names.lookup x=some .free:=by
 unfold gK at h;rw[List.getElem?_map]at h;cases e:vs[i]?with
 |none=>rw[e]at h;exact aF h
 |some o=>
  rw[e]at h;refine jb (au h) λy ey h=>am (λhb h=>?_) (fg h);cases au h;exact⟨bp some ey,eq_of_beq hb⟩
theorem HW{sc sl:Scope}{vs:List (Option Str)}(h:freeOk sc sl vs=true):(∀q∈sl.names,q.2≠.cell)∧∀q∈sl.names,q.2=.free→sc.names.lookup q.1=some .cell∧some q.1∈vs∧(q.1==("__classdict__":Str))=false:=by
 unfold freeOk at h;rw[List.all_eq_true]at h;refine⟨λq hq hc=>?_,λq hq hf=>?_⟩
 ·have:=a1 (h q hq);rw[hc]at this;exact aw this
 ·have:=a2 (h q hq);rw[hf]at this;have this:(sc.names.lookup q.1==some .cell&&vs.contains (some q.1)&&!(q.1==("__classdict__":Str)))=true:=this;exact⟨eq_of_beq (a1 (a1 this)),List.contains_iff_mem.mp (a2 (a1 this)),kq (a2 this)⟩
section
variable{c:Cx}{A:Around}{s:Shared}{sc sl:Scope}{env:Env}{vs:List (Option Str)}{ρ:List (Option D)}{n:Nat}
theorem BA{h:Heap}(F:Fm c sc env h vs ρ)(hf:freeOk sc sl vs=true):∀q∈sl.names,q.2=.free→(env.cells.lookup q.1).isSome=true:=λq hq hk=>by
 refine bY ((HW hf).2 q hq hk) λh1 h2 j=>?_;refine ak (List.getElem?_of_mem h2) λi hi=>?_;exact F.wf i q.1 hi (by show env.scope.names.lookup _=_;rw[F.scope];exact h1)
theorem IW(H0:bz c)(H9:av c)(HL:gi c)(HX:qA c)(hE:SE c n){e:E}{body:Expr}{lam:Addr}{cv pm ct:Value}{q:Str}(hD:gJ noArgs sl=true)(jT:freeOk sc sl vs=true)(hm:mE c.N sl (gK sl vs) e body=true)
  (F:Fm c sc env s.heap vs ρ)(g:c.G s.heap)(fr:bI c A s.heap)(r1:A.depth+1+2*n<recursionLimit)(r2:A.units+6*n+33<cLine)(r3:A.handled=none)
  (ho:s.heap.get? lam=some {cls:=.type "function",data:=.func (kla_fn "<lambda>" q noArgs body sl (eH env sl.names []) pm cv ct)})(F8:iV s.heap cv q)(af:(rec c.P n).ev ρ e≠.stuck):
  bK c A s (call (.ref lam) []) ((rec c.P n).ev ρ e):=by
 refine BO (G:=λj=>_) hD λhk kH kW=>?_;refine am (λtF bF=>?_) (HW jT);have oG:sl.names.lookup ("self":Str)≠some .cell:=by
  intro z;exact tF _ (mem_of_lookup z) rfl
 have je:=BA F jT;refine dq (kla_callFunE (by omega) ho rfl kW kH rfl F8.Yn ?_);rw[bind_none];refine aM (UK tF ?_);generalize bP:newEnv sl s.heap.objs.size mainGlobals (eH env sl.names []) (q++".<locals>.") (some lam) cv none builtinsNs=fi;have un:fi.scope=sl:=by rw[←bP];rfl
 have xS:fi.cells=eH env sl.names []:=by rw[←bP];rfl
 have fQ:fi.locals=s.heap.objs.size:=by rw[←bP];rfl
 have Wb:fi.frame=some s.heap.objs.size:=by rw[←bP];rfl
 have fL:∀y,fi.kindOf y=sl.names.lookup y:=λy=>by show fi.scope.names.lookup y=_;rw[un]
 have uD:∀b o,s.heap.get? b=some o→(s.heap.push {cls:=.type "frame",data:=.dict #[]}).get? b=some o:=λb o e=>bA _ e;have g1:c.G (s.heap.push {cls:=.type "frame",data:=.dict #[]}):=H0 _ _ uD g;refine ah (id fr) λmJ jL FF=>?_;have wC:bI c (A.deeper fi) (s.heap.push {cls:=.type "frame",data:=.dict #[]}):=by
  refine⟨_,l7 jL,λen he=>(List.mem_cons.mp he).elim (λe=>?_) λhe=>?_⟩
  ·subst e;exact⟨by rw[un,hk];decide,_,_,Wb,dy _ rfl,λvs q=>(by cases q),rfl,λz=>by refine ak (H9 _ _ g z) λo e=>?_;exact Nat.lt_irrefl _ (cA e)⟩
  ·refine Cd (FF en he) λa1 L' o' b1 d1 f1 z1=>?_;exact⟨a1,L',o',b1,uD _ _ d1,f1,z1⟩
 refine⟨HL _ g1,kla_codeExpr ?_⟩;have ST:St c (A.deeper fi) n sl fi (s.heap.push {cls:=.type "frame",data:=.dict #[]}) (gK sl vs) ρ:=by
  refine⟨g1,⟨un,by rw[un];exact hk,by rw[←bP];rfl,by rw[←bP];rfl,λz=>?_,λi x h1 h2=>?_,λi x d h1 h2=>?_⟩,⟨by rw[depth_deeper];omega,by rw[units_deeper];omega,r3⟩,wC⟩
  ·rw[un]at z;exact absurd z oG
  ·rw[fL,(Iz h1).2]at h2;cases h2
  ·refine am (λh3 h4=>?_) (Iz h1);refine ah (F.var i x d h3 h2) λv hv tv=>?_;refine bY (bF _ (mem_of_lookup h4) rfl) λk1 k2 k3=>?_;have hke:env.kindOf x=some .cell:=by show env.scope.names.lookup x=_;rw[F.scope];exact k1
   rcases hv with⟨z,_⟩|⟨a,_,z2,z3⟩
   ·rw[hke]at z;cases z
   ·exact⟨v,.inr ⟨a,.inr ⟨(fL x).trans h4,k3⟩,by rw[xS,Qw je (mem_of_lookup h4)];exact z2,(aE.gb uD).cell z3⟩,tv.keep (aE.gb uD)⟩
 have n1:Nx c s {s with heap:=s.heap.push {cls:=.type "frame",data:=.dict #[]}}:=Nx.ext H0 g _ s.toks uD;refine(hE (A.deeper fi) {s with heap:=s.heap.push {cls:=.type "frame",data:=.dict #[]}} sl fi (gK sl vs) ρ e body ST hm af).use (λv d s' e1 t1 m=>⟨d,e1,t1,n1.trans m⟩) λx d s' e1 f1 m=>?_;exact HX (A.deeper fi) s' fi mJ x d _ _ (l7 jL) (wC.keep m.keep) m.g f1 λs3 f3 n3=>⟨d,e1,f3,(n1.trans m).trans n3⟩
end
def lW(c:Cx):Prop:=∀(A:Around) (s:Shared) (env:Env) (body:Expr) (sl:Scope) (pos:Pos) (Q:Value→Shared→Prop) (E:Value→Shared→Prop),c.G s.heap→env.globals=mainGlobals→c.cd env.code env.qual→
 (∀q∈sl.names,q.2=.free→(env.cells.lookup q.1).isSome=true)→
 (∀lam cv pm ct s',Nx c s s'→iV s'.heap cv (env.qual++"<lambda>")→s'.heap.get? lam=some {cls:=.type "function",data:=.func (kla_fn "<lambda>" (env.qual++"<lambda>") noArgs body sl (eH env sl.names []) pm cv ct)}→Q (.ref lam) s')→
 wpAny c.M A (eval (.Lambda noArgs body sl pos) env) Q E s
theorem CJ{prog:Program}{w:World}{P:bJ}{N:Nm}{σ:Nat→Addr}{fa:Nat→Addr}{C:Addr}{B:Bs}(OK:B.Ok):lW (lc prog w P N σ fa C B):=
 λA s env body sl pos Q E g h1 h2 h3 hq=>Tp OK g h1 h2 h3 hq
def yt(c:Cx)(fr:Addr):Prop:=∀(A:Around) (s:Shared) (pl:Sem Bool) (Q:Value×List Value→Shared→Prop) (E:Value→Shared→Prop),c.G s.heap→aP A 0→Q (.ref fr,[.ref (c.σ 0)]) s→wpAny c.M A (getMethod (.ref (c.σ 0)) "reckoned" pl) Q E s
theorem Rr{o:D}{x:Out D}(h:xI o x≠.stuck):o=.obj 0∧xI o x=x:=by
 cases o with
 |obj k=>
  have e:xI (.obj k) x=ap (Nat.beq k 0) x .stuck:=rfl;cases hb:Nat.beq k 0 with
  |false=>rw[e,hb]at h;exact absurd rfl h
  |true=>obtain rfl:=gE hb;exact⟨rfl,rfl⟩
 |_=>exact absurd rfl h
theorem UL{d:D}(h:pM d=true):d=.int 0:=by
 cases d with
 |int i=>have h:mH i (.ofNat 0)=true:=h;rw[qH]at h;exact bp D.int (eq_of_beq h)
 |_=>exact aw h
theorem Sd{d:D}(h:pM d=false):d≠.int 0:=λe=>by rw[e]at h;exact Bool.noConfusion (show true=false from h)
theorem Ck{h h':Heap}(k:aE h h'){a:Addr}{f:FuncData}(e:h.get? a=some {cls:=.type "function",data:=.func f}):h'.get? a=some {cls:=.type "function",data:=.func f}:=by
 refine eV (k.2 _ _ e) λo' e' c' d' f' j s'=>?_;have h1:=f' (λvs q=>by cases q);have h2:=s' (show Value.type "function"≠Value.type "frame" by decide);obtain⟨a1,a2,a3,a4⟩:=o';dsimp only at c' d' h1 h2;subst c' d' h1 h2;exact e'
section
variable{c:Cx}{C:Addr}{A:Around}{s:Shared}{sc:Scope}{env:Env}{vs:List (Option Str)}{ρ:List (Option D)}{n:Nat}
theorem Tq(H0:bz c)(HM:az c)(H9:av c)(HL:gi c)(HX:qA c)(FK:js c C)(FA:oq c C)(HN:lH c C)(HF:c.Flt=ej c.aT c.σ C)(LM:lW c){fr:Addr}(RK:yr c fr)(RM:yt c fr)
  (hE:SE c n){e sp:E}{p:Expr}(F:St c A (n+1) sc env s.heap vs ρ)(hm:mE c.N sc vs (.i6 e sp) p=true)(af:lQ (rec c.P n) ρ e sp≠.stuck):bK c A s (eval p env) (lQ (rec c.P n) ρ e sp):=by
 have F':=F.less (di n);refine Kk hm λpq r ar body sl pl b t fV hv0 Yt hD jT FS wD jf=>?_;revert hD;refine λhD=>BO (G:=λar=>bK c A s (eval (.Call (.Attribute (.Name "self" pq) "reckoned" r) [.Lambda ar body sl pl,b] [] t) env) _) hD λj j j=>?_;have acB:gJ noArgs sl=true:=BO (G:=λar=>gJ ar sl=true→gJ noArgs sl=true) hD (λj j j=>id) hD;generalize ho:lQ (rec c.P n) ρ e sp=o at af⊢;unfold lQ at ho;have hv:mE c.N sc vs (.var 0) (.Name "self" pq)=true:=(Bool.and_eq_true_iff (x:=vs[0]?==some (some ("self":Str)))).mpr ⟨by rw[hv0];exact beq_self_eq_true _,by decide⟩;have e0:starEach [.Lambda noArgs body sl pl,b] env=[(false,eval (.Lambda noArgs body sl pl) env),(false,eval b env)]:=by
  show(false,eval (.Lambda noArgs body sl pl) env)::starEach [b] env=_;rw[iL wD];rfl
 refine lG (es:=[]) fV rfl aX (by rw[e0];rfl) ((Js F' hv (br (ho▸af))).use (λv d s' e1 t1 m pl'=>?_) λx d s' e1 f1 m=>⟨d,ho▸bo e1,f1,m⟩);rw[a9 e1]at ho;refine am (λed e2=>?_) (Rr (ho▸af));rw[e2]at ho;subst ed;refine rn t1 ?_;refine RM A s' pl' _ _ m.g F.r.zero ?_;refine ak RK λfo z=>eM z λfd bd R=>?_;rw[e0];have hdv:c.cd env.code env.qual:=F'.f.code (by rw[F'.f.scope];exact Yt);refine gm (o:=fo) (fd:=fd) (dj (aV (LM A s' env body sl pl _ _ m.g F'.f.bE hdv (BA (F'.nx m).f jT) λlam cv pm ct s2 m2 ck hl=>?_)));refine aV ((hE A s2 sc env vs ρ sp b ((F'.nx m).nx m2) jf (br (ho▸af))).use (λu d s3 e3 t3 m3=>?_) λx d s3 e3 f3 m3=>⟨d,ho▸bo e3,f3,(m.trans m2).trans m3⟩);rw[a9 e3]at ho;cases hz:pM d with
 |true=>rw[hz]at ho;exact absurd ho.symm af
 |false=>
  rw[hz]at ho;have F3:=(F'.nx m).nx (m2.trans m3);have OM:=Ck m3.keep hl;refine ce (show(_∧_)∧_ from⟨⟨R.ho _ m3.g,R.hd⟩,?_⟩);refine(Sb (o:=(rec c.P n).ev ρ e) H0 HM H9 HL FK FA HN HF RK m3.g F3.o (iq (Nat.add_le_add_left (Nat.mul_le_mul_left 2 (Nat.succ_le_succ (gO n))) _) F.r.1) F.r.2.2 t3 (Sd hz) (λs' n'=>⟨_,_,Ck n'.keep OM,rfl⟩) (λfi s' F9 n'=>?_) (λv hv=>?_) λd' a8=>?_).at ((m.trans m2).trans m3) rfl
  ·exact IW (A:=A.deeper fi) H0 H9 HL HX hE acB jT FS (F3.nx n').f n'.g F9 (by rw[depth_deeper];have:=F.r.1;omega) (by rw[units_deeper];have:=F.r.2.1;omega) F.r.2.2 (Ck n'.keep OM) (ck.uC (m3.trans n').keep.codes) λz=>af (by rw[←ho,z])
  ·rw[←ho,hv]
  ·rw[a8]at ho;have ho:ap (pM d') (Out.exc d) .stuck=o:=ho;cases Ga:pM d' with
   |true=>rw[Ga]at ho;exact⟨UL Ga,ho.symm⟩
   |false=>rw[Ga]at ho;exact absurd ho.symm af
end
theorem Wc{c:Cx}{C fr:Addr}(H0:bz c)(HM:az c)(H9:av c)(HL:gi c)(HX:qA c)(HB:fO c)(FK:js c C)(FA:oq c C)(HN:lH c C)(HF:c.Flt=ej c.aT c.σ C)(LM:lW c)(RK:yr c fr)(RM:(c.P.bc 0 0).isSome=true→yt c fr)
  (n:Nat)(L:jO c n)(hC:oo c n):NodeOk c n:=by
 intro A s sc env vs ρ e p hs F hm af;have F':=F.less (di n);have HS:eG c:=HM.store H9;cases e with
 |isin e t=>exact SW HB L.e F' hm af
 |b1 b e=>exact V8 H0 HB L.e F' hm af
 |b2 b x y=>exact VX H0 HB L.e F' hm af
 |cnt l x=>exact UI L.e F' hm af
 |gU ks es k=>exact Th H0 HS HB L.e F' hm af
 |oZ ks es k=>exact Ti H0 HS HB L.e F' hm af
 |o7 ks es k z=>exact Tj H0 HS HB L.e F' hm af
 |i6 c' sp=>
  cases fX:c.P.bc 0 0 with
  |none=>exact absurd (show qT c.P (rec c.P n) ρ (.i6 c' sp)=.stuck by show@Option.rec Nat (λj=>Out D) .stuck (λj=>lQ (rec c.P n) ρ c' sp) (c.P.bc 0 0)=_;rw[fX]) af
  |some f=>
   have e:qT c.P (rec c.P n) ρ (.i6 c' sp)=lQ (rec c.P n) ρ c' sp:=by show@Option.rec Nat (λj=>Out D) .stuck (λj=>lQ (rec c.P n) ρ c' sp) (c.P.bc 0 0)=_;rw[fX]
   rw[e]at af⊢;exact Tq H0 HM H9 HL HX FK FA HN HF LM RK (RM (by rw[fX];rfl)) L.e F hm af
 |_=>exact aw hs
end Mine
namespace Mine
open PySem PySem.W
set_option tactic.hygienic true
noncomputable def Qx:List S:=[.ret (.cmp .Eq (.sub (.var 0) (.lit (.int 0))) (.lit (.str [117])))]
noncomputable def Q1:List S:=[.ite (.call 0 [(.var 0)]) [.ret (.tup [(.lit (.int 0)),(.bin .Sub (.bin .Pow (.lit (.int 2)) (.sub (.gl 0) (.var 0))) (.lit (.int 1)))])] [],.ret (.tup [(.bin .Sub (.lit (.int 0)) (.bin .Pow (.lit (.int 2)) (.bin .Sub (.sub (.gl 0) (.var 0)) (.lit (.int 1))))),(.bin .Sub (.bin .Pow (.lit (.int 2)) (.bin .Sub (.sub (.gl 0) (.var 0)) (.lit (.int 1)))) (.lit (.int 1)))])]
noncomputable def Qy:List S:=[.ite (.cmp .Is (.var 1) (.lit .none)) [.ret (.iZ .Lt .Lt (.bin .Sub (.lit (.int 0)) (.bin .Pow (.lit (.int 2)) (.gl 1))) (.var 0) (.bin .Pow (.lit (.int 2)) (.gl 1)))] [],.ja [2,3] (.call 1 [(.var 1)]),.ret (.iZ .LtE .LtE (.var 2) (.var 0) (.var 3))]
noncomputable def Qd:List S:=[.ite (.no (.call 2 [(.var 0),(.var 1)])) [.dG (.bin .Add (.lit (.str [97,32,99,111,110,115,116,97,110,116,32,105,115,32,116,111,111,32,103,114,101,97,116,32,102,111,114,32])) (.ite (.cmp .Is (.var 1) (.lit .none)) (.lit (.str [97,32,99,111,110,115,116,97,110,116])) (.var 1))) none] [],.ret (.var 0)]
noncomputable def PX:List S:=[.asg 2 (.sub (.var 1) (.lit (.int 0))),.ite (.bl false [(.cmp .Eq (.var 2) (.lit bf)),(.cmp .Eq (.var 1) (.tup [(.lit bM),(.lit bf)]))]) [.ret (.isin (.var 0) 0)] [],.ite (.isin (.var 0) 0) [.ret (.lit (.bool false))] [],.ite (.bl false [(.cmp .Eq (.var 2) (.lit iX)),(.cmp .Eq (.var 1) (.tup [(.lit bM),(.lit iX)]))]) [.ret (.isin (.var 0) 2)] [],.ite (.no (.isin (.var 0) 1)) [.ret (.lit (.bool false))] [],.ite (.cmp .Eq (.var 2) (.lit bM)) [.ret (.call 2 [(.var 0),(.lit .none)])] [],.ret (.bl true [(.cmp .Eq (.var 2) (.lit aU)),(.call 2 [(.var 0),(.sub (.var 1) (.lit (.int 1)))])])]
noncomputable def Qz:List S:=[.ite (.bl true [(.cmp .Eq (.var 0) (.lit (.str [33]))),(.isin (.var 1) 0)]) [.ret (.no (.var 1))] [],.ite (.bl false [(.isin (.var 1) 0),(.no (.isin (.var 1) 1)),(.cmp .NotIn (.var 0) (.tup [(.lit (.str [43])),(.lit (.str [45])),(.lit (.str [94]))]))]) [.dG (.bin .Add (.bin .Add (.lit CY) (.var 0)) (.lit (.str [32,105,115,32,110,111,110,101,32,111,102,32,116,104,105,115,32,99,111,110,115,116,97,110,116]))) none] [],.ite (.cmp .Eq (.var 0) (.lit (.str [43]))) [.ret (.call 3 [(.var 1),(.var 2)])] [],.ite (.cmp .Eq (.var 0) (.lit (.str [45]))) [.ret (.call 3 [(.bin .Sub (.lit (.int 0)) (.var 1)),(.var 2)])] [],.ite (.bl true [(.cmp .IsNot (.var 2) (.lit .none)),(.call 0 [(.var 2)])]) [.ret (.bin .Sub (.sub (.call 1 [(.var 2)]) (.lit (.int 1))) (.var 1))] [],.ret (.call 3 [(.bin .Sub (.neg (.lit (.int 1))) (.var 1)),(.var 2)])]
noncomputable def PT:List S:=[.ite (.cmp .Eq (.var 1) (.lit (.int 0))) [.dG (.lit (.str [97,32,99,111,110,115,116,97,110,116,32,105,115,32,100,105,118,105,100,101,100,32,98,121,32,122,101,114,111])) none] [],.asg 2 (.bin .FloorDiv (.b1 1 (.var 0)) (.b1 1 (.var 1))),.ret (.ite (.cmp .Eq (.cmp .Lt (.var 0) (.lit (.int 0))) (.cmp .Lt (.var 1) (.lit (.int 0)))) (.var 2) (.bin .Sub (.lit (.int 0)) (.var 2)))]
noncomputable def QA:List S:=[.ite (.cmp .Lt (.var 2) (.lit (.int 0))) [.dG (.lit (.str [97,32,110,101,103,97,116,105,118,101,32,115,104,105,102,116,32,97,109,111,117,110,116])) none] [],.ite (.cmp .Eq (.var 0) (.lit (.str [62,62]))) [.ret (.call 3 [(.bin .FloorDiv (.var 1) (.bin .Pow (.lit (.int 2)) (.b2 0 (.var 2) (.bin .Mult (.lit (.int 2)) (.gl 1))))),(.var 3)])] [],.ite (.bl true [(.cmp .NotEq (.var 1) (.lit (.int 0))),(.cmp .Gt (.var 2) (.bin .Mult (.lit (.int 2)) (.gl 1)))]) [.dG (.lit (.str [97,32,99,111,110,115,116,97,110,116,32,105,115,32,115,104,105,102,116,101,100,32,116,111,111,32,102,97,114])) none] [],.ret (.call 3 [(.ite (.cmp .Eq (.var 1) (.lit (.int 0))) (.lit (.int 0)) (.bin .Mult (.var 1) (.bin .Pow (.lit (.int 2)) (.var 2)))),(.var 3)])]
noncomputable def QM:List S:=[.ite (.cmp .Eq (.var 0) (.lit (.str [43]))) [.ret (.bin .Add (.var 1) (.var 2))] [],.ite (.cmp .Eq (.var 0) (.lit (.str [45]))) [.ret (.bin .Sub (.var 1) (.var 2))] [],.ite (.cmp .Eq (.var 0) (.lit (.str [42]))) [.ret (.bin .Mult (.var 1) (.var 2))] [],.ite (.cmp .Eq (.var 0) (.lit (.str [47]))) [.ret (.call 6 [(.var 1),(.var 2)])] [],.ite (.cmp .Eq (.var 0) (.lit (.str [37]))) [.ret (.bin .Sub (.var 1) (.bin .Mult (.var 2) (.call 6 [(.var 1),(.var 2)])))] [],.ite (.cmp .Eq (.var 0) (.lit (.str [38]))) [.ret (.bin .BitAnd (.var 1) (.var 2))] [],.ite (.cmp .Eq (.var 0) (.lit (.str [124]))) [.ret (.bin .BitOr (.var 1) (.var 2))] [],.ite (.cmp .Eq (.var 0) (.lit (.str [94]))) [.ret (.bin .BitXor (.var 1) (.var 2))] [],.ite (.cmp .Eq (.var 0) (.lit (.str [38,94]))) [.ret (.bin .BitAnd (.var 1) (.bin .Sub (.neg (.lit (.int 1))) (.var 2)))] [],.dG (.bin .Add (.bin .Add (.lit CY) (.var 0)) (.lit (.str [32,105,115,32,110,111,110,101,32,111,102,32,119,104,111,108,101,32,110,117,109,98,101,114,115]))) none]
noncomputable def PU:List S:=[.ite (.cmp .Eq (.var 0) (.lit (.str [61,61]))) [.ret (.cmp .Eq (.var 1) (.var 2))] [],.ite (.cmp .Eq (.var 0) (.lit (.str [33,61]))) [.ret (.cmp .NotEq (.var 1) (.var 2))] [],.ite (.isin (.var 1) 0) [.dG (.lit (.str [116,114,117,116,104,115,32,104,97,118,101,32,110,111,32,111,114,100,101,114])) none] [],.ite (.cmp .Eq (.var 0) (.lit (.str [60]))) [.ret (.cmp .Lt (.var 1) (.var 2))] [],.ite (.cmp .Eq (.var 0) (.lit (.str [60,61]))) [.ret (.cmp .LtE (.var 1) (.var 2))] [],.ret (.ite (.cmp .Eq (.var 0) (.lit (.str [62]))) (.cmp .Gt (.var 1) (.var 2)) (.cmp .GtE (.var 1) (.var 2)))]
noncomputable def PY:List S:=[.ite (.isin (.var 0) 0) [.ret (.lit bf)] [],.ret (.ite (.isin (.var 0) 2) (.lit iX) (.lit aU))]
noncomputable def Qe:List S:=[.asg 4 (.call 10 [(.var 1)]),.ite (.cmp .NotEq (.var 4) (.call 10 [(.var 2)])) [.dG (.bin .Add (.lit (.str [99,111,110,115,116,97,110,116,115,32,111,102,32,117,110,108,105,107,101,32,115,111,114,116,115,32,98,101,115,105,100,101,32])) (.var 0)) none] [],.ite (.cmp .In (.var 0) (.gl 3)) [.ret (.call 9 [(.var 0),(.var 1),(.var 2)])] [],.ite (.bl true [(.cmp .Eq (.var 4) (.lit bf)),(.cmp .In (.var 0) (.tup [(.lit (.str [38,38])),(.lit (.str [124,124]))]))]) [.ret (.ite (.cmp .Eq (.var 0) (.lit (.str [38,38]))) (.bl true [(.var 1),(.var 2)]) (.bl false [(.var 1),(.var 2)]))] [],.ite (.bl true [(.cmp .Eq (.var 4) (.lit iX)),(.cmp .Eq (.var 0) (.lit (.str [43])))]) [.ite (.cmp .Gt (.bin .Add (.b1 0 (.var 1)) (.b1 0 (.var 2))) (.gl 2)) [.dG (.lit (.str [97,32,99,111,110,115,116,97,110,116,32,116,101,120,116,32,105,115,32,116,111,111,32,108,111,110,103])) none] [],.ret (.bin .Add (.var 1) (.var 2))] [],.ite (.cmp .NotEq (.var 4) (.lit aU)) [.dG (.bin .Add (.bin .Add (.lit CY) (.var 0)) (.lit (.str [32,105,115,32,110,111,110,101,32,111,102,32,116,104,101,115,101,32,99,111,110,115,116,97,110,116,115]))) none] [],.ite (.cmp .In (.var 0) (.tup [(.lit (.str [60,60])),(.lit (.str [62,62]))])) [.ret (.call 7 [(.var 0),(.var 1),(.var 2),(.var 3)])] [],.ret (.call 3 [(.call 8 [(.var 0),(.var 1),(.var 2)]),(.var 3)])]
noncomputable def PR:List S:=[.ix [2,3] [(.sub (.var 1) (.lit (.int 0))),(.sub (.var 1) (.lit (.int 1)))],.ite (.cmp .Eq (.var 2) (.lit aU)) [.ret (.tup [(.gl 5),(.sub (.var 1) (.lit (.int 2)))])] [],.ite (.cmp .Eq (.var 2) (.lit kh)) [.ret (.tup [(.gl 6),(.sub (.var 1) (.lit (.int 2)))])] [],.ite (.cmp .Eq (.var 2) (.lit qP)) [.ret (.tup [(.gl 8),(.sub (.var 1) (.lit (.int 2)))])] [],.ite (.cmp .Eq (.var 2) (.lit aK)) [.ret (.bc (.var 0) 1 [(.bc (.attr (.var 0) 2) 2 [(.sub (.var 1) (.lit (.int 2)))]),(.sub (.var 1) (.lit (.int 2))),(.var 3)])] [],.ite (.cmp .Eq (.var 2) (.lit (.str [115,101,108,101,99,116]))) [.ret .stop] [],.ite (.cmp .Eq (.var 2) (.lit (.str [117,110,97,114,121]))) [.ret (.bc (.var 0) 8 [(.var 1)])] [],.ite (.cmp .Eq (.var 2) (.lit (.str [98,105,110,97,114,121]))) [.ret (.bc (.var 0) 9 [(.var 1)])] [],.ite (.cmp .Eq (.var 2) (.lit (.str [99,97,108,108]))) [.ret .stop] [],.dG (.lit (.str [110,111,32,99,111,110,115,116,97,110,116])) (some (.var 3))]
noncomputable def PQ:List S:=[.asg 1 (.bc (.attr (.var 0) 0) 3 [(.var 1)]),.ite (.bl true [(.cmp .Eq (.var 1) (.tup [(.lit (.str [105,111,116,97]))])),(.cmp .IsNot (.attr (.var 0) 3) (.lit .none))]) [.ret (.tup [(.gl 5),(.attr (.var 0) 3)])] [],.ite (.bl false [(.cmp .Is (.var 1) (.lit .none)),(.cmp .NotEq (.sub (.var 1) (.lit (.int 0))) (.lit d6))]) [.dG (.bin .Add (.var 2) (.lit (.str [32,105,115,32,110,111,32,99,111,110,115,116,97,110,116]))) (some (.var 3))] [],.ret (.tup [(.sub (.var 1) (.lit (.int 1))),(.sub (.var 1) (.lit (.int 2)))])]
noncomputable def PM:List S:=[.asg 2 (.bc (.attr (.var 0) 0) 5 [(.var 1)]),.ret (.ite (.cmp .Eq (.sub (.var 2) (.lit (.int 0))) (.lit aU)) (.sub (.var 2) (.lit (.int 1))) (.lit .none))]
noncomputable def PN:List S:=[.ja [2,3] (.bc (.var 0) 0 [(.sub (.var 1) (.lit (.int 3)))]),.ret (.tup [(.var 2),(.i6 (.call 5 [(.sub (.var 1) (.lit (.int 2))),(.var 3),(.bc (.var 0) 4 [(.var 2)])]) (.sub (.var 1) (.lit (.int 1))))])]
noncomputable def PO:List S:=[.ix [4,5] [(.sub (.var 1) (.lit (.int 1))),(.sub (.var 1) (.lit (.int 2)))],.ja [6,7] (.bc (.var 0) 0 [(.sub (.var 1) (.lit (.int 3)))]),.ja [8,9] (.bc (.var 0) 0 [(.sub (.var 1) (.lit (.int 4)))]),.ite (.cmp .In (.var 5) (.tup [(.lit (.str [60,60])),(.lit (.str [62,62]))])) [.ite (.bl false [(.isin (.var 7) 0),(.no (.isin (.var 7) 1)),(.isin (.var 9) 0),(.no (.isin (.var 9) 1))]) [.dG (.bin .Add (.lit (.str [110,111,32,119,104,111,108,101,32,110,117,109,98,101,114,115,32,98,101,115,105,100,101,32])) (.var 5)) (some (.var 4))] [],.ret (.tup [(.var 6),(.i6 (.call 11 [(.var 5),(.var 7),(.var 9),(.bc (.var 0) 4 [(.var 6)])]) (.var 4))])] [],.asg 2 (.bc (.var 0) 6 [(.var 6),(.var 7),(.var 8),(.var 9),(.var 4)]),.asg 3 (.i6 (.call 11 [(.var 5),(.var 7),(.var 9),(.bc (.var 0) 4 [(.var 2)])]) (.var 4)),.ret (.ite (.cmp .In (.var 5) (.gl 3)) (.tup [(.gl 7),(.var 3)]) (.tup [(.var 2),(.var 3)]))]
noncomputable def PP:List S:=[.ite (.cmp .Eq (.var 1) (.var 3)) [.ret (.var 1)] [],.ite (.bl true [(.cmp .In (.var 1) (.gl 4)),(.cmp .In (.var 3) (.gl 4))]) [.ret (.gl 6)] [],.ite (.bl true [(.cmp .Eq (.sub (.var 1) (.lit (.int 0))) (.lit bM)),(.cmp .NotEq (.sub (.var 3) (.lit (.int 0))) (.lit bM)),(.call 4 [(.var 2),(.bc (.attr (.var 0) 0) 5 [(.var 3)])])]) [.ret (.var 3)] [],.ite (.bl true [(.cmp .Eq (.sub (.var 3) (.lit (.int 0))) (.lit bM)),(.cmp .NotEq (.sub (.var 1) (.lit (.int 0))) (.lit bM)),(.call 4 [(.var 4),(.bc (.attr (.var 0) 0) 5 [(.var 1)])])]) [.ret (.var 1)] [],.dG (.lit (.str [99,111,110,115,116,97,110,116,115,32,111,102,32,117,110,108,105,107,101,32,116,121,112,101,115])) (some (.var 5))]
noncomputable def Q2:List S:=[.asg 2 (.var 0),.pJ (.cmp .IsNot (.var 2) (.lit .none)) [.ite (.cmp .In (.var 1) (.attr (.var 2) 4)) [.ret (.sub (.attr (.var 2) 4) (.var 1))] [],.asg 2 (.attr (.var 2) 5)],.ret (.lit .none)]
noncomputable def QP:List S:=[.asg 3 (.bc (.var 0) 7 [(.var 1)]),.ite (.bl true [(.cmp .Is (.var 3) (.lit .none)),(.cmp .IsNot (.var 2) (.lit .none))]) [.stop] [],.ret (.ite (.cmp .Is (.var 3) (.lit .none)) (.lit .none) (.attr (.var 3) 6))]
noncomputable def PZ:List S:=[.pJ (.cmp .Eq (.sub (.var 1) (.lit (.int 0))) (.lit fF)) [.ite (.cmp .NotIn (.sub (.var 1) (.lit (.int 1))) (.attr (.var 0) 7)) [.stop] [],.asg 2 (.sub (.attr (.var 0) 7) (.sub (.var 1) (.lit (.int 1)))),.ite (.cmp .Is (.attr (.var 2) 10) (.lit .none)) [.ite (.cmp .Is (.attr (.var 0) 8) (.lit .none)) [.stop] [],.stop] [],.asg 1 (.attr (.var 2) 10)],.ret (.var 1)]
noncomputable def P0:List S:=[.ite (.bl true [(.cmp .IsNot (.var 1) (.lit .none)),(.cmp .Eq (.sub (.var 1) (.lit (.int 0))) (.lit (.str [119,97,105,116,105,110,103])))]) [.ret .stop] [],.ret (.var 1)]
noncomputable def Q3:List S:=[.ix [1,2,3] [(.tup [(.lit bM),(.lit aU)]),(.tup [(.lit fF),(.lit oz)]),(.tup [(.lit aU),(.lit lN)])],.asg 0 (.lst [(.tup [(.tup [(.lit aU),(.lit (.int 30)),(.lit (.int 5))]),(.var 1),(.lit (.int 5))]),(.tup [(.tup [(.lit aU),(.lit (.int 31)),(.lit (.int 0))]),(.var 1),(.lit (.int 0))]),(.tup [(.tup [(.lit aU),(.lit (.int 32)),(.lit (.int 300))]),(.var 1),(.lit (.int 300))])]),.asg 0 (.bin .Add (.var 0) (.lst [(.tup [(.tup [(.lit aK),(.lit (.int 33)),(.lit (.str [109]))]),(.var 1),(.neg (.lit (.int 3)))])])),.asg 0 (.bin .Add (.var 0) (.lst [(.tup [(.tup [(.lit kh),(.lit (.int 34)),(.lit (.int 97))]),(.tup [(.lit bM),(.lit kh)]),(.lit (.int 97))]),(.tup [(.tup [(.lit qP),(.lit (.int 35)),(.lit (.bytes [97]))]),(.tup [(.lit bM),(.lit iX)]),(.lit (.bytes [97]))])])),.asg 0 (.bin .Add (.var 0) (.lst [(.tup [(.tup [(.lit aK),(.lit (.int 36)),(.lit (.str [120]))]),(.tup [(.lit iX)]),(.lit (.bytes [98]))]),(.tup [(.tup [(.lit aK),(.lit (.int 37)),(.lit (.str [116]))]),(.tup [(.lit bM),(.lit bf)]),(.lit (.bool true))])])),.asg 0 (.bin .Add (.var 0) (.lst [(.tup [(.tup [(.lit aK),(.lit (.int 38)),(.lit (.str [102]))]),(.tup [(.lit bf)]),(.lit (.bool false))]),(.tup [(.tup [(.lit aK),(.lit (.int 39)),(.lit (.str [99]))]),(.var 2),(.lit (.int 100))]),(.tup [(.tup [(.lit aK),(.lit (.int 40)),(.lit (.str [100]))]),(.var 2),(.neg (.lit (.int 128)))])])),.asg 0 (.bin .Add (.var 0) (.lst [(.tup [(.tup [(.lit aK),(.lit (.int 41)),(.lit (.str [117]))]),(.var 3),(.lit (.int 200))]),(.tup [(.tup [(.lit aK),(.lit (.int 42)),(.lit (.str [122]))]),(.var 3),(.lit (.int 0))])])),.asg 0 (.bin .Add (.var 0) (.lst [(.tup [(.tup [(.lit aK),(.lit (.int 43)),(.lit (.str [119]))]),(.tup [(.lit aU),(.lit aU)]),(.lit (.int 7))])])),.ret (.bin .Add (.var 0) (.lst [(.tup [(.tup [(.lit aK),(.lit (.int 44)),(.lit (.str [118]))]),(.lit .none),(.lit .none)])]))]
noncomputable def QR:List S:=[.ite (.cmp .Eq (.sub (.var 0) (.lit (.int 0))) (.lit bM)) [.ret (.tup [(.bin .Sub (.lit (.int 1)) (.bin .Pow (.lit (.int 2)) (.lit (.int 512)))),(.bin .Sub (.bin .Pow (.lit (.int 2)) (.lit (.int 512))) (.lit (.int 1)))])] [],.ret (.gU [[109,97,105,110,46,84],[117,105,110,116,56],[105,110,116]] [(.tup [(.neg (.lit (.int 128))),(.lit (.int 127))]),(.tup [(.lit (.int 0)),(.lit (.int 255))]),(.tup [(.neg (.bin .Pow (.lit (.int 2)) (.lit (.int 63)))),(.bin .Sub (.bin .Pow (.lit (.int 2)) (.lit (.int 63))) (.lit (.int 1)))])] (.sub (.var 0) (.lit (.int 1))))]
noncomputable def Q4:List S:=[.ret (.ite (.isin (.var 0) 0) (.lit ut) (.ite (.isin (.var 0) 2) (.lit qP) (.lit oB)))]
noncomputable def QS:List S:=[.asg 2 (.o7 [[98,111,111,108],[115,116,114,105,110,103]] [(.lit ut),(.lit qP)] (.sub (.var 0) (.lit (.int 0))) (.lit oB)),.ite (.bl false [(.cmp .NotEq (.call 24 [(.var 1)]) (.var 2)),(.cmp .NotEq (.var 2) (.lit oB))]) [.ret (.cmp .Eq (.call 24 [(.var 1)]) (.var 2))] [],.ja [3,4] (.call 23 [(.var 0)]),.ret (.iZ .LtE .LtE (.var 3) (.var 1) (.var 4))]
noncomputable def Qf:List S:=[.ja [2,3] (.call 23 [(.var 0)]),.ret (.ite (.bl true [(.cmp .IsNot (.var 1) (.lit .none)),(.iZ .LtE .LtE (.var 2) (.var 1) (.var 3))]) (.tup [(.var 0),(.var 1)]) (.tup [(.lit jx),(.lit (.int 9))]))]
noncomputable def Q5:List S:=[.asg 3 (.lit (.int 0)),.mG 4 12 [.ix [6,7] [(.bin .Mod (.bin .FloorDiv (.var 1) (.bin .Pow (.lit (.int 2)) (.var 4))) (.lit (.int 2))),(.bin .Mod (.bin .FloorDiv (.var 2) (.bin .Pow (.lit (.int 2)) (.var 4))) (.lit (.int 2)))],.asg 5 (.gU [[38],[124],[94],[38,94]] [(.bin .Mult (.var 6) (.var 7)),(.b2 1 (.var 6) (.var 7)),(.b1 2 (.cmp .NotEq (.var 6) (.var 7))),(.b1 2 (.cmp .Gt (.var 6) (.var 7)))] (.var 0)),.asg 3 (.bin .Add (.var 3) (.ite (.cmp .Lt (.var 4) (.lit (.int 11))) (.bin .Mult (.var 5) (.bin .Pow (.lit (.int 2)) (.var 4))) (.bin .Sub (.lit (.int 0)) (.bin .Mult (.var 5) (.bin .Pow (.lit (.int 2)) (.var 4))))))],.ret (.var 3)]
noncomputable def P1:List S:=[.ite (.cmp .In (.var 0) (.lst [(.lit (.str [38])),(.lit (.str [124])),(.lit (.str [94])),(.lit (.str [38,94]))])) [.ret (.call 27 [(.var 0),(.var 1),(.var 2)])] [],.ite (.cmp .In (.var 0) (.lst [(.lit (.str [47])),(.lit (.str [37]))])) [.ite (.cmp .Eq (.var 2) (.lit (.int 0))) [.ret (.lit .none)] [],.asg 3 (.bin .FloorDiv (.b2 1 (.var 1) (.bin .Sub (.lit (.int 0)) (.var 1))) (.b2 1 (.var 2) (.bin .Sub (.lit (.int 0)) (.var 2)))),.asg 3 (.ite (.cmp .Eq (.cmp .Lt (.var 1) (.lit (.int 0))) (.cmp .Lt (.var 2) (.lit (.int 0)))) (.var 3) (.bin .Sub (.lit (.int 0)) (.var 3))),.ret (.ite (.cmp .Eq (.var 0) (.lit (.str [47]))) (.var 3) (.bin .Sub (.var 1) (.bin .Mult (.var 2) (.var 3))))] [],.ret (.oZ [[43],[45],[42]] [(.bin .Add (.var 1) (.var 2)),(.bin .Sub (.var 1) (.var 2)),(.bin .Mult (.var 1) (.var 2))] (.var 0))]
noncomputable def P2:List S:=[.asg 3 (.bin .Sub (.b1 2 (.cmp .Gt (.var 1) (.var 2))) (.b1 2 (.cmp .Lt (.var 1) (.var 2)))),.ret (.cmp .In (.var 3) (.gU [[61,61],[33,61],[60],[60,61],[62],[62,61]] [(.lst [(.lit (.int 0))]),(.lst [(.neg (.lit (.int 1))),(.lit (.int 1))]),(.lst [(.neg (.lit (.int 1)))]),(.lst [(.neg (.lit (.int 1))),(.lit (.int 0))]),(.lst [(.lit (.int 1))]),(.lst [(.lit (.int 0)),(.lit (.int 1))])] (.var 0)))]
noncomputable def P4:List S:=[.ix [3,4] [(.sub (.var 0) (.lit (.int 1))),(.sub (.var 1) (.lit (.int 1)))],.ite (.cmp .Eq (.var 3) (.var 4)) [.ret (.var 3)] [],.asg 2 (.b1 5 (.lst [(.sub (.var 3) (.neg (.lit (.int 1)))),(.sub (.var 4) (.neg (.lit (.int 1))))])),.ite (.bl true [(.cmp .Eq (.sub (.var 3) (.lit (.int 0))) (.lit bM)),(.cmp .Eq (.sub (.var 4) (.lit (.int 0))) (.lit bM))]) [.ret (.ite (.cmp .Eq (.var 2) (.lst [(.lit aU),(.lit kh)])) (.tup [(.lit bM),(.lit kh)]) (.lit .none))] [],.ite (.cmp .Eq (.sub (.var 3) (.lit (.int 0))) (.lit bM)) [.ret (.ite (.call 25 [(.var 4),(.sub (.var 0) (.lit (.int 2)))]) (.var 4) (.lit .none))] [],.ret (.ite (.bl true [(.cmp .Eq (.sub (.var 4) (.lit (.int 0))) (.lit bM)),(.call 25 [(.var 3),(.sub (.var 1) (.lit (.int 2)))])]) (.var 3) (.lit .none))]
noncomputable def QI:List S:=[.ja [3,4,5] (.var 1),.ite (.cmp .Is (.var 4) (.lit .none)) [.ret (.tup [(.lit jx),(.lit (.int 44))])] [],.asg 2 (.call 24 [(.var 5)]),.ite (.bl true [(.cmp .Eq (.var 0) (.lit (.str [33]))),(.cmp .Eq (.var 2) (.lit ut))]) [.ret (.tup [(.var 4),(.cmp .Is (.var 5) (.lit (.bool false)))])] [],.ite (.bl false [(.cmp .Eq (.var 0) (.lit (.str [33]))),(.cmp .NotEq (.var 2) (.lit oB))]) [.ret (.tup [(.lit jx),(.lit (.int 9))])] [],.ite (.bl true [(.cmp .Eq (.var 0) (.lit (.str [94]))),(.cmp .Eq (.var 4) (.tup [(.lit aU),(.lit lN)]))]) [.ret (.tup [(.var 4),(.bin .Sub (.lit (.int 255)) (.var 5))])] [],.ret (.call 26 [(.var 4),(.gU [[43],[45],[94]] [(.var 5),(.bin .Sub (.lit (.int 0)) (.var 5)),(.bin .Sub (.bin .Sub (.lit (.int 0)) (.var 5)) (.lit (.int 1)))] (.var 0))])]
noncomputable def Qg:List S:=[.ite (.cmp .In (.lit .none) (.lst [(.sub (.var 1) (.lit (.int 1))),(.sub (.var 2) (.lit (.int 1)))])) [.ret (.tup [(.lit jx),(.lit (.int 44))])] [],.ix [3,4] [(.sub (.var 1) (.lit (.int 2))),(.sub (.var 2) (.lit (.int 2)))],.ite (.bl false [(.cmp .NotEq (.call 24 [(.var 3)]) (.lit oB)),(.cmp .NotEq (.call 24 [(.var 4)]) (.lit oB)),(.cmp .Lt (.var 4) (.lit (.int 0)))]) [.ret (.tup [(.lit jx),(.lit (.int 9))])] [],.ret (.call 26 [(.sub (.var 1) (.lit (.int 1))),(.ite (.cmp .Eq (.var 0) (.lit (.str [60,60]))) (.bin .Mult (.var 3) (.bin .Pow (.lit (.int 2)) (.var 4))) (.bin .FloorDiv (.var 3) (.bin .Pow (.lit (.int 2)) (.var 4))))])]
noncomputable def QJ:List S:=[.ite (.cmp .In (.lit .none) (.lst [(.sub (.var 1) (.lit (.int 1))),(.sub (.var 2) (.lit (.int 1)))])) [.ret (.tup [(.lit jx),(.lit (.int 44))])] [],.ix [4,5,6] [(.call 30 [(.var 1),(.var 2)]),(.sub (.var 1) (.lit (.int 2))),(.sub (.var 2) (.lit (.int 2)))],.ite (.cmp .Is (.var 4) (.lit .none)) [.ret (.tup [(.lit jx),(.lit (.int 9))])] [],.asg 3 (.call 24 [(.var 5)]),.ite (.bl false [(.cmp .In (.var 0) (.lst [(.lit (.str [61,61])),(.lit (.str [33,61]))])),(.bl true [(.cmp .In (.var 0) (.lst [(.lit (.str [60])),(.lit (.str [60,61])),(.lit (.str [62])),(.lit (.str [62,61]))])),(.cmp .NotEq (.var 3) (.lit ut))])]) [.ret (.tup [(.tup [(.lit bM),(.lit bf)]),(.call 29 [(.var 0),(.var 5),(.var 6)])])] [],.ite (.bl true [(.cmp .Eq (.var 3) (.lit ut)),(.cmp .In (.var 0) (.lst [(.lit (.str [38,38])),(.lit (.str [124,124]))]))]) [.ret (.tup [(.var 4),(.cmp .Gt (.cnt (.lst [(.var 5),(.var 6)]) (.lit (.bool true))) (.b1 2 (.cmp .Eq (.var 0) (.lit (.str [38,38])))))])] [],.ite (.bl true [(.cmp .Eq (.var 3) (.lit qP)),(.cmp .Eq (.var 0) (.lit (.str [43])))]) [.ret (.tup [(.var 4),(.b1 4 (.bin .Add (.b1 3 (.var 5)) (.b1 3 (.var 6))))])] [],.ite (.bl false [(.cmp .NotEq (.var 3) (.lit oB)),(.cmp .In (.var 0) (.lst [(.lit (.str [38,38])),(.lit (.str [124,124]))]))]) [.ret (.tup [(.lit jx),(.lit (.int 9))])] [],.ret (.call 26 [(.var 4),(.call 28 [(.var 0),(.var 5),(.var 6)])])]
noncomputable def Qh:List S:=[.ix [0,1] [(.tup [(.lit fF),(.lit lO)]),(.tup [(.lit cg),(.lit (.int 4)),(.tup [(.lit bf)])])],.ret (.lst [(.tup [(.lit (.str [103,97])),(.tup [(.lit cg),(.lit (.int 3)),(.tup [(.lit bf)])]),(.lit (.int 3))]),(.tup [(.lit (.str [103,112])),(.tup [(.lit dF),(.var 1)]),(.lit (.int 4))]),(.tup [(.lit (.str [103,110])),(.var 0),(.lit (.int 5))]),(.tup [(.lit (.str [103,114])),(.tup [(.lit dF),(.var 0)]),(.lit (.int 5))]),(.tup [(.lit (.str [103,113])),(.tup [(.lit aU),(.lit aU)]),(.lit .none)]),(.tup [(.lit (.str [103,115])),(.tup [(.lit qQ),(.tup [(.lit bf)])]),(.lit .none)]),(.tup [(.lit (.str [103,116])),(.tup [(.lit dF),(.tup [(.lit dF),(.var 1)])]),(.lit .none)]),(.tup [(.lit (.str [103,101])),(.tup [(.lit cg),(.lit (.int 0)),(.tup [(.lit bf)])]),(.lit (.int 0))])])]
noncomputable def wE:List Fn:=[(1,0,false,Qx),(1,0,false,Q1),(2,2,false,Qy),(2,0,false,Qd),(2,1,false,PX),(3,0,true,Qz),(2,1,false,PT),(4,0,false,QA),(3,0,false,QM),(3,0,false,PU),(1,0,false,PY),(4,1,true,Qe),(2,2,false,PR),(4,0,false,PQ),(2,1,false,PM),(2,2,false,PN),(2,8,false,PO),(6,0,false,PP),(2,1,false,Q2),(3,1,true,QP),(2,1,false,PZ),(2,0,false,P0),(0,4,false,Q3),(1,0,false,QR),(1,0,false,Q4),(2,3,false,QS),(2,2,false,Qf),(3,5,false,Q5),(3,1,false,P1),(3,1,false,P2),(2,3,false,P4),(2,4,false,QI),(3,2,false,Qg),(3,4,false,QJ),(0,2,false,Qh)]
noncomputable def globT:List D:=[(.obj 5),(.int 512),(.int 1048576),(.tuple [(.str [61,61]),(.str [33,61]),(.str [60]),(.str [60,61]),(.str [62]),(.str [62,61])]),(.tuple [(.tuple [bM,aU]),(.tuple [bM,kh])]),(.tuple [bM,aU]),(.tuple [bM,kh]),(.tuple [bM,bf]),(.tuple [bM,iX])]
noncomputable def Dj:List (Nat×List (Nat×D)):=[(0,[(0,(.obj 1)),(2,(.obj 2)),(3,.none)]),(1,[(7,(.obj 4)),(8,.none),(9,(.obj 6))]),(2,[(4,(.obj 3)),(5,.none)]),(10,[(6,(.tuple [d6,(.tuple [bM,aU]),(.int (-3))]))]),(11,[(6,(.tuple [d6,(.tuple [iX]),(.bytes [98])]))]),(12,[(6,(.tuple [d6,(.tuple [bM,bf]),(.bool true)]))]),(13,[(6,(.tuple [d6,(.tuple [bf]),(.bool false)]))]),(14,[(6,(.tuple [d6,(.tuple [fF,oz]),(.int 100)]))]),(15,[(6,(.tuple [d6,(.tuple [fF,oz]),(.int (-128))]))]),(16,[(6,(.tuple [d6,(.tuple [aU,lN]),(.int 200)]))]),(17,[(6,(.tuple [d6,(.tuple [aU,lN]),(.int 0)]))]),(18,[(6,(.tuple [d6,(.tuple [aU,aU]),(.int 7)]))]),(19,[(6,(.tuple [(.str [108,111,99,97,108]),(.int 0)]))]),(20,[(6,(.tuple [ch,(.str [109,97,105,110,46,103,97])]))]),(21,[(6,(.tuple [ch,(.str [109,97,105,110,46,103,112])]))]),(22,[(6,(.tuple [ch,(.str [109,97,105,110,46,103,110])]))]),(23,[(6,(.tuple [ch,(.str [109,97,105,110,46,103,114])]))]),(24,[(6,(.tuple [ch,(.str [109,97,105,110,46,103,113])]))]),(25,[(6,(.tuple [ch,(.str [109,97,105,110,46,103,115])]))]),(26,[(6,(.tuple [ch,(.str [109,97,105,110,46,103,116])]))]),(27,[(6,(.tuple [ch,(.str [109,97,105,110,46,103,101])]))]),(28,[(6,(.tuple [ch,(.str [109,97,105,110,46,103,104])]))]),(44,[(10,(.tuple [aU,(.str [105,110,116,56])]))]),(45,[(10,(.tuple [cg,(.int 5),(.tuple [bf])]))])]
noncomputable def qX:List (Nat×List (List Nat×D)):=[(3,[([109],(.obj 10)),([120],(.obj 11)),([116],(.obj 12)),([102],(.obj 13)),([99],(.obj 14)),([100],(.obj 15)),([117],(.obj 16)),([122],(.obj 17)),([119],(.obj 18)),([118],(.obj 19)),([103,97],(.obj 20)),([103,112],(.obj 21)),([103,110],(.obj 22)),([103,114],(.obj 23)),([103,113],(.obj 24)),([103,115],(.obj 25)),([103,116],(.obj 26)),([103,101],(.obj 27)),([103,104],(.obj 28))]),(4,[([101,114,114,111,114],(.obj 40)),([114,117,110,116,105,109,101,46,69,114,114,111,114],(.obj 41)),([115,121,110,99,46,77,117,116,101,120],(.obj 42)),([115,121,110,99,46,87,97,105,116,71,114,111,117,112],(.obj 43)),([109,97,105,110,46,84],(.obj 44)),([109,97,105,110,46,78],(.obj 45))]),(5,[([105,110,116],(.int 64)),([105,110,116,56],(.int 8)),([105,110,116,49,54],(.int 16)),([105,110,116,51,50],(.int 32)),([105,110,116,54,52],(.int 64)),([117,105,110,116],(.int 64)),([117,105,110,116,56],(.int 8)),([117,105,110,116,49,54],(.int 16)),([117,105,110,116,51,50],(.int 32)),([117,105,110,116,54,52],(.int 64))]),(6,[([109,97,105,110,46,103,97],(.tuple [cg,(.int 3),(.tuple [bf])])),([109,97,105,110,46,103,112],(.tuple [dF,(.tuple [cg,(.int 4),(.tuple [bf])])])),([109,97,105,110,46,103,110],(.tuple [fF,lO])),([109,97,105,110,46,103,114],(.tuple [dF,(.tuple [fF,lO])])),([109,97,105,110,46,103,113],(.tuple [aU,aU])),([109,97,105,110,46,103,115],(.tuple [qQ,(.tuple [bf])])),([109,97,105,110,46,103,116],(.tuple [dF,(.tuple [dF,(.tuple [cg,(.int 4),(.tuple [bf])])])])),([109,97,105,110,46,103,101],(.tuple [cg,(.int 0),(.tuple [bf])]))])]
noncomputable def yu:List (Nat×List (Nat×Nat)):=[(0,[(0,12),(1,13),(4,14),(6,17),(8,15),(9,16)]),(1,[(3,21),(5,20)]),(2,[(2,19),(7,18)])]
noncomputable def bG:bJ:=⟨ui Dj,assoc qX,ui yu,getD globT .none,wE⟩
end Mine
namespace Mine
open PySem PySem.W PyProof.Rows
set_option tactic.hygienic true
noncomputable abbrev pw:Program:=PySem.Challenge.pw_xw0050_01
noncomputable def ft(i:Nat):Arguments×List Stmt×Scope:=match pw.main.body[i]?with
 |some (.FunctionDef _ a b _ _ _ s _ _ _)=>(a,b,s)
 |_=>default
noncomputable def fm(i j:Nat):Arguments×List Stmt×Scope:=match pw.main.body[i]?with
 |some (.ClassDef _ _ _ b _ _ _ _ _ _ _)=>match b[j]?with
  |some (.FunctionDef _ a b _ _ _ s _ _ _)=>(a,b,s)
  |_=>default
 |_=>default
noncomputable abbrev z:BT:=.nil
noncomputable abbrev e(o:Obj):BT:=.node o .nil .nil
abbrev Qs(x:String)(n:Nat):Value:=.str (.ofString x) n
abbrev Qr(n:Nat):Value:=.ref n
abbrev Qi(a:Int)(n:Nat):Value:=.int a n
abbrev Qt(x:String):Value:=.type x
abbrev Qb(x:String):Value:=.builtin x
abbrev Qk(P:Params)(x:String)(n:Nat)(v:Value):DictEntry:=⟨PyData.keyHash P (.ofString x),.str (.ofString x) n,v⟩
abbrev QO(P:Params)(c:Value)(d:Option Nat)(a:Data)(s:List (Option Value)):Obj:=⟨c,d,a,⟨s⟩⟩
abbrev QT(P:Params)(l:List Value):Obj:=⟨.type "tuple",none,.seq ⟨l⟩ 0,⟨[]⟩⟩
abbrev QN(P:Params)(l:List Value):Obj:=⟨.none,none,.fields ⟨l⟩,⟨[]⟩⟩
abbrev QD(P:Params)(l:List DictEntry)(n:Nat):Obj:=⟨.type "dict",none,.dict ⟨l⟩ n,⟨[]⟩⟩
abbrev QC(P:Params)(x y:String)(n:Nat)(a b c d e:Int)(r:Nat)(t:Bool)(q:Nat)(u v w:Value)(m:Nat):Obj:=⟨.type "code",none,.fields ⟨[Qs x n,Qs y (n+1),Qs "/claim/cut.py" (n+2),Qi a 0,Qi b 0,Qi c 0,Qi d 0,Qi e 0,Qr r,.bool t,Qi 181 0,Qr q,.none,u,v,w,Qi m 0,Qi a 0,Qs "/claim/cut.py" (m+1)]⟩,⟨[]⟩⟩
abbrev QF(P:Params)(x y:String)(A:Arguments×List Stmt×Scope):Obj:=⟨.none,none,.func ⟨.ofString x,.ofString y,A.1,.stmts A.2.1,A.2.2,0,[],.none,.none,.none,.none,none,.none,.none,0⟩,⟨[]⟩⟩
abbrev QH(P:Params)(x y:String)(A:Arguments×List Stmt×Scope)(g:Nat)(a b c d:Value)(r:Nat)(u:Value)(k:Nat):Obj:=⟨.type "function",none,.func ⟨.ofString x,.ofString y,A.1,.stmts A.2.1,A.2.2,g,[],a,b,c,d,none,.ref r,u,k⟩,⟨[]⟩⟩
abbrev QG(P:Params)(x y:String)(A:Arguments×List Stmt×Scope)(g:Nat)(a d:Value)(r:Nat):Obj:=QH P x y A g a .none .none d r .none 0
noncomputable abbrev QE(o:Params→Obj)(P:Params):BT:=e (o P)
abbrev V(o:Params→Obj)(l r:Params→BT)(P:Params):BT:=.node (o P) (l P) (r P)
abbrev QZ(P:Params):BT:=.nil
section
variable(P:Params)
noncomputable def ae:=QT P []
noncomputable def ag:=QN P []
noncomputable def lf:=QC P "<module>" "<module>" 182 1 0 0 0 0 11 false 12 .none .none .none 185
noncomputable def lg:=QO P (Qt "frame") none .plain [some (Qr 13),some (Qr 3),some (Qr 3),none,some (Qs "__main__" 164),none,some (Qr 0)]
noncomputable def mN:=QO P .none none (.dict ⟨[Qk P "type.__subclasses__.Exception.0" 224 (Qi 39 0),Qk P "type.__subclasses__.Exception.n" 225 (Qi 1 0)]⟩ 2) []
noncomputable def mO:=QT P [Qs "k" 190]
noncomputable def mP:=QF P "_wall" "_wall" (ft 0)
noncomputable def mQ:=QC P "_wall" "_wall" 187 1 1 0 0 3 15 true 16 (Qr 17) (Qr 18) (Qr 19) 191
noncomputable def mR:=QG P "_wall" "_wall" (ft 0) 3 .none (Qs "__main__" 164) 20
noncomputable def mU:=QT P [Qt "Exception"]
noncomputable def bh:=QO P (Qt "builtin_function_or_method") none (.fields ⟨[Qb "type.__prepare__",Qt "type"]⟩) []
noncomputable def mV:=QD P [Qk P "__module__" 203 (Qs "chancore.errors" 194),Qk P "__qualname__" 205 (Qs "ChanError" 204),Qk P "__firstlineno__" 207 (Qi 5 206),Qk P "__init__" 217 (Qr 36),Qk P "__static_attributes__" 220 (Qr 37)] 5
noncomputable def mW:=QN P [Qi 7 0,Qi 4 0,Qr 35]
noncomputable def mX:=QC P "ChanError" "ChanError" 198 5 0 0 0 0 25 false 26 .none .none .none 201
noncomputable def mY:=QO P (Qt "frame") none .plain [some (Qr 27),some (Qr 3),some (Qr 24),none,some (Qs "chancore.errors" 194),none,some (Qr 0)]
noncomputable def mZ:=QT P [Qi 0 208]
noncomputable def m8:=QT P [Qs "self" 212,Qs "message" 213,Qs "spot" 214]
noncomputable def m9:=QF P "__init__" "ChanError.__init__" (fm 2 0)
noncomputable def ng:=QC P "__init__" "ChanError.__init__" 209 7 3 0 0 3 30 true 31 (Qr 32) (Qr 33) (Qr 34) 215
noncomputable def nh:=QG P "__init__" "ChanError.__init__" (fm 2 0) 3 (Qr 29) (Qs "chancore.errors" 194) 35
noncomputable def ni:=QT P [Qs "message" 218,Qs "spot" 219]
noncomputable def nj:=QD P [Qk P "__module__" 203 (Qs "chancore.errors" 194),Qk P "__firstlineno__" 207 (Qi 5 206),Qk P "__init__" 217 (Qr 36),Qk P "__static_attributes__" 220 (Qr 37),Qk P "__weakref__" 222 (Qr 40),Qk P "__doc__" 223 .none] 3
noncomputable def nk:=QO P (Qt "getset_descriptor") none (.fields ⟨[Qs "__weakref__" 221,Qr 39,Qb "ExceptionGroup.__weakref__",.none]⟩) []
noncomputable def nq:=QO P (Qt "super") none (.fields ⟨[Qr 39,Qr 39,Qr 39]⟩) []
noncomputable def nu:=QO P (Qt "builtin_function_or_method") none (.fields ⟨[Qb "object.__init_subclass__",Qr 39]⟩) []
noncomputable def dA:=QT P [Qr 39]
noncomputable def nv:=QD P [Qk P "__module__" 235 (Qs "chancore.errors" 194),Qk P "__qualname__" 237 (Qs "NameFault" 236),Qk P "__firstlineno__" 239 (Qi 11 238),Qk P "__static_attributes__" 240 (Qr 50)] 4
noncomputable def nw:=QC P "NameFault" "NameFault" 230 11 0 0 0 0 46 false 47 .none .none .none 233
noncomputable def ny:=QO P (Qt "frame") none .plain [some (Qr 48),some (Qr 3),some (Qr 45),none,some (Qs "chancore.errors" 194),none,some (Qr 0)]
noncomputable def nz:=QD P [Qk P "__module__" 235 (Qs "chancore.errors" 194),Qk P "__firstlineno__" 239 (Qi 11 238),Qk P "__static_attributes__" 240 (Qr 50),Qk P "__doc__" 241 .none] 2
noncomputable def nA:=QO P (Qt "type") none (.cls ⟨"NameFault",[Qr 39],[Qr 52,Qr 39,Qt "Exception",Qt "BaseException",Qt "object"],51,"NameFault",true,[],[],false,none,false⟩) [some (Qr 43),none,some (Qs "NameFault" 228),some (Qs "NameFault" 236),some (Qb "Exception.__new__"),some (.bool true)]
noncomputable def nB:=QO P (Qt "super") none (.fields ⟨[Qr 52,Qr 52,Qr 52]⟩) []
noncomputable def nC:=QO P (Qt "builtin_function_or_method") none (.fields ⟨[Qb "object.__init_subclass__",Qr 52]⟩) []
noncomputable def o95:=QD P [Qk P "__name__" 165 (Qs "chancore.errors" 194),Qk P "__doc__" 166 .none,Qk P "__package__" 167 .none,Qk P "__loader__" 168 (Qb "__main__.__loader__#opaque"),Qk P "__spec__" 169 .none,Qk P "__annotations__" 170 (Qr 6),Qk P "__builtins__" 171 (Qr 4),Qk P "__file__" 173 (Qs "/claim/cut.py" 172),Qk P "__cached__" 174 .none,Qk P "_wall" 193 (Qr 21),Qk P "ChanError" 227 (Qr 39),Qk P "NameFault" 243 (Qr 52),Qk P "TypeFault" 259 (Qr 64)] 13
noncomputable def o96:=QN P [Qi 1 0,Qi 0 0,Qr 20,Qi 5 0,Qi 0 0,Qr 27,Qi 11 0,Qi 0 0,Qr 48,Qi 13 0,Qi 0 0,Qr 60]
noncomputable def o97:=QO P (Qt "type") none (.cls ⟨"ChanError",[Qt "Exception"],[Qr 39,Qt "Exception",Qt "BaseException",Qt "object"],38,"ChanError",true,[],[Qr 52,Qr 64],false,none,false⟩) [some (Qr 22),none,some (Qs "ChanError" 196),some (Qs "ChanError" 204),some (Qb "Exception.__new__"),some (.bool true)]
noncomputable def mu:=QD P [Qk P "__module__" 251 (Qs "chancore.errors" 194),Qk P "__qualname__" 253 (Qs "TypeFault" 252),Qk P "__firstlineno__" 255 (Qi 13 254),Qk P "__static_attributes__" 256 (Qr 62)] 4
noncomputable def my:=QC P "TypeFault" "TypeFault" 246 13 0 0 0 0 58 false 59 .none .none .none 249
noncomputable def mz:=QO P (Qt "frame") none .plain [some (Qr 60),some (Qr 3),some (Qr 57),none,some (Qs "chancore.errors" 194),none,some (Qr 0)]
noncomputable def mA:=QD P [Qk P "__module__" 251 (Qs "chancore.errors" 194),Qk P "__firstlineno__" 255 (Qi 13 254),Qk P "__static_attributes__" 256 (Qr 62),Qk P "__doc__" 257 .none] 2
noncomputable def mB:=QO P (Qt "type") none (.cls ⟨"TypeFault",[Qr 39],[Qr 64,Qr 39,Qt "Exception",Qt "BaseException",Qt "object"],63,"TypeFault",true,[],[],false,none,false⟩) [some (Qr 55),none,some (Qs "TypeFault" 244),some (Qs "TypeFault" 252),some (Qb "Exception.__new__"),some (.bool true)]
noncomputable def mC:=QO P (Qt "super") none (.fields ⟨[Qr 64,Qr 64,Qr 64]⟩) []
noncomputable def mD:=QO P (Qt "builtin_function_or_method") none (.fields ⟨[Qb "object.__init_subclass__",Qr 64]⟩) []
noncomputable def acC:=QD P [Qk P "__name__" 165 (Qs "chancore.consts" 276),Qk P "__doc__" 166 .none,Qk P "__package__" 167 .none,Qk P "__loader__" 168 (Qb "__main__.__loader__#opaque"),Qk P "__spec__" 169 .none,Qk P "__annotations__" 170 (Qr 6),Qk P "__builtins__" 171 (Qr 4),Qk P "__file__" 173 (Qs "/claim/cut.py" 172),Qk P "__cached__" 174 .none,Qk P "_wall" 193 (Qr 21),Qk P "ChanError" 227 (Qr 39),Qk P "NameFault" 243 (Qr 52),Qk P "TypeFault" 259 (Qr 64),Qk P "ConstFault" 275 (Qr 76),Qk P "BITS" 308 (Qr 79),Qk P "MOST_BITS" 310 (Qi 512 309)] 16
noncomputable def acD:=QN P [Qi 1 0,Qi 0 0,Qr 20,Qi 5 0,Qi 0 0,Qr 27,Qi 11 0,Qi 0 0,Qr 48,Qi 13 0,Qi 0 0,Qr 60,Qi 15 0,Qi 0 0,Qr 72]
noncomputable def pc:=QO P (Qt "type") none (.cls ⟨"ChanError",[Qt "Exception"],[Qr 39,Qt "Exception",Qt "BaseException",Qt "object"],38,"ChanError",true,[],[Qr 52,Qr 64,Qr 76],false,none,false⟩) [some (Qr 22),none,some (Qs "ChanError" 196),some (Qs "ChanError" 204),some (Qb "Exception.__new__"),some (.bool true)]
noncomputable def pd:=QD P [Qk P "__module__" 267 (Qs "chancore.errors" 194),Qk P "__qualname__" 269 (Qs "ConstFault" 268),Qk P "__firstlineno__" 271 (Qi 15 270),Qk P "__static_attributes__" 272 (Qr 74)] 4
noncomputable def pe:=QC P "ConstFault" "ConstFault" 262 15 0 0 0 0 70 false 71 .none .none .none 265
noncomputable def pf:=QO P (Qt "frame") none .plain [some (Qr 72),some (Qr 3),some (Qr 69),none,some (Qs "chancore.errors" 194),none,some (Qr 0)]
noncomputable def pg:=QD P [Qk P "__module__" 267 (Qs "chancore.errors" 194),Qk P "__firstlineno__" 271 (Qi 15 270),Qk P "__static_attributes__" 272 (Qr 74),Qk P "__doc__" 273 .none] 2
noncomputable def ph:=QO P (Qt "type") none (.cls ⟨"ConstFault",[Qr 39],[Qr 76,Qr 39,Qt "Exception",Qt "BaseException",Qt "object"],75,"ConstFault",true,[],[],false,none,false⟩) [some (Qr 67),none,some (Qs "ConstFault" 260),some (Qs "ConstFault" 268),some (Qb "Exception.__new__"),some (.bool true)]
noncomputable def pj:=QO P (Qt "super") none (.fields ⟨[Qr 76,Qr 76,Qr 76]⟩) []
noncomputable def pn:=QO P (Qt "builtin_function_or_method") none (.fields ⟨[Qb "object.__init_subclass__",Qr 76]⟩) []
noncomputable def po:=QD P [Qk P "int" 278 (Qi 64 279),Qk P "int8" 280 (Qi 8 281),Qk P "int16" 282 (Qi 16 283),Qk P "int32" 284 (Qi 32 285),Qk P "int64" 286 (Qi 64 287),Qk P "uint" 288 (Qi 64 289),Qk P "uint8" 290 (Qi 8 291),Qk P "uint16" 292 (Qi 16 293),Qk P "uint32" 294 (Qi 32 295),Qk P "uint64" 296 (Qi 64 297)] 10
noncomputable def rv:=QT P [Qs "==" 315,Qs "!=" 316,Qs "<" 317,Qs "<=" 318,Qs ">" 319,Qs ">=" 320]
noncomputable def rx:=QT P [Qs "kind" 327]
noncomputable def ry:=QF P "is_unsigned" "is_unsigned" (ft 12)
noncomputable def rz:=QC P "is_unsigned" "is_unsigned" 324 23 1 0 0 3 81 true 82 (Qr 83) (Qr 84) (Qr 85) 328
noncomputable def rA:=QG P "is_unsigned" "is_unsigned" (ft 12) 3 .none (Qs "chancore.consts" 276) 86
noncomputable def rB:=QT P [Qs "kind" 334]
noncomputable def rD:=QF P "int_range" "int_range" (ft 13)
noncomputable def rE:=QC P "int_range" "int_range" 331 25 1 0 0 3 88 true 89 (Qr 90) (Qr 91) (Qr 92) 335
noncomputable def rF:=QG P "int_range" "int_range" (ft 13) 3 .none (Qs "chancore.consts" 276) 93
noncomputable def rG:=QT P [Qs "number" 341,Qs "kind" 342,Qs "low" 343,Qs "high" 344]
noncomputable def rH:=QF P "is_in_range" "is_in_range" (ft 14)
noncomputable def rI:=QC P "is_in_range" "is_in_range" 338 29 2 0 0 3 95 true 96 (Qr 97) (Qr 98) (Qr 99) 345
noncomputable def rJ:=QG P "is_in_range" "is_in_range" (ft 14) 3 .none (Qs "chancore.consts" 276) 100
noncomputable def rK:=QT P [Qs "number" 351,Qs "kind" 352]
noncomputable def rM:=QF P "within_range" "within_range" (ft 15)
noncomputable def rN:=QC P "within_range" "within_range" 348 34 2 0 0 3 102 true 103 (Qr 104) (Qr 105) (Qr 106) 353
noncomputable def rO:=QG P "within_range" "within_range" (ft 15) 3 .none (Qs "chancore.consts" 276) 107
noncomputable def rP:=QT P [Qs "value" 359,Qs "told" 360,Qs "word" 361]
noncomputable def rQ:=QF P "representable" "representable" (ft 16)
noncomputable def rR:=QC P "representable" "representable" 356 38 2 0 0 3 109 true 110 (Qr 111) (Qr 112) (Qr 113) 362
noncomputable def rS:=QG P "representable" "representable" (ft 16) 3 .none (Qs "chancore.consts" 276) 114
noncomputable def dv:=QT P [.none]
noncomputable def rT:=QT P [Qs "op" 368,Qs "value" 369,Qs "kind" 370]
noncomputable def rU:=QF P "const_unary" "const_unary" (ft 17)
noncomputable def rV:=QC P "const_unary" "const_unary" 365 51 3 0 0 3 117 true 118 (Qr 119) (Qr 120) (Qr 121) 371
noncomputable def rW:=QG P "const_unary" "const_unary" (ft 17) 3 (Qr 116) (Qs "chancore.consts" 276) 122
noncomputable def rX:=QT P [Qs "a" 377,Qs "b" 378,Qs "found" 379]
noncomputable def rY:=QF P "const_quotient" "const_quotient" (ft 18)
noncomputable def rZ:=QC P "const_quotient" "const_quotient" 374 63 2 0 0 3 124 true 125 (Qr 126) (Qr 127) (Qr 128) 380
noncomputable def r6:=QG P "const_quotient" "const_quotient" (ft 18) 3 .none (Qs "chancore.consts" 276) 129
noncomputable def r8:=QT P [Qs "op" 386,Qs "a" 387,Qs "many" 388,Qs "kind" 389]
noncomputable def sb:=QF P "const_shift" "const_shift" (ft 19)
noncomputable def sd:=QC P "const_shift" "const_shift" 383 68 4 0 0 3 131 true 132 (Qr 133) (Qr 134) (Qr 135) 390
noncomputable def se:=QG P "const_shift" "const_shift" (ft 19) 3 .none (Qs "chancore.consts" 276) 136
noncomputable def sf:=QT P [Qs "op" 396,Qs "a" 397,Qs "b" 398]
noncomputable def sg:=QF P "int_binary" "int_binary" (ft 20)
noncomputable def sh:=QC P "int_binary" "int_binary" 393 76 3 0 0 3 138 true 139 (Qr 140) (Qr 141) (Qr 142) 399
noncomputable def si:=QG P "int_binary" "int_binary" (ft 20) 3 .none (Qs "chancore.consts" 276) 143
noncomputable def sj:=QT P [Qs "op" 405,Qs "a" 406,Qs "b" 407]
noncomputable def sk:=QF P "const_compared" "const_compared" (ft 21)
noncomputable def su:=QC P "const_compared" "const_compared" 402 96 3 0 0 3 145 true 146 (Qr 147) (Qr 148) (Qr 149) 408
noncomputable def sv:=QG P "const_compared" "const_compared" (ft 21) 3 .none (Qs "chancore.consts" 276) 150
noncomputable def sy:=QT P [Qs "value" 414]
noncomputable def sz:=QO P .none none (.func ⟨"sort_of_const","sort_of_const",(ft 22).1,.stmts (ft 22).2.1,(ft 64).2.2,0,[],.none,.none,.none,.none,none,.none,.none,0⟩) []
noncomputable def sA:=QC P "sort_of_const" "sort_of_const" 411 108 1 0 0 3 152 true 153 (Qr 154) (Qr 155) (Qr 156) 415
noncomputable def sB:=QO P (Qt "function") none (.func ⟨"sort_of_const","sort_of_const",(ft 22).1,.stmts (ft 22).2.1,(ft 64).2.2,3,[],.none,.none,.none,Qs "chancore.consts" 276,none,Qr 157,.none,0⟩) []
noncomputable def acE:=QD P [Qk P "__name__" 165 (Qs "chancore.type_exprs" 457),Qk P "__doc__" 166 .none,Qk P "__package__" 167 .none,Qk P "__loader__" 168 (Qb "__main__.__loader__#opaque"),Qk P "__spec__" 169 .none,Qk P "__annotations__" 170 (Qr 6),Qk P "__builtins__" 171 (Qr 4),Qk P "__file__" 173 (Qs "/claim/cut.py" 172),Qk P "__cached__" 174 .none,Qk P "_wall" 193 (Qr 21),Qk P "ChanError" 227 (Qr 39),Qk P "NameFault" 243 (Qr 52),Qk P "TypeFault" 259 (Qr 64),Qk P "ConstFault" 275 (Qr 76),Qk P "BITS" 308 (Qr 79),Qk P "MOST_BITS" 310 (Qi 512 309),Qk P "MOST_TEXT" 314 (Qi 1048576 313),Qk P "COMPARISONS" 321 (Qr 80),Qk P "WRONG_RUNE" 323 (.bytes ⟨[239,191,189]⟩ 322),Qk P "is_unsigned" 330 (Qr 87),Qk P "int_range" 337 (Qr 94),Qk P "is_in_range" 347 (Qr 101),Qk P "within_range" 355 (Qr 108),Qk P "representable" 364 (Qr 115),Qk P "const_unary" 373 (Qr 123),Qk P "const_quotient" 382 (Qr 130),Qk P "const_shift" 392 (Qr 137),Qk P "int_binary" 401 (Qr 144),Qk P "const_compared" 410 (Qr 151),Qk P "sort_of_const" 417 (Qr 158),Qk P "const_binary" 428 (Qr 166),Qk P "rune_octets" 435 (Qr 173),Qk P "const_convert" 443 (Qr 180),Qk P "MAIN" 447 (Qs "main" 446),Qk P "own_name" 456 (Qr 187),Qk P "SYNC_TYPES" 461 (Qr 188),Qk P "MOST_LENGTH" 465 (Qi 1048576 464),Qk P "MOST_PARTS" 467 (Qi 2000 466),Qk P "MOST_LEVELS" 469 (Qi 100 468),Qk P "type_entry" 483 (Qr 196),Qk P "exported_entry" 494 (Qr 204),Qk P "want_few_parts" 500 (Qr 209)] 42
noncomputable def acF:=QN P [Qi 1 0,Qi 0 0,Qr 20,Qi 5 0,Qi 0 0,Qr 27,Qi 11 0,Qi 0 0,Qr 48,Qi 13 0,Qi 0 0,Qr 60,Qi 15 0,Qi 0 0,Qr 72,Qi 23 0,Qi 0 0,Qr 86,Qi 25 0,Qi 0 0,Qr 93,Qi 29 0,Qi 0 0,Qr 100,Qi 34 0,Qi 0 0,Qr 107,Qi 38 0,Qi 0 0,Qr 114,Qi 51 0,Qi 0 0,Qr 122,Qi 63 0,Qi 0 0,Qr 129,Qi 68 0,Qi 0 0,Qr 136,Qi 76 0,Qi 0 0,Qr 143,Qi 96 0,Qi 0 0,Qr 150,Qi 108 0,Qi 0 0,Qr 157,Qi 112 0,Qi 0 0,Qr 165,Qi 129 0,Qi 0 0,Qr 172,Qi 133 0,Qi 0 0,Qr 179,Qi 141 0,Qi 0 0,Qr 186,Qi 150 0,Qi 0 0,Qr 195,Qi 165 0,Qi 0 0,Qr 203,Qi 174 0,Qi 0 0,Qr 208]
noncomputable def sC:=QT P [Qs "op" 421,Qs "a" 422,Qs "b" 423,Qs "kind" 424,Qs "sort" 425]
noncomputable def sD:=QF P "const_binary" "const_binary" (ft 23)
noncomputable def sE:=QC P "const_binary" "const_binary" 418 112 4 0 0 3 160 true 161 (Qr 162) (Qr 163) (Qr 164) 426
noncomputable def sF:=QG P "const_binary" "const_binary" (ft 23) 3 (Qr 159) (Qs "chancore.consts" 276) 165
noncomputable def sG:=QT P [Qs "number" 432]
noncomputable def sH:=QF P "rune_octets" "rune_octets" (ft 24)
noncomputable def sI:=QC P "rune_octets" "rune_octets" 429 129 1 0 0 3 167 true 168 (Qr 169) (Qr 170) (Qr 171) 433
noncomputable def sJ:=QG P "rune_octets" "rune_octets" (ft 24) 3 .none (Qs "chancore.consts" 276) 172
noncomputable def sK:=QT P [Qs "value" 439,Qs "told" 440]
noncomputable def sL:=QF P "const_convert" "const_convert" (ft 25)
noncomputable def sM:=QC P "const_convert" "const_convert" 436 133 2 0 0 3 174 true 175 (Qr 176) (Qr 177) (Qr 178) 441
noncomputable def sN:=QG P "const_convert" "const_convert" (ft 25) 3 .none (Qs "chancore.consts" 276) 179
noncomputable def sO:=QT P [Qs "world" 451,Qs "package" 452,Qs "name" 453]
noncomputable def sP:=QF P "own_name" "own_name" (ft 28)
noncomputable def sQ:=QC P "own_name" "own_name" 448 141 3 0 0 3 181 true 182 (Qr 183) (Qr 184) (Qr 185) 454
noncomputable def sR:=QG P "own_name" "own_name" (ft 28) 3 .none (Qs "chancore.lookup" 444) 186
noncomputable def sS:=QT P [Qs "Mutex" 459,Qs "WaitGroup" 460]
noncomputable def iy:=QT P [.bool true]
noncomputable def sU:=QT P [Qs "world" 473,Qs "scope" 474,Qs "package" 475,Qs "name" 476,Qs "spot" 477,Qs "is_wanted" 478,Qs "entry" 479,Qs "around" 480]
noncomputable def sV:=QF P "type_entry" "type_entry" (ft 34)
noncomputable def sW:=QC P "type_entry" "type_entry" 470 150 6 0 0 3 190 true 191 (Qr 192) (Qr 193) (Qr 194) 481
noncomputable def sX:=QG P "type_entry" "type_entry" (ft 34) 3 (Qr 189) (Qs "chancore.type_exprs" 457) 195
noncomputable def sY:=QT P [Qs "world" 487,Qs "path" 488,Qs "name" 489,Qs "spot" 490,Qs "is_wanted" 491]
noncomputable def sZ:=QF P "exported_entry" "exported_entry" (ft 35)
noncomputable def s0:=QC P "exported_entry" "exported_entry" 484 165 5 0 0 3 198 true 199 (Qr 200) (Qr 201) (Qr 202) 492
noncomputable def tc:=QG P "exported_entry" "exported_entry" (ft 35) 3 (Qr 197) (Qs "chancore.type_exprs" 457) 203
noncomputable def tf:=QF P "want_few_parts" "want_few_parts" (ft 36)
noncomputable def tg:=QC P "want_few_parts" "want_few_parts" 495 174 2 0 0 3 205 true 206 .none .none (Qr 207) 498
noncomputable def th:=QG P "want_few_parts" "want_few_parts" (ft 36) 3 .none (Qs "chancore.type_exprs" 457) 208
noncomputable def acG:=QN P [Qi 1 0,Qi 0 0,Qr 20,Qi 5 0,Qi 0 0,Qr 27,Qi 11 0,Qi 0 0,Qr 48,Qi 13 0,Qi 0 0,Qr 60,Qi 15 0,Qi 0 0,Qr 72,Qi 23 0,Qi 0 0,Qr 86,Qi 25 0,Qi 0 0,Qr 93,Qi 29 0,Qi 0 0,Qr 100,Qi 34 0,Qi 0 0,Qr 107,Qi 38 0,Qi 0 0,Qr 114,Qi 51 0,Qi 0 0,Qr 122,Qi 63 0,Qi 0 0,Qr 129,Qi 68 0,Qi 0 0,Qr 136,Qi 76 0,Qi 0 0,Qr 143,Qi 96 0,Qi 0 0,Qr 150,Qi 108 0,Qi 0 0,Qr 157,Qi 112 0,Qi 0 0,Qr 165,Qi 129 0,Qi 0 0,Qr 172,Qi 133 0,Qi 0 0,Qr 179,Qi 141 0,Qi 0 0,Qr 186,Qi 150 0,Qi 0 0,Qr 195,Qi 165 0,Qi 0 0,Qr 203,Qi 174 0,Qi 0 0,Qr 208,Qi 183 0,Qi 0 0,Qr 215]
noncomputable def uZ:=QD P [Qk P "__module__" 508 (Qs "chancore.type_exprs" 457),Qk P "__qualname__" 510 (Qs "TypeReader" 509),Qk P "__firstlineno__" 512 (Qi 183 511),Qk P "__init__" 523 (Qr 223),Qk P "read" 533 (Qr 230),Qk P "all" 539 (Qr 235),Qk P "length" 549 (Qr 242),Qk P "key" 558 (Qr 249),Qk P "struct" 572 (Qr 256),Qk P "kept" 581 (Qr 263),Qk P "interface" 587 (Qr 268),Qk P "__static_attributes__" 592 (Qr 269)] 12
noncomputable def u0:=QN P [Qi 185 0,Qi 4 0,Qr 222,Qi 191 0,Qi 4 0,Qr 229,Qi 209 0,Qi 4 0,Qr 234,Qi 212 0,Qi 4 0,Qr 241,Qi 218 0,Qi 4 0,Qr 248,Qi 223 0,Qi 4 0,Qr 255,Qi 235 0,Qi 4 0,Qr 262,Qi 239 0,Qi 4 0,Qr 267]
noncomputable def u5:=QC P "TypeReader" "TypeReader" 503 183 0 0 0 0 213 false 214 .none .none .none 506
noncomputable def u6:=QO P (Qt "frame") none .plain [some (Qr 215),some (Qr 3),some (Qr 212),none,some (Qs "chancore.type_exprs" 457),none,some (Qr 0)]
noncomputable def u7:=QT P [Qs "self" 516,Qs "world" 517,Qs "package" 518,Qs "scope" 519,Qs "const_reader" 520]
noncomputable def u8:=QF P "__init__" "TypeReader.__init__" (fm 37 0)
noncomputable def u9:=QC P "__init__" "TypeReader.__init__" 513 185 5 0 0 3 217 true 218 (Qr 219) (Qr 220) (Qr 221) 521
noncomputable def va:=QG P "__init__" "TypeReader.__init__" (fm 37 0) 3 .none (Qs "chancore.type_exprs" 457) 222
noncomputable def vf:=QT P [Qs "self" 527,Qs "typex" 528,Qs "kind" 529,Qs "spot" 530]
noncomputable def vg:=QF P "read" "TypeReader.read" (fm 37 1)
noncomputable def vh:=QC P "read" "TypeReader.read" 524 191 2 0 0 3 224 true 225 (Qr 226) (Qr 227) (Qr 228) 531
noncomputable def vi:=QG P "read" "TypeReader.read" (fm 37 1) 3 .none (Qs "chancore.type_exprs" 457) 229
noncomputable def vj:=QF P "all" "TypeReader.all" (fm 37 2)
noncomputable def vk:=QC P "all" "TypeReader.all" 534 209 2 0 0 3 231 true 232 .none .none (Qr 233) 537
noncomputable def vm:=QG P "all" "TypeReader.all" (fm 37 2) 3 .none (Qs "chancore.type_exprs" 457) 234
noncomputable def vn:=QT P [Qs "self" 543,Qs "expr" 544,Qs "told" 545,Qs "value" 546]
noncomputable def vp:=QF P "length" "TypeReader.length" (fm 37 3)
noncomputable def vq:=QC P "length" "TypeReader.length" 540 212 2 0 0 3 236 true 237 (Qr 238) (Qr 239) (Qr 240) 547
noncomputable def vr:=QG P "length" "TypeReader.length" (fm 37 3) 3 .none (Qs "chancore.type_exprs" 457) 241
noncomputable def vt:=QT P [Qs "self" 553,Qs "typex" 554,Qs "told" 555]
noncomputable def vu:=QF P "key" "TypeReader.key" (fm 37 4)
noncomputable def vw:=QC P "key" "TypeReader.key" 550 218 2 0 0 3 243 true 244 (Qr 245) (Qr 246) (Qr 247) 556
noncomputable def vx:=QG P "key" "TypeReader.key" (fm 37 4) 3 .none (Qs "chancore.type_exprs" 457) 248
noncomputable def vy:=QT P [Qs "self" 562,Qs "typex" 563,Qs "rows" 564,Qs "names" 565,Qs "name" 566,Qs "inner" 567,Qs "is_embedded" 568,Qs "told" 569]
noncomputable def vz:=QF P "struct" "TypeReader.struct" (fm 37 5)
noncomputable def vA:=QC P "struct" "TypeReader.struct" 559 223 2 0 0 3 250 true 251 (Qr 252) (Qr 253) (Qr 254) 570
noncomputable def vB:=QG P "struct" "TypeReader.struct" (fm 37 5) 3 .none (Qs "chancore.type_exprs" 457) 255
noncomputable def vC:=QT P [Qs "self" 576,Qs "told" 577,Qs "spot" 578]
noncomputable def vD:=QF P "kept" "TypeReader.kept" (fm 37 6)
noncomputable def vE:=QC P "kept" "TypeReader.kept" 573 235 3 0 0 3 257 true 258 (Qr 259) (Qr 260) (Qr 261) 579
noncomputable def vF:=QG P "kept" "TypeReader.kept" (fm 37 6) 3 .none (Qs "chancore.type_exprs" 457) 262
noncomputable def vG:=QF P "interface" "TypeReader.interface" (fm 37 7)
noncomputable def vH:=QC P "interface" "TypeReader.interface" 582 239 2 0 0 3 264 true 265 .none .none (Qr 266) 585
noncomputable def vJ:=QG P "interface" "TypeReader.interface" (fm 37 7) 3 .none (Qs "chancore.type_exprs" 457) 267
noncomputable def vK:=QT P [Qs "const_reader" 588,Qs "package" 589,Qs "scope" 590,Qs "world" 591]
noncomputable def vL:=QD P [Qk P "__module__" 508 (Qs "chancore.type_exprs" 457),Qk P "__firstlineno__" 512 (Qi 183 511),Qk P "__init__" 523 (Qr 223),Qk P "read" 533 (Qr 230),Qk P "all" 539 (Qr 235),Qk P "length" 549 (Qr 242),Qk P "key" 558 (Qr 249),Qk P "struct" 572 (Qr 256),Qk P "kept" 581 (Qr 263),Qk P "interface" 587 (Qr 268),Qk P "__static_attributes__" 592 (Qr 269),Qk P "__dict__" 594 (Qr 272),Qk P "__weakref__" 596 (Qr 273),Qk P "__doc__" 597 .none] 4
noncomputable def vM:=QO P (Qt "type") none (.cls ⟨"TypeReader",[Qt "object"],[Qr 271,Qt "object"],270,"TypeReader",true,[],[],false,none,false⟩) [none,none,some (Qs "TypeReader" 501),some (Qs "TypeReader" 509),some (Qb "object.__new__"),some (.bool true)]
noncomputable def vN:=QO P (Qt "getset_descriptor") none (.fields ⟨[Qs "__dict__" 593,Qr 271,Qb "function.__dict__",Qb "function.__dict__#set"]⟩) []
noncomputable def vO:=QO P (Qt "getset_descriptor") none (.fields ⟨[Qs "__weakref__" 595,Qr 271,Qb "ExceptionGroup.__weakref__",.none]⟩) []
noncomputable def vP:=QO P (Qt "super") none (.fields ⟨[Qr 271,Qr 271,Qr 271]⟩) []
noncomputable def vQ:=QO P (Qt "builtin_function_or_method") none (.fields ⟨[Qb "object.__init_subclass__",Qr 271]⟩) []
noncomputable def acH:=QD P [Qk P "__name__" 165 (Qs "chancore.const_exprs" 600),Qk P "__doc__" 166 .none,Qk P "__package__" 167 .none,Qk P "__loader__" 168 (Qb "__main__.__loader__#opaque"),Qk P "__spec__" 169 .none,Qk P "__annotations__" 170 (Qr 6),Qk P "__builtins__" 171 (Qr 4),Qk P "__file__" 173 (Qs "/claim/cut.py" 172),Qk P "__cached__" 174 .none,Qk P "_wall" 193 (Qr 21),Qk P "ChanError" 227 (Qr 39),Qk P "NameFault" 243 (Qr 52),Qk P "TypeFault" 259 (Qr 64),Qk P "ConstFault" 275 (Qr 76),Qk P "BITS" 308 (Qr 79),Qk P "MOST_BITS" 310 (Qi 512 309),Qk P "MOST_TEXT" 314 (Qi 1048576 313),Qk P "COMPARISONS" 321 (Qr 80),Qk P "WRONG_RUNE" 323 (.bytes ⟨[239,191,189]⟩ 322),Qk P "is_unsigned" 330 (Qr 87),Qk P "int_range" 337 (Qr 94),Qk P "is_in_range" 347 (Qr 101),Qk P "within_range" 355 (Qr 108),Qk P "representable" 364 (Qr 115),Qk P "const_unary" 373 (Qr 123),Qk P "const_quotient" 382 (Qr 130),Qk P "const_shift" 392 (Qr 137),Qk P "int_binary" 401 (Qr 144),Qk P "const_compared" 410 (Qr 151),Qk P "sort_of_const" 417 (Qr 158),Qk P "const_binary" 428 (Qr 166),Qk P "rune_octets" 435 (Qr 173),Qk P "const_convert" 443 (Qr 180),Qk P "MAIN" 447 (Qs "main" 446),Qk P "own_name" 456 (Qr 187),Qk P "SYNC_TYPES" 461 (Qr 188),Qk P "MOST_LENGTH" 465 (Qi 1048576 464),Qk P "MOST_PARTS" 467 (Qi 2000 466),Qk P "MOST_LEVELS" 469 (Qi 100 468),Qk P "type_entry" 483 (Qr 196),Qk P "exported_entry" 494 (Qr 204),Qk P "want_few_parts" 500 (Qr 209),Qk P "TypeReader" 599 (Qr 271),Qk P "UNTYPED_INT" 604 (Qr 276),Qk P "UNTYPED_RUNE" 607 (Qr 277),Qk P "UNTYPED_BOOL" 610 (Qr 278),Qk P "UNTYPED_TEXT" 613 (Qr 279),Qk P "NUMBERS" 614 (Qr 280)] 48
noncomputable def vR:=QT P [Qs "untyped" 602,Qs "int" 603]
noncomputable def vS:=QT P [Qs "untyped" 605,Qs "rune" 606]
noncomputable def vU:=QT P [Qs "untyped" 608,Qs "bool" 609]
noncomputable def vV:=QT P [Qs "untyped" 611,Qs "string" 612]
noncomputable def vW:=QT P [Qr 276,Qr 277]
noncomputable def acI:=QD P [Qk P "__name__" 165 (Qs "chancore.const_exprs" 600),Qk P "__doc__" 166 .none,Qk P "__package__" 167 .none,Qk P "__loader__" 168 (Qb "__main__.__loader__#opaque"),Qk P "__spec__" 169 .none,Qk P "__annotations__" 170 (Qr 6),Qk P "__builtins__" 171 (Qr 4),Qk P "__file__" 173 (Qs "/claim/cut.py" 172),Qk P "__cached__" 174 .none,Qk P "_wall" 193 (Qr 21),Qk P "ChanError" 227 (Qr 39),Qk P "NameFault" 243 (Qr 52),Qk P "TypeFault" 259 (Qr 64),Qk P "ConstFault" 275 (Qr 76),Qk P "BITS" 308 (Qr 79),Qk P "MOST_BITS" 310 (Qi 512 309),Qk P "MOST_TEXT" 314 (Qi 1048576 313),Qk P "COMPARISONS" 321 (Qr 80),Qk P "WRONG_RUNE" 323 (.bytes ⟨[239,191,189]⟩ 322),Qk P "is_unsigned" 330 (Qr 87),Qk P "int_range" 337 (Qr 94),Qk P "is_in_range" 347 (Qr 101),Qk P "within_range" 355 (Qr 108),Qk P "representable" 364 (Qr 115),Qk P "const_unary" 373 (Qr 123),Qk P "const_quotient" 382 (Qr 130),Qk P "const_shift" 392 (Qr 137),Qk P "int_binary" 401 (Qr 144),Qk P "const_compared" 410 (Qr 151),Qk P "sort_of_const" 417 (Qr 158),Qk P "const_binary" 428 (Qr 166),Qk P "rune_octets" 435 (Qr 173),Qk P "const_convert" 443 (Qr 180),Qk P "MAIN" 447 (Qs "main" 446),Qk P "own_name" 456 (Qr 187),Qk P "SYNC_TYPES" 461 (Qr 188),Qk P "MOST_LENGTH" 465 (Qi 1048576 464),Qk P "MOST_PARTS" 467 (Qi 2000 466),Qk P "MOST_LEVELS" 469 (Qi 100 468),Qk P "type_entry" 483 (Qr 196),Qk P "exported_entry" 494 (Qr 204),Qk P "want_few_parts" 500 (Qr 209),Qk P "TypeReader" 599 (Qr 271),Qk P "UNTYPED_INT" 604 (Qr 276),Qk P "UNTYPED_RUNE" 607 (Qr 277),Qk P "UNTYPED_BOOL" 610 (Qr 278),Qk P "UNTYPED_TEXT" 613 (Qr 279),Qk P "NUMBERS" 614 (Qr 280),Qk P "ConstReader" 795 (Qr 386)] 49
noncomputable def acJ:=QN P [Qi 1 0,Qi 0 0,Qr 20,Qi 5 0,Qi 0 0,Qr 27,Qi 11 0,Qi 0 0,Qr 48,Qi 13 0,Qi 0 0,Qr 60,Qi 15 0,Qi 0 0,Qr 72,Qi 23 0,Qi 0 0,Qr 86,Qi 25 0,Qi 0 0,Qr 93,Qi 29 0,Qi 0 0,Qr 100,Qi 34 0,Qi 0 0,Qr 107,Qi 38 0,Qi 0 0,Qr 114,Qi 51 0,Qi 0 0,Qr 122,Qi 63 0,Qi 0 0,Qr 129,Qi 68 0,Qi 0 0,Qr 136,Qi 76 0,Qi 0 0,Qr 143,Qi 96 0,Qi 0 0,Qr 150,Qi 108 0,Qi 0 0,Qr 157,Qi 112 0,Qi 0 0,Qr 165,Qi 129 0,Qi 0 0,Qr 172,Qi 133 0,Qi 0 0,Qr 179,Qi 141 0,Qi 0 0,Qr 186,Qi 150 0,Qi 0 0,Qr 195,Qi 165 0,Qi 0 0,Qr 203,Qi 174 0,Qi 0 0,Qr 208,Qi 183 0,Qi 0 0,Qr 215,Qi 261 0,Qi 0 0,Qr 286]
noncomputable def yR:=QD P [Qk P "__module__" 622 (Qs "chancore.const_exprs" 600),Qk P "__qualname__" 624 (Qs "ConstReader" 623),Qk P "__firstlineno__" 626 (Qi 261 625),Qk P "__init__" 637 (Qr 294),Qk P "read" 647 (Qr 301),Qk P "named" 657 (Qr 308),Qk P "selected" 669 (Qr 315),Qk P "kind_of" 678 (Qr 322),Qk P "of_one" 690 (Qr 329),Qk P "of_two" 707 (Qr 336),Qk P "common" 719 (Qr 343),Qk P "called" 735 (Qr 350),Qk P "size" 748 (Qr 357),Qk P "array_size" 759 (Qr 364),Qk P "extreme" 765 (Qr 369),Qk P "wanted" 773 (Qr 376),Qk P "reckoned" 783 (Qr 383),Qk P "__static_attributes__" 788 (Qr 384)] 18
noncomputable def yS:=QN P [Qi 263 0,Qi 4 0,Qr 293,Qi 269 0,Qi 4 0,Qr 300,Qi 289 0,Qi 4 0,Qr 307,Qi 297 0,Qi 4 0,Qr 314,Qi 305 0,Qi 4 0,Qr 321,Qi 309 0,Qi 4 0,Qr 328,Qi 313 0,Qi 4 0,Qr 335,Qi 325 0,Qi 4 0,Qr 342,Qi 336 0,Qi 4 0,Qr 349,Qi 354 0,Qi 4 0,Qr 356,Qi 363 0,Qi 4 0,Qr 363,Qi 380 0,Qi 4 0,Qr 368,Qi 395 0,Qi 4 0,Qr 375,Qi 404 0,Qi 4 0,Qr 382]
noncomputable def yT:=QC P "ConstReader" "ConstReader" 617 261 0 0 0 0 284 false 285 .none .none .none 620
noncomputable def yU:=QO P (Qt "frame") none .plain [some (Qr 286),some (Qr 3),some (Qr 283),none,some (Qs "chancore.const_exprs" 600),none,some (Qr 0)]
noncomputable def yV:=QT P [Qs "self" 630,Qs "world" 631,Qs "package" 632,Qs "scope" 633,Qs "iota" 634]
noncomputable def yW:=QF P "__init__" "ConstReader.__init__" (fm 44 0)
noncomputable def yX:=QC P "__init__" "ConstReader.__init__" 627 263 5 0 0 3 288 true 289 (Qr 290) (Qr 291) (Qr 292) 635
noncomputable def yY:=QG P "__init__" "ConstReader.__init__" (fm 44 0) 3 .none (Qs "chancore.const_exprs" 600) 293
noncomputable def yZ:=QT P [Qs "self" 641,Qs "expr" 642,Qs "kind" 643,Qs "spot" 644]
noncomputable def y6:=QF P "read" "ConstReader.read" (fm 44 1)
noncomputable def y7:=QC P "read" "ConstReader.read" 638 269 2 0 0 3 295 true 296 (Qr 297) (Qr 298) (Qr 299) 645
noncomputable def y8:=QG P "read" "ConstReader.read" (fm 44 1) 3 .none (Qs "chancore.const_exprs" 600) 300
noncomputable def y9:=QT P [Qs "self" 651,Qs "entry" 652,Qs "name" 653,Qs "spot" 654]
noncomputable def za:=QF P "named" "ConstReader.named" (fm 44 2)
noncomputable def zb:=QC P "named" "ConstReader.named" 648 289 4 0 0 3 302 true 303 (Qr 304) (Qr 305) (Qr 306) 655
noncomputable def zc:=QG P "named" "ConstReader.named" (fm 44 2) 3 .none (Qs "chancore.const_exprs" 600) 307
noncomputable def ze:=QT P [Qs "self" 661,Qs "expr" 662,Qs "spot" 663,Qs "around" 664,Qs "name" 665,Qs "entry" 666]
noncomputable def zf:=QF P "selected" "ConstReader.selected" (fm 44 3)
noncomputable def zh:=QC P "selected" "ConstReader.selected" 658 297 2 0 0 3 309 true 310 (Qr 311) (Qr 312) (Qr 313) 667
noncomputable def zi:=QG P "selected" "ConstReader.selected" (fm 44 3) 3 .none (Qs "chancore.const_exprs" 600) 314
noncomputable def zj:=QT P [Qs "self" 673,Qs "told" 674,Qs "base" 675]
noncomputable def zl:=QF P "kind_of" "ConstReader.kind_of" (fm 44 4)
noncomputable def zm:=QC P "kind_of" "ConstReader.kind_of" 670 305 2 0 0 3 316 true 317 (Qr 318) (Qr 319) (Qr 320) 676
noncomputable def zn:=QG P "kind_of" "ConstReader.kind_of" (fm 44 4) 3 .none (Qs "chancore.const_exprs" 600) 321
noncomputable def zo:=QT P [Qs "self" 682,Qs "expr" 683]
noncomputable def zp:=QT P [Qs "self" 684,Qs "expr" 685,Qs "told" 686,Qs "value" 687]
noncomputable def ON:List Stmt:=[.Assign [.Tuple [.Name "told" (aa 310 8 12),.Name "value" (aa 310 14 19)] 0 (aa 310 8 19)] (.Call (.Attribute (.Name "self" (aa 310 22 26)) "read" (aa 310 22 31)) [.Subscript (.Name "expr" (aa 310 32 36)) (.Constant (.int 3) 0 (aa 310 37 38)) (aa 310 32 39)] [] (aa 310 22 40)) (aa 310 8 40),.Return (some (.Tuple [.Name "told" (aa 311 16 20),.Call (.Attribute (.Name "self" (aa 311 22 26)) "reckoned" (aa 311 22 35)) [.Lambda (ft 62).1 (.Call (.Name "const_unary" (aa 311 44 55)) [.Subscript (.Name "expr" (aa 311 56 60)) (.Constant (.int 2) 0 (aa 311 61 62)) (aa 311 56 63),.Name "value" (aa 311 65 70),.Call (.Attribute (.Name "self" (aa 311 72 76)) "kind_of" (aa 311 72 84)) [.Name "told" (aa 311 85 89)] [] (aa 311 72 90)] [] (aa 311 44 91)) ⟨.function,[⟨"expr",.free⟩,⟨"self",.free⟩,⟨"told",.free⟩,⟨"value",.free⟩,⟨"const_unary",.globalImplicit⟩],false,false,[]⟩ (aa 311 36 91),.Subscript (.Name "expr" (aa 311 93 97)) (.Constant (.int 1) 0 (aa 311 98 99)) (aa 311 93 100)] [] (aa 311 22 101)] 0 (aa 311 15 102))) (aa 311 8 102)]
noncomputable def zq:=QO P .none none (.func ⟨"of_one","ConstReader.of_one",(fm 44 5).1,.stmts ON,(fm 44 5).2.2,0,[],.none,.none,.none,.none,none,.none,.none,0⟩) []
noncomputable def vX:=QC P "of_one" "ConstReader.of_one" 679 309 2 0 0 3 323 true 324 (Qr 325) (Qr 326) (Qr 327) 688
noncomputable def zs:=QO P (Qt "function") none (.func ⟨"of_one","ConstReader.of_one",(fm 44 5).1,.stmts ON,(fm 44 5).2.2,3,[],.none,.none,.none,Qs "chancore.const_exprs" 600,none,Qr 328,.none,0⟩) []
noncomputable def zt:=QT P [Qs "self" 694,Qs "expr" 695,Qs "spot" 696,Qs "right" 697,Qs "found" 698]
noncomputable def zu:=QT P [Qs "self" 699,Qs "a" 700,Qs "b" 701,Qs "left" 702,Qs "op" 703,Qs "told" 704]
noncomputable def OO:List Stmt:=[.Assign [.Tuple [.Name "spot" (aa 314 8 12),.Name "op" (aa 314 14 16)] 0 (aa 314 8 16)] (.Tuple [.Subscript (.Name "expr" (aa 314 20 24)) (.Constant (.int 1) 0 (aa 314 25 26)) (aa 314 20 27),.Subscript (.Name "expr" (aa 314 29 33)) (.Constant (.int 2) 0 (aa 314 34 35)) (aa 314 29 36)] 0 (aa 314 19 37)) (aa 314 8 37),.Assign [.Tuple [.Name "left" (aa 315 8 12),.Name "a" (aa 315 14 15)] 0 (aa 315 8 15)] (.Call (.Attribute (.Name "self" (aa 315 18 22)) "read" (aa 315 18 27)) [.Subscript (.Name "expr" (aa 315 28 32)) (.Constant (.int 3) 0 (aa 315 33 34)) (aa 315 28 35)] [] (aa 315 18 36)) (aa 315 8 36),.Assign [.Tuple [.Name "right" (aa 316 8 13),.Name "b" (aa 316 15 16)] 0 (aa 316 8 16)] (.Call (.Attribute (.Name "self" (aa 316 19 23)) "read" (aa 316 19 28)) [.Subscript (.Name "expr" (aa 316 29 33)) (.Constant (.int 4) 0 (aa 316 34 35)) (aa 316 29 36)] [] (aa 316 19 37)) (aa 316 8 37),.If (.Compare (.Name "op" (aa 317 11 13)) [.In] [.Tuple [.Constant (.str "<<") 0 (aa 317 18 22),.Constant (.str ">>") 0 (aa 317 24 28)] 0 (aa 317 17 29)] (aa 317 11 29)) [.If (.BoolOp .Or [.Call (.Name "isinstance" (aa 318 15 25)) [.Name "a" (aa 318 26 27),.Name "bool" (aa 318 29 33)] [] (aa 318 15 34),.UnaryOp .Not (.Call (.Name "isinstance" (aa 318 42 52)) [.Name "a" (aa 318 53 54),.Name "int" (aa 318 56 59)] [] (aa 318 42 60)) (aa 318 38 60),.Call (.Name "isinstance" (aa 318 64 74)) [.Name "b" (aa 318 75 76),.Name "bool" (aa 318 78 82)] [] (aa 318 64 83),.UnaryOp .Not (.Call (.Name "isinstance" (aa 318 92 102)) [.Name "b" (aa 318 103 104),.Name "int" (aa 318 106 109)] [] (aa 318 92 110)) (aa 318 88 110)] (aa 318 15 111)) [.Raise (some (.Call (.Name "ConstFault" (aa 319 22 32)) [.BinOp (.Constant (.str "no whole numbers beside ") 0 (aa 319 33 59)) .Add (.Name "op" (aa 319 62 64)) (aa 319 33 64),.Name "spot" (aa 319 66 70)] [] (aa 319 22 71))) none (aa 319 16 71)] [] ⟨318,12,319,71⟩,.Return (some (.Tuple [.Name "left" (aa 320 20 24),.Call (.Attribute (.Name "self" (aa 320 26 30)) "reckoned" (aa 320 26 39)) [.Lambda (ft 62).1 (.Call (.Name "const_binary" (aa 320 48 60)) [.Name "op" (aa 320 61 63),.Name "a" (aa 320 65 66),.Name "b" (aa 320 68 69),.Call (.Attribute (.Name "self" (aa 320 71 75)) "kind_of" (aa 320 71 83)) [.Name "left" (aa 320 84 88)] [] (aa 320 71 89)] [] (aa 320 48 90)) ⟨.function,[⟨"a",.free⟩,⟨"b",.free⟩,⟨"left",.free⟩,⟨"op",.free⟩,⟨"self",.free⟩,⟨"const_binary",.globalImplicit⟩],false,false,[]⟩ (aa 320 40 90),.Name "spot" (aa 320 92 96)] [] (aa 320 26 97)] 0 (aa 320 19 98))) (aa 320 12 98)] [] ⟨317,8,320,98⟩,.Assign [.Name "told" (aa 321 8 12)] (.Call (.Attribute (.Name "self" (aa 321 15 19)) "common" (aa 321 15 26)) [.Name "left" (aa 321 27 31),.Name "a" (aa 321 33 34),.Name "right" (aa 321 36 41),.Name "b" (aa 321 43 44),.Name "spot" (aa 321 46 50)] [] (aa 321 15 51)) (aa 321 8 51),.Assign [.Name "found" (aa 322 8 13)] (.Call (.Attribute (.Name "self" (aa 322 16 20)) "reckoned" (aa 322 16 29)) [.Lambda (ft 62).1 (.Call (.Name "const_binary" (aa 322 38 50)) [.Name "op" (aa 322 51 53),.Name "a" (aa 322 55 56),.Name "b" (aa 322 58 59),.Call (.Attribute (.Name "self" (aa 322 61 65)) "kind_of" (aa 322 61 73)) [.Name "told" (aa 322 74 78)] [] (aa 322 61 79)] [] (aa 322 38 80)) ⟨.function,[⟨"a",.free⟩,⟨"b",.free⟩,⟨"op",.free⟩,⟨"self",.free⟩,⟨"told",.free⟩,⟨"const_binary",.globalImplicit⟩],false,false,[]⟩ (aa 322 30 80),.Name "spot" (aa 322 82 86)] [] (aa 322 16 87)) (aa 322 8 87),.Return (some (.IfExp (.Compare (.Name "op" (aa 323 40 42)) [.In] [.Name "COMPARISONS" (aa 323 46 57)] (aa 323 40 57)) (.Tuple [.Name "UNTYPED_BOOL" (aa 323 16 28),.Name "found" (aa 323 30 35)] 0 (aa 323 15 36)) (.Tuple [.Name "told" (aa 323 64 68),.Name "found" (aa 323 70 75)] 0 (aa 323 63 76)) (aa 323 15 76))) (aa 323 8 76)]
noncomputable def zv:=QO P .none none (.func ⟨"of_two","ConstReader.of_two",(fm 44 6).1,.stmts OO,(fm 44 6).2.2,0,[],.none,.none,.none,.none,none,.none,.none,0⟩) []
noncomputable def vY:=QC P "of_two" "ConstReader.of_two" 691 313 2 0 0 3 330 true 331 (Qr 332) (Qr 333) (Qr 334) 705
noncomputable def zy:=QO P (Qt "function") none (.func ⟨"of_two","ConstReader.of_two",(fm 44 6).1,.stmts OO,(fm 44 6).2.2,3,[],.none,.none,.none,Qs "chancore.const_exprs" 600,none,Qr 335,.none,0⟩) []
noncomputable def zz:=QT P [Qs "self" 711,Qs "left" 712,Qs "a" 713,Qs "right" 714,Qs "b" 715,Qs "spot" 716]
noncomputable def zA:=QF P "common" "ConstReader.common" (fm 44 7)
noncomputable def zB:=QC P "common" "ConstReader.common" 708 325 6 0 0 3 337 true 338 (Qr 339) (Qr 340) (Qr 341) 717
noncomputable def zC:=QG P "common" "ConstReader.common" (fm 44 7) 3 .none (Qs "chancore.const_exprs" 600) 342
noncomputable def zD:=QT P [Qs "self" 723,Qs "expr" 724,Qs "spot" 725,Qs "func" 726,Qs "args" 727,Qs "entry" 728,Qs "wanted" 729,Qs "told" 730]
noncomputable def zE:=QT P [Qs "base" 731,Qs "value" 732]
noncomputable def OP:List Stmt:=[.Assign [.Tuple [.Name "spot" (aa 337 8 12),.Name "func" (aa 337 14 18),.Name "args" (aa 337 20 24)] 0 (aa 337 8 24)] (.Tuple [.Subscript (.Name "expr" (aa 337 28 32)) (.Constant (.int 1) 0 (aa 337 33 34)) (aa 337 28 35),.Subscript (.Name "expr" (aa 337 37 41)) (.Constant (.int 2) 0 (aa 337 42 43)) (aa 337 37 44),.Subscript (.Name "expr" (aa 337 46 50)) (.Constant (.int 3) 0 (aa 337 51 52)) (aa 337 46 53)] 0 (aa 337 27 54)) (aa 337 8 54),.Assign [.Name "entry" (aa 338 8 13)] (.IfExp (.Compare (.Subscript (.Name "func" (aa 338 44 48)) (.Constant (.int 0) 0 (aa 338 49 50)) (aa 338 44 51)) [.Eq] [.Constant (.str "name") 0 (aa 338 55 61)] (aa 338 44 61)) (.Call (.Attribute (.Attribute (.Name "self" (aa 338 16 20)) "scope" (aa 338 16 26)) "find" (aa 338 16 31)) [.Subscript (.Name "func" (aa 338 32 36)) (.Constant (.int 2) 0 (aa 338 37 38)) (aa 338 32 39)] [] (aa 338 16 40)) (.Constant .none 0 (aa 338 67 71)) (aa 338 16 71)) (aa 338 8 71),.If (.BoolOp .And [.Compare (.Name "entry" (aa 339 11 16)) [.In] [.Tuple [.Tuple [.Constant (.str "builtin") 0 (aa 339 22 31),.Constant (.str "min") 0 (aa 339 33 38)] 0 (aa 339 21 39),.Tuple [.Constant (.str "builtin") 0 (aa 339 42 51),.Constant (.str "max") 0 (aa 339 53 58)] 0 (aa 339 41 59)] 0 (aa 339 20 60)] (aa 339 11 60),.Compare (.Name "args" (aa 339 65 69)) [.NotEq] [.Tuple [] 0 (aa 339 73 75)] (aa 339 65 75),.UnaryOp .Not (.Subscript (.Name "expr" (aa 339 85 89)) (.Constant (.int 4) 0 (aa 339 90 91)) (aa 339 85 92)) (aa 339 81 92)] (aa 339 11 93)) [.Return (some (.Call (.Attribute (.Name "self" (aa 340 19 23)) "extreme" (aa 340 19 31)) [.IfExp (.Compare (.Subscript (.Name "entry" (aa 340 39 44)) (.Constant (.int 1) 0 (aa 340 45 46)) (aa 340 39 47)) [.Eq] [.Constant (.str "min") 0 (aa 340 51 56)] (aa 340 39 56)) (.Constant (.str "<") 0 (aa 340 32 35)) (.Constant (.str ">") 0 (aa 340 62 65)) (aa 340 32 65),.Name "args" (aa 340 67 71),.Name "spot" (aa 340 73 77)] [] (aa 340 19 78))) (aa 340 12 78)] [] ⟨339,8,340,78⟩,.If (.BoolOp .Or [.Compare (.Call (.Name "len" (aa 341 11 14)) [.Name "args" (aa 341 15 19)] [] (aa 341 11 20)) [.NotEq] [.Constant (.int 1) 0 (aa 341 24 25)] (aa 341 11 25),.Subscript (.Name "expr" (aa 341 29 33)) (.Constant (.int 4) 0 (aa 341 34 35)) (aa 341 29 36)] (aa 341 11 36)) [.Raise (some (.Call (.Name "ConstFault" (aa 342 18 28)) [.Constant (.str "no constant") 0 (aa 342 29 42),.Name "spot" (aa 342 44 48)] [] (aa 342 18 49))) none (aa 342 12 49)] [] ⟨341,8,342,49⟩,.If (.Compare (.Name "entry" (aa 343 11 16)) [.In] [.Tuple [.Tuple [.Constant (.str "builtin") 0 (aa 343 22 31),.Constant (.str "len") 0 (aa 343 33 38)] 0 (aa 343 21 39),.Tuple [.Constant (.str "builtin") 0 (aa 343 42 51),.Constant (.str "cap") 0 (aa 343 53 58)] 0 (aa 343 41 59)] 0 (aa 343 20 60)] (aa 343 11 60)) [.Return (some (.Tuple [.Tuple [.Constant (.str "int") 0 (aa 344 21 26),.Constant (.str "int") 0 (aa 344 28 33)] 0 (aa 344 20 34),.Call (.Attribute (.Name "self" (aa 344 36 40)) "size" (aa 344 36 45)) [.Subscript (.Name "args" (aa 344 46 50)) (.Constant (.int 0) 0 (aa 344 51 52)) (aa 344 46 53),.Subscript (.Name "entry" (aa 344 55 60)) (.Constant (.int 1) 0 (aa 344 61 62)) (aa 344 55 63),.Name "spot" (aa 344 65 69)] [] (aa 344 36 70)] 0 (aa 344 19 71))) (aa 344 12 71)] [] ⟨343,8,344,71⟩,.Assign [.Name "wanted" (aa 345 8 14)] (.Call (.Attribute (.Name "self" (aa 345 17 21)) "wanted" (aa 345 17 28)) [.Name "func" (aa 345 29 33)] [] (aa 345 17 34)) (aa 345 8 34),.If (.Compare (.Name "wanted" (aa 346 11 17)) [.Is] [.Constant .none 0 (aa 346 21 25)] (aa 346 11 25)) [.Raise (some (.Call (.Name "ConstFault" (aa 347 18 28)) [.Constant (.str "no constant") 0 (aa 347 29 42),.Name "spot" (aa 347 44 48)] [] (aa 347 18 49))) none (aa 347 12 49)] [] ⟨346,8,347,49⟩,.Assign [.Tuple [.Name "told" (aa 348 8 12),.Name "value" (aa 348 14 19)] 0 (aa 348 8 19)] (.Call (.Attribute (.Name "self" (aa 348 22 26)) "read" (aa 348 22 31)) [.Subscript (.Name "args" (aa 348 32 36)) (.Constant (.int 0) 0 (aa 348 37 38)) (aa 348 32 39)] [] (aa 348 22 40)) (aa 348 8 40),.Assign [.Name "base" (aa 349 8 12)] (.Call (.Attribute (.Attribute (.Name "self" (aa 349 15 19)) "world" (aa 349 15 25)) "base_of" (aa 349 15 33)) [.Name "wanted" (aa 349 34 40)] [] (aa 349 15 41)) (aa 349 8 41),.If (.Compare (.Subscript (.Name "base" (aa 350 11 15)) (.Constant (.int 0) 0 (aa 350 16 17)) (aa 350 11 18)) [.NotIn] [.Tuple [.Constant (.str "bool") 0 (aa 350 27 33),.Constant (.str "int") 0 (aa 350 35 40),.Constant (.str "string") 0 (aa 350 42 50)] 0 (aa 350 26 51)] (aa 350 11 51)) [.Raise (some (.Call (.Name "ConstFault" (aa 351 18 28)) [.Constant (.str "no constant of this type") 0 (aa 351 29 55),.Name "spot" (aa 351 57 61)] [] (aa 351 18 62))) none (aa 351 12 62)] [] ⟨350,8,351,62⟩,.Return (some (.Tuple [.Name "wanted" (aa 352 16 22),.Call (.Attribute (.Name "self" (aa 352 24 28)) "reckoned" (aa 352 24 37)) [.Lambda (ft 62).1 (.Call (.Name "const_convert" (aa 352 46 59)) [.Name "value" (aa 352 60 65),.Name "base" (aa 352 67 71)] [] (aa 352 46 72)) ⟨.function,[⟨"base",.free⟩,⟨"value",.free⟩,⟨"const_convert",.globalImplicit⟩],false,false,[]⟩ (aa 352 38 72),.Name "spot" (aa 352 74 78)] [] (aa 352 24 79)] 0 (aa 352 15 80))) (aa 352 8 80)]
noncomputable def zF:=QO P .none none (.func ⟨"called","ConstReader.called",(fm 44 8).1,.stmts OP,(fm 44 8).2.2,0,[],.none,.none,.none,.none,none,.none,.none,0⟩) []
noncomputable def zG:=QC P "called" "ConstReader.called" 720 336 2 0 0 3 344 true 345 (Qr 346) (Qr 347) (Qr 348) 733
noncomputable def zH:=QO P (Qt "function") none (.func ⟨"called","ConstReader.called",(fm 44 8).1,.stmts OP,(fm 44 8).2.2,3,[],.none,.none,.none,Qs "chancore.const_exprs" 600,none,Qr 349,.none,0⟩) []
noncomputable def zI:=QT P [Qs "self" 739,Qs "e" 740,Qs "name" 741,Qs "spot" 742,Qs "many" 743,Qs "told" 744,Qs "value" 745]
noncomputable def zJ:=QF P "size" "ConstReader.size" (fm 44 9)
noncomputable def zK:=QC P "size" "ConstReader.size" 736 354 4 0 0 3 351 true 352 (Qr 353) (Qr 354) (Qr 355) 746
noncomputable def zL:=QG P "size" "ConstReader.size" (fm 44 9) 3 .none (Qs "chancore.const_exprs" 600) 356
noncomputable def zM:=QT P [Qs "self" 752,Qs "e" 753,Qs "entry" 754,Qs "told" 755,Qs "base" 756]
noncomputable def zN:=QF P "array_size" "ConstReader.array_size" (fm 44 10)
noncomputable def zO:=QC P "array_size" "ConstReader.array_size" 749 363 2 0 0 3 358 true 359 (Qr 360) (Qr 361) (Qr 362) 757
noncomputable def zP:=QG P "array_size" "ConstReader.array_size" (fm 44 10) 3 .none (Qs "chancore.const_exprs" 600) 363
noncomputable def OQ:List Stmt:=[.Assign [.Tuple [.Name "told" (aa 381 8 12),.Name "value" (aa 381 14 19)] 0 (aa 381 8 19)] (.Call (.Attribute (.Name "self" (aa 381 22 26)) "read" (aa 381 22 31)) [.Subscript (.Name "args" (aa 381 32 36)) (.Constant (.int 0) 0 (aa 381 37 38)) (aa 381 32 39)] [] (aa 381 22 40)) (aa 381 8 40),.If (.Call (.Name "isinstance" (aa 382 11 21)) [.Name "value" (aa 382 22 27),.Name "bool" (aa 382 29 33)] [] (aa 382 11 34)) [.Raise (some (.Call (.Name "ConstFault" (aa 383 18 28)) [.Constant (.str "truths have no order") 0 (aa 383 29 51),.Name "spot" (aa 383 53 57)] [] (aa 383 18 58))) none (aa 383 12 58)] [] ⟨382,8,383,58⟩,.Assign [.Name "some" (aa 384 8 12)] (.List [.Name "value" (aa 384 16 21)] (aa 384 15 22)) (aa 384 8 22),.For (.Name "one" (aa 385 12 15)) (.Subscript (.Name "args" (aa 385 19 23)) (.Slice (some (.Constant (.int 1) 0 (aa 385 24 25))) none none (aa 385 24 26)) (aa 385 19 27)) [.Assign [.Tuple [.Name "other" (aa 386 12 17),.Name "b" (aa 386 19 20)] 0 (aa 386 12 20)] (.Call (.Attribute (.Name "self" (aa 386 23 27)) "read" (aa 386 23 32)) [.Name "one" (aa 386 33 36)] [] (aa 386 23 37)) (aa 386 12 37),.Assign [.Name "told" (aa 387 12 16)] (.Call (.Attribute (.Name "self" (aa 387 19 23)) "common" (aa 387 19 30)) [.Name "told" (aa 387 31 35),.Name "value" (aa 387 37 42),.Name "other" (aa 387 44 49),.Name "b" (aa 387 51 52),.Name "spot" (aa 387 54 58)] [] (aa 387 19 59)) (aa 387 12 59),.Expr (.Call (.Attribute (.Name "some" (aa 388 12 16)) "append" (aa 388 12 23)) [.Name "b" (aa 388 24 25)] [] (aa 388 12 26)) (aa 388 12 26),.If (.Call (.Attribute (.Name "self" (aa 389 15 19)) "reckoned" (aa 389 15 28)) [.Lambda (ft 62).1 (.Call (.Name "const_binary" (aa 389 37 49)) [.Name "sign" (aa 389 50 54),.Name "b" (aa 389 56 57),.Name "value" (aa 389 59 64)] [] (aa 389 37 65)) ⟨.function,[⟨"b",.free⟩,⟨"sign",.free⟩,⟨"value",.free⟩,⟨"const_binary",.globalImplicit⟩],false,false,[]⟩ (aa 389 29 65),.Name "spot" (aa 389 67 71)] [] (aa 389 15 72)) [.Assign [.Name "value" (aa 390 16 21)] (.Name "b" (aa 390 24 25)) (aa 390 16 25)] [] ⟨389,12,390,25⟩] [] ⟨385,8,390,25⟩,.If (.UnaryOp .Not (.Call (.Name "all" (aa 391 15 18)) [.ListComp (.Call (.Name "representable" (aa 391 20 33)) [.Name "one" (aa 391 34 37),.Call (.Attribute (.Attribute (.Name "self" (aa 391 39 43)) "world" (aa 391 39 49)) "base_of" (aa 391 39 57)) [.Name "told" (aa 391 58 62)] [] (aa 391 39 63)] [] (aa 391 20 64)) [⟨.Name "one" (aa 391 69 72),.Name "some" (aa 391 76 80),[],0⟩] ⟨.function,[⟨".0",.local⟩,⟨"one",.local⟩,⟨"representable",.globalImplicit⟩,⟨"self",.free⟩,⟨"told",.free⟩],false,false,[]⟩ (aa 391 19 81)] [] (aa 391 15 82)) (aa 391 11 82)) [.Raise (some (.Call (.Name "ConstFault" (aa 392 18 28)) [.Constant (.str "a constant is no value of its type") 0 (aa 392 29 65),.Name "spot" (aa 392 67 71)] [] (aa 392 18 72))) none (aa 392 12 72)] [] ⟨391,8,392,72⟩,.Return (some (.Tuple [.Name "told" (aa 393 16 20),.Name "value" (aa 393 22 27)] 0 (aa 393 15 28))) (aa 393 8 28)]
noncomputable def zQ:=QO P .none none (.func ⟨"extreme","ConstReader.extreme",(fm 44 11).1,.stmts OQ,(fm 44 11).2.2,0,[],.none,.none,.none,.none,none,.none,.none,0⟩) []
noncomputable def zR:=QC P "extreme" "ConstReader.extreme" 760 380 4 0 0 3 365 true 366 .none .none (Qr 367) 763
noncomputable def zS:=QO P (Qt "function") none (.func ⟨"extreme","ConstReader.extreme",(fm 44 11).1,.stmts OQ,(fm 44 11).2.2,3,[],.none,.none,.none,Qs "chancore.const_exprs" 600,none,Qr 368,.none,0⟩) []
noncomputable def zT:=QT P [Qs "self" 769,Qs "func" 770]
noncomputable def zU:=QF P "wanted" "ConstReader.wanted" (fm 44 12)
noncomputable def zV:=QC P "wanted" "ConstReader.wanted" 766 395 2 0 0 3 370 true 371 (Qr 372) (Qr 373) (Qr 374) 771
noncomputable def zW:=QG P "wanted" "ConstReader.wanted" (fm 44 12) 3 .none (Qs "chancore.const_exprs" 600) 375
noncomputable def zX:=QT P [Qs "self" 777,Qs "call" 778,Qs "spot" 779,Qs "fault" 780]
noncomputable def zY:=QF P "reckoned" "ConstReader.reckoned" (fm 44 13)
noncomputable def zZ:=QC P "reckoned" "ConstReader.reckoned" 774 404 3 0 0 3 377 true 378 (Qr 379) (Qr 380) (Qr 381) 781
noncomputable def Aa:=QG P "reckoned" "ConstReader.reckoned" (fm 44 13) 3 .none (Qs "chancore.const_exprs" 600) 382
noncomputable def Ab:=QT P [Qs "iota" 784,Qs "package" 785,Qs "scope" 786,Qs "world" 787]
noncomputable def Ac:=QD P [Qk P "__module__" 622 (Qs "chancore.const_exprs" 600),Qk P "__firstlineno__" 626 (Qi 261 625),Qk P "__init__" 637 (Qr 294),Qk P "read" 647 (Qr 301),Qk P "named" 657 (Qr 308),Qk P "selected" 669 (Qr 315),Qk P "kind_of" 678 (Qr 322),Qk P "of_one" 690 (Qr 329),Qk P "of_two" 707 (Qr 336),Qk P "common" 719 (Qr 343),Qk P "called" 735 (Qr 350),Qk P "size" 748 (Qr 357),Qk P "array_size" 759 (Qr 364),Qk P "extreme" 765 (Qr 369),Qk P "wanted" 773 (Qr 376),Qk P "reckoned" 783 (Qr 383),Qk P "__static_attributes__" 788 (Qr 384),Qk P "__dict__" 790 (Qr 387),Qk P "__weakref__" 792 (Qr 388),Qk P "__doc__" 793 .none] 4
noncomputable def Ad:=QO P (Qt "type") none (.cls ⟨"ConstReader",[Qt "object"],[Qr 386,Qt "object"],385,"ConstReader",true,[],[],false,none,false⟩) [none,none,some (Qs "ConstReader" 615),some (Qs "ConstReader" 623),some (Qb "object.__new__"),some (.bool true)]
noncomputable def Ae:=QO P (Qt "getset_descriptor") none (.fields ⟨[Qs "__dict__" 789,Qr 386,Qb "function.__dict__",Qb "function.__dict__#set"]⟩) []
noncomputable def Af:=QO P (Qt "getset_descriptor") none (.fields ⟨[Qs "__weakref__" 791,Qr 386,Qb "ExceptionGroup.__weakref__",.none]⟩) []
noncomputable def Ag:=QO P (Qt "super") none (.fields ⟨[Qr 386,Qr 386,Qr 386]⟩) []
noncomputable def Ah:=QO P (Qt "builtin_function_or_method") none (.fields ⟨[Qb "object.__init_subclass__",Qr 386]⟩) []
noncomputable def DM:=QT P [Qs "world" 799,Qs "package" 800,Qs "scope" 801,Qs "expr" 802,Qs "iota" 803]
noncomputable def DN:=QF P "const_of" "const_of" (ft 45)
noncomputable def DO:=QC P "const_of" "const_of" 796 409 5 0 0 3 392 true 393 (Qr 394) (Qr 395) (Qr 396) 804
noncomputable def DP:=QG P "const_of" "const_of" (ft 45) 3 (Qr 391) (Qs "chancore.const_exprs" 600) 397
noncomputable def DQ:=QT P [Qs "world" 810,Qs "package" 811,Qs "scope" 812,Qs "typex" 813,Qs "told" 814]
noncomputable def DS:=QT P [Qs "world" 815,Qs "package" 816,Qs "scope" 817]
noncomputable def DT:=QF P "type_of" "type_of" (ft 46)
noncomputable def DU:=QC P "type_of" "type_of" 807 411 4 0 0 3 399 true 400 (Qr 401) (Qr 402) (Qr 403) 818
noncomputable def DV:=QG P "type_of" "type_of" (ft 46) 3 .none (Qs "chancore.const_exprs" 600) 404
noncomputable def DW:=QD P [Qk P "__module__" 830 (Qs "chancore.scopes" 821),Qk P "__qualname__" 832 (Qs "ScopeRow" 831),Qk P "__firstlineno__" 834 (Qi 416 833),Qk P "__init__" 846 (Qr 419),Qk P "__static_attributes__" 853 (Qr 420)] 5
noncomputable def DX:=QN P [Qi 418 0,Qi 4 0,Qr 418]
noncomputable def DY:=QC P "ScopeRow" "ScopeRow" 825 416 0 0 0 0 409 false 410 .none .none .none 828
noncomputable def DZ:=QO P (Qt "frame") none .plain [some (Qr 411),some (Qr 3),some (Qr 408),none,some (Qs "chancore.scopes" 821),none,some (Qr 0)]
noncomputable def D0:=QT P [Qs "self" 838,Qs "name" 839,Qs "entry" 840,Qs "spot" 841,Qs "owner" 842,Qs "is_checked" 843]
noncomputable def D3:=QF P "__init__" "ScopeRow.__init__" (fm 48 0)
noncomputable def D4:=QC P "__init__" "ScopeRow.__init__" 835 418 6 0 0 3 413 true 414 (Qr 415) (Qr 416) (Qr 417) 844
noncomputable def D6:=QG P "__init__" "ScopeRow.__init__" (fm 48 0) 3 .none (Qs "chancore.scopes" 821) 418
noncomputable def D8:=QT P [Qs "entry" 847,Qs "is_checked" 848,Qs "is_used" 849,Qs "name" 850,Qs "owner" 851,Qs "spot" 852]
noncomputable def D9:=QD P [Qk P "__module__" 830 (Qs "chancore.scopes" 821),Qk P "__firstlineno__" 834 (Qi 416 833),Qk P "__init__" 846 (Qr 419),Qk P "__static_attributes__" 853 (Qr 420),Qk P "__dict__" 855 (Qr 423),Qk P "__weakref__" 857 (Qr 424),Qk P "__doc__" 858 .none] 4
noncomputable def Ea:=QO P (Qt "type") none (.cls ⟨"ScopeRow",[Qt "object"],[Qr 422,Qt "object"],421,"ScopeRow",true,[],[],false,none,false⟩) [none,none,some (Qs "ScopeRow" 823),some (Qs "ScopeRow" 831),some (Qb "object.__new__"),some (.bool true)]
noncomputable def Eb:=QO P (Qt "getset_descriptor") none (.fields ⟨[Qs "__dict__" 854,Qr 422,Qb "function.__dict__",Qb "function.__dict__#set"]⟩) []
noncomputable def Ec:=QO P (Qt "getset_descriptor") none (.fields ⟨[Qs "__weakref__" 856,Qr 422,Qb "ExceptionGroup.__weakref__",.none]⟩) []
noncomputable def Ed:=QO P (Qt "super") none (.fields ⟨[Qr 422,Qr 422,Qr 422]⟩) []
noncomputable def Ee:=QO P (Qt "builtin_function_or_method") none (.fields ⟨[Qb "object.__init_subclass__",Qr 422]⟩) []
noncomputable def acK:=QD P [Qk P "__name__" 165 (Qs "chancore.scopes" 821),Qk P "__doc__" 166 .none,Qk P "__package__" 167 .none,Qk P "__loader__" 168 (Qb "__main__.__loader__#opaque"),Qk P "__spec__" 169 .none,Qk P "__annotations__" 170 (Qr 6),Qk P "__builtins__" 171 (Qr 4),Qk P "__file__" 173 (Qs "/claim/cut.py" 172),Qk P "__cached__" 174 .none,Qk P "_wall" 193 (Qr 21),Qk P "ChanError" 227 (Qr 39),Qk P "NameFault" 243 (Qr 52),Qk P "TypeFault" 259 (Qr 64),Qk P "ConstFault" 275 (Qr 76),Qk P "BITS" 308 (Qr 79),Qk P "MOST_BITS" 310 (Qi 512 309),Qk P "MOST_TEXT" 314 (Qi 1048576 313),Qk P "COMPARISONS" 321 (Qr 80),Qk P "WRONG_RUNE" 323 (.bytes ⟨[239,191,189]⟩ 322),Qk P "is_unsigned" 330 (Qr 87),Qk P "int_range" 337 (Qr 94),Qk P "is_in_range" 347 (Qr 101),Qk P "within_range" 355 (Qr 108),Qk P "representable" 364 (Qr 115),Qk P "const_unary" 373 (Qr 123),Qk P "const_quotient" 382 (Qr 130),Qk P "const_shift" 392 (Qr 137),Qk P "int_binary" 401 (Qr 144),Qk P "const_compared" 410 (Qr 151),Qk P "sort_of_const" 417 (Qr 158),Qk P "const_binary" 428 (Qr 166),Qk P "rune_octets" 435 (Qr 173),Qk P "const_convert" 443 (Qr 180),Qk P "MAIN" 447 (Qs "main" 446),Qk P "own_name" 456 (Qr 187),Qk P "SYNC_TYPES" 461 (Qr 188),Qk P "MOST_LENGTH" 465 (Qi 1048576 464),Qk P "MOST_PARTS" 467 (Qi 2000 466),Qk P "MOST_LEVELS" 469 (Qi 100 468),Qk P "type_entry" 483 (Qr 196),Qk P "exported_entry" 494 (Qr 204),Qk P "want_few_parts" 500 (Qr 209),Qk P "TypeReader" 599 (Qr 271),Qk P "UNTYPED_INT" 604 (Qr 276),Qk P "UNTYPED_RUNE" 607 (Qr 277),Qk P "UNTYPED_BOOL" 610 (Qr 278),Qk P "UNTYPED_TEXT" 613 (Qr 279),Qk P "NUMBERS" 614 (Qr 280),Qk P "ConstReader" 795 (Qr 386),Qk P "const_of" 806 (Qr 398),Qk P "type_of" 820 (Qr 405),Qk P "ScopeRow" 860 (Qr 422),Qk P "Scope" 952 (Qr 495)] 53
noncomputable def acL:=QN P [Qi 1 0,Qi 0 0,Qr 20,Qi 5 0,Qi 0 0,Qr 27,Qi 11 0,Qi 0 0,Qr 48,Qi 13 0,Qi 0 0,Qr 60,Qi 15 0,Qi 0 0,Qr 72,Qi 23 0,Qi 0 0,Qr 86,Qi 25 0,Qi 0 0,Qr 93,Qi 29 0,Qi 0 0,Qr 100,Qi 34 0,Qi 0 0,Qr 107,Qi 38 0,Qi 0 0,Qr 114,Qi 51 0,Qi 0 0,Qr 122,Qi 63 0,Qi 0 0,Qr 129,Qi 68 0,Qi 0 0,Qr 136,Qi 76 0,Qi 0 0,Qr 143,Qi 96 0,Qi 0 0,Qr 150,Qi 108 0,Qi 0 0,Qr 157,Qi 112 0,Qi 0 0,Qr 165,Qi 129 0,Qi 0 0,Qr 172,Qi 133 0,Qi 0 0,Qr 179,Qi 141 0,Qi 0 0,Qr 186,Qi 150 0,Qi 0 0,Qr 195,Qi 165 0,Qi 0 0,Qr 203,Qi 174 0,Qi 0 0,Qr 208,Qi 183 0,Qi 0 0,Qr 215,Qi 261 0,Qi 0 0,Qr 286,Qi 409 0,Qi 0 0,Qr 397,Qi 411 0,Qi 0 0,Qr 404,Qi 416 0,Qi 0 0,Qr 411,Qi 425 0,Qi 0 0,Qr 432]
noncomputable def Ef:=QD P [Qk P "__module__" 868 (Qs "chancore.scopes" 821),Qk P "__qualname__" 870 (Qs "Scope" 869),Qk P "__firstlineno__" 872 (Qi 425 871),Qk P "__init__" 881 (Qr 441),Qk P "declare" 892 (Qr 449),Qk P "is_here" 900 (Qr 456),Qk P "row" 909 (Qr 463),Qk P "find" 919 (Qr 471),Qk P "use" 927 (Qr 478),Qk P "unused" 934 (Qr 485),Qk P "depth" 941 (Qr 492),Qk P "__static_attributes__" 945 (Qr 493)] 12
noncomputable def Eg:=QN P [Qi 427 0,Qi 4 0,Qr 440,Qi 432 0,Qi 4 0,Qr 448,Qi 439 0,Qi 4 0,Qr 455,Qi 442 0,Qi 4 0,Qr 462,Qi 450 0,Qi 4 0,Qr 470,Qi 456 0,Qi 4 0,Qr 477,Qi 459 0,Qi 4 0,Qr 484,Qi 462 0,Qi 4 0,Qr 491]
noncomputable def Eh:=QC P "Scope" "Scope" 863 425 0 0 0 0 430 false 431 .none .none .none 866
noncomputable def Ei:=QO P (Qt "frame") none .plain [some (Qr 432),some (Qr 3),some (Qr 429),none,some (Qs "chancore.scopes" 821),none,some (Qr 0)]
noncomputable def Ej:=QT P [Qs "self" 876,Qs "outer" 877,Qs "owner" 878]
noncomputable def Ek:=QF P "__init__" "Scope.__init__" (fm 49 0)
noncomputable def El:=QC P "__init__" "Scope.__init__" 873 427 3 0 0 3 435 true 436 (Qr 437) (Qr 438) (Qr 439) 879
noncomputable def Em:=QG P "__init__" "Scope.__init__" (fm 49 0) 3 (Qr 434) (Qs "chancore.scopes" 821) 440
noncomputable def Eo:=QT P [.bool false]
noncomputable def Ep:=QT P [Qs "self" 885,Qs "name" 886,Qs "entry" 887,Qs "spot" 888,Qs "is_checked" 889]
noncomputable def Er:=QF P "declare" "Scope.declare" (fm 49 1)
noncomputable def Es:=QC P "declare" "Scope.declare" 882 432 5 0 0 3 443 true 444 (Qr 445) (Qr 446) (Qr 447) 890
noncomputable def Et:=QG P "declare" "Scope.declare" (fm 49 1) 3 (Qr 442) (Qs "chancore.scopes" 821) 448
noncomputable def Eu:=QT P [Qs "self" 896,Qs "name" 897]
noncomputable def Ev:=QO P .none none (.func ⟨"is_here","Scope.is_here",(fm 49 2).1,.stmts (fm 49 2).2.1,(fm 49 5).2.2,0,[],.none,.none,.none,.none,none,.none,.none,0⟩) []
noncomputable def Ew:=QC P "is_here" "Scope.is_here" 893 439 2 0 0 3 450 true 451 (Qr 452) (Qr 453) (Qr 454) 898
noncomputable def Ex:=QO P (Qt "function") none (.func ⟨"is_here","Scope.is_here",(fm 49 2).1,.stmts (fm 49 2).2.1,(fm 49 5).2.2,3,[],.none,.none,.none,Qs "chancore.scopes" 821,none,Qr 455,.none,0⟩) []
noncomputable def Ey:=QT P [Qs "self" 904,Qs "name" 905,Qs "here" 906]
noncomputable def Ez:=QF P "row" "Scope.row" (fm 49 3)
noncomputable def EA:=QC P "row" "Scope.row" 901 442 2 0 0 3 457 true 458 (Qr 459) (Qr 460) (Qr 461) 907
noncomputable def EB:=QG P "row" "Scope.row" (fm 49 3) 3 .none (Qs "chancore.scopes" 821) 462
noncomputable def EC:=QT P [Qs "self" 913,Qs "name" 914,Qs "spot" 915,Qs "found" 916]
noncomputable def ED:=QF P "find" "Scope.find" (fm 49 4)
noncomputable def EF:=QC P "find" "Scope.find" 910 450 3 0 0 3 465 true 466 (Qr 467) (Qr 468) (Qr 469) 917
noncomputable def EG:=QG P "find" "Scope.find" (fm 49 4) 3 (Qr 464) (Qs "chancore.scopes" 821) 470
noncomputable def EH:=QT P [Qs "self" 923,Qs "name" 924]
noncomputable def EI:=QF P "use" "Scope.use" (fm 49 5)
noncomputable def EJ:=QC P "use" "Scope.use" 920 456 2 0 0 3 472 true 473 (Qr 474) (Qr 475) (Qr 476) 925
noncomputable def EK:=QG P "use" "Scope.use" (fm 49 5) 3 .none (Qs "chancore.scopes" 821) 477
noncomputable def EL:=QT P [Qs "self" 931]
noncomputable def EM:=QO P .none none (.func ⟨"unused","Scope.unused",(fm 49 6).1,.stmts (fm 49 6).2.1,(fm 49 7).2.2,0,[],.none,.none,.none,.none,none,.none,.none,0⟩) []
noncomputable def EN:=QC P "unused" "Scope.unused" 928 459 1 0 0 3 479 true 480 (Qr 481) (Qr 482) (Qr 483) 932
noncomputable def EO:=QO P (Qt "function") none (.func ⟨"unused","Scope.unused",(fm 49 6).1,.stmts (fm 49 6).2.1,(fm 49 7).2.2,3,[],.none,.none,.none,Qs "chancore.scopes" 821,none,Qr 484,.none,0⟩) []
noncomputable def EQ:=QT P [Qs "self" 938]
noncomputable def ER:=QF P "depth" "Scope.depth" (fm 49 7)
noncomputable def ES:=QC P "depth" "Scope.depth" 935 462 1 0 0 3 486 true 487 (Qr 488) (Qr 489) (Qr 490) 939
noncomputable def ET:=QG P "depth" "Scope.depth" (fm 49 7) 3 .none (Qs "chancore.scopes" 821) 491
noncomputable def EU:=QT P [Qs "outer" 942,Qs "owner" 943,Qs "rows" 944]
noncomputable def EW:=QD P [Qk P "__module__" 868 (Qs "chancore.scopes" 821),Qk P "__firstlineno__" 872 (Qi 425 871),Qk P "__init__" 881 (Qr 441),Qk P "declare" 892 (Qr 449),Qk P "is_here" 900 (Qr 456),Qk P "row" 909 (Qr 463),Qk P "find" 919 (Qr 471),Qk P "use" 927 (Qr 478),Qk P "unused" 934 (Qr 485),Qk P "depth" 941 (Qr 492),Qk P "__static_attributes__" 945 (Qr 493),Qk P "__dict__" 947 (Qr 496),Qk P "__weakref__" 949 (Qr 497),Qk P "__doc__" 950 .none] 4
noncomputable def EX:=QO P (Qt "type") none (.cls ⟨"Scope",[Qt "object"],[Qr 495,Qt "object"],494,"Scope",true,[],[],false,none,false⟩) [none,none,some (Qs "Scope" 861),some (Qs "Scope" 869),some (Qb "object.__new__"),some (.bool true)]
noncomputable def EY:=QO P (Qt "getset_descriptor") none (.fields ⟨[Qs "__dict__" 946,Qr 495,Qb "function.__dict__",Qb "function.__dict__#set"]⟩) []
noncomputable def EZ:=QO P (Qt "getset_descriptor") none (.fields ⟨[Qs "__weakref__" 948,Qr 495,Qb "ExceptionGroup.__weakref__",.none]⟩) []
noncomputable def E0:=QO P (Qt "super") none (.fields ⟨[Qr 495,Qr 495,Qr 495]⟩) []
noncomputable def E1:=QO P (Qt "builtin_function_or_method") none (.fields ⟨[Qb "object.__init_subclass__",Qr 495]⟩) []
noncomputable def MR:=QT P [Qs "func" 955,Qr 500,Qr 501,.bool false]
noncomputable def MS:=QD P [Qk P "__module__" 964 (Qs "chancore.world" 953),Qk P "__qualname__" 966 (Qs "NamedRow" 965),Qk P "__firstlineno__" 968 (Qi 466 967),Qk P "__init__" 979 (Qr 516),Qk P "__static_attributes__" 984 (Qr 517)] 5
noncomputable def MT:=QN P [Qi 468 0,Qi 4 0,Qr 515]
noncomputable def MU:=QC P "NamedRow" "NamedRow" 959 466 0 0 0 0 506 false 507 .none .none .none 962
noncomputable def MV:=QO P (Qt "frame") none .plain [some (Qr 508),some (Qr 3),some (Qr 505),none,some (Qs "chancore.world" 953),none,some (Qr 0)]
noncomputable def MW:=QT P [Qs "self" 972,Qs "path" 973,Qs "package" 974,Qs "underlying" 975,Qs "methods" 976]
noncomputable def MX:=QF P "__init__" "NamedRow.__init__" (fm 52 0)
noncomputable def MY:=QC P "__init__" "NamedRow.__init__" 969 468 5 0 0 3 510 true 511 (Qr 512) (Qr 513) (Qr 514) 977
noncomputable def MZ:=QG P "__init__" "NamedRow.__init__" (fm 52 0) 3 .none (Qs "chancore.world" 953) 515
noncomputable def M0:=QT P [Qs "methods" 980,Qs "package" 981,Qs "path" 982,Qs "underlying" 983]
noncomputable def M2:=QD P [Qk P "__module__" 964 (Qs "chancore.world" 953),Qk P "__firstlineno__" 968 (Qi 466 967),Qk P "__init__" 979 (Qr 516),Qk P "__static_attributes__" 984 (Qr 517),Qk P "__dict__" 986 (Qr 520),Qk P "__weakref__" 988 (Qr 521),Qk P "__doc__" 989 .none] 4
noncomputable def M4:=QO P (Qt "type") none (.cls ⟨"NamedRow",[Qt "object"],[Qr 519,Qt "object"],518,"NamedRow",true,[],[],false,none,false⟩) [none,none,some (Qs "NamedRow" 957),some (Qs "NamedRow" 965),some (Qb "object.__new__"),some (.bool true)]
noncomputable def M5:=QO P (Qt "getset_descriptor") none (.fields ⟨[Qs "__dict__" 985,Qr 519,Qb "function.__dict__",Qb "function.__dict__#set"]⟩) []
noncomputable def M6:=QO P (Qt "getset_descriptor") none (.fields ⟨[Qs "__weakref__" 987,Qr 519,Qb "ExceptionGroup.__weakref__",.none]⟩) []
noncomputable def M7:=QO P (Qt "super") none (.fields ⟨[Qr 519,Qr 519,Qr 519]⟩) []
noncomputable def M8:=QO P (Qt "builtin_function_or_method") none (.fields ⟨[Qb "object.__init_subclass__",Qr 519]⟩) []
noncomputable def M9:=QT P [Qs "text" 995,Qs "adding" 996,Qs "gate" 997,Qs "group" 998,Qs "told" 999,Qs "locks" 1000,Qs "waits" 1001]
noncomputable def Na:=QO P .none none (.func ⟨"known_rows","known_rows",(ft 62).1,.stmts (ft 53).2.1,(ft 53).2.2,0,[],.none,.none,.none,.none,none,.none,.none,0⟩) []
noncomputable def Nb:=QC P "known_rows" "known_rows" 992 473 0 0 0 3 524 true 525 (Qr 526) (Qr 527) (Qr 528) 1002
noncomputable def Nc:=QO P (Qt "function") none (.func ⟨"known_rows","known_rows",(ft 62).1,.stmts (ft 53).2.1,(ft 53).2.2,3,[],.none,.none,.none,Qs "chancore.world" 953,none,Qr 529,.none,0⟩) []
noncomputable def acM:=QD P [Qk P "__name__" 165 (Qs "law_xw0050_01" 1070),Qk P "__doc__" 166 .none,Qk P "__package__" 167 .none,Qk P "__loader__" 168 (Qb "__main__.__loader__#opaque"),Qk P "__spec__" 169 .none,Qk P "__annotations__" 170 (Qr 6),Qk P "__builtins__" 171 (Qr 4),Qk P "__file__" 173 (Qs "/claim/cut.py" 172),Qk P "__cached__" 174 .none,Qk P "_wall" 193 (Qr 21),Qk P "ChanError" 227 (Qr 39),Qk P "NameFault" 243 (Qr 52),Qk P "TypeFault" 259 (Qr 64),Qk P "ConstFault" 275 (Qr 76),Qk P "BITS" 308 (Qr 79),Qk P "MOST_BITS" 310 (Qi 512 309),Qk P "MOST_TEXT" 314 (Qi 1048576 313),Qk P "COMPARISONS" 321 (Qr 80),Qk P "WRONG_RUNE" 323 (.bytes ⟨[239,191,189]⟩ 322),Qk P "is_unsigned" 330 (Qr 87),Qk P "int_range" 337 (Qr 94),Qk P "is_in_range" 347 (Qr 101),Qk P "within_range" 355 (Qr 108),Qk P "representable" 364 (Qr 115),Qk P "const_unary" 373 (Qr 123),Qk P "const_quotient" 382 (Qr 130),Qk P "const_shift" 392 (Qr 137),Qk P "int_binary" 401 (Qr 144),Qk P "const_compared" 410 (Qr 151),Qk P "sort_of_const" 417 (Qr 158),Qk P "const_binary" 428 (Qr 166),Qk P "rune_octets" 435 (Qr 173),Qk P "const_convert" 443 (Qr 180),Qk P "MAIN" 447 (Qs "main" 446),Qk P "own_name" 456 (Qr 187),Qk P "SYNC_TYPES" 461 (Qr 188),Qk P "MOST_LENGTH" 465 (Qi 1048576 464),Qk P "MOST_PARTS" 467 (Qi 2000 466),Qk P "MOST_LEVELS" 469 (Qi 100 468),Qk P "type_entry" 483 (Qr 196),Qk P "exported_entry" 494 (Qr 204),Qk P "want_few_parts" 500 (Qr 209),Qk P "TypeReader" 599 (Qr 271),Qk P "UNTYPED_INT" 604 (Qr 276),Qk P "UNTYPED_RUNE" 607 (Qr 277),Qk P "UNTYPED_BOOL" 610 (Qr 278),Qk P "UNTYPED_TEXT" 613 (Qr 279),Qk P "NUMBERS" 614 (Qr 280),Qk P "ConstReader" 795 (Qr 386),Qk P "const_of" 806 (Qr 398),Qk P "type_of" 820 (Qr 405),Qk P "ScopeRow" 860 (Qr 422),Qk P "Scope" 952 (Qr 495),Qk P "PLAIN" 956 (Qr 502),Qk P "NamedRow" 991 (Qr 519),Qk P "known_rows" 1004 (Qr 530),Qk P "World" 1069 (Qr 562),Qk P "_law_reel" 1080 (Qr 573),Qk P "_law_wound" 1089 (Qr 580)] 59
noncomputable def acN:=QN P [Qi 1 0,Qi 0 0,Qr 20,Qi 5 0,Qi 0 0,Qr 27,Qi 11 0,Qi 0 0,Qr 48,Qi 13 0,Qi 0 0,Qr 60,Qi 15 0,Qi 0 0,Qr 72,Qi 23 0,Qi 0 0,Qr 86,Qi 25 0,Qi 0 0,Qr 93,Qi 29 0,Qi 0 0,Qr 100,Qi 34 0,Qi 0 0,Qr 107,Qi 38 0,Qi 0 0,Qr 114,Qi 51 0,Qi 0 0,Qr 122,Qi 63 0,Qi 0 0,Qr 129,Qi 68 0,Qi 0 0,Qr 136,Qi 76 0,Qi 0 0,Qr 143,Qi 96 0,Qi 0 0,Qr 150,Qi 108 0,Qi 0 0,Qr 157,Qi 112 0,Qi 0 0,Qr 165,Qi 129 0,Qi 0 0,Qr 172,Qi 133 0,Qi 0 0,Qr 179,Qi 141 0,Qi 0 0,Qr 186,Qi 150 0,Qi 0 0,Qr 195,Qi 165 0,Qi 0 0,Qr 203,Qi 174 0,Qi 0 0,Qr 208,Qi 183 0,Qi 0 0,Qr 215,Qi 261 0,Qi 0 0,Qr 286,Qi 409 0,Qi 0 0,Qr 397,Qi 411 0,Qi 0 0,Qr 404,Qi 416 0,Qi 0 0,Qr 411,Qi 425 0,Qi 0 0,Qr 432,Qi 466 0,Qi 0 0,Qr 508,Qi 473 0,Qi 0 0,Qr 529,Qi 482 0,Qi 0 0,Qr 536,Qi 523 0,Qi 0 0,Qr 572,Qi 527 0,Qi 0 0,Qr 579]
noncomputable def Nd:=QD P [Qk P "__module__" 1012 (Qs "chancore.world" 953),Qk P "__qualname__" 1014 (Qs "World" 1013),Qk P "__firstlineno__" 1016 (Qi 482 1015),Qk P "__init__" 1024 (Qr 545),Qk P "base_of" 1033 (Qr 552),Qk P "settled" 1041 (Qr 559),Qk P "__static_attributes__" 1062 (Qr 560)] 7
noncomputable def Nf:=QN P [Qi 484 0,Qi 4 0,Qr 544,Qi 506 0,Qi 4 0,Qr 551,Qi 518 0,Qi 4 0,Qr 558]
noncomputable def Ng:=QC P "World" "World" 1007 482 0 0 0 0 534 false 535 .none .none .none 1010
noncomputable def Nh:=QO P (Qt "frame") none .plain [some (Qr 536),some (Qr 3),some (Qr 533),none,some (Qs "chancore.world" 953),none,some (Qr 0)]
noncomputable def Ni:=QT P [Qs "self" 1020,Qs "packages" 1021]
noncomputable def Nj:=QF P "__init__" "World.__init__" (fm 54 0)
noncomputable def Nk:=QC P "__init__" "World.__init__" 1017 484 2 0 0 3 539 true 540 (Qr 541) (Qr 542) (Qr 543) 1022
noncomputable def Nn:=QG P "__init__" "World.__init__" (fm 54 0) 3 (Qr 538) (Qs "chancore.world" 953) 544
noncomputable def No:=QT P [Qs "self" 1028,Qs "told" 1029,Qs "row" 1030]
noncomputable def Np:=QF P "base_of" "World.base_of" (fm 54 1)
noncomputable def Nq:=QC P "base_of" "World.base_of" 1025 506 2 0 0 3 546 true 547 (Qr 548) (Qr 549) (Qr 550) 1031
noncomputable def Nr:=QG P "base_of" "World.base_of" (fm 54 1) 3 .none (Qs "chancore.world" 953) 551
noncomputable def Nu:=QT P [Qs "self" 1037,Qs "entry" 1038]
noncomputable def Nv:=QF P "settled" "World.settled" (fm 54 2)
noncomputable def Nw:=QC P "settled" "World.settled" 1034 518 2 0 0 3 553 true 554 (Qr 555) (Qr 556) (Qr 557) 1039
noncomputable def Ny:=QG P "settled" "World.settled" (fm 54 2) 3 .none (Qs "chancore.world" 953) 558
noncomputable def NA:=QT P [Qs "bodies" 1042,Qs "consts" 1043,Qs "files" 1044,Qs "funcs" 1045,Qs "globals" 1046,Qs "inits" 1047,Qs "is_whole" 1048,Qs "late_keys" 1049,Qs "late_parts" 1050,Qs "late_sizes" 1051,Qs "measured" 1052,Qs "mentions" 1053,Qs "named" 1054,Qs "order" 1055,Qs "packages" 1056,Qs "scopes" 1057,Qs "settle" 1058,Qs "starts" 1059,Qs "values" 1060,Qs "want" 1061]
noncomputable def NB:=QD P [Qk P "__module__" 1012 (Qs "chancore.world" 953),Qk P "__firstlineno__" 1016 (Qi 482 1015),Qk P "__init__" 1024 (Qr 545),Qk P "base_of" 1033 (Qr 552),Qk P "settled" 1041 (Qr 559),Qk P "__static_attributes__" 1062 (Qr 560),Qk P "__dict__" 1064 (Qr 563),Qk P "__weakref__" 1066 (Qr 564),Qk P "__doc__" 1067 .none] 4
noncomputable def NC:=QO P (Qt "type") none (.cls ⟨"World",[Qt "object"],[Qr 562,Qt "object"],561,"World",true,[],[],false,none,false⟩) [none,none,some (Qs "World" 1005),some (Qs "World" 1013),some (Qb "object.__new__"),some (.bool true)]
noncomputable def ND:=QO P (Qt "getset_descriptor") none (.fields ⟨[Qs "__dict__" 1063,Qr 562,Qb "function.__dict__",Qb "function.__dict__#set"]⟩) []
noncomputable def NE:=QO P (Qt "getset_descriptor") none (.fields ⟨[Qs "__weakref__" 1065,Qr 562,Qb "ExceptionGroup.__weakref__",.none]⟩) []
noncomputable def NF:=QO P (Qt "super") none (.fields ⟨[Qr 562,Qr 562,Qr 562]⟩) []
noncomputable def NG:=QO P (Qt "builtin_function_or_method") none (.fields ⟨[Qb "object.__init_subclass__",Qr 562]⟩) []
noncomputable def NH:=QT P [Qs "script" 1075,Qs "told" 1076,Qs "size" 1077]
noncomputable def NI:=QF P "_law_reel" "_law_reel" (ft 56)
noncomputable def NJ:=QC P "_law_reel" "_law_reel" 1072 523 1 0 0 3 567 true 568 (Qr 569) (Qr 570) (Qr 571) 1078
noncomputable def NK:=QG P "_law_reel" "_law_reel" (ft 56) 3 .none (Qs "law_xw0050_01" 1070) 572
noncomputable def NL:=QT P [Qs "reel" 1084,Qs "many" 1085,Qs "found" 1086]
noncomputable def NM:=QF P "_law_wound" "_law_wound" (ft 57)
noncomputable def NN:=QC P "_law_wound" "_law_wound" 1081 527 2 0 0 3 574 true 575 (Qr 576) (Qr 577) (Qr 578) 1087
noncomputable def NO:=QG P "_law_wound" "_law_wound" (ft 57) 3 .none (Qs "law_xw0050_01" 1070) 579
noncomputable def acO:=QT P [Qs "reel" 1093,Qs "some" 1094]
noncomputable def acP:=QF P "_law_one" "_law_one" (ft 58)
noncomputable def acQ:=QC P "_law_one" "_law_one" 1090 534 2 0 0 3 581 true 582 (Qr 583) (Qr 584) (Qr 585) 1095
noncomputable def acR:=QG P "_law_one" "_law_one" (ft 58) 3 .none (Qs "law_xw0050_01" 1070) 586
noncomputable def acS:=QT P [Qs "call" 1101,Qs "fault" 1102]
noncomputable def acT:=QF P "_law_tried" "_law_tried" (ft 59)
noncomputable def acU:=QC P "_law_tried" "_law_tried" 1098 536 1 0 0 3 588 true 589 (Qr 590) (Qr 591) (Qr 592) 1103
noncomputable def acV:=QG P "_law_tried" "_law_tried" (ft 59) 3 .none (Qs "law_xw0050_01" 1070) 593
noncomputable def acW:=QT P [Qs "loose" 1109,Qs "T" 1110,Qs "octet" 1111,Qs "rows" 1112]
noncomputable def acX:=QO P .none none (.func ⟨"_law_rows","_law_rows",(ft 62).1,.stmts (ft 60).2.1,(ft 60).2.2,0,[],.none,.none,.none,.none,none,.none,.none,0⟩) []
noncomputable def acY:=QC P "_law_rows" "_law_rows" 1106 543 0 0 0 3 595 true 596 (Qr 597) (Qr 598) (Qr 599) 1113
noncomputable def acZ:=QO P (Qt "function") none (.func ⟨"_law_rows","_law_rows",(ft 62).1,.stmts (ft 60).2.1,(ft 60).2.2,3,[],.none,.none,.none,Qs "law_xw0050_01" 1070,none,Qr 600,.none,0⟩) []
noncomputable def ac0:=QT P [Qs "whole" 1119,Qs "far" 1120]
noncomputable def ac1:=QO P .none none (.func ⟨"_law_globals","_law_globals",(ft 62).1,.stmts (ft 61).2.1,(ft 61).2.2,0,[],.none,.none,.none,.none,none,.none,.none,0⟩) []
noncomputable def ac2:=QC P "_law_globals" "_law_globals" 1116 553 0 0 0 3 602 true 603 (Qr 604) (Qr 605) (Qr 606) 1121
noncomputable def ac3:=QO P (Qt "function") none (.func ⟨"_law_globals","_law_globals",(ft 62).1,.stmts (ft 61).2.1,(ft 61).2.2,3,[],.none,.none,.none,Qs "law_xw0050_01" 1070,none,Qr 607,.none,0⟩) []
noncomputable def ac4:=QT P [Qs "world" 1127,Qs "scope" 1128,Qs "e" 1129,Qs "T" 1130,Qs "value" 1131,Qs "name" 1132,Qs "due" 1133]
noncomputable def ac5:=QF P "_law_reader" "_law_reader" (ft 62)
noncomputable def ac6:=QC P "_law_reader" "_law_reader" 1124 556 0 0 0 3 609 true 610 (Qr 611) (Qr 612) (Qr 613) 1134
noncomputable def ac7:=QG P "_law_reader" "_law_reader" (ft 62) 3 .none (Qs "law_xw0050_01" 1070) 614
noncomputable def ac9:=QT P [Qs "T" 1140]
noncomputable def ada:=QF P "_law_range" "_law_range" (ft 63)
noncomputable def adb:=QC P "_law_range" "_law_range" 1137 568 1 0 0 3 616 true 617 (Qr 618) (Qr 619) (Qr 620) 1141
noncomputable def adc:=QG P "_law_range" "_law_range" (ft 63) 3 .none (Qs "law_xw0050_01" 1070) 621
noncomputable def ade:=QT P [Qs "value" 1147]
noncomputable def adf:=QF P "_law_sort" "_law_sort" (ft 64)
noncomputable def adg:=QC P "_law_sort" "_law_sort" 1144 572 1 0 0 3 623 true 624 (Qr 625) (Qr 626) (Qr 627) 1148
noncomputable def adh:=QG P "_law_sort" "_law_sort" (ft 64) 3 .none (Qs "law_xw0050_01" 1070) 628
noncomputable def adi:=QT P [Qs "T" 1154,Qs "value" 1155,Qs "sort" 1156,Qs "low" 1157,Qs "high" 1158]
noncomputable def adj:=QF P "_law_is_of" "_law_is_of" (ft 65)
noncomputable def adk:=QC P "_law_is_of" "_law_is_of" 1151 574 2 0 0 3 630 true 631 (Qr 632) (Qr 633) (Qr 634) 1159
noncomputable def adl:=QG P "_law_is_of" "_law_is_of" (ft 65) 3 .none (Qs "law_xw0050_01" 1070) 635
noncomputable def adm:=QT P [Qs "T" 1165,Qs "value" 1166,Qs "low" 1167,Qs "high" 1168]
noncomputable def adn:=QF P "_law_fitting" "_law_fitting" (ft 66)
noncomputable def ado:=QC P "_law_fitting" "_law_fitting" 1162 580 2 0 0 3 637 true 638 (Qr 639) (Qr 640) (Qr 641) 1169
noncomputable def adp:=QG P "_law_fitting" "_law_fitting" (ft 66) 3 .none (Qs "law_xw0050_01" 1070) 642
noncomputable def adq:=QT P [Qs "op" 1175,Qs "a" 1176,Qs "b" 1177,Qs "found" 1178,Qs "at" 1179,Qs "one" 1180,Qs "other" 1181,Qs "bit" 1182]
noncomputable def ads:=QF P "_law_bits" "_law_bits" (ft 67)
noncomputable def adt:=QC P "_law_bits" "_law_bits" 1172 583 3 0 0 3 644 true 645 (Qr 646) (Qr 647) (Qr 648) 1183
noncomputable def adu:=QG P "_law_bits" "_law_bits" (ft 67) 3 .none (Qs "law_xw0050_01" 1070) 649
noncomputable def adv:=QT P [Qs "op" 1189,Qs "a" 1190,Qs "b" 1191,Qs "whole" 1192]
noncomputable def adw:=QF P "_law_reckoned" "_law_reckoned" (ft 68)
noncomputable def adx:=QC P "_law_reckoned" "_law_reckoned" 1186 590 3 0 0 3 651 true 652 (Qr 653) (Qr 654) (Qr 655) 1193
noncomputable def ady:=QG P "_law_reckoned" "_law_reckoned" (ft 68) 3 .none (Qs "law_xw0050_01" 1070) 656
noncomputable def adz:=QT P [Qs "op" 1199,Qs "a" 1200,Qs "b" 1201,Qs "way" 1202]
noncomputable def adA:=QF P "_law_compared" "_law_compared" (ft 69)
noncomputable def adB:=QC P "_law_compared" "_law_compared" 1196 600 3 0 0 3 658 true 659 (Qr 660) (Qr 661) (Qr 662) 1203
noncomputable def adC:=QG P "_law_compared" "_law_compared" (ft 69) 3 .none (Qs "law_xw0050_01" 1070) 663
noncomputable def adD:=QD P [Qk P "__name__" 165 (Qs "law_xw0050_01" 1070),Qk P "__doc__" 166 .none,Qk P "__package__" 167 .none,Qk P "__loader__" 168 (Qb "__main__.__loader__#opaque"),Qk P "__spec__" 169 .none,Qk P "__annotations__" 170 (Qr 6),Qk P "__builtins__" 171 (Qr 4),Qk P "__file__" 173 (Qs "/claim/cut.py" 172),Qk P "__cached__" 174 .none,Qk P "_wall" 193 (Qr 21),Qk P "ChanError" 227 (Qr 39),Qk P "NameFault" 243 (Qr 52),Qk P "TypeFault" 259 (Qr 64),Qk P "ConstFault" 275 (Qr 76),Qk P "BITS" 308 (Qr 79),Qk P "MOST_BITS" 310 (Qi 512 309),Qk P "MOST_TEXT" 314 (Qi 1048576 313),Qk P "COMPARISONS" 321 (Qr 80),Qk P "WRONG_RUNE" 323 (.bytes ⟨[239,191,189]⟩ 322),Qk P "is_unsigned" 330 (Qr 87),Qk P "int_range" 337 (Qr 94),Qk P "is_in_range" 347 (Qr 101),Qk P "within_range" 355 (Qr 108),Qk P "representable" 364 (Qr 115),Qk P "const_unary" 373 (Qr 123),Qk P "const_quotient" 382 (Qr 130),Qk P "const_shift" 392 (Qr 137),Qk P "int_binary" 401 (Qr 144),Qk P "const_compared" 410 (Qr 151),Qk P "sort_of_const" 417 (Qr 158),Qk P "const_binary" 428 (Qr 166),Qk P "rune_octets" 435 (Qr 173),Qk P "const_convert" 443 (Qr 180),Qk P "MAIN" 447 (Qs "main" 446),Qk P "own_name" 456 (Qr 187),Qk P "SYNC_TYPES" 461 (Qr 188),Qk P "MOST_LENGTH" 465 (Qi 1048576 464),Qk P "MOST_PARTS" 467 (Qi 2000 466),Qk P "MOST_LEVELS" 469 (Qi 100 468),Qk P "type_entry" 483 (Qr 196),Qk P "exported_entry" 494 (Qr 204),Qk P "want_few_parts" 500 (Qr 209),Qk P "TypeReader" 599 (Qr 271),Qk P "UNTYPED_INT" 604 (Qr 276),Qk P "UNTYPED_RUNE" 607 (Qr 277),Qk P "UNTYPED_BOOL" 610 (Qr 278),Qk P "UNTYPED_TEXT" 613 (Qr 279),Qk P "NUMBERS" 614 (Qr 280),Qk P "ConstReader" 795 (Qr 386),Qk P "const_of" 806 (Qr 398),Qk P "type_of" 820 (Qr 405),Qk P "ScopeRow" 860 (Qr 422),Qk P "Scope" 952 (Qr 495),Qk P "PLAIN" 956 (Qr 502),Qk P "NamedRow" 991 (Qr 519),Qk P "known_rows" 1004 (Qr 530),Qk P "World" 1069 (Qr 562),Qk P "_law_reel" 1080 (Qr 573),Qk P "_law_wound" 1089 (Qr 580),Qk P "_law_one" 1097 (Qr 587),Qk P "_law_tried" 1105 (Qr 594),Qk P "_law_rows" 1115 (Qr 601),Qk P "_law_globals" 1123 (Qr 608),Qk P "_law_reader" 1136 (Qr 615),Qk P "_law_range" 1143 (Qr 622),Qk P "_law_sort" 1150 (Qr 629),Qk P "_law_is_of" 1161 (Qr 636),Qk P "_law_fitting" 1171 (Qr 643),Qk P "_law_bits" 1185 (Qr 650),Qk P "_law_reckoned" 1195 (Qr 657),Qk P "_law_compared" 1205 (Qr 664),Qk P "_law_together" 1216 (Qr 671),Qk P "_law_signed" 1228 (Qr 678),Qk P "_law_shifted" 1239 (Qr 685),Qk P "_law_joined" 1252 (Qr 692),Qk P "_law_size_right" 1258 (Qr 697),Qk P "law" 1273 (Qr 704)] 77
noncomputable def adE:=QN P [Qi 1 0,Qi 0 0,Qr 20,Qi 5 0,Qi 0 0,Qr 27,Qi 11 0,Qi 0 0,Qr 48,Qi 13 0,Qi 0 0,Qr 60,Qi 15 0,Qi 0 0,Qr 72,Qi 23 0,Qi 0 0,Qr 86,Qi 25 0,Qi 0 0,Qr 93,Qi 29 0,Qi 0 0,Qr 100,Qi 34 0,Qi 0 0,Qr 107,Qi 38 0,Qi 0 0,Qr 114,Qi 51 0,Qi 0 0,Qr 122,Qi 63 0,Qi 0 0,Qr 129,Qi 68 0,Qi 0 0,Qr 136,Qi 76 0,Qi 0 0,Qr 143,Qi 96 0,Qi 0 0,Qr 150,Qi 108 0,Qi 0 0,Qr 157,Qi 112 0,Qi 0 0,Qr 165,Qi 129 0,Qi 0 0,Qr 172,Qi 133 0,Qi 0 0,Qr 179,Qi 141 0,Qi 0 0,Qr 186,Qi 150 0,Qi 0 0,Qr 195,Qi 165 0,Qi 0 0,Qr 203,Qi 174 0,Qi 0 0,Qr 208,Qi 183 0,Qi 0 0,Qr 215,Qi 261 0,Qi 0 0,Qr 286,Qi 409 0,Qi 0 0,Qr 397,Qi 411 0,Qi 0 0,Qr 404,Qi 416 0,Qi 0 0,Qr 411,Qi 425 0,Qi 0 0,Qr 432,Qi 466 0,Qi 0 0,Qr 508,Qi 473 0,Qi 0 0,Qr 529,Qi 482 0,Qi 0 0,Qr 536,Qi 523 0,Qi 0 0,Qr 572,Qi 527 0,Qi 0 0,Qr 579,Qi 534 0,Qi 0 0,Qr 586,Qi 536 0,Qi 0 0,Qr 593,Qi 543 0,Qi 0 0,Qr 600,Qi 553 0,Qi 0 0,Qr 607,Qi 556 0,Qi 0 0,Qr 614,Qi 568 0,Qi 0 0,Qr 621,Qi 572 0,Qi 0 0,Qr 628,Qi 574 0,Qi 0 0,Qr 635,Qi 580 0,Qi 0 0,Qr 642,Qi 583 0,Qi 0 0,Qr 649,Qi 590 0,Qi 0 0,Qr 656,Qi 600 0,Qi 0 0,Qr 663,Qi 603 0,Qi 0 0,Qr 670,Qi 613 0,Qi 0 0,Qr 677,Qi 625 0,Qi 0 0,Qr 684,Qi 632 0,Qi 0 0,Qr 691,Qi 648 0,Qi 0 0,Qr 696,Qi 653 0,Qi 0 0,Qr 703]
noncomputable def adF:=QT P [Qs "one" 1209,Qs "other" 1210,Qs "left" 1211,Qs "right" 1212,Qs "words" 1213]
noncomputable def adG:=QF P "_law_together" "_law_together" (ft 70)
noncomputable def adH:=QC P "_law_together" "_law_together" 1206 603 2 0 0 3 665 true 666 (Qr 667) (Qr 668) (Qr 669) 1214
noncomputable def adI:=QG P "_law_together" "_law_together" (ft 70) 3 .none (Qs "law_xw0050_01" 1070) 670
noncomputable def adJ:=QT P [Qs "op" 1220,Qs "row" 1221,Qs "e" 1222,Qs "T" 1223,Qs "value" 1224,Qs "sort" 1225]
noncomputable def adK:=QF P "_law_signed" "_law_signed" (ft 71)
noncomputable def adL:=QC P "_law_signed" "_law_signed" 1217 613 2 0 0 3 672 true 673 (Qr 674) (Qr 675) (Qr 676) 1226
noncomputable def adM:=QG P "_law_signed" "_law_signed" (ft 71) 3 .none (Qs "law_xw0050_01" 1070) 677
noncomputable def adN:=QT P [Qs "op" 1232,Qs "one" 1233,Qs "other" 1234,Qs "a" 1235,Qs "b" 1236]
noncomputable def adO:=QF P "_law_shifted" "_law_shifted" (ft 72)
noncomputable def adP:=QC P "_law_shifted" "_law_shifted" 1229 625 3 0 0 3 679 true 680 (Qr 681) (Qr 682) (Qr 683) 1237
noncomputable def adQ:=QG P "_law_shifted" "_law_shifted" (ft 72) 3 .none (Qs "law_xw0050_01" 1070) 684
noncomputable def adR:=QT P [Qs "op" 1243,Qs "one" 1244,Qs "other" 1245,Qs "T" 1246,Qs "a" 1247,Qs "b" 1248,Qs "sort" 1249]
noncomputable def adS:=QF P "_law_joined" "_law_joined" (ft 73)
noncomputable def adT:=QC P "_law_joined" "_law_joined" 1240 632 3 0 0 3 686 true 687 (Qr 688) (Qr 689) (Qr 690) 1250
noncomputable def adU:=QG P "_law_joined" "_law_joined" (ft 73) 3 .none (Qs "law_xw0050_01" 1070) 691
noncomputable def adV:=QF P "_law_size_right" "_law_size_right" (ft 74)
noncomputable def adW:=QC P "_law_size_right" "_law_size_right" 1253 648 2 0 0 3 693 true 694 .none .none (Qr 695) 1256
noncomputable def adX:=QG P "_law_size_right" "_law_size_right" (ft 74) 3 .none (Qs "law_xw0050_01" 1070) 696
noncomputable def adY:=QT P [Qs "script" 1262,Qs "loose" 1263,Qs "reel" 1264,Qs "ops" 1265,Qs "turn" 1266]
noncomputable def adZ:=QT P [Qs "one" 1267,Qs "op" 1268,Qs "other" 1269,Qs "reader" 1270]
noncomputable def OR:List Stmt:=[.Assign [.Tuple [.Name "reader" (aa 654 4 10),.Name "loose" (aa 654 12 17)] 0 (aa 654 4 17)] (.Tuple [.Call (.Name "_law_reader" (aa 654 21 32)) [] [] (aa 654 21 34),.Tuple [.Constant (.str "untyped") 0 (aa 654 37 46),.Constant (.str "int") 0 (aa 654 48 53)] 0 (aa 654 36 54)] 0 (aa 654 20 55)) (aa 654 4 55),.If (.Compare (.Call (.Attribute (.Name "reader" (aa 655 7 13)) "of_two" (aa 655 7 20)) [.Tuple [.Constant (.str "binary") 0 (aa 655 22 30),.Constant (.int 9) 0 (aa 655 32 33),.Constant (.str "<") 0 (aa 655 35 38),.Tuple [.Constant (.str "int") 0 (aa 655 41 46),.Constant (.int 1) 0 (aa 655 48 49),.Constant (.int 5) 0 (aa 655 51 52)] 0 (aa 655 40 53),.Tuple [.Constant (.str "int") 0 (aa 655 56 61),.Constant (.int 2) 0 (aa 655 63 64),.Constant (.int 7) 0 (aa 655 66 67)] 0 (aa 655 55 68)] 0 (aa 655 21 69)] [] (aa 655 7 70)) [.NotEq] [.Tuple [.Tuple [.Constant (.str "untyped") 0 (aa 655 76 85),.Constant (.str "bool") 0 (aa 655 87 93)] 0 (aa 655 75 94),.Constant (.bool true) 0 (aa 655 96 100)] 0 (aa 655 74 101)] (aa 655 7 101)) [.Return (some (.Constant (.bool false) 0 (aa 656 15 20))) (aa 656 8 20)] [] ⟨655,4,656,20⟩,.Assign [.Name "reel" (aa 657 4 8)] (.Call (.Name "_law_reel" (aa 657 11 20)) [.Name "script" (aa 657 21 27)] [] (aa 657 11 28)) (aa 657 4 28),.Assign [.Tuple [.Name "op" (aa 658 4 6),.Name "one" (aa 658 8 11)] 0 (aa 658 4 11)] (.Tuple [.Call (.Name "_law_one" (aa 658 15 23)) [.Name "reel" (aa 658 24 28),.List [.Constant (.str "+") 0 (aa 658 31 34),.Constant (.str "-") 0 (aa 658 36 39),.Constant (.str "^") 0 (aa 658 41 44),.Constant (.str "!") 0 (aa 658 46 49)] (aa 658 30 50)] [] (aa 658 15 51),.Call (.Name "_law_one" (aa 658 53 61)) [.Name "reel" (aa 658 62 66),.Call (.Name "_law_rows" (aa 658 68 77)) [] [] (aa 658 68 79)] [] (aa 658 53 80)] 0 (aa 658 14 81)) (aa 658 4 81),.If (.Compare (.Call (.Name "_law_tried" (aa 659 7 17)) [.Lambda (ft 62).1 (.Call (.Attribute (.Name "reader" (aa 659 26 32)) "of_one" (aa 659 26 39)) [.Tuple [.Constant (.str "unary") 0 (aa 659 41 48),.Constant (.int 9) 0 (aa 659 50 51),.Name "op" (aa 659 53 55),.Subscript (.Name "one" (aa 659 57 60)) (.Constant (.int 0) 0 (aa 659 61 62)) (aa 659 57 63)] 0 (aa 659 40 64)] [] (aa 659 26 65)) ⟨.function,[⟨"one",.free⟩,⟨"op",.free⟩,⟨"reader",.free⟩],false,false,[]⟩ (aa 659 18 65)] [] (aa 659 7 66)) [.NotEq] [.Call (.Name "_law_signed" (aa 659 70 81)) [.Name "op" (aa 659 82 84),.Name "one" (aa 659 86 89)] [] (aa 659 70 90)] (aa 659 7 90)) [.Return (some (.Constant (.bool false) 0 (aa 660 15 20))) (aa 660 8 20)] [] ⟨659,4,660,20⟩,.Assign [.Name "ops" (aa 661 4 7)] (.List [.Constant (.str "+") 0 (aa 661 11 14),.Constant (.str "-") 0 (aa 661 16 19),.Constant (.str "*") 0 (aa 661 21 24),.Constant (.str "/") 0 (aa 661 26 29),.Constant (.str "%") 0 (aa 661 31 34),.Constant (.str "&") 0 (aa 661 36 39),.Constant (.str "|") 0 (aa 661 41 44),.Constant (.str "^") 0 (aa 661 46 49),.Constant (.str "&^") 0 (aa 661 51 55),.Constant (.str "==") 0 (aa 661 57 61),.Constant (.str "!=") 0 (aa 661 63 67),.Constant (.str "<") 0 (aa 661 69 72),.Constant (.str ">=") 0 (aa 661 74 78),.Constant (.str "&&") 0 (aa 661 80 84),.Constant (.str "||") 0 (aa 661 86 90)] (aa 661 10 91)) (aa 661 4 91),.For (.Name "turn" (aa 662 8 12)) (.Call (.Name "range" (aa 662 16 21)) [.Constant (.int 2) 0 (aa 662 22 23)] [] (aa 662 16 24)) [.Assign [.Tuple [.Name "op" (aa 663 8 10),.Name "one" (aa 663 12 15),.Name "other" (aa 663 17 22)] 0 (aa 663 8 22)] (.Tuple [.Call (.Name "_law_one" (aa 663 26 34)) [.Name "reel" (aa 663 35 39),.Name "ops" (aa 663 41 44)] [] (aa 663 26 45),.Call (.Name "_law_one" (aa 663 47 55)) [.Name "reel" (aa 663 56 60),.Call (.Name "_law_rows" (aa 663 62 71)) [] [] (aa 663 62 73)] [] (aa 663 47 74),.Call (.Name "_law_one" (aa 663 76 84)) [.Name "reel" (aa 663 85 89),.Call (.Name "_law_rows" (aa 663 91 100)) [] [] (aa 663 91 102)] [] (aa 663 76 103)] 0 (aa 663 25 104)) (aa 663 8 104),.If (.Compare (.Call (.Name "_law_tried" (aa 664 11 21)) [.Lambda (ft 62).1 (.Call (.Attribute (.Name "reader" (aa 664 30 36)) "of_two" (aa 664 30 43)) [.Tuple [.Constant (.str "binary") 0 (aa 664 45 53),.Constant (.int 9) 0 (aa 664 55 56),.Name "op" (aa 664 58 60),.Subscript (.Name "one" (aa 664 62 65)) (.Constant (.int 0) 0 (aa 664 66 67)) (aa 664 62 68),.Subscript (.Name "other" (aa 664 70 75)) (.Constant (.int 0) 0 (aa 664 76 77)) (aa 664 70 78)] 0 (aa 664 44 79)] [] (aa 664 30 80)) ⟨.function,[⟨"one",.free⟩,⟨"op",.free⟩,⟨"other",.free⟩,⟨"reader",.free⟩],false,false,[]⟩ (aa 664 22 80)] [] (aa 664 11 81)) [.NotEq] [.Call (.Name "_law_joined" (aa 664 85 96)) [.Name "op" (aa 664 97 99),.Name "one" (aa 664 101 104),.Name "other" (aa 664 106 111)] [] (aa 664 85 112)] (aa 664 11 112)) [.Return (some (.Constant (.bool false) 0 (aa 665 19 24))) (aa 665 12 24)] [] ⟨664,8,665,24⟩] [] ⟨662,4,665,24⟩,.Assign [.Tuple [.Name "op" (aa 666 4 6),.Name "one" (aa 666 8 11),.Name "other" (aa 666 13 18)] 0 (aa 666 4 18)] (.Tuple [.Call (.Name "_law_one" (aa 666 22 30)) [.Name "reel" (aa 666 31 35),.List [.Constant (.str "<<") 0 (aa 666 38 42),.Constant (.str ">>") 0 (aa 666 44 48)] (aa 666 37 49)] [] (aa 666 22 50),.Call (.Name "_law_one" (aa 666 52 60)) [.Name "reel" (aa 666 61 65),.Call (.Name "_law_rows" (aa 666 67 76)) [] [] (aa 666 67 78)] [] (aa 666 52 79),.Call (.Name "_law_one" (aa 666 81 89)) [.Name "reel" (aa 666 90 94),.Call (.Name "_law_rows" (aa 666 96 105)) [] [] (aa 666 96 107)] [] (aa 666 81 108)] 0 (aa 666 21 109)) (aa 666 4 109),.If (.Compare (.Call (.Name "_law_tried" (aa 667 7 17)) [.Lambda (ft 62).1 (.Call (.Attribute (.Name "reader" (aa 667 26 32)) "of_two" (aa 667 26 39)) [.Tuple [.Constant (.str "binary") 0 (aa 667 41 49),.Constant (.int 9) 0 (aa 667 51 52),.Name "op" (aa 667 54 56),.Subscript (.Name "one" (aa 667 58 61)) (.Constant (.int 0) 0 (aa 667 62 63)) (aa 667 58 64),.Subscript (.Name "other" (aa 667 66 71)) (.Constant (.int 0) 0 (aa 667 72 73)) (aa 667 66 74)] 0 (aa 667 40 75)] [] (aa 667 26 76)) ⟨.function,[⟨"one",.free⟩,⟨"op",.free⟩,⟨"other",.free⟩,⟨"reader",.free⟩],false,false,[]⟩ (aa 667 18 76)] [] (aa 667 7 77)) [.NotEq] [.Call (.Name "_law_shifted" (aa 667 81 93)) [.Name "op" (aa 667 94 96),.Name "one" (aa 667 98 101),.Name "other" (aa 667 103 108)] [] (aa 667 81 109)] (aa 667 7 109)) [.Return (some (.Constant (.bool false) 0 (aa 668 15 20))) (aa 668 8 20)] [] ⟨667,4,668,20⟩,.Return (some (.Call (.Name "_law_size_right" (aa 669 11 26)) [.Name "reel" (aa 669 27 31),.Name "reader" (aa 669 33 39)] [] (aa 669 11 40))) (aa 669 4 40)]
noncomputable def ad0:=QO P .none none (.func ⟨"law","law",(ft 75).1,.stmts OR,(ft 75).2.2,0,[],.none,.none,.none,.none,none,.none,.none,0⟩) []
noncomputable def NP:=QC P "law" "law" 1259 653 1 0 0 3 698 true 699 (Qr 700) (Qr 701) (Qr 702) 1271
noncomputable def ad1:=QO P (Qt "function") none (.func ⟨"law","law",(ft 75).1,.stmts OR,(ft 75).2.2,3,[],.none,.none,.none,Qs "law_xw0050_01" 1070,none,Qr 703,.none,0⟩) []
end
noncomputable def xT:Params→BT:=V boot_o_0 (V boot_o_1 (V boot_o_3 (QE boot_o_7) (QE ae)) (V boot_o_5 (QE boot_o_9) (QE lf))) (V boot_o_2 (V boot_o_4 (QE boot_o_8) (QE ag)) (V boot_o_6 (QE boot_o_10) (QE lg)))
noncomputable def ue:Params→BT:=V boot_o_0 (V boot_o_1 (V o95 (V boot_o_7 (V ae (V ag (QE mA) QZ) (QE ag)) (V bh (QE o97) (QE dA))) (V ae (V mP (QE ng) (QE nz)) (V mX (QE dA) (QE ag)))) (V boot_o_5 (V boot_o_9 (V mO (V ae (QE mC) QZ) (QE ny)) (V ae (QE nq) (QE mu))) (V lf (V mR (QE ni) (QE nB)) (V mZ (QE nv) (QE mz))))) (V mN (V boot_o_4 (V boot_o_8 (V ag (V m8 (QE mB) QZ) (QE nw)) (V mV (QE nk) (QE bh))) (V o96 (V mQ (QE nh) (QE nA)) (V mY (QE bh) (QE my)))) (V boot_o_6 (V boot_o_10 (V ae (V m9 (QE mD) QZ) (QE ae)) (V mW (QE nu) (QE ae))) (V lg (V mU (QE nj) (QE nC)) (V ae (QE ae) (QE ae)))))
noncomputable def uf:Params→BT:=V boot_o_0 (V boot_o_1 (V acC (V boot_o_7 (V ae (V ag (QE mA) QZ) (V ag (QE po) QZ)) (V bh (V pc (QE ag) QZ) (QE dA))) (V ae (V mP (V ng (QE dA) QZ) (QE nz)) (V mX (V dA (QE pg) QZ) (QE ag)))) (V boot_o_5 (V boot_o_9 (V mO (V ae (QE mC) QZ) (QE ny)) (V ae (V nq (QE pf) QZ) (QE mu))) (V lf (V mR (V ni (QE pd) QZ) (QE nB)) (V mZ (V nv (QE pj) QZ) (QE mz))))) (V mN (V boot_o_4 (V boot_o_8 (V ag (V m8 (QE mB) QZ) (QE nw)) (V mV (V nk (QE pe) QZ) (QE bh))) (V acD (V mQ (V nh (QE bh) QZ) (QE nA)) (V mY (V bh (QE ph) QZ) (QE my)))) (V boot_o_6 (V boot_o_10 (V ae (V m9 (QE mD) QZ) (QE ae)) (V mW (V nu (QE ae) QZ) (QE ae))) (V lg (V mU (V nj (QE ae) QZ) (QE nC)) (V ae (V ae (QE pn) QZ) (QE ae)))))
noncomputable def JE:Params→BT:=V boot_o_0 (V boot_o_1 (V acE (V boot_o_7 (V ae (V ag (V mA (QE ae) (QE ag)) (V ae (QE dv) QZ)) (V ag (V po (QE sh) (QE tf)) (V rP (QE ag) QZ))) (V bh (V pc (V ag (QE sb) (QE ag)) (V ag (QE ae) QZ)) (V dA (V rA (QE sv) QZ) (V rT (QE sO) QZ)))) (V ae (V mP (V ng (V dA (QE ae) (QE sW)) (V rH (QE ae) QZ)) (V nz (V rx (QE sj) QZ) (V rS (QE sM) QZ))) (V mX (V dA (V pg (QE ag) (QE s0)) (V rN (QE sH) QZ)) (V ag (V ae (QE ae) QZ) (V rW (QE sR) QZ))))) (V boot_o_5 (V boot_o_9 (V mO (V ae (V mC (QE rZ) (QE ae)) (V rG (QE ag) QZ)) (V ny (V ae (QE ae) (QE th)) (V rQ (QE ae) QZ))) (V ae (V nq (V pf (QE se) (QE ae)) (V ae (QE sG) QZ)) (V mu (V ag (QE ag) QZ) (V rU (QE sP) QZ)))) (V lf (V mR (V ni (V pd (QE r8) (QE iy)) (V rJ (QE sE) QZ)) (V nB (V ry (QE sk) QZ) (V ae (QE ae) QZ))) (V mZ (V nv (V pj (QE ae) (QE ae)) (V ae (QE sJ) QZ)) (V mz (V rE (QE sA) QZ) (V ag (QE iy) QZ)))))) (V mN (V boot_o_4 (V boot_o_8 (V ag (V m8 (V mB (QE rY) (QE sU)) (V ag (QE ae) QZ)) (V nw (V rv (QE si) (QE tg)) (V ae (QE sK) QZ))) (V mV (V nk (V pe (QE sd) (QE sY)) (V rK (QE ag) QZ)) (V bh (V ae (QE ae) QZ) (V ae (QE ae) QZ)))) (V acF (V mQ (V nh (V bh (QE ag) (QE sX)) (V rI (QE sD) QZ)) (V nA (V ae (QE ae) QZ) (V dv (QE sN) QZ))) (V mY (V bh (V ph (QE sf) (QE tc)) (V rO (QE sI) QZ)) (V my (V rD (QE sz) QZ) (V ae (QE sS) QZ))))) (V boot_o_6 (V boot_o_10 (V ae (V m9 (V mD (QE r6) (QE sV)) (V ae (QE sC) QZ)) (V ae (V ag (QE ag) QZ) (V rR (QE sL) QZ))) (V mW (V nu (V ae (QE ae) (QE sZ)) (V rM (QE ae) QZ)) (V ae (V rB (QE sy) QZ) (V rV (QE sQ) QZ)))) (V lg (V mU (V nj (V ae (QE ae) (QE ae)) (V ae (QE sF) QZ)) (V nC (V rz (QE su) QZ) (V ag (QE ag) QZ))) (V ae (V ae (V pn (QE sg) (QE ag)) (V ag (QE ae) QZ)) (V ae (V rF (QE sB) QZ) (V rX (QE ae) QZ))))))
noncomputable def JF:Params→BT:=V boot_o_0 (V boot_o_1 (V acH (V boot_o_7 (V ae (V ag (V mA (V ae (QE vA) QZ) (QE ag)) (V ae (QE dv) (QE va))) (V ag (V po (V sh (QE vM) QZ) (QE tf)) (V rP (QE ag) (QE ae)))) (V bh (V pc (V ag (V sb (QE vF) QZ) (QE ag)) (V ag (QE ae) (QE ae))) (V dA (V rA (V sv (QE vV) QZ) (QE u5)) (V rT (QE sO) (QE vu))))) (V ae (V mP (V ng (V dA (V ae (QE vC) QZ) (QE sW)) (V rH (QE ae) (QE ae))) (V nz (V rx (V sj (QE vQ) QZ) (QE bh)) (V rS (QE sM) (QE ae)))) (V mX (V dA (V pg (V ag (QE vH) QZ) (QE s0)) (V rN (QE sH) (QE vm))) (V ag (V ae (QE ae) (QE u7)) (V rW (QE sR) (QE ag)))))) (V boot_o_5 (V boot_o_9 (V mO (V ae (V mC (V rZ (QE ae) QZ) (QE ae)) (V rG (QE ag) (QE ag))) (V ny (V ae (V ae (QE vO) QZ) (QE th)) (V rQ (QE ae) (QE vq)))) (V ae (V nq (V pf (V se (QE ag) QZ) (QE ae)) (V ae (QE sG) (QE vj))) (V mu (V ag (QE ag) (QE ae)) (V rU (QE sP) (QE vx))))) (V lf (V mR (V ni (V pd (V r8 (QE vD) QZ) (QE iy)) (V rJ (QE sE) (QE vh))) (V nB (V ry (V sk (QE vS) QZ) (QE ae)) (V ae (QE ae) (QE vt)))) (V mZ (V nv (V pj (V ae (QE vK) QZ) (QE ae)) (V ae (QE sJ) (QE ag))) (V mz (V rE (QE sA) (QE u8)) (V ag (QE iy) (QE ae))))))) (V mN (V boot_o_4 (V boot_o_8 (V ag (V m8 (V mB (V rY (QE vB) QZ) (QE sU)) (V ag (QE ae) (QE ae))) (V nw (V rv (V si (QE vN) QZ) (QE tg)) (V ae (QE sK) (QE vp)))) (V mV (V nk (V pe (V sd (QE ae) QZ) (QE sY)) (V rK (QE ag) (QE ag))) (V bh (V ae (V ae (QE vW) QZ) (QE u6)) (V ae (QE ae) (QE vw))))) (V acG (V mQ (V nh (V bh (V ag (QE ae) QZ) (QE sX)) (V rI (QE sD) (QE vg))) (V nA (V ae (V ae (QE vR) QZ) (QE uZ)) (V dv (QE sN) (QE ag)))) (V mY (V bh (V ph (V sf (QE vJ) QZ) (QE tc)) (V rO (QE sI) (QE ae))) (V my (V rD (QE sz) (QE ae)) (V ae (QE sS) (QE vy)))))) (V boot_o_6 (V boot_o_10 (V ae (V m9 (V mD (V r6 (QE ag) QZ) (QE sV)) (V ae (QE sC) (QE vf))) (V ae (V ag (V ag (QE vP) QZ) (QE ae)) (V rR (QE sL) (QE vr)))) (V mW (V nu (V ae (V ae (QE vG) QZ) (QE sZ)) (V rM (QE ae) (QE vk))) (V ae (V rB (QE sy) (QE ag)) (V rV (QE sQ) (QE ae))))) (V lg (V mU (V nj (V ae (V ae (QE vE) QZ) (QE ae)) (V ae (QE sF) (QE vi))) (V nC (V rz (V su (QE vU) QZ) (QE u0)) (V ag (QE ag) (QE ae)))) (V ae (V ae (V pn (V sg (QE vL) QZ) (QE ag)) (V ag (QE ae) (QE vn))) (V ae (V rF (QE sB) (QE u9)) (V rX (QE ae) (QE vz)))))))
noncomputable def JG:Params→BT:=V boot_o_0 (V boot_o_1 (V acI (V boot_o_7 (V ae (V ag (V mA (V ae (QE vA) (QE Aa)) (V ag (QE ae) QZ)) (V ae (V dv (QE yU) QZ) (V va (QE ae) QZ))) (V ag (V po (V sh (QE vM) QZ) (V tf (QE vY) QZ)) (V rP (V ag (QE ag) QZ) (V ae (QE zQ) QZ)))) (V bh (V pc (V ag (V sb (QE vF) QZ) (V ag (QE zq) QZ)) (V ag (V ae (QE ae) QZ) (V ae (QE ag) QZ))) (V dA (V rA (V sv (QE vV) QZ) (V u5 (QE zC) QZ)) (V rT (V sO (QE ze) QZ) (V vu (QE zV) QZ))))) (V ae (V mP (V ng (V dA (V ae (QE vC) (QE Ae)) (V sW (QE ae) QZ)) (V rH (V ae (QE ae) QZ) (V ae (QE zJ) QZ))) (V nz (V rx (V sj (QE vQ) QZ) (V bh (QE zz) QZ)) (V rS (V sM (QE zb) QZ) (V ae (QE ag) QZ)))) (V mX (V dA (V pg (V ag (QE vH) QZ) (V s0 (QE ag) QZ)) (V rN (V sH (QE y6) QZ) (V vm (QE zO) QZ))) (V ag (V ae (V ae (QE yR) QZ) (V u7 (QE zE) QZ)) (V rW (V sR (QE zi) QZ) (V ag (QE zX) QZ)))))) (V boot_o_5 (V boot_o_9 (V mO (V ae (V mC (V rZ (QE ae) (QE Ac)) (V ae (QE zm) QZ)) (V rG (V ag (QE ag) QZ) (V ag (QE zI) QZ))) (V ny (V ae (V ae (QE vO) QZ) (V th (QE ae) QZ)) (V rQ (V ae (QE ae) QZ) (V vq (QE zS) QZ)))) (V ae (V nq (V pf (V se (QE ag) QZ) (V ae (QE zs) QZ)) (V ae (V sG (QE yZ) QZ) (V vj (QE ae) QZ))) (V mu (V ag (V ag (QE ae) QZ) (V ae (QE ag) QZ)) (V rU (V sP (QE zf) QZ) (V vx (QE ae) QZ))))) (V lf (V mR (V ni (V pd (V r8 (QE vD) (QE Ag)) (V iy (QE zo) QZ)) (V rJ (V sE (QE yX) QZ) (V vh (QE zL) QZ))) (V nB (V ry (V sk (QE vS) QZ) (V ae (QE zA) QZ)) (V ae (V ae (QE ae) QZ) (V vt (QE ae) QZ)))) (V mZ (V nv (V pj (V ae (QE vK) QZ) (V ae (QE zu) QZ)) (V ae (V sJ (QE y8) QZ) (V ag (QE ae) QZ))) (V mz (V rE (V sA (QE yS) QZ) (V u8 (QE zG) QZ)) (V ag (V iy (QE ag) QZ) (V ae (QE zY) QZ))))))) (V mN (V boot_o_4 (V boot_o_8 (V ag (V m8 (V mB (V rY (QE vB) (QE Ab)) (V sU (QE zl) QZ)) (V ag (V ae (QE ae) QZ) (V ae (QE ag) QZ))) (V nw (V rv (V si (QE vN) QZ) (V tg (QE zy) QZ)) (V ae (V sK (QE y9) QZ) (V vp (QE zR) QZ)))) (V mV (V nk (V pe (V sd (QE ae) QZ) (V sY (QE vX) QZ)) (V rK (V ag (QE ag) QZ) (V ag (QE zM) QZ))) (V bh (V ae (V ae (QE vW) QZ) (V u6 (QE ae) QZ)) (V ae (V ae (QE ae) QZ) (V vw (QE zW) QZ))))) (V acJ (V mQ (V nh (V bh (V ag (QE ae) (QE Af)) (V sX (QE ag) QZ)) (V rI (V sD (QE yW) QZ) (V vg (QE zK) QZ))) (V nA (V ae (V ae (QE vR) QZ) (V uZ (QE ae) QZ)) (V dv (V sN (QE zc) QZ) (V ag (QE zT) QZ)))) (V mY (V bh (V ph (V sf (QE vJ) QZ) (V tc (QE zt) QZ)) (V rO (V sI (QE y7) QZ) (V ae (QE zP) QZ))) (V my (V rD (V sz (QE ae) QZ) (V ae (QE zF) QZ)) (V ae (V sS (QE ae) QZ) (V vy (QE ae) QZ)))))) (V boot_o_6 (V boot_o_10 (V ae (V m9 (V mD (V r6 (QE ag) (QE Ad)) (V sV (QE zn) QZ)) (V ae (V sC (QE yV) QZ) (V vf (QE ae) QZ))) (V ae (V ag (V ag (QE vP) QZ) (V ae (QE ag) QZ)) (V rR (V sL (QE za) QZ) (V vr (QE ae) QZ)))) (V mW (V nu (V ae (V ae (QE vG) QZ) (V sZ (QE ae) QZ)) (V rM (V ae (QE ae) QZ) (V vk (QE zN) QZ))) (V ae (V rB (V sy (QE bh) QZ) (V ag (QE zD) QZ)) (V rV (V sQ (QE zh) QZ) (V ae (QE ag) QZ))))) (V lg (V mU (V nj (V ae (V ae (QE vE) (QE Ah)) (V ae (QE zp) QZ)) (V ae (V sF (QE yY) QZ) (V vi (QE ae) QZ))) (V nC (V rz (V su (QE vU) QZ) (V u0 (QE zB) QZ)) (V ag (V ag (QE ag) QZ) (V ae (QE zU) QZ)))) (V ae (V ae (V pn (V sg (QE vL) QZ) (V ag (QE zv) QZ)) (V ag (V ae (QE ae) QZ) (V vn (QE ag) QZ))) (V ae (V rF (V sB (QE yT) QZ) (V u9 (QE zH) QZ)) (V rX (V ae (QE zj) QZ) (V vz (QE zZ) QZ)))))))
noncomputable def JH:Params→BT:=V boot_o_0 (V boot_o_1 (V acK (V boot_o_7 (V ae (V ag (V mA (V ae (QE vA) (QE Aa)) (V ag (QE ae) (QE Er))) (V ae (V dv (QE yU) (QE D0)) (V va (QE ae) (QE ae)))) (V ag (V po (V sh (QE vM) (QE ae)) (V tf (QE vY) (QE EB))) (V rP (V ag (QE ag) (QE Eg)) (V ae (QE zQ) (QE EX))))) (V bh (V pc (V ag (V sb (QE vF) (QE dv)) (V ag (QE zq) (QE Ew))) (V ag (V ae (QE ae) (QE Eb)) (V ae (QE ag) (QE ag)))) (V dA (V rA (V sv (QE vV) (QE bh)) (V u5 (QE zC) (QE EG))) (V rT (V sO (QE ze) (QE Ek)) (V vu (QE zV) QZ))))) (V ae (V mP (V ng (V dA (V ae (QE vC) (QE Ae)) (V sW (QE ae) (QE ag))) (V rH (V ae (QE ae) (QE D6)) (V ae (QE zJ) (QE EM)))) (V nz (V rx (V sj (QE vQ) (QE DT)) (V bh (QE zz) (QE EC))) (V rS (V sM (QE zb) (QE ae)) (V ae (QE ag) (QE E1))))) (V mX (V dA (V pg (V ag (QE vH) (QE ae)) (V s0 (QE ag) (QE Ey))) (V rN (V sH (QE y6) (QE ae)) (V vm (QE zO) (QE ES)))) (V ag (V ae (V ae (QE yR) (QE DY)) (V u7 (QE zE) (QE ae))) (V rW (V sR (QE zi) (QE ae)) (V ag (QE zX) QZ)))))) (V boot_o_5 (V boot_o_9 (V mO (V ae (V mC (V rZ (QE ae) (QE Ac)) (V ae (QE zm) (QE Et))) (V rG (V ag (QE ag) (QE D3)) (V ag (QE zI) (QE EL)))) (V ny (V ae (V ae (QE vO) (QE DQ)) (V th (QE ae) (QE ae))) (V rQ (V ae (QE ae) (QE Ei)) (V vq (QE zS) (QE EZ))))) (V ae (V nq (V pf (V se (QE ag) (QE ag)) (V ae (QE zs) (QE ae))) (V ae (V sG (QE yZ) (QE Ed)) (V vj (QE ae) (QE ae)))) (V mu (V ag (V ag (QE ae) (QE ae)) (V ae (QE ag) (QE ag))) (V rU (V sP (QE zf) (QE Em)) (V vx (QE ae) QZ))))) (V lf (V mR (V ni (V pd (V r8 (QE vD) (QE Ag)) (V iy (QE zo) (QE ae))) (V rJ (V sE (QE yX) (QE D9)) (V vh (QE zL) (QE EO)))) (V nB (V ry (V sk (QE vS) (QE DV)) (V ae (QE zA) (QE ED))) (V ae (V ae (QE ae) (QE Ej)) (V vt (QE ae) QZ)))) (V mZ (V nv (V pj (V ae (QE vK) (QE DO)) (V ae (QE zu) (QE Ez))) (V ae (V sJ (QE y8) (QE Ef)) (V ag (QE ae) (QE EU)))) (V mz (V rE (V sA (QE yS) (QE ae)) (V u8 (QE zG) (QE EJ))) (V ag (V iy (QE ag) (QE Ep)) (V ae (QE zY) QZ))))))) (V mN (V boot_o_4 (V boot_o_8 (V ag (V m8 (V mB (V rY (QE vB) (QE Ab)) (V sU (QE zl) (QE Es))) (V ag (V ae (QE ae) (QE ae)) (V ae (QE ag) (QE ag)))) (V nw (V rv (V si (QE vN) (QE ag)) (V tg (QE zy) (QE dv))) (V ae (V sK (QE y9) (QE Eh)) (V vp (QE zR) (QE EY))))) (V mV (V nk (V pe (V sd (QE ae) (QE ae)) (V sY (QE vX) (QE Ex))) (V rK (V ag (QE ag) (QE Ec)) (V ag (QE zM) (QE EQ)))) (V bh (V ae (V ae (QE vW) (QE DW)) (V u6 (QE ae) (QE ae))) (V ae (V ae (QE ae) (QE El)) (V vw (QE zW) QZ))))) (V acL (V mQ (V nh (V bh (V ag (QE ae) (QE Af)) (V sX (QE ag) (QE Eu))) (V rI (V sD (QE yW) (QE D8)) (V vg (QE zK) (QE EN)))) (V nA (V ae (V ae (QE vR) (QE DU)) (V uZ (QE ae) (QE ae))) (V dv (V sN (QE zc) (QE ag)) (V ag (QE zT) QZ)))) (V mY (V bh (V ph (V sf (QE vJ) (QE DN)) (V tc (QE zt) (QE ae))) (V rO (V sI (QE y7) (QE bh)) (V ae (QE zP) (QE ET)))) (V my (V rD (V sz (QE ae) (QE DZ)) (V ae (QE zF) (QE EI))) (V ae (V sS (QE ae) (QE ag)) (V vy (QE ae) QZ)))))) (V boot_o_6 (V boot_o_10 (V ae (V m9 (V mD (V r6 (QE ag) (QE Ad)) (V sV (QE zn) (QE ae))) (V ae (V sC (QE yV) (QE D4)) (V vf (QE ae) (QE ae)))) (V ae (V ag (V ag (QE vP) (QE DS)) (V ae (QE ag) (QE ag))) (V rR (V sL (QE za) (QE dv)) (V vr (QE ae) (QE E0))))) (V mW (V nu (V ae (V ae (QE vG) (QE DM)) (V sZ (QE ae) (QE ag))) (V rM (V ae (QE ae) (QE Ee)) (V vk (QE zN) (QE ER)))) (V ae (V rB (V sy (QE bh) (QE DX)) (V ag (QE zD) (QE EH))) (V rV (V sQ (QE zh) (QE Eo)) (V ae (QE ag) QZ))))) (V lg (V mU (V nj (V ae (V ae (QE vE) (QE Ah)) (V ae (QE zp) (QE Ev))) (V ae (V sF (QE yY) (QE Ea)) (V vi (QE ae) (QE ae)))) (V nC (V rz (V su (QE vU) (QE ae)) (V u0 (QE zB) (QE EF))) (V ag (V ag (QE ag) (QE ae)) (V ae (QE zU) QZ)))) (V ae (V ae (V pn (V sg (QE vL) (QE DP)) (V ag (QE zv) (QE EA))) (V ag (V ae (QE ae) (QE ae)) (V vn (QE ag) (QE EW)))) (V ae (V rF (V sB (QE yT) (QE ag)) (V u9 (QE zH) (QE EK))) (V rX (V ae (QE zj) (QE ae)) (V vz (QE zZ) QZ)))))))
noncomputable def JI:Params→BT:=V boot_o_0 (V boot_o_1 (V acM (V boot_o_7 (V ae (V ag (V mA (V ae (V vA (QE ag) QZ) (QE Aa)) (V ag (V ae (QE ag) QZ) (QE Er))) (V ae (V dv (V yU (QE Nj) QZ) (QE D0)) (V va (QE ae) (QE ae)))) (V ag (V po (V sh (V vM (QE ae) QZ) (QE ae)) (V tf (QE vY) (QE EB))) (V rP (V ag (V ag (QE Ny) QZ) (QE Eg)) (V ae (QE zQ) (QE EX))))) (V bh (V pc (V ag (V sb (V vF (QE M4) QZ) (QE dv)) (V ag (QE zq) (QE Ew))) (V ag (V ae (V ae (QE Nq) QZ) (QE Eb)) (V ae (QE ag) (QE ag)))) (V dA (V rA (V sv (V vV (QE Nf) QZ) (QE bh)) (V u5 (QE zC) (QE EG))) (V rT (V sO (V ze (QE ae) QZ) (QE Ek)) (V vu (QE zV) (QE ae)))))) (V ae (V mP (V ng (V dA (V ae (V vC (QE MY) QZ) (QE Ae)) (V sW (V ae (QE NN) QZ) (QE ag))) (V rH (V ae (V ae (QE ag) QZ) (QE D6)) (V ae (QE zJ) (QE EM)))) (V nz (V rx (V sj (V vQ (QE ae) QZ) (QE DT)) (V bh (QE zz) (QE EC))) (V rS (V sM (V zb (QE ND) QZ) (QE ae)) (V ae (QE ag) (QE E1))))) (V mX (V dA (V pg (V ag (V vH (QE M8) QZ) (QE ae)) (V s0 (QE ag) (QE Ey))) (V rN (V sH (V y6 (QE Nu) QZ) (QE ae)) (V vm (QE zO) (QE ES)))) (V ag (V ae (V ae (V yR (QE ae) QZ) (QE DY)) (V u7 (QE zE) (QE ae))) (V rW (V sR (V zi (QE NI) QZ) (QE ae)) (V ag (QE zX) (QE MT))))))) (V boot_o_5 (V boot_o_9 (V mO (V ae (V mC (V rZ (V ae (QE ae) QZ) (QE Ac)) (V ae (V zm (QE ae) QZ) (QE Et))) (V rG (V ag (V ag (QE Nn) QZ) (QE D3)) (V ag (QE zI) (QE EL)))) (V ny (V ae (V ae (V vO (QE Nb) QZ) (QE DQ)) (V th (QE ae) (QE ae))) (V rQ (V ae (V ae (QE NB) QZ) (QE Ei)) (V vq (QE zS) (QE EZ))))) (V ae (V nq (V pf (V se (V ag (QE M6) QZ) (QE ag)) (V ae (QE zs) (QE ae))) (V ae (V sG (V yZ (QE ae) QZ) (QE Ed)) (V vj (QE ae) (QE ae)))) (V mu (V ag (V ag (V ae (QE Nh) QZ) (QE ae)) (V ae (QE ag) (QE ag))) (V rU (V sP (V zf (QE NH) QZ) (QE Em)) (V vx (QE ae) (QE MS)))))) (V lf (V mR (V ni (V pd (V r8 (V vD (QE M0) QZ) (QE Ag)) (V iy (QE zo) (QE ae))) (V rJ (V sE (V yX (QE ae) QZ) (QE D9)) (V vh (QE zL) (QE EO)))) (V nB (V ry (V sk (V vS (QE Nd) QZ) (QE DV)) (V ae (QE zA) (QE ED))) (V ae (V ae (V ae (QE NF) QZ) (QE Ej)) (V vt (QE ae) (QE ae))))) (V mZ (V nv (V pj (V ae (V vK (QE ag) QZ) (QE DO)) (V ae (QE zu) (QE Ez))) (V ae (V sJ (V y8 (QE Nv) QZ) (QE Ef)) (V ag (QE ae) (QE EU)))) (V mz (V rE (V sA (V yS (QE Ni) QZ) (QE ae)) (V u8 (QE zG) (QE EJ))) (V ag (V iy (V ag (QE NK) QZ) (QE Ep)) (V ae (QE zY) (QE MV)))))))) (V mN (V boot_o_4 (V boot_o_8 (V ag (V m8 (V mB (V rY (V vB (QE MW) QZ) (QE Ab)) (V sU (V zl (QE NL) QZ) (QE Es))) (V ag (V ae (V ae (QE Nk) QZ) (QE ae)) (V ae (QE ag) (QE ag)))) (V nw (V rv (V si (V vN (QE Na) QZ) (QE ag)) (V tg (QE zy) (QE dv))) (V ae (V sK (V y9 (QE NA) QZ) (QE Eh)) (V vp (QE zR) (QE EY))))) (V mV (V nk (V pe (V sd (V ae (QE M5) QZ) (QE ae)) (V sY (QE vX) (QE Ex))) (V rK (V ag (V ag (QE Nr) QZ) (QE Ec)) (V ag (QE zM) (QE EQ)))) (V bh (V ae (V ae (V vW (QE Ng) QZ) (QE DW)) (V u6 (QE ae) (QE ae))) (V ae (V ae (V ae (QE ag) QZ) (QE El)) (V vw (QE zW) (QE bh)))))) (V acN (V mQ (V nh (V bh (V ag (V ae (QE MZ) QZ) (QE Af)) (V sX (V ag (QE NO) QZ) (QE Eu))) (V rI (V sD (V yW (QE No) QZ) (QE D8)) (V vg (QE zK) (QE EN)))) (V nA (V ae (V ae (V vR (QE bh) QZ) (QE DU)) (V uZ (QE ae) (QE ae))) (V dv (V sN (V zc (QE NE) QZ) (QE ag)) (V ag (QE zT) (QE ae))))) (V mY (V bh (V ph (V sf (V vJ (QE ae) QZ) (QE DN)) (V tc (QE zt) (QE ae))) (V rO (V sI (V y7 (QE ae) QZ) (QE bh)) (V ae (QE zP) (QE ET)))) (V my (V rD (V sz (V ae (QE ag) QZ) (QE DZ)) (V ae (QE zF) (QE EI))) (V ae (V sS (V ae (QE NJ) QZ) (QE ag)) (V vy (QE ae) (QE MU))))))) (V boot_o_6 (V boot_o_10 (V ae (V m9 (V mD (V r6 (V ag (QE MX) QZ) (QE Ad)) (V sV (V zn (QE NM) QZ) (QE ae))) (V ae (V sC (V yV (QE ae) QZ) (QE D4)) (V vf (QE ae) (QE ae)))) (V ae (V ag (V ag (V vP (QE Nc) QZ) (QE DS)) (V ae (QE ag) (QE ag))) (V rR (V sL (V za (QE NC) QZ) (QE dv)) (V vr (QE ae) (QE E0))))) (V mW (V nu (V ae (V ae (V vG (QE M7) QZ) (QE DM)) (V sZ (QE ae) (QE ag))) (V rM (V ae (V ae (QE ag) QZ) (QE Ee)) (V vk (QE zN) (QE ER)))) (V ae (V rB (V sy (V bh (QE dv) QZ) (QE DX)) (V ag (QE zD) (QE EH))) (V rV (V sQ (V zh (QE ae) QZ) (QE Eo)) (V ae (QE ag) (QE ae)))))) (V lg (V mU (V nj (V ae (V ae (V vE (QE M2) QZ) (QE Ah)) (V ae (QE zp) (QE Ev))) (V ae (V sF (V yY (QE Np) QZ) (QE Ea)) (V vi (QE ae) (QE ae)))) (V nC (V rz (V su (V vU (QE ae) QZ) (QE ae)) (V u0 (QE zB) (QE EF))) (V ag (V ag (V ag (QE NG) QZ) (QE ae)) (V ae (QE zU) (QE MR))))) (V ae (V ae (V pn (V sg (V vL (QE M9) QZ) (QE DP)) (V ag (QE zv) (QE EA))) (V ag (V ae (V ae (QE Nw) QZ) (QE ae)) (V vn (QE ag) (QE EW)))) (V ae (V rF (V sB (V yT (QE ae) QZ) (QE ag)) (V u9 (QE zH) (QE EK))) (V rX (V ae (V zj (QE ae) QZ) (QE ae)) (V vz (QE zZ) (QE ae))))))))
noncomputable def ib:Params→BT:=V boot_o_0 (V boot_o_1 (V adD (V boot_o_7 (V ae (V ag (V mA (V ae (V vA (QE ag) QZ) (V Aa (QE adm) QZ)) (V ag (V ae (QE ag) QZ) (V Er (QE NP) QZ))) (V ae (V dv (V yU (QE Nj) QZ) (V D0 (QE adI) QZ)) (V va (V ae (QE ac2) QZ) (QE ae)))) (V ag (V po (V sh (V vM (QE ae) QZ) (V ae (QE adw) QZ)) (V tf (V vY (QE ae) QZ) (QE EB))) (V rP (V ag (V ag (QE Ny) QZ) (V Eg (QE ag) QZ)) (V ae (V zQ (QE ae) QZ) (QE EX))))) (V bh (V pc (V ag (V sb (V vF (QE M4) QZ) (V dv (QE ae) QZ)) (V ag (V zq (QE acO) QZ) (QE Ew))) (V ag (V ae (V ae (QE Nq) QZ) (V Eb (QE ae) QZ)) (V ae (V ag (QE ac7) QZ) (QE ag)))) (V dA (V rA (V sv (V vV (QE Nf) QZ) (V bh (QE adB) QZ)) (V u5 (V zC (QE acX) QZ) (QE EG))) (V rT (V sO (V ze (QE ae) QZ) (V Ek (QE adV) QZ)) (V vu (V zV (QE ag) QZ) (QE ae)))))) (V ae (V mP (V ng (V dA (V ae (V vC (QE MY) QZ) (V Ae (QE adp) QZ)) (V sW (V ae (QE NN) QZ) (QE ag))) (V rH (V ae (V ae (QE ag) QZ) (V D6 (QE ae) QZ)) (V ae (V zJ (QE ac4) QZ) (QE EM)))) (V nz (V rx (V sj (V vQ (QE ae) QZ) (V DT (QE ag) QZ)) (V bh (V zz (QE ae) QZ) (QE EC))) (V rS (V sM (V zb (QE ND) QZ) (V ae (QE adT) QZ)) (V ae (V ag (QE adf) QZ) (QE E1))))) (V mX (V dA (V pg (V ag (V vH (QE M8) QZ) (V ae (QE ae) QZ)) (V s0 (V ag (QE acR) QZ) (QE Ey))) (V rN (V sH (V y6 (QE Nu) QZ) (V ae (QE adO) QZ)) (V vm (V zO (QE ae) QZ) (QE ES)))) (V ag (V ae (V ae (V yR (QE ae) QZ) (V DY (QE adF) QZ)) (V u7 (V zE (QE ag) QZ) (QE ae))) (V rW (V sR (V zi (QE NI) QZ) (V ae (QE ag) QZ)) (V ag (V zX (QE adk) QZ) (QE MT))))))) (V boot_o_5 (V boot_o_9 (V mO (V ae (V mC (V rZ (V ae (QE ae) QZ) (V Ac (QE adn) QZ)) (V ae (V zm (QE ae) QZ) (QE Et))) (V rG (V ag (V ag (QE Nn) QZ) (V D3 (QE ag) QZ)) (V ag (V zI (QE ae) QZ) (QE EL)))) (V ny (V ae (V ae (V vO (QE Nb) QZ) (V DQ (QE ady) QZ)) (V th (V ae (QE acU) QZ) (QE ae))) (V rQ (V ae (V ae (QE NB) QZ) (V Ei (QE ae) QZ)) (V vq (V zS (QE ade) QZ) (QE EZ))))) (V ae (V nq (V pf (V se (V ag (QE M6) QZ) (V ag (QE adt) QZ)) (V ae (V zs (QE acP) QZ) (QE ae))) (V ae (V sG (V yZ (QE ae) QZ) (V Ed (QE adN) QZ)) (V vj (V ae (QE ag) QZ) (QE ae)))) (V mu (V ag (V ag (V ae (QE Nh) QZ) (V ae (QE ae) QZ)) (V ae (V ag (QE acZ) QZ) (QE ag))) (V rU (V sP (V zf (QE NH) QZ) (V Em (QE adX) QZ)) (V vx (V ae (QE ae) QZ) (QE MS)))))) (V lf (V mR (V ni (V pd (V r8 (V vD (QE M0) QZ) (V Ag (QE ag) QZ)) (V iy (V zo (QE ae) QZ) (QE ae))) (V rJ (V sE (V yX (QE ae) QZ) (V D9 (QE adL) QZ)) (V vh (V zL (QE ac5) QZ) (QE EO)))) (V nB (V ry (V sk (V vS (QE Nd) QZ) (V DV (QE ae) QZ)) (V ae (V zA (QE acW) QZ) (QE ED))) (V ae (V ae (V ae (QE NF) QZ) (V Ej (QE ae) QZ)) (V vt (V ae (QE adh) QZ) (QE ae))))) (V mZ (V nv (V pj (V ae (V vK (QE ag) QZ) (V DO (QE adv) QZ)) (V ae (V zu (QE ag) QZ) (QE Ez))) (V ae (V sJ (V y8 (QE Nv) QZ) (V Ef (QE adQ) QZ)) (V ag (V ae (QE adb) QZ) (QE EU)))) (V mz (V rE (V sA (V yS (QE Ni) QZ) (V ae (QE adG) QZ)) (V u8 (V zG (QE ae) QZ) (QE EJ))) (V ag (V iy (V ag (QE NK) QZ) (V Ep (QE adZ) QZ)) (V ae (V zY (QE ae) QZ) (QE MV)))))))) (V mN (V boot_o_4 (V boot_o_8 (V ag (V m8 (V mB (V rY (V vB (QE MW) QZ) (V Ab (QE ae) QZ)) (V sU (V zl (QE NL) QZ) (V Es (QE ad1) QZ))) (V ag (V ae (V ae (QE Nk) QZ) (V ae (QE ae) QZ)) (V ae (V ag (QE ac3) QZ) (QE ag)))) (V nw (V rv (V si (V vN (QE Na) QZ) (V ag (QE adx) QZ)) (V tg (V zy (QE acT) QZ) (QE dv))) (V ae (V sK (V y9 (QE NA) QZ) (V Eh (QE adR) QZ)) (V vp (V zR (QE ag) QZ) (QE EY))))) (V mV (V nk (V pe (V sd (V ae (QE M5) QZ) (V ae (QE ads) QZ)) (V sY (V vX (QE ae) QZ) (QE Ex))) (V rK (V ag (V ag (QE Nr) QZ) (V Ec (QE ag) QZ)) (V ag (V zM (QE ae) QZ) (QE EQ)))) (V bh (V ae (V ae (V vW (QE Ng) QZ) (V DW (QE adC) QZ)) (V u6 (V ae (QE acY) QZ) (QE ae))) (V ae (V ae (V ae (QE ag) QZ) (V El (QE adW) QZ)) (V vw (V zW (QE adi) QZ) (QE bh)))))) (V adE (V mQ (V nh (V bh (V ag (V ae (QE MZ) QZ) (V Af (QE ae) QZ)) (V sX (V ag (QE NO) QZ) (QE Eu))) (V rI (V sD (V yW (QE No) QZ) (V D8 (QE adK) QZ)) (V vg (V zK (QE ae) QZ) (QE EN)))) (V nA (V ae (V ae (V vR (QE bh) QZ) (V DU (QE adz) QZ)) (V uZ (V ae (QE ag) QZ) (QE ae))) (V dv (V sN (V zc (QE NE) QZ) (V ag (QE adU) QZ)) (V ag (V zT (QE adg) QZ) (QE ae))))) (V mY (V bh (V ph (V sf (V vJ (QE ae) QZ) (V DN (QE ag) QZ)) (V tc (V zt (QE ae) QZ) (QE ae))) (V rO (V sI (V y7 (QE ae) QZ) (V bh (QE adP) QZ)) (V ae (V zP (QE ada) QZ) (QE ET)))) (V my (V rD (V sz (V ae (QE ag) QZ) (V DZ (QE ae) QZ)) (V ae (V zF (QE ac0) QZ) (QE EI))) (V ae (V sS (V ae (QE NJ) QZ) (V ag (QE adY) QZ)) (V vy (V ae (QE adl) QZ) (QE MU))))))) (V boot_o_6 (V boot_o_10 (V ae (V m9 (V mD (V r6 (V ag (QE MX) QZ) (V Ad (QE ado) QZ)) (V sV (V zn (QE NM) QZ) (QE ae))) (V ae (V sC (V yV (QE ae) QZ) (V D4 (QE adJ) QZ)) (V vf (V ae (QE ag) QZ) (QE ae)))) (V ae (V ag (V ag (V vP (QE Nc) QZ) (V DS (QE ae) QZ)) (V ae (V ag (QE acV) QZ) (QE ag))) (V rR (V sL (V za (QE NC) QZ) (V dv (QE adS) QZ)) (V vr (V ae (QE ae) QZ) (QE E0))))) (V mW (V nu (V ae (V ae (V vG (QE M7) QZ) (V DM (QE adu) QZ)) (V sZ (V ae (QE acQ) QZ) (QE ag))) (V rM (V ae (V ae (QE ag) QZ) (V Ee (QE ae) QZ)) (V vk (V zN (QE ac9) QZ) (QE ER)))) (V ae (V rB (V sy (V bh (QE dv) QZ) (V DX (QE ag) QZ)) (V ag (V zD (QE ae) QZ) (QE EH))) (V rV (V sQ (V zh (QE ae) QZ) (V Eo (QE ae) QZ)) (V ae (V ag (QE adj) QZ) (QE ae)))))) (V lg (V mU (V nj (V ae (V ae (V vE (QE M2) QZ) (V Ah (QE adq) QZ)) (V ae (V zp (QE ag) QZ) (QE Ev))) (V ae (V sF (V yY (QE Np) QZ) (V Ea (QE adM) QZ)) (V vi (V ae (QE ac6) QZ) (QE ae)))) (V nC (V rz (V su (V vU (QE ae) QZ) (V ae (QE adA) QZ)) (V u0 (V zB (QE ae) QZ) (QE EF))) (V ag (V ag (V ag (QE NG) QZ) (V ae (QE ag) QZ)) (V ae (V zU (QE ae) QZ) (QE MR))))) (V ae (V ae (V pn (V sg (V vL (QE M9) QZ) (V DP (QE ae) QZ)) (V ag (V zv (QE acS) QZ) (QE EA))) (V ag (V ae (V ae (QE Nw) QZ) (V ae (QE ae) QZ)) (V vn (V ag (QE adc) QZ) (QE EW)))) (V ae (V rF (V sB (V yT (QE ae) QZ) (V ag (QE adH) QZ)) (V u9 (V zH (QE ac1) QZ) (QE EK))) (V rX (V ae (V zj (QE ae) QZ) (V ae (QE ad0) QZ)) (V vz (V zZ (QE ag) QZ) (QE ae))))))))
noncomputable def loose:List Str:=[.ofString "_wall",.ofString "ChanError",.ofString "NameFault",.ofString "TypeFault",.ofString "ConstFault",.ofString "BITS",.ofString "MOST_BITS",.ofString "MOST_TEXT",.ofString "COMPARISONS",.ofString "WRONG_RUNE",.ofString "is_unsigned",.ofString "int_range",.ofString "is_in_range",.ofString "within_range",.ofString "representable",.ofString "const_unary",.ofString "const_quotient",.ofString "const_shift",.ofString "int_binary",.ofString "const_compared",.ofString "sort_of_const",.ofString "const_binary",.ofString "rune_octets",.ofString "const_convert",.ofString "MAIN",.ofString "own_name",.ofString "SYNC_TYPES",.ofString "MOST_LENGTH",.ofString "MOST_PARTS",.ofString "MOST_LEVELS",.ofString "type_entry",.ofString "exported_entry",.ofString "want_few_parts",.ofString "TypeReader",.ofString "UNTYPED_INT",.ofString "UNTYPED_RUNE",.ofString "UNTYPED_BOOL",.ofString "UNTYPED_TEXT",.ofString "NUMBERS",.ofString "ConstReader",.ofString "const_of",.ofString "type_of",.ofString "ScopeRow",.ofString "Scope",.ofString "PLAIN",.ofString "NamedRow",.ofString "known_rows",.ofString "World",.ofString "_law_reel",.ofString "_law_wound",.ofString "_law_one",.ofString "_law_tried",.ofString "_law_rows",.ofString "_law_globals",.ofString "_law_reader",.ofString "_law_range",.ofString "_law_sort",.ofString "_law_is_of",.ofString "_law_fitting",.ofString "_law_bits",.ofString "_law_reckoned",.ofString "_law_compared",.ofString "_law_together",.ofString "_law_signed",.ofString "_law_shifted",.ofString "_law_joined",.ofString "_law_size_right"]
noncomputable def env:Env:={scope:=pw.main.scope,locals:=mainNs,globals:=mainNs,cells:=[],code:=.ref 13,frame:=some 14}
noncomputable abbrev body:List Stmt:=behindTheImports pw
noncomputable abbrev cE:Code:=.body body env
noncomputable abbrev B:List Frame:=[topFrame (aa 0 0 0)]
noncomputable abbrev ann:Option Value:=some (.ref 6)
noncomputable def sl(a n:Nat):List Stmt:=(body.drop a).take n
noncomputable abbrev sT(t:BT)(n toks:Nat)(os:OsState):SharedT:=⟨t,n,{},⟨[]⟩,{},toks,os⟩
theorem pA(w:World):(λos=>segRunT treeTable pw w 11 ann 1 697 (sT (xT w.params) 15 187 os) (piecesOf (sl 0 5) env cE (aa 0 0 0) B))=
  λos=>some (.next,sT (ue w.params) 67 260 os,cE,⟨13,0,14,8⟩):=by
 rw[PySem.W.Fast.te10110043849684766642,PySem.W.Fast.te14364793385576792824];kernel_rfl
theorem UM(w:World):(λos=>segRunT treeTable pw (w.withFollow "special-get-raises" false) 11 ann 1 392 (sT (ue (w.withFollow "special-get-raises" false).params) 67 260 os) (piecesOf (sl 5 4) env cE ⟨13,0,14,8⟩ B))=
  λos=>some (.next,sT (uf (w.withFollow "special-get-raises" false).params) 80 311 os,cE,(aa 19 0 9)):=by
 rw[PySem.W.Fast.te10110043849684766642,PySem.W.Fast.te14364793385576792824];kernel_rfl
theorem Wd(w:World):(λos=>segRunT treeTable pw (w.withFollow "special-get-raises" true) 11 ann 1 392 (sT (ue (w.withFollow "special-get-raises" true).params) 67 260 os) (piecesOf (sl 5 4) env cE ⟨13,0,14,8⟩ B))=
  λos=>some (.next,sT (uf (w.withFollow "special-get-raises" true).params) 80 311 os,cE,(aa 19 0 9)):=by
 rw[PySem.W.Fast.te10110043849684766642,PySem.W.Fast.te14364793385576792824];kernel_rfl
theorem pB(w:World):(λos=>segRunT treeTable pw w 11 ann 1 392 (sT (ue w.params) 67 260 os) (piecesOf (sl 5 4) env cE ⟨13,0,14,8⟩ B))=
  λos=>some (.next,sT (uf w.params) 80 311 os,cE,(aa 19 0 9)):=
 byRow2 "special-get-raises" (P:=λw=>(λos=>segRunT treeTable pw w 11 ann 1 392 (sT (ue w.params) 67 260 os) (piecesOf (sl 5 4) env cE ⟨13,0,14,8⟩ B))=
  λos=>some (.next,sT (uf w.params) 80 311 os,cE,(aa 19 0 9))) UM Wd w
theorem pC(w:World):(λos=>segRunT treeTable pw w 11 ann 1 671 (sT (uf w.params) 80 311 os) (piecesOf (sl 9 28) env cE (aa 19 0 9) B))=
  λos=>some (.next,sT (JE w.params) 210 501 os,cE,⟨174,0,182,61⟩):=by
 rw[PySem.W.Fast.te10110043849684766642,PySem.W.Fast.te14364793385576792824];kernel_rfl
theorem pD(w:World):(λos=>segRunT treeTable pw w 11 ann 1 528 (sT (JE w.params) 210 501 os) (piecesOf (sl 37 7) env cE ⟨174,0,182,61⟩ B))=
  λos=>some (.next,sT (JF w.params) 281 615 os,cE,(aa 260 0 7)):=by
 rw[PySem.W.Fast.te10110043849684766642,PySem.W.Fast.te14364793385576792824];kernel_rfl
theorem pE(w:World):(λos=>segRunT treeTable pw w 11 ann 1 685 (sT (JF w.params) 281 615 os) (piecesOf (sl 44 1) env cE (aa 260 0 7) B))=
  λos=>some (.next,sT (JG w.params) 391 796 os,cE,⟨261,0,408,49⟩):=by
 rw[PySem.W.Fast.te10110043849684766642,PySem.W.Fast.te14364793385576792824];kernel_rfl
theorem pF(w:World):(λos=>segRunT treeTable pw w 11 ann 1 767 (sT (JG w.params) 391 796 os) (piecesOf (sl 45 5) env cE ⟨261,0,408,49⟩ B))=
  λos=>some (.next,sT (JH w.params) 500 953 os,cE,⟨425,0,463,16⟩):=by
 rw[PySem.W.Fast.te10110043849684766642,PySem.W.Fast.te14364793385576792824];kernel_rfl
theorem pG(w:World):(λos=>segRunT treeTable pw w 11 ann 1 666 (sT (JH w.params) 500 953 os) (piecesOf (sl 50 8) env cE ⟨425,0,463,16⟩ B))=
  λos=>some (.next,sT (JI w.params) 581 1090 os,cE,⟨527,0,533,54⟩):=by
 rw[PySem.W.Fast.te10110043849684766642,PySem.W.Fast.te14364793385576792824];kernel_rfl
theorem pH(w:World):(λos=>segRunT treeTable pw w 11 ann 1 579 (sT (JI w.params) 581 1090 os) (piecesOf (sl 58 18) env cE ⟨527,0,533,54⟩ B))=
  λos=>some (.next,sT (ib w.params) 705 1274 os,cE,⟨653,0,669,40⟩):=by
 rw[PySem.W.Fast.te10110043849684766642,PySem.W.Fast.te14364793385576792824];kernel_rfl
noncomputable def H1(P:Params):Heap:=absHeap (ib P) 705 {}
theorem pre(w:World):(λos=>topGo treeTable pw w 11 ann 12 ⟨boot_heap w.params,⟨[]⟩,boot_drawn,boot_toks,os⟩ (topStub pw))=
  λos=>some ((sT (xT w.params) 15 187 os).abs,⟨denote treeTable cE,cE,aa 0 0 0,B⟩):=by
 rw[PySem.W.Fast.te15667345088766844465,PySem.W.Fast.te11892475500146522536,PySem.W.Fast.te14364793385576792824];kernel_rfl
theorem blk(w:World):(λos=>segRun treeTable pw w 11 ann 1 1 (sT (xT w.params) 15 187 os).abs (blockOf body env cE (aa 0 0 0) B))=
  λos=>some (.next,(sT (xT w.params) 15 187 os).abs,cE,(aa 0 0 0)):=by
 rw[PySem.W.Fast.te14374325043358763698,PySem.W.Fast.te14364793385576792824];kernel_rfl
theorem fin(w:World):(λos=>topRun treeTable pw w 11 ann 2 (sT (ib w.params) 705 1274 os).abs ⟨doneF .next,cE,⟨653,0,669,40⟩,B⟩)=
  λos=>some (sT (ib w.params) 705 1274 os).abs:=by
 rw[PySem.W.Fast.te14082659384304107361,PySem.W.Fast.te14364793385576792824];kernel_rfl
theorem sls:sl 0 5++(sl 5 4++(sl 9 28++(sl 37 7++(sl 44 1++(sl 45 5++(sl 50 8++(sl 58 18++[])))))))=body:=by kernel_rfl
theorem run(w:World)(os:OsState):topRun treeTable pw w 11 ann (12+(1+(697+(392+(671+(528+(685+(767+(666+(579+2))))))))))
  ⟨boot_heap w.params,⟨[]⟩,boot_drawn,boot_toks,os⟩ (topStub pw)=some ⟨H1 w.params,⟨[]⟩,{},1274,os⟩:=by
 refine go_top (congrFun (pre w) os) (piece_block (congrFun (blk w) os) ?_);rw[←sls];refine piece_app (segRun_of (congrFun (pA w) os)) (piece_app (segRun_of (congrFun (pB w) os)) (piece_app (segRun_of (congrFun (pC w) os))
  (piece_app (segRun_of (congrFun (pD w) os)) (piece_app (segRun_of (congrFun (pE w) os)) (piece_app (segRun_of (congrFun (pF w) os))
  (piece_app (segRun_of (congrFun (pG w) os)) (piece_app (segRun_of (congrFun (pH w) os)) (piece_nil (congrFun (fin w) os)))))))))
theorem IX:opening pw=plainProg pw.main.scope.names:=by kernel_rfl
theorem We(s:Shared):fenceModules? pw s=some s:=by kernel_rfl
theorem Yu(w:World):((boot_heap w.params).isNs mainGlobals&&(Array.mk (α:=GenState) []).size==0,(boot_heap w.params).objs.size,(boot_heap w.params).nsMap mainGlobals "__annotations__")=(true,11,ann):=by kernel_rfl
noncomputable def qv:Program:={pw with main:={pw.main with body:=sl 75 1}}
theorem Yv(w:World):(λos=>(staticsOk (importedModules pw.main.body) (boot_heap w.params) (H1 w.params)&&namesBound pw (H1 w.params)&&gensDone ⟨H1 w.params,⟨[]⟩,{},1274,os⟩&&laidKept (boot_heap w.params) (H1 w.params)))=fun(_:OsState)=>true:=by
 rw[PySem.W.Fast.te5923862056798008813];kernel_rfl
noncomputable abbrev Xt(s:Shared):Bool:=xlAt qv [] s&&recOk (RowW.records (OpenRow.toRowW PySem.Challenge.rw_xw0050_01.row)) s
theorem Yw(w:World):(λos=>openSeen qv loose (importedModules pw.main.body) Xt true ⟨H1 w.params,⟨[]⟩,{},1274,os⟩)=fun(_:OsState)=>openGood qv loose:=by
 rw[PySem.W.Fast.te4187177175401517315,PySem.W.Fast.te5923862056798008813];kernel_rfl
abbrev rw:OpenLaw:=PySem.Challenge.rw_xw0050_01
theorem Yx:namesResolve rw.row.prog=true:=by rw[PySem.W.Fast.te8377067652309620493];kernel_rfl
theorem Yy:noRoadLSs {strict:=!(importedModules rw.row.prog.main.body).all cThrough.contains,foot:=none,bare:=(["vars","dir","locals"]:List Str).filter (readsOut rw.row.prog rw.row.prog.main.body)} rw.row.prog.main.body=true:=by
 rw[PySem.W.Fast.te8326940854005059898,PySem.W.Fast.te5923862056798008813,PySem.W.Fast.te13343964577679436407];kernel_rfl
theorem Yz:(namesMeet rw.row.prog rw.row.prog.main.body λ_ n=>attrL n)=true:=by
 rw[PySem.W.Fast.te17119622794617984870,PySem.W.Fast.te17868728402115742887];kernel_rfl
theorem YA:looksOpen rw.row.prog=true:=by
 unfold looksOpen;refine look_both (look_both (look_both (look_both (look_both ?_ ?_) Yx) ?_) Yy) Yz
 ·rw[PySem.W.Fast.te11788848310118352699];kernel_rfl
 ·kernel_rfl
 ·rw[PySem.W.Fast.te18344453789297297638,PySem.W.Fast.te14412699480532031325];kernel_rfl
theorem YB:rw.row.wellSaid=true:=by
 unfold OpenRow.wellSaid OpenRow.partSaid;rw[YA];rw[PySem.W.Fast.te18344453789297297638];kernel_rfl
theorem YC:noRoadLSs {strict:=true,foot:=some rw.bound',writes:=rw.writes,may:=rw.may} rw.footing=true:=by
 rw[PySem.W.Fast.te8326940854005059898];kernel_rfl
theorem YD:(namesMeet rw.prog rw.above λ_ n=>!rw.own.contains n)=true:=by
 rw[PySem.W.Fast.te17119622794617984870,PySem.W.Fast.te10792542408131684335];kernel_rfl
theorem ad2:OpenLaw.wellSaid rw=true:=by
 unfold OpenLaw.wellSaid;rw[YB,YC,YD,PySem.W.Fast.te8179353310426384613,PySem.W.Fast.te9558739934217749035,PySem.W.Fast.te16286561074155671207,PySem.W.Fast.te6984425678791042302,
  PySem.W.Fast.te17119622794617984870,PySem.W.Fast.te10792542408131684335,PySem.W.Fast.named_eq]
 kernel_rfl
abbrev Kept(h h':Heap):Prop:=∀b o,h.get? b=some o→h'.get? b=some o
theorem left:LeftO pw qv loose Xt (λs=>s.heap) (λw=>H1 w.params) 6000:=by
 refine LeftO.of_pieces (boot_open IX (by decide) We) Yu run (by decide) λw=>?_
 funext os
 exact looks_pair (congrFun (Yv w) os) (looks_pair (congrFun (Yw w) os) rfl)
noncomputable def ad3:Pos:=match pw.main.body[75]?with
 |some (Stmt.FunctionDef _ _ _ _ _ _ _ _ _ p)=>p
 |_=>default
noncomputable def mF:DefRec:={name:="law",params:=(ft 75).1,body:=(ft 75).2.1,scope:=(ft 75).2.2,pos:=ad3}
theorem YE:defOf qv "law"=some (mF,[]):=by kernel_rfl
theorem hp_:pw.theDef "law"=some (mF.params,mF.body,mF.scope):=by kernel_rfl
theorem hk_:kwWritten? mF.params.kwonlyargs mF.params.kw_defaults=some []:=by kernel_rfl
theorem ok1:chainsOk qv=true:=by kernel_rfl
theorem ok2:(opening pw).tameTopW=true:=by rw[IX];kernel_rfl
theorem ok3:bearImports (behindTheImports pw)=false:=by kernel_rfl
theorem ok4:(frees rw.row.toRowW&&rw.row.within.isEmpty)=true:=by kernel_rfl
theorem ok_:(chainsOk qv&&opensWell pw&&(frees rw.row.toRowW&&rw.row.within.isEmpty))=true:=by
 rw[ok1,opensWell,ok2,ok3,ok4];rfl
theorem hb_:rw.row.prog.bare:=⟨rfl,rfl,rfl,rfl,rfl,by decide+kernel⟩
theorem head(call:WalkO qv loose (XL qv []) (λw h=>Kept (H1 w.params) h) rw.row.toRowW mF [] λf vs=>PySem.call f vs)
   (hw:rw.row.toRowW.promised):rw.Holds:=
 holds_law ad2 λk1=>holds_open (r:=rw.row) (q:=qv) (loose:=loose) (Xt:=Xt) (XP:=XL qv []) (Yf:=λs=>s.heap) (Ya:=λw=>H1 w.params) (YP:=λw h=>Kept (H1 w.params) h) (N:=6000)
  left (λw s e=>by intro b o h;rw[e];exact h) (λw h h' a b=>λc o e=>b c o (a c o e)) (λs e=>xl_of s (Bool.and_eq_true_iff.mp e).1) XL.keeps YE hp_ hk_
  (λs e=>recFacts_of (Bool.and_eq_true_iff.mp e).2) rfl k1 ok_ hb_ hw call
theorem hw_:rw.row.toRowW.promised:=by w_witness2
noncomputable def wF:List Addr:=[324,331,699]
noncomputable def dM:List (Addr×Addr×Str):=[(328,324,"ConstReader.of_one.<locals>."),(335,331,"ConstReader.of_two.<locals>."),(703,699,"law.<locals>.")]
noncomputable def yv(a:Nat):Bool:=Nat.beq a 324||Nat.beq a 331||Nat.beq a 699
noncomputable def cW(P:Params)(a:Addr):Option Obj:=ap (Nat.blt a 705&&!yv a) ((ib P).get a) none
structure eS(P:Params)(h:Heap):Prop where
 ok:∀a o,cW P a=some o→o.isFreed=false→h.get? a=some o
theorem IY{o:Obj}(h:o.isFreed=false):alive o=some o:=by
 obtain⟨a,b,c,d⟩:=o;cases c<;>first|rfl|cases h
theorem JJ{P:Params}{a:Addr}{o:Obj}(h:cW P a=some o):a<705∧yv a=false∧(ib P).get a=some o:=by
 unfold cW at h;cases hb:(Nat.blt a 705&&!yv a)with
 |false=>rw[hb]at h;cases h
 |true=>
  rw[hb]at h;refine am (λh1 h2=>?_) (ba hb);exact⟨kO h1,by simpa using h2,h⟩
theorem Kr{P:Params}{a:Addr}{o:Obj}(h:cW P a=some o)(hf:o.isFreed=false):(H1 P).get? a=some o:=by
 refine bY (JJ h) λh1 j h3=>?_;exact(abs_get h1 h3).trans (IY hf)
noncomputable def aC(P:Params):List Addr→Frag
 |[]=>[]
 |a::l=>match cW P a with
  |some o=>(a,o)::aC P l
  |none=>aC P l
noncomputable def fC(P:Params)(l:List Addr):Bool:=l.all λa=>match cW P a with|some o=>!o.isFreed|none=>true
theorem cC{P:Params}{h:Heap}(S:eS P h):∀{l:List Addr},fC P l=true→(aC P l).In h
 |[],_=>λj j e=>by cases e
 |a::l,hl=>by
  have h2:(match cW P a with|some o=>!o.isFreed|none=>true)=true∧fC P l=true:=ba (show((match cW P a with|some o=>!o.isFreed|none=>true)&&fC P l)=true from hl);intro b o e;unfold aC at e;cases ha:cW P a with
  |none=>rw[ha]at e;exact cC S h2.2 b o e
  |some x=>
   rw[ha]at e h2;dsimp only at e h2;rw[List.lookup_cons]at e;cases hb:b==a with
   |true=>rw[hb]at e;cases e;rw[eq_of_beq hb];exact S.ok a _ ha (by simpa using h2.1)
   |false=>rw[hb]at e;exact cC S h2.2 b o e
noncomputable def fdOf(o:Obj):FuncData:=match o with|⟨_,_,.func fd,_⟩=>fd|_=>default
noncomputable def ai(P:Params)(a:Addr):FuncData:=match cW P a with|some o=>fdOf o|none=>default
noncomputable def isFn(o:Obj):Bool:=match o with|⟨_,_,.func _,_⟩=>true|_=>false
noncomputable def bodyOf(fd:FuncData):List Stmt:=match fd.body with|.stmts b=>b|_=>[]
noncomputable def JK(fd:FuncData):Bool:=match fd.body with|.stmts _=>true|_=>false
noncomputable def JL(P:Params)(fd:FuncData):Bool:=match fd.code with
 |.ref ca=>(match cW P ca with
  |some ⟨_,_,.fields vs,_⟩=>(match(vs[1]?:Option Value)with|some (.str q _)=>q==fd.qualname|_=>false)
  |_=>false)
 |_=>false
noncomputable def dY(P:Params)(a:Addr):Bool:=(match cW P a with|some o=>isFn o|none=>false)&&JK (ai P a)&&Nat.beq (ai P a).globals mainGlobals&&Nat.beq (ai P a).builtins builtinsNs&&(ai P a).closure.isEmpty&&!(ai P a).scope.isCoroutine&&!(ai P a).scope.isGenerator&&
 (ai P a).scope.kind==.function&&JL P (ai P a)
structure Cn(P:Params)(a:Addr)(o:Obj):Prop where
 at_:cW P a=some o
 data:o.data=.func (ai P a)
 body:(ai P a).body=.stmts (bodyOf (ai P a))
 bE:(ai P a).globals=mainGlobals
 blt:(ai P a).builtins=builtinsNs
 wG:(ai P a).closure=[]
 co:(ai P a).scope.isCoroutine=false
 gen:(ai P a).scope.isGenerator=false
 kind:(ai P a).scope.kind=.function
 code:∀h,eS P h→h.CodeRec (ai P a).code (ai P a).qualname
theorem IZ{o:Obj}(h:isFn o=true):o.data=.func (fdOf o)∧o.isFreed=false:=by
 obtain⟨x1,x2,d,x4⟩:=o;cases d<;>first|exact⟨rfl,rfl⟩|cases h
theorem cI{P:Params}{a:Addr}(h:dY P a=true):∃o,Cn P a o∧o.isFreed=false:=by
 unfold dY at h;refine am (λh h9=>?_) (ba h);refine am (λh h8=>?_) (ba h);refine am (λh h7=>?_) (ba h);refine am (λh h6=>?_) (ba h);refine am (λh h5=>?_) (ba h);refine am (λh h4=>?_) (ba h);refine am (λh h3=>?_) (ba h);refine am (λh1 h2=>?_) (ba h);cases ho:cW P a with
 |none=>rw[ho]at h1;cases h1
 |some o=>
  rw[ho]at h1;refine am (λd1 d2=>?_) (IZ h1);have hfd:ai P a=fdOf o:=by unfold ai;rw[ho]
  refine⟨o,⟨ho,by rw[hfd];exact d1,?_,gE h3,gE h4,?_,by simpa using h6,by simpa using h7,by simpa using h8,λh S=>?_⟩,d2⟩
  ·unfold JK at h2;unfold bodyOf;split at h2
   ·rename_i b q;rw[q]
   ·cases h2
  ·simpa using h5
  ·unfold JL at h9;split at h9
   ·rename_i ca q;split at h9
    ·rename_i c1 c2 vs c4 q2;split at h9
     ·rename_i qq tt q3;exact⟨ca,_,vs,tt,q,S.ok _ _ q2 rfl,rfl,by rw[q3,eq_of_beq h9]⟩
     ·cases h9
    ·cases h9
   ·cases h9
theorem cellsFrom_some:∀{names:List (Str×NameKind)} {L:Nat} {acc:List (Str×Addr)} {x:Str},((x,.cell)∈names∨(acc.lookup x).isSome=true)→((cellsFrom L names acc).lookup x).isSome=true
 |[],L,acc,x,h=>by
  rcases h with h|h
  ·cases h
  ·exact h
 |(y,k)::r,L,acc,x,h=>by
  unfold cellsFrom;by_cases hk:(k==.cell)=true
  ·rw[if_pos hk];refine cellsFrom_some ?_;rcases h with h|h
   ·rcases List.mem_cons.mp h with e|h
    ·cases e;right;rw[List.lookup_cons,beq_self_eq_true];rfl
    ·exact .inl h
   ·right;rw[List.lookup_cons];cases hb:x==y with
    |true=>rfl
    |false=>exact h
  ·rw[if_neg hk];refine cellsFrom_some ?_;rcases h with h|h
   ·rcases List.mem_cons.mp h with e|h
    ·cases e;exact absurd rfl hk
    ·exact .inl h
   ·exact .inr h
noncomputable def aH:Nm:=⟨["BITS","MOST_BITS","MOST_TEXT","COMPARISONS","NUMBERS","UNTYPED_INT","UNTYPED_RUNE","UNTYPED_BOOL","UNTYPED_TEXT"],["world","package","scope","iota","rows","outer","entry","named","settle","globals","underlying"],["read","named","find","settled","kind_of","base_of","common","row","of_one","of_two"],[.ofString "is_unsigned",.ofString "int_range",.ofString "is_in_range",.ofString "within_range",.ofString "representable",.ofString "const_unary",.ofString "const_quotient",.ofString "const_shift",.ofString "int_binary",.ofString "const_compared",.ofString "sort_of_const",.ofString "const_binary",.ofString "",.ofString "",.ofString "",.ofString "",.ofString "",.ofString "",.ofString "",.ofString "",.ofString "",.ofString "",.ofString "_law_rows",.ofString "_law_range",.ofString "_law_sort",.ofString "_law_is_of",.ofString "_law_fitting",.ofString "_law_bits",.ofString "_law_reckoned",.ofString "_law_compared",.ofString "_law_together",.ofString "_law_signed",.ofString "_law_shifted",.ofString "_law_joined",.ofString "_law_globals"]⟩
noncomputable def jU:List Nat:=[87,94,101,108,115,123,130,137,144,151,158,166,301,308,322,329,336,343,463,471,552,559,601,622,629,636,643,650,657,664,671,678,685,692,608]
structure aN(c:Cx)(P:Params):Prop where
 fn:c.P.fn=wE
 nm:c.N=aH
 fa:∀f,c.fa f=jU.getD f 0
 st:∀h,c.G h→eS P h
 cd:∀t∈dM,c.cd (.ref t.1) t.2.2
noncomputable def JM(P:Params)(a:Addr):Bool:=!((ai P a).scope.names.lookup ("self":Str)==some .cell)||dM.any λt=>(ai P a).code==.ref t.1&&t.2.2==(ai P a).qualname++".<locals>."
noncomputable def LD(P:Params)(a np nl:Nat)(b:List S)(names:List Str):Bool:=dY P a&&Nat.beq names.length (np+nl)&&decide names.Nodup&&names.all (λx=>(ai P a).scope.names.lookup x==some .local||(ai P a).scope.names.lookup x==some .cell)&&
 iD aH (ai P a).scope (names.map some) b (bodyOf (ai P a))&&JM P a
theorem xB{c:Cx}{P:Params}(S:aN c P){s:Shared}(g:c.G s.heap){fd:FuncData}{args:Args}{binds:List (Str×Value)}{l:List Addr}(hl:fC P l=true)(e:∀Z,peek (aC P l) Z (bindArgs fd args)=some binds):BindsTo s fd args binds:=
 kp_binds (cC (S.st _ g) hl) e
def Dk:Nat→(List Value→Prop)→Prop:=@Nat.rec (λj=>(List Value→Prop)→Prop) (λZ=>Z []) (λj ih Z=>∀a,ih λus=>Z (a::us))
theorem LF{us:List Value}:∀{n:Nat} {Z:List Value→Prop},us.length=n→Dk n Z→Z us:=by
 induction us with
 |nil=>intro n Z e h;subst e;exact h
 |cons a us ih=>intro n Z e h;subst e;exact ih rfl (h a)
theorem bO{c:Cx}{P:Params}(Z:aN c P){f a np nl:Nat}{dn:Bool}{b:List S}{names:List Str}{l:List Addr}(hfa:jU.getD f 0=a)(hc:LD P a np nl b names=true)
  (hl:fC P l=true)(Fx:∀Z,Dk np λus=>peek (aC P l) Z (bindArgs (ai P a) ⟨us,[]⟩)=some ((names.take np).zip us))
  (Fy:dn=true→∀Z,Dk np.pred λus=>peek (aC P l) Z (bindArgs (ai P a) ⟨us,[]⟩)=some ((names.take np).zip (us++[.none]))):Fq c f np nl dn b:=by
 unfold LD at hc;refine am (λhc h6=>?_) (ba hc);refine am (λhc h5=>?_) (ba hc);refine am (λhc h4=>?_) (ba hc);refine am (λhc h3=>?_) (ba hc);refine am (λh1 h2=>?_) (ba hc);refine ah (cI h1) λo F hf=>?_;refine⟨o,ai P a,bodyOf (ai P a),names,λh g=>⟨by rw[Z.fa,hfa];exact(Z.st h g).ok _ _ F.at_ hf,F.code h (Z.st h g)⟩,F.data,F.body,F.bE,F.blt,F.wG,F.co,F.gen,F.kind,gE h2,aR h3,λx hx=>?_,by rw[Z.nm];exact h5,λhs=>?_,λs us g e=>xB Z g hl λz=>LF (Z:=λus=>peek (aC P l) z (bindArgs (ai P a) ⟨us,[]⟩)=some ((names.take np).zip us)) e (Fx z),λd s us g e=>xB Z g hl λz=>LF (Z:=λus=>peek (aC P l) z (bindArgs (ai P a) ⟨us,[]⟩)=some ((names.take np).zip (us++[.none]))) (bp Nat.pred e) (Fy d z)⟩
 ·have:=List.all_eq_true.mp h4 x hx;rcases Bool.or_eq_true_iff.mp this with h|h
  ·exact .inl (by simpa using h)
  ·have h':(ai P a).scope.names.lookup x=some .cell:=by simpa using h
   exact .inr ⟨h',λL=>cellsFrom_some (.inl (mem_of_lookup h'))⟩
 ·unfold JM at h6;rw[hs]at h6;simp only[beq_self_eq_true,Bool.not_true,Bool.false_or]at h6;refine ah (List.any_eq_true.mp h6) λt ht e=>?_;refine am (λe1 e2=>?_) (ba e);rw[eq_of_beq e1,←eq_of_beq e2];exact Z.cd t ht
set_option tactic.hygienic false
section
variable{c:Cx}{P:Params}
def NQ(Z:Nat→Fn→Prop)(l:List Fn):Nat→Prop:=@List.rec Fn (λz=>Nat→Prop) (λz=>True) (λx z ih k=>Z k x∧ih (k+1)) l
theorem Tr{Z:Nat→Fn→Prop}{x:Fn}{l:List Fn}:∀{k f:Nat},NQ Z l k→cZ l f=some x→Z (k+f) x:=by
 induction l with
 |nil=>intro k f _ h;cases h
 |cons y l ih=>
  intro k f h e;cases f with
  |zero=>exact au e▸h.1
  |succ f=>rw[←Nat.succ_add_eq_add_succ];exact ih h.2 e
theorem UN(S:aN c P):NQ (λf q=>Fq c f q.1 q.2.1 q.2.2.1 q.2.2.2) wE 0:=⟨
 bO S (a:=87) (names:=["kind"]) (l:=[]) rfl (by kernel_rfl) (by kernel_rfl) (λz z=>by kernel_rfl) aw,
 bO S (a:=94) (names:=["kind"]) (l:=[]) rfl (by kernel_rfl) (by kernel_rfl) (λz z=>by kernel_rfl) aw,
 bO S (a:=101) (names:=["number","kind","low","high"]) (l:=[]) rfl (by kernel_rfl) (by kernel_rfl) (λz z z=>by kernel_rfl) aw,
 bO S (a:=108) (names:=["number","kind"]) (l:=[]) rfl (by kernel_rfl) (by kernel_rfl) (λz z z=>by kernel_rfl) aw,
 bO S (a:=115) (names:=["value","told","word"]) (l:=[]) rfl (by kernel_rfl) (by kernel_rfl) (λz z z=>by kernel_rfl) aw,
 bO S (a:=123) (names:=["op","value","kind"]) (l:=[116]) rfl (by kernel_rfl) (by kernel_rfl) (λz z z z=>by kernel_rfl) (λz z z z=>by kernel_rfl),
 bO S (a:=130) (names:=["a","b","found"]) (l:=[]) rfl (by kernel_rfl) (by kernel_rfl) (λz z z=>by kernel_rfl) aw,
 bO S (a:=137) (names:=["op","a","many","kind"]) (l:=[]) rfl (by kernel_rfl) (by kernel_rfl) (λz z z z z=>by kernel_rfl) aw,
 bO S (a:=144) (names:=["op","a","b"]) (l:=[]) rfl (by kernel_rfl) (by kernel_rfl) (λz z z z=>by kernel_rfl) aw,
 bO S (a:=151) (names:=["op","a","b"]) (l:=[]) rfl (by kernel_rfl) (by kernel_rfl) (λz z z z=>by kernel_rfl) aw,
 bO S (a:=158) (names:=["value"]) (l:=[]) rfl (by kernel_rfl) (by kernel_rfl) (λz z=>by kernel_rfl) aw,
 bO S (a:=166) (names:=["op","a","b","kind","sort"]) (l:=[159]) rfl (by kernel_rfl) (by kernel_rfl) (λz z z z z=>by kernel_rfl) (λz z z z z=>by kernel_rfl),
 bO S (a:=301) (names:=["self","expr","kind","spot"]) (l:=[]) rfl (by kernel_rfl) (by kernel_rfl) (λz z z=>by kernel_rfl) aw,
 bO S (a:=308) (names:=["self","entry","name","spot"]) (l:=[]) rfl (by kernel_rfl) (by kernel_rfl) (λz z z z z=>by kernel_rfl) aw,
 bO S (a:=322) (names:=["self","told","base"]) (l:=[]) rfl (by kernel_rfl) (by kernel_rfl) (λz z z=>by kernel_rfl) aw,
 bO S (a:=329) (names:=["self","expr","told","value"]) (l:=[]) rfl (by kernel_rfl) (by kernel_rfl) (λz z z=>by kernel_rfl) aw,
 bO S (a:=336) (names:=["self","expr","told","found","spot","op","left","a","right","b"]) (l:=[]) rfl (by kernel_rfl) (by kernel_rfl) (λz z z=>by kernel_rfl) aw,
 bO S (a:=343) (names:=["self","left","a","right","b","spot"]) (l:=[]) rfl (by kernel_rfl) (by kernel_rfl) (λz z z z z z z=>by kernel_rfl) aw,
 bO S (a:=463) (names:=["self","name","here"]) (l:=[]) rfl (by kernel_rfl) (by kernel_rfl) (λz z z=>by kernel_rfl) aw,
 bO S (a:=471) (names:=["self","name","spot","found"]) (l:=[464]) rfl (by kernel_rfl) (by kernel_rfl) (λz z z z=>by kernel_rfl) (λz z z z=>by kernel_rfl),
 bO S (a:=552) (names:=["self","told","row"]) (l:=[]) rfl (by kernel_rfl) (by kernel_rfl) (λz z z=>by kernel_rfl) aw,
 bO S (a:=559) (names:=["self","entry"]) (l:=[]) rfl (by kernel_rfl) (by kernel_rfl) (λz z z=>by kernel_rfl) aw,
 bO S (a:=601) (names:=["rows","loose","T","octet"]) (l:=[]) rfl (by kernel_rfl) (by kernel_rfl) (λz=>by show _=_;kernel_rfl) aw,
 bO S (a:=622) (names:=["T"]) (l:=[]) rfl (by kernel_rfl) (by kernel_rfl) (λz z=>by kernel_rfl) aw,
 bO S (a:=629) (names:=["value"]) (l:=[]) rfl (by kernel_rfl) (by kernel_rfl) (λz z=>by kernel_rfl) aw,
 bO S (a:=636) (names:=["T","value","sort","low","high"]) (l:=[]) rfl (by kernel_rfl) (by kernel_rfl) (λz z z=>by kernel_rfl) aw,
 bO S (a:=643) (names:=["T","value","low","high"]) (l:=[]) rfl (by kernel_rfl) (by kernel_rfl) (λz z z=>by kernel_rfl) aw,
 bO S (a:=650) (names:=["op","a","b","found","at","bit","one","other"]) (l:=[]) rfl (by kernel_rfl) (by kernel_rfl) (λz z z z=>by kernel_rfl) aw,
 bO S (a:=657) (names:=["op","a","b","whole"]) (l:=[]) rfl (by kernel_rfl) (by kernel_rfl) (λz z z z=>by kernel_rfl) aw,
 bO S (a:=664) (names:=["op","a","b","way"]) (l:=[]) rfl (by kernel_rfl) (by kernel_rfl) (λz z z z=>by kernel_rfl) aw,
 bO S (a:=671) (names:=["one","other","words","left","right"]) (l:=[]) rfl (by kernel_rfl) (by kernel_rfl) (λz z z=>by kernel_rfl) aw,
 bO S (a:=678) (names:=["op","row","sort","e","T","value"]) (l:=[]) rfl (by kernel_rfl) (by kernel_rfl) (λz z z=>by kernel_rfl) aw,
 bO S (a:=685) (names:=["op","one","other","a","b"]) (l:=[]) rfl (by kernel_rfl) (by kernel_rfl) (λz z z z=>by kernel_rfl) aw,
 bO S (a:=692) (names:=["op","one","other","sort","T","a","b"]) (l:=[]) rfl (by kernel_rfl) (by kernel_rfl) (λz z z z=>by kernel_rfl) aw,
 bO S (a:=608) (names:=["whole","far"]) (l:=[]) rfl (by kernel_rfl) (by kernel_rfl) (λz=>by show _=_;kernel_rfl) aw,
 trivial⟩
theorem YF(S:aN c P):Db c:=by
 intro f np nl dn b h;rw[S.fn]at h;have:=Tr (UN S) h;rw[Nat.zero_add]at this;exact this
end
end Mine
namespace Mine
open PySem PySem.W PyProof.Rows Builtin Builtin.ObjectAttr
set_option tactic.hygienic true
noncomputable def bT(P:Params)(a:Addr)(x:Str):Option Value:=match cW P a with
 |some ⟨_,_,.dict es _,_⟩=>nsFind es x
 |_=>none
noncomputable def uE(P:Params)(a:Addr):Bool:=match cW P a with
 |some ⟨_,_,.dict es _,_⟩=>es.all (λe=>match e.key with|.str _ _=>true|_=>false)
 |_=>false
theorem de{P:Params}{h:Heap}(S:eS P h){a:Addr}(q:uE P a=true):h.Ns a (bT P a):=by
 unfold uE at q;split at q
 ·rename_i c d es ep sl ho;refine⟨_,es,ep,S.ok _ _ ho rfl,rfl,λe he=>?_,λname=>?_⟩
  ·have hx:=Array.all_eq_true_iff_forall_mem.mp q e he;cases hk:e.key<;>rw[hk]at hx<;>first|exact⟨_,_,rfl⟩|cases hx
  ·unfold bT;rw[ho]
 ·cases q
theorem n3(P:Params):uE P mainGlobals=true:=by kernel_rfl
theorem n0(P:Params):uE P builtinsNs=true:=by kernel_rfl
theorem n2(P:Params):uE P cStatics=true:=by kernel_rfl
noncomputable def kL:List Addr:=[36,38,39,75,76]
theorem LG(P:Params):fC P kL=true:=by kernel_rfl
noncomputable def Ai:ClassData:=⟨"ConstFault",[.ref 39],[.ref 76,.ref 39,.type "Exception",.type "BaseException",.type "object"],75,"ConstFault",true,[],[],false,none,false⟩
section
variable{P:Params}
theorem k1:clsIn (aC P kL) 76=some Ai:=by kernel_rfl
theorem k2:findIn (aC P kL) (.ref 76) "__setattr__"=some (some (.builtin "object.__setattr__")):=by kernel_rfl
theorem k3(v:Value):refuseLoop v "__setattr__" Ai.mro=pure ():=by kernel_rfl
theorem k4:takerIn (aC P kL) 76 "message"=some none:=by kernel_rfl
theorem k5:takerIn (aC P kL) 76 "spot"=some none:=by kernel_rfl
theorem k6:findIn (aC P kL) (.ref 76) "__init__"=some (some (.ref 36)):=by kernel_rfl
theorem k7:typeIn (aC P kL) (.ref 36)=some (.type "function"):=by kernel_rfl
theorem k8:findIn (aC P kL) (.ref 76) "message"=some none:=by kernel_rfl
theorem k9:findIn (aC P kL) (.ref 76) "spot"=some none:=by kernel_rfl
theorem k10:findIn (aC P kL) (.ref 76) "__getattribute__"=some (some (.builtin "BaseException.__getattribute__")):=by kernel_rfl
theorem k11:findIn (aC P kL) (.ref 76) "__getattr__"=some none:=by kernel_rfl
theorem Gb:mroIn (aC P kL) 76 (.type "BaseException")=some true:=by kernel_rfl
theorem k13:cW P 76=some (excClassObj "ConstFault" "ConstFault" 76 75 [.ref 39] [.ref 39,.type "Exception",.type "BaseException",.type "object"] true [] [] false none none (some (.ref 67)) none (some (.str "ConstFault" 260)) (some (.str "ConstFault" 268)) (some (.bool true)) "Exception.__new__"):=by kernel_rfl
end
noncomputable def NR(f:List Value→Bool)(o:Option Obj):Bool:=by
 cases o with
 |none=>exact false
 |some o=>exact o.cls==.type "tuple"&&(by cases o.dict with|none=>exact true|some _=>exact false)&&(by cases o.data with|seq xs n=>exact f xs.toList|_=>exact false)
theorem Ts{f:List Value→Bool}{o:Option Obj}(h:NR f o=true):∃ob xs n,o=some ob∧ob.cls=.type "tuple"∧ob.dict=none∧ob.data=.seq xs n∧f xs.toList=true:=by
 cases o with
 |none=>exact aw h
 |some o=>
  refine am (λh h3=>am (λh1 h2=>?_) (ba h)) (ba h);obtain⟨c,dt,da,sl⟩:=o;cases dt with
  |some _=>exact aw h2
  |none=>cases da with
   |seq xs n=>exact⟨_,xs,n,rfl,eq_of_beq h1,rfl,rfl,h3⟩
   |_=>exact aw h3
noncomputable def Gc(P:Params)(n:Nat):Value→D→Bool:=@Nat.rec (λ_=>Value→D→Bool) (λ_ _=>false) (λn ih v d=>by
 cases d with
 |none=>cases v with|none=>exact true|_=>exact false
 |bool y=>cases v with|bool x=>exact x==y|_=>exact false
 |int j=>cases v with|int i _=>exact i==j|_=>exact false
 |str x=>cases v with|str s _=>exact s==ao x|_=>exact false
 |obj k=>cases v with|ref a=>exact Nat.beq k 5&&Nat.beq a 79|_=>exact false
 |tuple ds=>cases v with|ref a=>exact NR (λxs=>Nat.beq xs.length ds.length&&(xs.zip ds).all λq=>ih q.1 q.2) (cW P a)|_=>exact false
 |_=>exact false) n
theorem HY{σ:Nat→Addr}{h:Heap}:∀{vs:List Value} {ds:List D},vs.length=ds.length→(∀q∈vs.zip ds,Tells σ h q.1 q.2)→ax σ h vs ds
 |[],[],_,_=>.nil
 |v::vs,d::ds,hl,hq=>.cons (hq (v,d) dW) (HY (by simpa using hl) λq hm=>hq q (bH _ hm))
 |[],_::_,hl,_=>by cases hl
 |_::_,[],hl,_=>by cases hl
theorem Wf{o:Obj}{xs:Array Value}{n:Nat}(h:o.data=.seq xs n):o.isFreed=false:=by
 cases o with|mk a b d e=>cases(show d=_ from h);rfl
theorem Wg{P:Params}{σ:Nat→Addr}{h:Heap}(S:eS P h)(h5:σ 5=79){n:Nat}:∀{v:Value} {d:D},Gc P n v d=true→Tells σ h v d:=by
 induction n with
 |zero=>exact λq=>aw q
 |succ n ih=>
  intro v d;cases d with
  |none=>cases v with|none=>exact λq=>.none|_=>exact aw
  |bool y=>cases v with|bool x=>exact λq=>eq_of_beq q▸.bool x|_=>exact aw
  |int j=>cases v with|int i t=>exact λq=>eq_of_beq q▸.int i t|_=>exact aw
  |str x=>cases v with|str s t=>exact λq=>eq_of_beq q▸.str x t|_=>exact aw
  |obj k=>
   cases v with
   |ref a=>exact λq=>by rw[gE (a1 q),gE (a2 q),←h5];exact .obj 5
   |_=>exact aw
  |tuple ds=>cases v with
   |ref a=>exact λq=>xH (Ts (f:=λxs=>Nat.beq xs.length ds.length&&(xs.zip ds).all λq=>Gc P n q.1 q.2) (o:=cW P a) q) λo xs n e c dn da q=>.tuple (vs:=xs.toList) ⟨o,n,S.ok _ _ e (Wf da),c,dn,da⟩ (HY (gE (a1 q)) λp hp=>ih (List.all_eq_true.mp (a2 q) p hp))
   |_=>exact aw
  |_=>exact aw
noncomputable def YG(P:Params):Bool:=(List.range 9).all λk=>match aH.glob[k]?with
 |some x=>(match bT P mainGlobals x with|some v=>Gc P 4 v (getD globT .none k)|none=>false)
 |none=>true
theorem YH(P:Params):YG P=true:=by kernel_rfl
noncomputable def Wh(P:Params):Bool:=(List.range 35).all λf=>match aH.fn[f]?with
 |some x=>x==("":Str)||bT P mainGlobals x==some (.ref (jU.getD f 0))
 |none=>true
theorem Wi(P:Params):Wh P=true:=by kernel_rfl
noncomputable def Wj(P:Params):Bool:=(List.range 35).all λf=>match cW P (jU.getD f 0)with|some o=>isFn o|none=>false
theorem Wk(P:Params):Wj P=true:=by kernel_rfl
noncomputable def hH(P:Params)(y:Str)(v:Value):Bool:=bT P mainGlobals y==none&&bT P builtinsNs y==some v
theorem QK(P:Params):hH P "isinstance" (.builtin "isinstance")=true:=by kernel_rfl
theorem Wl(P:Params):hH P "len" (.builtin "len")=true:=by kernel_rfl
theorem Wm(P:Params):hH P "abs" (.builtin "abs")=true:=by kernel_rfl
theorem Wn(P:Params):hH P "int" (.type "int")=true:=by kernel_rfl
theorem UO(P:Params):hH P "list" (.type "list")=true:=by kernel_rfl
theorem Tu(P:Params):hH P "bytes" (.type "bytes")=true:=by kernel_rfl
theorem Se(P:Params):hH P "sorted" (.builtin "sorted")=true:=by kernel_rfl
theorem Wo(P:Params):hH P "min" (.builtin "min")=true:=by kernel_rfl
theorem Wp(P:Params):hH P "max" (.builtin "max")=true:=by kernel_rfl
theorem UP(P:Params):hH P "bool" (.type "bool")=true:=by kernel_rfl
theorem Tv(P:Params):hH P "range" (.type "range")=true:=by kernel_rfl
theorem Wq(P:Params):bT P cStatics "sys.recursionlimit"=none:=by kernel_rfl
theorem Wt(P:Params):bT P mainGlobals "ConstFault"=some (.ref 76):=by kernel_rfl
theorem Ks(P:Params):bT P mainGlobals "Exception"=none∧bT P builtinsNs "Exception"=some (.type "Exception"):=⟨by kernel_rfl,by kernel_rfl⟩
theorem range_all{n k:Nat}{p:Nat→Bool}(h:(List.range n).all p=true)(hk:k<n):p k=true:=List.all_eq_true.mp h k (List.mem_range.mpr hk)
section
variable{c:Cx}{P:Params}
theorem Wu(S:aN c P)(h1:c.P.glob=getD globT .none)(h5:c.σ 5=79):Cy c:=by
 intro h g k x hx;rw[S.nm]at hx;have hk:k<9:=(List.getElem?_eq_some_iff.mp hx).1;have q:=range_all (YH P) hk;rw[hx]at q;dsimp only at q;cases hv:bT P mainGlobals x with
 |none=>rw[hv]at q;cases q
 |some v=>
  rw[hv]at q;refine⟨_,v,de (S.st h g) (n3 P),hv,?_⟩;rw[h1];exact Wg (S.st h g) h5 q
theorem ad4(S:aN c P):DD c:=by
 intro h g f x hx bk;rw[S.nm]at hx;have hk:f<35:=(List.getElem?_eq_some_iff.mp hx).1;have q:=range_all (Wi P) hk;rw[hx]at q;dsimp only at q;rw[bk,Bool.false_or]at q;exact⟨_,de (S.st h g) (n3 P),by rw[S.fa];exact eq_of_beq q⟩
theorem fnAt(S:aN c P):FnAt c:=by
 intro f hf;rw[S.nm]at hf;have q:=range_all (Wk P) (show f<35 from hf);cases ho:cW P (jU.getD f 0)with
 |none=>rw[ho]at q;cases q
 |some o=>
  rw[ho]at q;refine am (λq1 q2=>?_) (IZ q);exact⟨o,_,λh g=>by rw[S.fa];exact(S.st h g).ok _ _ ho q2,q1⟩
theorem eI(S:aN c P):gi c:=λh g=>⟨_,de (S.st h g) (n2 P),Wq P⟩
theorem Co(S:aN c P):lH c 76:=λh g=>⟨_,de (S.st h g) (n3 P),Wt P⟩
theorem oH(S:aN c P):fO c:=by
 intro h g;refine⟨_,_,de (S.st h g) (n3 P),de (S.st h g) (n0 P),λx hx=>?_⟩;have key:∀(y:Str) (v:Value),hH P y v=true→bootBuiltins y=some v→bT P mainGlobals y=none∧bT P builtinsNs y=bootBuiltins y:=by
  intro y v h1 h2;unfold hH at h1;refine am (λa b=>?_) (ba h1);exact⟨by simpa using a,(eq_of_beq b).trans h2.symm⟩
 unfold lV at hx;simp only[List.mem_cons,List.not_mem_nil,or_false]at hx;rcases hx with rfl|rfl|rfl|rfl|rfl|rfl|rfl|rfl|rfl|rfl|rfl
 ·exact key _ _ (QK P) Hl
 ·exact key _ _ (Wl P) CF
 ·exact key _ _ (Wm P) Ko
 ·exact key _ _ (Wn P) CC
 ·exact key _ _ (UO P) JA
 ·exact key _ _ (Tu P) B3
 ·exact key _ _ (Se P) Iq
 ·exact key _ _ (Wo P) CD
 ·exact key _ _ (Wp P) CE
 ·exact key _ _ (UP P) Jz
 ·exact key _ _ (Tv P) B4
end
set_option tactic.hygienic false
theorem ad5(P:Params):dY P 36=true:=by kernel_rfl
theorem YI(P:Params):dY P 383=true:=by kernel_rfl
theorem ad6(P:Params):bodyOf (ai P 36)=B6 (aa 8 8 17) (aa 8 8 26) (aa 8 27 31) (aa 8 33 40) (aa 8 8 41) (aa 8 8 41) (aa 9 8 12) (aa 9 8 20) (aa 9 23 30) (aa 9 8 30) (aa 10 8 12) (aa 10 8 17) (aa 10 20 24) (aa 10 8 24):=by kernel_rfl
theorem YJ(P:Params):bodyOf (ai P 383)=B9 (aa 406 19 23) (aa 406 19 25) (aa 406 12 25) (aa 407 15 25) (aa 408 18 28) (aa 408 29 34) (aa 408 29 42) (aa 408 44 48) (aa 408 18 49) (aa 408 12 49) ⟨407,8,408,49⟩ ⟨405,8,408,49⟩:=by kernel_rfl
noncomputable def fj(P:Params)(a:Addr)(l:List Str):Bool:=l.all λx=>(ai P a).scope.names.lookup x==some .local
theorem bQ{P:Params}{a:Addr}{l:List Str}(h:fj P a l=true){x:Str}(hx:x∈l):(ai P a).scope.names.lookup x=some .local:=by simpa using List.all_eq_true.mp h x hx
theorem E3(P:Params):fj P 36 ["self","message","spot"]=true:=by kernel_rfl
theorem yw(P:Params):fj P 383 ["self","call","spot","fault"]=true:=by kernel_rfl
theorem ad7(P:Params):(ai P 36).scope.names.lookup ("Exception":Str)=some .globalImplicit:=by kernel_rfl
theorem YK(P:Params):(ai P 383).scope.names.lookup ("ConstFault":Str)=some .globalImplicit:=by kernel_rfl
theorem OS(P:Params):fC P [29]=true:=by kernel_rfl
theorem YL(P:Params)(e m sp:Value)(Z:Setting):peek (aC P [29]) Z (bindArgs (ai P 36) ⟨[e,m,sp],[]⟩)=some [(.ofString "self",e),(.ofString "message",m),(.ofString "spot",sp)]:=by kernel_rfl
theorem YM(P:Params)(e m:Value)(Z:Setting):peek (aC P [29]) Z (bindArgs (ai P 36) ⟨[e,m],[]⟩)=some [(.ofString "self",e),(.ofString "message",m),(.ofString "spot",.int 0 208)]:=by kernel_rfl
theorem YN(P:Params)(a b d:Value)(Z:Setting):peek [] Z (bindArgs (ai P 383) ⟨[a,b,d],[]⟩)=some [(.ofString "self",a),(.ofString "call",b),(.ofString "spot",d)]:=by kernel_rfl
theorem ad8:ky [.ref 39,.type "Exception",.type "BaseException",.type "object"]:=⟨by kernel_rfl,by kernel_rfl,by kernel_rfl,by kernel_rfl⟩
section
variable{c:Cx}{P:Params}
theorem CL(S:aN c P):js c 76:=by
 refine ah (cI (ad5 P)) λo F hf=>?_;exact⟨⟨⟨"ConstFault","ConstFault",75,[.ref 39],[.ref 39,.type "Exception",.type "BaseException",.type "object"],true,[],[],false,none,none,some (.ref 67),none,some (.str "ConstFault" 260),some (.str "ConstFault" 268),some (.bool true)⟩,aC P kL,Ai,36,o,ai P 36,208,bodyOf (ai P 36)⟩,
  {B:=ad8,S:=⟨k1,k2,rfl,rfl,k3⟩,t1:=k4,t2:=k5,hi:=k6,hf:=k7,X:=λh g=>cC (S.st h g) (LG P),hC:=λh g=>(S.st h g).ok _ _ k13 rfl,hI:=λh g=>(S.st h g).ok _ _ F.at_ hf,cq:=λh g=>F.code h (S.st h g),
   hd:=F.data,hb:=F.body,OD:=λG k=>by rw[ad6 P];exact k _ _ _ _ _ _ _ _ _ _ _ _ _ _ rfl,kU:=F.bE,tD:=F.blt,pa:=F.wG,kW:=F.co,kH:=F.gen,hk:=F.kind,l1:=bQ (E3 P) (al 0),l2:=bQ (E3 P) (al 1),l3:=bQ (E3 P) (al 2),l4:=ad7 P,
   b1:=λs e m sp g=>xB S g (OS P) (YL P e m sp),b2:=λs e m g=>xB S g (OS P) (YM P e m),hE:=λh g=>⟨_,_,de (S.st h g) (n3 P),(Ks P).1,de (S.st h g) (n0 P),(Ks P).2⟩}⟩
theorem Kt(S:aN c P):oq c 76:=⟨aC P kL,Ai,λh g=>cC (S.st h g) (LG P),k1,rfl,k8,k9,k10,k11,Gb⟩
theorem YO(S:aN c P):yr c 383:=by
 refine ah (cI (YI P)) λo F hf=>?_;exact⟨o,ai P 383,bodyOf (ai P 383),{ho:=λh g=>(S.st h g).ok _ _ F.at_ hf,cq:=λh g=>F.code h (S.st h g),hd:=F.data,hb:=F.body,txt:=λG k=>(by rw[YJ P];exact k _ _ _ _ _ _ _ _ _ _ _ _),kU:=F.bE,tD:=F.blt,pa:=F.wG,kW:=F.co,kH:=F.gen,hk:=F.kind,l1:=bQ (yw P) (al 0),l2:=bQ (yw P) (al 1),l3:=bQ (yw P) (al 2),l4:=bQ (yw P) (al 3),l5:=YK P,b:=λs a b d=>kp_binds (K:=[]) (CH _) (YN P a b d)}⟩
end
def aJ(h:Heap)(x dx C:Addr)(m:Str→Option Value):Prop:=h.get? x=some (instObj C dx)∧dx≠x∧h.Ns1 dx m
theorem cx{h h':Heap}{a:Addr}{o:Obj}(k:aE h h')(e:h.get? a=some o)(hn:∀vs,o.data≠.fields vs)(hc:o.cls≠.type "frame"):h'.get? a=some o:=by
 refine eV (k.2 _ _ e) λo' e' c' d' f' z s'=>?_;have h1:=f' hn;have h2:=s' hc;obtain⟨a1,a2,a3,a4⟩:=o';obtain⟨b1,b2,b3,b4⟩:=o;dsimp only at c' d' h1 h2;subst c' d' h1 h2;exact e'
theorem Tw{h h':Heap}{a:Addr}{m}(k:aE h h')(n:h.Ns1 a m):h'.Ns1 a m:=by
 refine cF n λo es ep e hd r=>?_;refine lM (k.2 _ _ e) λo' e' z z f' z=>?_;exact⟨o',es,ep,e',(f' λvs q=>by rw[hd]at q;cases q).trans hd,r⟩
theorem aJ.keep{h h':Heap}{x dx C:Addr}{m}(k:aE h h')(I:aJ h x dx C m):aJ h' x dx C m:=⟨cx k I.1 (λvs q=>by cases q) (by intro q;cases q),I.2.1,Tw k I.2.2⟩
theorem aJ.ext{h h':Heap}{x dx C:Addr}{m}(I:aJ h x dx C m)(e1:∀o,h.get? x=some o→h'.get? x=some o)(e2:∀o,h.get? dx=some o→h'.get? dx=some o):aJ h' x dx C m:=⟨e1 _ I.1,I.2.1,I.2.2.at e2⟩
theorem aJ.inst{h:Heap}{x dx C:Addr}{m}(I:aJ h x dx C m):h.Inst x C m:=⟨_,I.1,rfl,λc q=>(by cases q),.inr ⟨dx,rfl,I.2.1,I.2.2⟩⟩
theorem aJ.at_{h:Heap}{x dx C:Addr}{m}(I:aJ h x dx C m):∃od,InstAt h x (instObj C dx) C (some od)∧h.get? dx=some od:=by
 refine bC I.2.2 λo es ep e r=>?_;exact⟨o,⟨I.1,rfl,rfl,e⟩,e⟩
theorem aJ.ns{h:Heap}{x dx C:Addr}{m}(I:aJ h x dx C m):h.Ns dx m:=I.2.2.ns
structure jM(K:Frag)(C:Addr)(cd:ClassData):Prop where
 cls:clsIn K C=some cd
 dict:cd.hasDict=true
 ga:findIn K (.ref C) "__getattribute__"=some (some (.builtin "object.__getattribute__"))
 gt:findIn K (.ref C) "__getattr__"=some none
section
variable{prog:Program}{w:World}{A:Around}{E:Value→Shared→Prop}{s:Shared}{K:Frag}{x dx C:Addr}{m:Str→Option Value}{name:Str}{cd:ClassData}
theorem lE{v:Value}{expr:Bool}{Q:Value→Shared→Prop}(X:K.In s.heap)(H:jM K C cd)(I:aJ s.heap x dx C m)(hn:findIn K (.ref C) name=some none)(hv:m name=some v)(hh:handedIn v=true)(h:Q v {s with toks:=s.toks+1}):
  wpAny (model prog w) A (getAttr (.ref x) name expr) Q E s:=by
 refine ah I.at_ λod IA e=>?_;refine ah (Iv I.ns hv) λod' e' hl=>?_;cases aD e e';exact get_value X IA H.ga (Hm H.cls H.dict hn hl) hh h
theorem Tx:(Manifest.canonical "object.__getattribute__"!="object.__getattribute__")=false:=by decide+kernel
theorem method_inst{f:Addr}{pl:Sem Bool}{Q:Value×List Value→Shared→Prop}(X:K.In s.heap)(H:jM K C cd)(I:aJ s.heap x dx C m)(h3:findIn K (.ref C) name=some (some (.ref f)))(h4:typeIn K (.ref f)=some (.type "function"))(hm:m name=none)
  (hq:Q (.ref f,[.ref x]) s):wpAny (model prog w) A (getMethod (.ref x) name pl) Q E s:=by
 refine ah I.at_ λod IA e=>?_;have T:=IA.type (M:=model prog w);unfold getMethod;refine aj ((T.andThen (looks_findIn X H.ga)).here ?_);show wpAny _ A (if(Manifest.canonical "object.__getattribute__"!="object.__getattribute__")=true then _ else _) Q E s;rw[Tx,if_neg Bool.false_ne_true];refine aj ((T.andThen (looks_findIn X H.gt)).here ?_);refine aj ((T.andThen (looks_findIn X h3)).here ?_);refine aj ((looks_typeIn X h4).here ?_);show wpAny _ A (if(Value.type "function"!=.type "function"&&_&&_)=true then _ else _) Q E s;rw[if_neg (by simp)];refine aj (wpAny_loadPart I.1 ?_);dsimp only;refine aj (wpAny_nsGet I.ns ?_);rw[hm];exact aj (wpAny_rule (aM hq))
end
def cD(c:Cx):Prop:=∀k l,c.P.dict k=some l→(c.σ k==sysModules)=false∧∃(ks:List (List Nat)) (us:List Value) (ds:List D),l=ks.zip ds∧ks.length=ds.length∧∀h,c.G h→h.DictOf (strKind c.prog c.w) (c.σ k) ((ks.map ao).zip us)∧ax c.σ h us ds
def JN(c:Cx)(K:Frag):Prop:=∀k j a d,c.N.attr[j]?=some a→c.P.attr k j=some d→∃(C dx:Addr) (cd:ClassData) (m:Str→Option Value) (v:Value),jM K C cd∧findIn K (.ref C) a=some none∧m a=some v∧handedIn v=true∧∀h,c.G h→aJ h (c.σ k) dx C m∧Tells c.σ h v d
def JO(c:Cx)(K:Frag):Prop:=∀k j f x,c.N.bc[j]?=some x→c.P.bc k j=some f→∃(C dx:Addr) (cd:ClassData) (m:Str→Option Value),jM K C cd∧findIn K (.ref C) x=some (some (.ref (c.fa f)))∧typeIn K (.ref (c.fa f))=some (.type "function")∧m x=none∧∀h,c.G h→aJ h (c.σ k) dx C m
section
variable{c:Cx}{K:Frag}
theorem qJ(H:cD c):j8 c:=by
 intro A s k l x t Q E g rm hl hq;refine Cu (H k l hl) λc6 ks us ds YQ YR=>?_;subst YQ;refine am (λhlen hG=>?_) YR;refine am (λhd ts=>?_) (hG _ g);refine wpAny_in_of (eK _ _ _ _) c6 hd.mapOf ?_;refine am (λv1 v2=>?_) (qj x ts hlen);have e:(valueAt ((ks.map ao).zip us) (ao x)).isSome=(look x (ks.zip ds)).isSome:=by
  cases hz:look x (ks.zip ds)with
  |none=>rw[v1 hz];rfl
  |some d=>refine ah (v2 d hz) λv hv z=>?_;rw[hv];rfl
 rw[e];exact hq _ (Nx.tok g _)
theorem qm(H:cD c):jZ c:=by
 intro A s k l x t Q E g rm hl hq;refine Cu (H k l hl) λc6 ks us ds YS YT=>?_;subst YS;refine am (λhlen hG=>?_) YT;refine am (λhd ts=>?_) (hG _ g);refine wpAny_notIn_of (eK _ _ _ _) c6 hd.mapOf ?_;refine am (λv1 v2=>?_) (qj x ts hlen);have e:(valueAt ((ks.map ao).zip us) (ao x)).isSome=(look x (ks.zip ds)).isSome:=by
  cases hz:look x (ks.zip ds)with
  |none=>rw[v1 hz];rfl
  |some d=>refine ah (v2 d hz) λv hv z=>?_;rw[hv];rfl
 rw[e];exact hq _ (Nx.tok g _)
theorem UQ(H:cD c):xt c:=by
 intro A s k l x d t value slice Q E g rm hl hz hq;refine Cu (H k l hl) λc6 ks us ds YU YV=>?_;subst YU;refine am (λhlen hG=>?_) YV;refine am (λhd ts=>?_) (hG _ g);refine ah ((qj x ts hlen).2 d hz) λv hv tv=>?_;exact tail_any hd.typeIs slot_dict_getitem.lookup (wpAny_getItem_of (eK _ _ _ _) hd.mapOf hv (hq v _ tv (Nx.tok g _))) (oj _ _ _).choose_spec
theorem attrOk(X:∀h,c.G h→K.In h)(H:JN c K):xN c:=by
 intro A s k j a d value Q E g rm ha hd hq;refine J4 (H k j a d ha hd) λC dx cd m v hc hn hv hh hG=>?_;refine am (λI tv=>?_) (hG _ g);refine aj (eX (lE (X _ g) hc I hn hv hh ?_));exact aj (wpAny_letTemporaryGo (aM (hq v _ tv (Nx.tok g _))))
theorem Wv(X:∀h,c.G h→K.In h)(H:JO c K):xO c:=by
 intro A s k j f x pl Q E g rm hx hf hq;refine J1 (H k j f x hx hf) λC dx cd m hc h3 h4 hm hG=>?_;exact method_inst (X _ g) hc (hG _ g) h3 h4 hm hq
theorem YW(X:∀h,c.G h→K.In h){C dx fr:Addr}{cd:ClassData}{m:Str→Option Value}(hc:jM K C cd)(h3:findIn K (.ref C) "reckoned"=some (some (.ref fr)))(h4:typeIn K (.ref fr)=some (.type "function"))(hm:m "reckoned"=none)(hG:∀h,c.G h→aJ h (c.σ 0) dx C m):yt c fr:=
 λA s pl Q E g rm hq=>method_inst (X _ g) hc (hG _ g) h3 h4 hm hq
end
def AG(c:Cx)(h:Heap)(env:Env):Prop:=env.scope.kind≠.module∧∃L o,env.frame=some L∧h.get? L=some o∧(∀vs,o.data≠.fields vs)∧o.cls=.type "frame"∧¬c.aT L
theorem AG.keep{c:Cx}{h h':Heap}{env:Env}(k:aE h h')(F:AG c h env):AG c h' env:=by
 refine nV F λa L o b d f y z=>?_;refine lM (k.2 L o d) λo' e' c' j f' j=>?_;exact⟨a,L,o',b,e',λvs q=>f vs ((f' f)▸q),c'.trans y,z⟩
structure aq(c:Cx)(A:Around)(env:Env)(s₀ s:Shared)(m:Str→Option Value):Prop where
 out:∃outer,A.frames=some (env::outer)∧∀en∈outer,AG c s₀.heap en
 frame:env.frame=some env.locals
 kind:env.scope.kind=.function
 bE:env.globals=mainGlobals
 blt:env.builtins=builtinsNs
 new:s₀.heap.get? env.locals=none
 cls:ik s.heap env.locals
 bj:c.G s₀.heap
 nx:Nx c s₀ s
 ns:s.heap.Ns env.locals m
section
variable{c:Cx}{A:Around}{env:Env}{s₀ s s':Shared}{m:Str→Option Value}{E:Value→Shared→Prop}
theorem aq.fr(H9:av c)(H:aq c A env s₀ s m):bI c A s.heap:=by
 refine ah H.out λouter ho hF=>?_;refine⟨_,ho,λen he=>?_⟩;rcases List.mem_cons.mp he with rfl|he
 ·refine cF (id H.ns) λo es ep e hd j=>?_;exact⟨by rw[H.kind];decide,_,o,H.frame,e,λvs q=>(by rw[hd]at q;cases q),H.cls _ e,λz=>by refine ak (H9 _ _ H.bj z) λo' e'=>?_;exact bg H.new e'⟩
 ·exact(hF en he).keep H.nx.keep
theorem ik.keep{h h':Heap}{L:Addr}{m:Str→Option Value}(n:h.Ns L m)(k:aE h h')(C:ik h L):ik h' L:=by
 refine cF n λo es ep e hd j=>?_;refine bS (k.2 _ _ e) λo' e' c' j=>?_;intro o2 e2;cases aD e' e2;exact c'.trans (C _ e)
theorem aq.on(H:aq c A env s₀ s m)(n:Nx c s s'):aq c A env s₀ s' m:=
 ⟨H.out,H.frame,H.kind,H.bE,H.blt,H.new,H.cls.keep H.ns n.keep,H.bj,H.nx.trans n,n.keep.ns H.ns⟩
theorem aq.load{x:Str}{v:Value}{p:Pos}{Q:Value→Shared→Prop}(H:aq c A env s₀ s m)(hl:env.kindOf x=some .local)(hv:m x=some v)(hd:(x==("__debug__":Str))=false)(h:Q v s):wpAny c.M A (eval (.Name x p) env) Q E s:=
 wpAny_Name (wpAny_loadName_local H.kind hl H.ns hv h) hd
theorem aq.glob(H:aq c A env s₀ s m){x:Str}{v:Value}{p:Pos}{Q:Value→Shared→Prop}{mg:Str→Option Value}(hl:env.kindOf x=some .globalImplicit)(hd:(x==("__debug__":Str))=false)(hg:s.heap.Ns mainGlobals mg)(hv:mg x=some v)(h:Q v s):wpAny c.M A (eval (.Name x p) env) Q E s:=
 oN H.kind hl (oO (by rw[H.bE];exact hg) hv h) hd
theorem Nx.but{X:Addr→Prop}(HM:az c)(H9:av c)(bj:c.G s₀.heap)(n:Nx c s₀ s){h':Heap}{tk:Tok}(hX:∀b,X b→s₀.heap.get? b=none)(hk:∀b o,¬X b→s.heap.get? b=some o→h'.get? b=some o)
  (kc:∀b o,X b→s.heap.get? b=some o→∀vs,o.data≠.fields vs):Nx c s₀ {s with heap:=h',toks:=tk}:=by
 refine aO n λh1 t1 YX YY=>?_;subst YX;refine am (λk g=>?_) YY;refine⟨h',tk,rfl,⟨trivial,λb o e=>?_⟩,HM h1 h' (λb o st e=>hk b o (λq=>?_) e) (λb o e hc hv=>⟨o,hk b o (λq=>?_) e,rfl,rfl⟩) g⟩
 ·refine ah (k.2 b o e) λo' e' r=>?_;exact⟨o',hk b o' (λq=>by exact bg (hX b q) e) e',r⟩
 ·refine ak (H9 _ _ bj st) λo' e'=>?_;exact bg (hX b q) e'
 ·refine ak hv λvs hv=>?_;exact kc b o q e vs hv
theorem aq.but{X:Addr→Prop}(HM:az c)(H9:av c)(H:aq c A env s₀ s m){h':Heap}{tk:Tok}(hX:∀b,X b→s₀.heap.get? b=none)(hL:¬X env.locals)(hk:∀b o,¬X b→s.heap.get? b=some o→h'.get? b=some o)
  (kc:∀b o,X b→s.heap.get? b=some o→∀vs,o.data≠.fields vs):aq c A env s₀ {s with heap:=h',toks:=tk} m:=by
 refine bC (id H.ns) λo es ep e r=>?_;refine⟨H.out,H.frame,H.kind,H.bE,H.blt,H.new,λo' e'=>?_,H.bj,H.nx.but HM H9 H.bj hX hk kc,⟨o,es,ep,hk _ _ hL e,r⟩⟩;have:=hk _ _ hL e;cases aD this e';exact H.cls _ e
theorem aq.store(HM:az c)(H9:av c)(H:aq c A env s₀ s m){x:Str}{v:Value}{Q:Unit→Shared→Prop}(hl:env.kindOf x=some .local)
  (hq:∀s',aq c A env s₀ s' (λy=>if y=x then some v else m y)→(∃tk h',s'={s with heap:=h',toks:=tk}∧Heap.SameBut env.locals s.heap h')→Q () s'):wpAny c.M A (storeName env x v) Q E s:=by
 refine tY hl H.ns (λh' g7 hs fS=>hq _ ⟨H.out,H.frame,H.kind,H.bE,H.blt,H.new,λo e=>?_,H.bj,?_,g7⟩ ⟨_,h',rfl,hs⟩) (by rw[H.kind];rfl)
 ·refine bC (id H.ns) λbN es ep e1 j=>?_;exact(fS _ _ e1 e).trans (H.cls _ e1)
 ·refine Nx.but (X:=λb=>b=env.locals) HM H9 H.bj H.nx (λb q=>by rw[q];exact H.new) (λb o q e=>(hs.2 b q).trans e) λb o q e vs hv=>?_;refine cF (id H.ns) λbN es ep e1 hd j=>?_;rw[q,e1]at e;cases au e;rw[hd]at hv;cases hv
end
theorem bR{k:Str→Option NameKind}{ps:List Str}{us:List Value}{i:Nat}{x:Str}{v:Value}(hn:ps.Nodup)(h1:ps[i]?=some x)(h2:us[i]?=some v)(hk:k x=some .local):bindL k (ps.zip us) (λj=>none) x=some v:=xm ps us _ i x v hn h1 h2 hk
section
variable{c:Cx}{P:Params}{A:Around}{s₀ s:Shared}
theorem call_plain(H0:bz c)(H9:av c)(HL:gi c)(st:∀h,c.G h→eS P h){a:Addr}{o:Obj}(F:Cn P a o)(hf:o.isFreed=false){args:List Value}{binds:List (Str×Value)}{R:Result→Shared→Prop}(bj:c.G s₀.heap)(n:Nx c s₀ s)(Dl:bI c A s₀.heap)
  (rm:A.depth<recursionLimit){l:List Addr}(pV:fC P l=true)(hb:∀Z,peek (aC P l) Z (bindArgs (ai P a) ⟨args,[]⟩)=some binds)(fQ:∀b∈binds,(ai P a).scope.names.lookup b.1=some .local)
  (h:∀env an,env.scope=(ai P a).scope→env.locals=s.heap.objs.size→(∀b o,s.heap.get? b=some o→an.heap.get? b=some o)→Nx c s an→aq c (A.deeper env) env s₀ an (bindL env.kindOf binds λj=>none)→
   wpAny c.M (A.deeper env) (execs (bodyOf (ai P a)) env) (λfl s'=>R (.ok (.ret (match fl with|.ret v=>v|_=>.none))) s') (λj j=>False) an):codeAny c.M A (.call (.ref a) ⟨args,[]⟩) R s:=by
 have g:=n.g;refine codeAny_call_function rm ((st _ g).ok _ _ F.at_ hf) F.data F.co F.gen F.body (F.code _ (st _ g)) (kp_binds (cC (st _ g) pV) hb _ _ _ _ ?_);rw[F.wG];refine xy F.kind (λy hy=>.inl (fQ y hy)) λenv bP an x je=>?_;have ay:env.scope=(ai P a).scope:=by rw[bP];rfl
 have hL:env.locals=s.heap.objs.size:=by rw[bP];rfl
 have n1:Nx c s an:=by
  refine eM x.toInCall.same λh₁ lU e=>?_;have k₁:=x.toInCall.keep;rw[e]at k₁⊢;exact Nx.ext H0 g h₁ lU k₁
 have dH:s.heap.get? env.locals=none:=by rw[hL];exact cX (dp _)
 refine ah (id Dl) λmJ jL FF=>?_;have h0:s₀.heap.get? env.locals=none:=by
  cases e:s₀.heap.get? env.locals with
  |none=>rfl
  |some o=>refine ah (n.keep.2 _ _ e) λo' e' j=>?_;exact bg dH e'
 refine⟨HL _ n1.g,codeAny_func (aL (h env an ay hL x.toInCall.keep n1 ⟨⟨mJ,l7 jL,FF⟩,by rw[bP];rfl,by rw[ay];exact F.kind,by rw[bP];exact F.bE,by rw[bP];exact F.blt,h0,je,bj,n.trans n1,x.toInCall.ns⟩) (λj j q=>q) λj j q=>q.elim)⟩
theorem t8(H0:bz c){K:Frag}{C fI:Addr}{rest:List Value}{R:Result→Shared→Prop}(X:K.In s.heap)(g:c.G s.heap)(hm:makesIn K C=true)(hi:findIn K (.ref C) "__init__"=some (some (.ref fI)))(hf:typeIn K (.ref fI)=some (.type "function"))
  (h:∀x dx an,Nx c s an→(∀b o,s.heap.get? b=some o→an.heap.get? b=some o)→aJ an.heap x dx C (λj=>none)→s.heap.get? x=none→s.heap.get? dx=none→
   codeAny c.M (A.under (.builtin "type.__call__" ⟨.ref C::rest,[]⟩)) (.call (.ref fI) ⟨.ref x::rest,[]⟩) (InitBack x R) an):codeAny c.M A (.call (.ref C) ⟨rest,[]⟩) R s:=by
 obtain⟨hh,gg,d,t,os⟩:=s;have k:∀b o,hh.get? b=some o→((hh.push emptyDict).push (instObj C hh.objs.size)).get? b=some o:=λb o e=>bA _ (bA _ e);refine make_core (makes_of X hm) (looks_findIn X hi) (λself=>bind_fn X self hf) (.inl rfl) (h _ hh.objs.size _ (Nx.ext (s:=⟨hh,gg,d,t,os⟩) H0 g _ t k) k ⟨?_,?_,?_⟩ (cX (di _)) (cX (dp _)))
 ·have:=dy (hh.push emptyDict) (o:=instObj C hh.objs.size) rfl;rwa[Heap.size_push]at this
 ·exact bL (oP _)
 ·refine Heap.Ns1.of_empty ⟨emptyDict,#[],_,bA _ (dy _ rfl),rfl,λe he=>absurd he (by simp),λj=>rfl⟩
end
noncomputable def kC:List Addr:=[385,386,421,422,494,495,518,519,561,562,294,419,441,516,545,301,308,322,329,336,343,383,364,449,463,471,552,559]
theorem dQ(P:Params):fC P kC=true:=by kernel_rfl
noncomputable def jV(n:String)(C ns:Addr):ClassData:=⟨.ofString n,[.type "object"],[.ref C,.type "object"],ns,.ofString n,true,[],[],false,none,false⟩
noncomputable def Ku(P:Params)(C fI:Addr)(attrs:List Str):Bool:=makesIn (aC P kC) C&&findIn (aC P kC) (.ref C) "__init__"==some (some (.ref fI))&&typeIn (aC P kC) (.ref fI)==some (.type "function")&&
 findIn (aC P kC) (.ref C) "__setattr__"==some (some (.builtin "object.__setattr__"))&&findIn (aC P kC) (.ref C) "__getattribute__"==some (some (.builtin "object.__getattribute__"))&&findIn (aC P kC) (.ref C) "__getattr__"==some none&&
 attrs.all λa=>takerIn (aC P kC) C a==some none&&findIn (aC P kC) (.ref C) a==some none
structure CK(P:Params)(C fI:Addr)(attrs:List Str)(cd:ClassData):Prop where
 makes:makesIn (aC P kC) C=true
 init:findIn (aC P kC) (.ref C) "__init__"=some (some (.ref fI))
 fn:typeIn (aC P kC) (.ref fI)=some (.type "function")
 store:qI (aC P kC) C cd
 cls:jM (aC P kC) C cd
 eJ:∀a∈attrs,takerIn (aC P kC) C a=some none
 none_:∀a∈attrs,findIn (aC P kC) (.ref C) a=some none
theorem CK.of{P:Params}{C fI:Addr}{attrs:List Str}{cd:ClassData}(h1:clsIn (aC P kC) C=some cd)(hd:cd.hasDict=true)(ho:cd.mro.contains (.type "object")=true)(hp:∀self:Value,refuseLoop self "__setattr__" cd.mro=pure ())(h:Ku P C fI attrs=true):CK P C fI attrs cd:=by
 unfold Ku at h;refine am (λh h7=>?_) (ba h);refine am (λh h6=>?_) (ba h);refine am (λh h5=>?_) (ba h);refine am (λh h4=>?_) (ba h);refine am (λh h3=>?_) (ba h);refine am (λh h2=>?_) (ba h);exact⟨h,eq_of_beq h2,eq_of_beq h3,⟨h1,eq_of_beq h4,hd,ho,hp⟩,⟨h1,hd,eq_of_beq h5,eq_of_beq h6⟩,λa ha=>eq_of_beq (ba (List.all_eq_true.mp h7 a ha)).1,λa ha=>eq_of_beq (ba (List.all_eq_true.mp h7 a ha)).2⟩
noncomputable def ad9:List Str:=["name","entry","spot","owner","is_checked","is_used"]
noncomputable def aScope:List Str:=["outer","owner","rows"]
noncomputable def Ww:List Str:=["path","package","underlying","methods"]
noncomputable def aWorld:List Str:=["packages","named","globals","consts","funcs","bodies","files","scopes","order","starts","settle","want","mentions","measured","values","inits","late_keys","late_parts","late_sizes","is_whole"]
noncomputable def UR:List Str:=["world","package","scope","iota"]
theorem Dm(P:Params):CK P 422 419 ad9 (jV "ScopeRow" 422 421):=.of (by kernel_rfl) rfl (by kernel_rfl) (λj=>by kernel_rfl) (by kernel_rfl)
theorem qB(P:Params):CK P 495 441 aScope (jV "Scope" 495 494):=.of (by kernel_rfl) rfl (by kernel_rfl) (λj=>by kernel_rfl) (by kernel_rfl)
theorem xC(P:Params):CK P 519 516 Ww (jV "NamedRow" 519 518):=.of (by kernel_rfl) rfl (by kernel_rfl) (λj=>by kernel_rfl) (by kernel_rfl)
theorem j1(P:Params):CK P 562 545 aWorld (jV "World" 562 561):=.of (by kernel_rfl) rfl (by kernel_rfl) (λj=>by kernel_rfl) (by kernel_rfl)
theorem qw(P:Params):CK P 386 294 UR (jV "ConstReader" 386 385):=.of (by kernel_rfl) rfl (by kernel_rfl) (λj=>by kernel_rfl) (by kernel_rfl)
structure pp(c:Cx)(K:Frag)(C:Addr)(cd:ClassData)(s₀:Shared)(env:Env)(m:Str→Option Value)(x dx:Addr):Prop where
 HM:az c
 H9:av c
 S:qI K C cd
 st:∀h,c.G h→K.In h
 kind:env.kindOf "self"=some .local
 self:m "self"=some (.ref x)
 x0:s₀.heap.get? x=none
 d0:s₀.heap.get? dx=none
 xL:x≠env.locals
 dL:dx≠env.locals
abbrev upd(m:Str→Option Value)(n:Str)(v:Value):Str→Option Value:=λy=>if y=n then some v else m y
def Kb(x dx:Addr)(h h':Heap):Prop:=∀b o,b≠x→b≠dx→h.get? b=some o→h'.get? b=some o
theorem Kb.refl{x dx:Addr}{h:Heap}:Kb x dx h h:=λj j j j e=>e
theorem Kb.trans{x dx:Addr}{h h' OT:Heap}(a:Kb x dx h h')(b:Kb x dx h' OT):Kb x dx h OT:=λc o e1 e2 e=>b c o e1 e2 (a c o e1 e2 e)
theorem aJ.Wx{h h':Heap}{x dx C:Addr}{mi lh:Str→Option Value}(I:aJ h x dx C mi)(I':h'.Inst x C lh)
  (hx:∀bV,h.get? x=some bV→∃bN,h'.get? x=some bN∧bN.cls=bV.cls∧bN.data=bV.data∧bN.slots=bV.slots∧(∀dx,bV.dict=some dx→bN.dict=some dx)∧(bV.dict=none→bN.dict=some h.objs.size)):aJ h' x dx C lh:=by
 refine eV (hx _ I.1) λbN e1 a1 a2 a3 a4 j=>?_;replace a4:=a4 dx rfl;obtain⟨b1,b2,b3,b4⟩:=bN;dsimp only at a1 a2 a3 a4;subst a1 a2 a3 a4;refine⟨e1,I.2.1,?_⟩;refine jv I' λo g1 g2 g3 g4=>?_;cases aD e1 g1;rcases g4 with⟨z,_⟩|⟨d,z1,z2,z3⟩
 ·cases z
 ·cases z1;exact z3
section
variable{c:Cx}{K:Frag}{C:Addr}{cd:ClassData}{A:Around}{s₀ s:Shared}{env:Env}{m mi:Str→Option Value}{x dx:Addr}{E:Value→Shared→Prop}
theorem cY(T:pp c K C cd s₀ env m x dx){attr:Str}{e:Expr}{p1 p2 pos:Pos}{rest:List Stmt}{Q:Flow→Shared→Prop}{ns:List Str}(ht:takerIn K C attr=some none)(hw:Within mi ns)(hz:ns.length≤1000)
  (ji:swapsWith e (some (.Attribute (.Name "self" p1) attr p2)) pos.line env=pure false)
  (he:wpAny c.M A (eval e env) (λv s1=>aq c A env s₀ s1 m∧aJ s1.heap x dx C mi∧∀s2,aq c A env s₀ s2 m→aJ s2.heap x dx C (upd mi attr v)→Kb x dx s1.heap s2.heap→wpAny c.M A (execs rest env) Q E s2) E s):
  wpAny c.M A (execs (.Assign [.Attribute (.Name "self" p1) attr p2] e pos::rest) env) Q E s:=by
 refine aI (plainObj_wpAny_Assign_Attribute (aL he (λv s1 ⟨H,I,k⟩=>?_) λj j q=>q) ji);refine H.load T.kind T.self rfl ?_;refine B5 T.S (T.st _ H.nx.g) ht I.inst hw hz λh' tk I' hk kX=>?_;have AH:∀b o,¬(b=x∨b=dx)→s1.heap.get? b=some o→h'.get? b=some o:=λb o hb e=>hk b o (λq=>hb (.inl q)) (λbV d e0 e1 q=>by cases aD I.1 e0;cases e1;exact hb (.inr q)) e;refine k _ (H.but (X:=λb=>b=x∨b=dx) T.HM T.H9 (λb hb=>?_) (λhb=>?_) AH λb o hb e vs hv=>?_) (I.Wx I' kX) λb o h1 h2 e=>AH b o (λq=>q.elim h1 h2) e
 ·rcases hb with rfl|rfl
  ·exact T.x0
  ·exact T.d0
 ·rcases hb with hb|hb
  ·exact T.xL hb.symm
  ·exact T.dL hb.symm
 ·rcases hb with rfl|rfl
  ·cases aD I.1 e;cases hv
  ·refine cF I.2.2 λo' es ep e' hd j=>?_;cases aD e' e;rw[hd]at hv;cases hv
end
theorem yx{prog:Program}{w:PySem.World}{h:Heap}{d:Addr}(e:h.get? d=some emptyDict):h.DictOf (strKind prog w) d []:=⟨_,#[],_,e,⟨rfl,rfl,rfl⟩,rfl,(λe he=>by simp at he),.nil,.nil⟩
theorem fresh_ne{h:Heap}{a:Addr}{o:Obj}(e:h.get? a=some o):a≠h.objs.size:=bL (cA e)
theorem YZ(P:Params):dY P 419=true:=by kernel_rfl
theorem Y0(P:Params):bodyOf (ai P 419)=[(.Assign [(.Attribute (.Name "self" (aa 419 8 12)) "name" (aa 419 8 17))] (.Name "name" (aa 419 20 24)) (aa 419 8 24)),(.Assign [(.Attribute (.Name "self" (aa 420 8 12)) "entry" (aa 420 8 18))] (.Name "entry" (aa 420 21 26)) (aa 420 8 26)),(.Assign [(.Attribute (.Name "self" (aa 421 8 12)) "spot" (aa 421 8 17))] (.Name "spot" (aa 421 20 24)) (aa 421 8 24)),(.Assign [(.Attribute (.Name "self" (aa 422 8 12)) "owner" (aa 422 8 18))] (.Name "owner" (aa 422 21 26)) (aa 422 8 26)),(.Assign [(.Attribute (.Name "self" (aa 423 8 12)) "is_checked" (aa 423 8 23))] (.Name "is_checked" (aa 423 26 36)) (aa 423 8 36)),(.Assign [(.Attribute (.Name "self" (aa 424 8 12)) "is_used" (aa 424 8 20))] (.Constant (.bool false) 0 (aa 424 23 28)) (aa 424 8 28))]:=by kernel_rfl
theorem LH(P:Params):fj P 419 ["self","name","entry","spot","owner","is_checked"]=true:=by kernel_rfl
theorem Y2(P:Params):fC P []=true:=by kernel_rfl
theorem Y3(P:Params)(x iR ic iS iM iJ:Value)(Z:Setting):peek (aC P []) Z (bindArgs (ai P 419) ⟨[x,iR,ic,iS,iM,iJ],[]⟩)=some ((["self","name","entry","spot","owner","is_checked"]:List Str).zip [x,iR,ic,iS,iM,iJ]):=by kernel_rfl
theorem Y4{c:Cx}{P:Params}{A:Around}{s:Shared}{R:Result→Shared→Prop}(S:aN c P)(HM:az c)(H9:av c){iR ic iS iM iJ:Value}(g:c.G s.heap)(fr:bI c A s.heap)(rm:A.depth+1<recursionLimit)
  (hq:∀x dx mi s',Nx c s s'→s.heap.get? x=none→s.heap.get? dx=none→aJ s'.heap x dx 422 mi→mi "entry"=some (ic)→Within mi ["is_used","is_checked","owner","spot","entry","name"]→R (.ok (.ret (.ref x))) s'):codeAny c.M A (.call (.ref 422) ⟨[iR,ic,iS,iM,iJ],[]⟩) R s:=by
 have bv:=Dm P;refine t8 HM.push (cC (S.st _ g) (dQ P)) g bv.makes bv.init bv.fn λx dx an n1 k1 I hx hd=>?_;refine ah (cI (YZ P)) λo F hf=>?_;refine call_plain HM.push H9 (eI S) S.st F hf (s₀:=s) g n1 fr (by rw[depth_under_make];exact rm) (Y2 P) (Y3 P (.ref x) iR ic iS iM iJ) (λb hb=>bQ (LH P) (fP (a:=b.1) (b:=b.2) hb).1) λenv s2 ay hL k2 n2 H2=>?_;have kd:∀y,y∈(["self","name","entry","spot","owner","is_checked"]:List Str)→env.kindOf y=some .local:=λy hy=>by show env.scope.names.lookup y=_;rw[ay];exact bQ (LH P) hy
 have j9:=bR (ps:=["self","name","entry","spot","owner","is_checked"]) (us:=[.ref x,iR,ic,iS,iM,iJ]) (i:=0) (x:="self") (aR (by kernel_rfl)) rfl rfl (kd _ (al 0));have Wy:=bR (ps:=["self","name","entry","spot","owner","is_checked"]) (us:=[.ref x,iR,ic,iS,iM,iJ]) (i:=1) (x:="name") (aR (by kernel_rfl)) rfl rfl (kd _ (al 1));have US:=bR (ps:=["self","name","entry","spot","owner","is_checked"]) (us:=[.ref x,iR,ic,iS,iM,iJ]) (i:=2) (x:="entry") (aR (by kernel_rfl)) rfl rfl (kd _ (al 2));have Wz:=bR (ps:=["self","name","entry","spot","owner","is_checked"]) (us:=[.ref x,iR,ic,iS,iM,iJ]) (i:=3) (x:="spot") (aR (by kernel_rfl)) rfl rfl (kd _ (al 3));have Cp:=bR (ps:=["self","name","entry","spot","owner","is_checked"]) (us:=[.ref x,iR,ic,iS,iM,iJ]) (i:=4) (x:="owner") (aR (by kernel_rfl)) rfl rfl (kd _ (al 4));have QU:=bR (ps:=["self","name","entry","spot","owner","is_checked"]) (us:=[.ref x,iR,ic,iS,iM,iJ]) (i:=5) (x:="is_checked") (aR (by kernel_rfl)) rfl rfl (kd _ (al 5));have T:pp c (aC P kC) 422 (jV "ScopeRow" 422 421) s env _ x dx:=⟨HM,H9,bv.store,λh gh=>cC (S.st _ gh) (dQ P),kd _ (al 0),j9,hx,hd,by rw[hL];exact fresh_ne I.1,by rw[hL];refine bC I.2.2 λo es ep e z=>?_;exact fresh_ne e⟩;have I2:=I.ext (k2 _) (k2 _);rw[Y0 P];refine cY T (bv.eJ _ (al 0)) (cP) aX rfl (H2.load (kd _ (al 1)) Wy rfl ⟨H2,I2,λs3 H3 I3 k3=>?_⟩);refine cY T (bv.eJ _ (al 1)) (aW _ _ (cP)) aX rfl (H3.load (kd _ (al 2)) US rfl ⟨H3,I3,λs4 H4 I4 k4=>?_⟩);refine cY T (bv.eJ _ (al 2)) (aW _ _ (aW _ _ (cP))) aX rfl (H4.load (kd _ (al 3)) Wz rfl ⟨H4,I4,λs5 H5 I5 k5=>?_⟩);refine cY T (bv.eJ _ (al 3)) (aW _ _ (aW _ _ (aW _ _ (cP)))) aX rfl (H5.load (kd _ (al 4)) Cp rfl ⟨H5,I5,λs6 H6 I6 k6=>?_⟩);refine cY T (bv.eJ _ (al 4)) (aW _ _ (aW _ _ (aW _ _ (aW _ _ (cP))))) aX rfl (H6.load (kd _ (al 5)) QU rfl ⟨H6,I6,λs7 H7 I7 k7=>?_⟩);refine cY T (bv.eJ _ (al 5)) (aW _ _ (aW _ _ (aW _ _ (aW _ _ (aW _ _ (cP)))))) aX rfl (rg ⟨H7,I7,λs8 H8 I8 k8=>?_⟩);refine cz ⟨rfl,hq x dx _ _ H8.nx hx hd I8 (by kernel_rfl) (aW _ _ (aW _ _ (aW _ _ (aW _ _ (aW _ _ (aW _ _ (cP)))))))⟩
theorem Y5(P:Params):dY P 441=true:=by kernel_rfl
theorem Y6(P:Params):bodyOf (ai P 441)=[(.Assign [(.Attribute (.Name "self" (aa 428 8 12)) "outer" (aa 428 8 18))] (.Name "outer" (aa 428 21 26)) (aa 428 8 26)),(.Assign [(.Attribute (.Name "self" (aa 429 8 12)) "owner" (aa 429 8 18))] (.Name "owner" (aa 429 21 26)) (aa 429 8 26)),(.Assign [(.Attribute (.Name "self" (aa 430 8 12)) "rows" (aa 430 8 17))] (.Dict [] [] (aa 430 20 22)) (aa 430 8 22))]:=by kernel_rfl
theorem LI(P:Params):fj P 441 ["self","outer","owner"]=true:=by kernel_rfl
theorem Y7(P:Params):fC P [434]=true:=by kernel_rfl
theorem Y8(P:Params)(x j2:Value)(Z:Setting):peek (aC P [434]) Z (bindArgs (ai P 441) ⟨[x,j2],[]⟩)=some ((["self","outer","owner"]:List Str).zip [x,j2,.none]):=by kernel_rfl
theorem UT{c:Cx}{P:Params}{A:Around}{s:Shared}{R:Result→Shared→Prop}(S:aN c P)(HM:az c)(H9:av c){j2:Value}(g:c.G s.heap)(fr:bI c A s.heap)(rm:A.depth+1<recursionLimit)
  (hq:∀x dx mi (uo:Addr) s',Nx c s s'→s.heap.get? x=none→s.heap.get? dx=none→aJ s'.heap x dx 495 mi→mi "rows"=some (.ref uo)∧s'.heap.get? uo=some emptyDict∧uo≠x∧uo≠dx∧s.heap.get? uo=none→mi "outer"=some (j2)→mi "owner"=some (.none)→Within mi ["rows","owner","outer"]→R (.ok (.ret (.ref x))) s'):codeAny c.M A (.call (.ref 495) ⟨[j2],[]⟩) R s:=by
 have bv:=qB P;refine t8 HM.push (cC (S.st _ g) (dQ P)) g bv.makes bv.init bv.fn λx dx an n1 k1 I hx hd=>?_;refine ah (cI (Y5 P)) λo F hf=>?_;refine call_plain HM.push H9 (eI S) S.st F hf (s₀:=s) g n1 fr (by rw[depth_under_make];exact rm) (Y7 P) (Y8 P (.ref x) j2) (λb hb=>bQ (LI P) (fP (a:=b.1) (b:=b.2) hb).1) λenv s2 ay hL k2 n2 H2=>?_;have kd:∀y,y∈(["self","outer","owner"]:List Str)→env.kindOf y=some .local:=λy hy=>by show env.scope.names.lookup y=_;rw[ay];exact bQ (LI P) hy
 have j9:=bR (ps:=["self","outer","owner"]) (us:=[.ref x,j2,.none]) (i:=0) (x:="self") (aR (by kernel_rfl)) rfl rfl (kd _ (al 0));have UU:=bR (ps:=["self","outer","owner"]) (us:=[.ref x,j2,.none]) (i:=1) (x:="outer") (aR (by kernel_rfl)) rfl rfl (kd _ (al 1));have Cp:=bR (ps:=["self","outer","owner"]) (us:=[.ref x,j2,.none]) (i:=2) (x:="owner") (aR (by kernel_rfl)) rfl rfl (kd _ (al 2));have T:pp c (aC P kC) 495 (jV "Scope" 495 494) s env _ x dx:=⟨HM,H9,bv.store,λh gh=>cC (S.st _ gh) (dQ P),kd _ (al 0),j9,hx,hd,by rw[hL];exact fresh_ne I.1,by rw[hL];refine bC I.2.2 λo es ep e z=>?_;exact fresh_ne e⟩;have I2:=I.ext (k2 _) (k2 _);rw[Y6 P];refine cY T (bv.eJ _ (al 0)) (cP) aX rfl (H2.load (kd _ (al 1)) UU rfl ⟨H2,I2,λs3 H3 I3 k3=>?_⟩);refine cY T (bv.eJ _ (al 1)) (aW _ _ (cP)) aX rfl (H3.load (kd _ (al 2)) Cp rfl ⟨H3,I3,λs4 H4 I4 k4=>?_⟩);have na:=Nx.push HM.push H4.nx.g emptyDict s4.toks;have d4:=fresh_ne I4.1;have e4:=fresh_ne (I4.2.2.choose_spec.choose_spec.choose_spec.1);have z4:s.heap.get? s4.heap.objs.size=none:=by
  cases e:s.heap.get? s4.heap.objs.size with
  |none=>rfl
  |some ob=>refine ah (H4.nx.keep.2 _ _ e) λo2 q z=>?_;exact absurd (cA q) (Nat.lt_irrefl _)
 refine cY T (bv.eJ _ (al 2)) (aW _ _ (aW _ _ (cP))) aX rfl (wpAny_Dict_empty ⟨H4.on na,I4.keep na.keep,λs5 H5 I5 k5=>?_⟩);have y5:s5.heap.get? s4.heap.objs.size=some emptyDict:=k5 _ _ (bi d4) (bi e4) (dy _ rfl);refine cz ⟨rfl,hq x dx _ s4.heap.objs.size _ H5.nx hx hd I5 ⟨by kernel_rfl,y5,bi d4,bi e4,z4⟩ (by kernel_rfl) (by kernel_rfl) (aW _ _ (aW _ _ (aW _ _ (cP))))⟩
theorem Y9(P:Params):dY P 516=true:=by kernel_rfl
theorem Za(P:Params):bodyOf (ai P 516)=[(.Assign [(.Attribute (.Name "self" (aa 469 8 12)) "path" (aa 469 8 17))] (.Name "path" (aa 469 20 24)) (aa 469 8 24)),(.Assign [(.Attribute (.Name "self" (aa 470 8 12)) "package" (aa 470 8 20))] (.Name "package" (aa 470 23 30)) (aa 470 8 30)),(.Assign [(.Attribute (.Name "self" (aa 471 8 12)) "underlying" (aa 471 8 23))] (.Name "underlying" (aa 471 26 36)) (aa 471 8 36)),(.Assign [(.Attribute (.Name "self" (aa 472 8 12)) "methods" (aa 472 8 20))] (.Name "methods" (aa 472 23 30)) (aa 472 8 30))]:=by kernel_rfl
theorem LJ(P:Params):fj P 516 ["self","path","package","underlying","methods"]=true:=by kernel_rfl
theorem Zb(P:Params):fC P []=true:=by kernel_rfl
theorem Zc(P:Params)(x jt dD iK jn:Value)(Z:Setting):peek (aC P []) Z (bindArgs (ai P 516) ⟨[x,jt,dD,iK,jn],[]⟩)=some ((["self","path","package","underlying","methods"]:List Str).zip [x,jt,dD,iK,jn]):=by kernel_rfl
theorem mkNamed{c:Cx}{P:Params}{A:Around}{s:Shared}{R:Result→Shared→Prop}(S:aN c P)(HM:az c)(H9:av c){jt dD iK jn:Value}(g:c.G s.heap)(fr:bI c A s.heap)(rm:A.depth+1<recursionLimit)
  (hq:∀x dx mi s',Nx c s s'→s.heap.get? x=none→s.heap.get? dx=none→aJ s'.heap x dx 519 mi→mi "underlying"=some (iK)→Within mi ["methods","underlying","package","path"]→R (.ok (.ret (.ref x))) s'):codeAny c.M A (.call (.ref 519) ⟨[jt,dD,iK,jn],[]⟩) R s:=by
 have bv:=xC P;refine t8 HM.push (cC (S.st _ g) (dQ P)) g bv.makes bv.init bv.fn λx dx an n1 k1 I hx hd=>?_;refine ah (cI (Y9 P)) λo F hf=>?_;refine call_plain HM.push H9 (eI S) S.st F hf (s₀:=s) g n1 fr (by rw[depth_under_make];exact rm) (Zb P) (Zc P (.ref x) jt dD iK jn) (λb hb=>bQ (LJ P) (fP (a:=b.1) (b:=b.2) hb).1) λenv s2 ay hL k2 n2 H2=>?_;have kd:∀y,y∈(["self","path","package","underlying","methods"]:List Str)→env.kindOf y=some .local:=λy hy=>by show env.scope.names.lookup y=_;rw[ay];exact bQ (LJ P) hy
 have j9:=bR (ps:=["self","path","package","underlying","methods"]) (us:=[.ref x,jt,dD,iK,jn]) (i:=0) (x:="self") (aR (by kernel_rfl)) rfl rfl (kd _ (al 0));have WB:=bR (ps:=["self","path","package","underlying","methods"]) (us:=[.ref x,jt,dD,iK,jn]) (i:=1) (x:="path") (aR (by kernel_rfl)) rfl rfl (kd _ (al 1));have BI:=bR (ps:=["self","path","package","underlying","methods"]) (us:=[.ref x,jt,dD,iK,jn]) (i:=2) (x:="package") (aR (by kernel_rfl)) rfl rfl (kd _ (al 2));have QV:=bR (ps:=["self","path","package","underlying","methods"]) (us:=[.ref x,jt,dD,iK,jn]) (i:=3) (x:="underlying") (aR (by kernel_rfl)) rfl rfl (kd _ (al 3));have Sf:=bR (ps:=["self","path","package","underlying","methods"]) (us:=[.ref x,jt,dD,iK,jn]) (i:=4) (x:="methods") (aR (by kernel_rfl)) rfl rfl (kd _ (al 4));have T:pp c (aC P kC) 519 (jV "NamedRow" 519 518) s env _ x dx:=⟨HM,H9,bv.store,λh gh=>cC (S.st _ gh) (dQ P),kd _ (al 0),j9,hx,hd,by rw[hL];exact fresh_ne I.1,by rw[hL];refine bC I.2.2 λo es ep e z=>?_;exact fresh_ne e⟩;have I2:=I.ext (k2 _) (k2 _);rw[Za P];refine cY T (bv.eJ _ (al 0)) (cP) aX rfl (H2.load (kd _ (al 1)) WB rfl ⟨H2,I2,λs3 H3 I3 k3=>?_⟩);refine cY T (bv.eJ _ (al 1)) (aW _ _ (cP)) aX rfl (H3.load (kd _ (al 2)) BI rfl ⟨H3,I3,λs4 H4 I4 k4=>?_⟩);refine cY T (bv.eJ _ (al 2)) (aW _ _ (aW _ _ (cP))) aX rfl (H4.load (kd _ (al 3)) QV rfl ⟨H4,I4,λs5 H5 I5 k5=>?_⟩);refine cY T (bv.eJ _ (al 3)) (aW _ _ (aW _ _ (aW _ _ (cP)))) aX rfl (H5.load (kd _ (al 4)) Sf rfl ⟨H5,I5,λs6 H6 I6 k6=>?_⟩);refine cz ⟨rfl,hq x dx _ _ H6.nx hx hd I6 (by kernel_rfl) (aW _ _ (aW _ _ (aW _ _ (aW _ _ (cP)))))⟩
theorem Zd(P:Params):dY P 294=true:=by kernel_rfl
theorem Ze(P:Params):bodyOf (ai P 294)=[(.Assign [(.Attribute (.Name "self" (aa 264 8 12)) "world" (aa 264 8 18))] (.Name "world" (aa 264 21 26)) (aa 264 8 26)),(.Assign [(.Attribute (.Name "self" (aa 265 8 12)) "package" (aa 265 8 20))] (.Name "package" (aa 265 23 30)) (aa 265 8 30)),(.Assign [(.Attribute (.Name "self" (aa 266 8 12)) "scope" (aa 266 8 18))] (.Name "scope" (aa 266 21 26)) (aa 266 8 26)),(.Assign [(.Attribute (.Name "self" (aa 267 8 12)) "iota" (aa 267 8 17))] (.Name "iota" (aa 267 20 24)) (aa 267 8 24))]:=by kernel_rfl
theorem LK(P:Params):fj P 294 ["self","world","package","scope","iota"]=true:=by kernel_rfl
theorem Zf(P:Params):fC P []=true:=by kernel_rfl
theorem Zg(P:Params)(x iN dD iO iT:Value)(Z:Setting):peek (aC P []) Z (bindArgs (ai P 294) ⟨[x,iN,dD,iO,iT],[]⟩)=some ((["self","world","package","scope","iota"]:List Str).zip [x,iN,dD,iO,iT]):=by kernel_rfl
theorem Tz{c:Cx}{P:Params}{A:Around}{s:Shared}{R:Result→Shared→Prop}(S:aN c P)(HM:az c)(H9:av c){iN dD iO iT:Value}(g:c.G s.heap)(fr:bI c A s.heap)(rm:A.depth+1<recursionLimit)
  (hq:∀x dx mi s',Nx c s s'→s.heap.get? x=none→s.heap.get? dx=none→aJ s'.heap x dx 386 mi→mi "world"=some (iN)→mi "scope"=some (iO)→mi "iota"=some (iT)→mi "package"=some (dD)→Within mi ["iota","scope","package","world"]→R (.ok (.ret (.ref x))) s'):codeAny c.M A (.call (.ref 386) ⟨[iN,dD,iO,iT],[]⟩) R s:=by
 have bv:=qw P;refine t8 HM.push (cC (S.st _ g) (dQ P)) g bv.makes bv.init bv.fn λx dx an n1 k1 I hx hd=>?_;refine ah (cI (Zd P)) λo F hf=>?_;refine call_plain HM.push H9 (eI S) S.st F hf (s₀:=s) g n1 fr (by rw[depth_under_make];exact rm) (Zf P) (Zg P (.ref x) iN dD iO iT) (λb hb=>bQ (LK P) (fP (a:=b.1) (b:=b.2) hb).1) λenv s2 ay hL k2 n2 H2=>?_;have kd:∀y,y∈(["self","world","package","scope","iota"]:List Str)→env.kindOf y=some .local:=λy hy=>by show env.scope.names.lookup y=_;rw[ay];exact bQ (LK P) hy
 have j9:=bR (ps:=["self","world","package","scope","iota"]) (us:=[.ref x,iN,dD,iO,iT]) (i:=0) (x:="self") (aR (by kernel_rfl)) rfl rfl (kd _ (al 0));have UV:=bR (ps:=["self","world","package","scope","iota"]) (us:=[.ref x,iN,dD,iO,iT]) (i:=1) (x:="world") (aR (by kernel_rfl)) rfl rfl (kd _ (al 1));have BI:=bR (ps:=["self","world","package","scope","iota"]) (us:=[.ref x,iN,dD,iO,iT]) (i:=2) (x:="package") (aR (by kernel_rfl)) rfl rfl (kd _ (al 2));have UW:=bR (ps:=["self","world","package","scope","iota"]) (us:=[.ref x,iN,dD,iO,iT]) (i:=3) (x:="scope") (aR (by kernel_rfl)) rfl rfl (kd _ (al 3));have WC:=bR (ps:=["self","world","package","scope","iota"]) (us:=[.ref x,iN,dD,iO,iT]) (i:=4) (x:="iota") (aR (by kernel_rfl)) rfl rfl (kd _ (al 4));have T:pp c (aC P kC) 386 (jV "ConstReader" 386 385) s env _ x dx:=⟨HM,H9,bv.store,λh gh=>cC (S.st _ gh) (dQ P),kd _ (al 0),j9,hx,hd,by rw[hL];exact fresh_ne I.1,by rw[hL];refine bC I.2.2 λo es ep e z=>?_;exact fresh_ne e⟩;have I2:=I.ext (k2 _) (k2 _);rw[Ze P];refine cY T (bv.eJ _ (al 0)) (cP) aX rfl (H2.load (kd _ (al 1)) UV rfl ⟨H2,I2,λs3 H3 I3 k3=>?_⟩);refine cY T (bv.eJ _ (al 1)) (aW _ _ (cP)) aX rfl (H3.load (kd _ (al 2)) BI rfl ⟨H3,I3,λs4 H4 I4 k4=>?_⟩);refine cY T (bv.eJ _ (al 2)) (aW _ _ (aW _ _ (cP))) aX rfl (H4.load (kd _ (al 3)) UW rfl ⟨H4,I4,λs5 H5 I5 k5=>?_⟩);refine cY T (bv.eJ _ (al 3)) (aW _ _ (aW _ _ (aW _ _ (cP)))) aX rfl (H5.load (kd _ (al 4)) WC rfl ⟨H5,I5,λs6 H6 I6 k6=>?_⟩);refine cz ⟨rfl,hq x dx _ _ H6.nx hx hd I6 (by kernel_rfl) (by kernel_rfl) (by kernel_rfl) (by kernel_rfl) (aW _ _ (aW _ _ (aW _ _ (aW _ _ (cP)))))⟩
set_option tactic.hygienic true
noncomputable def cQ(x:Const):Bool:=by cases x with|none=>exact true|bool _=>exact true|int _=>exact true|str _=>exact true|_=>exact false
noncomputable def cS(x:Const):Bool:=by cases x with|str _=>exact true|_=>exact false
noncomputable def eC(f:Const→Bool)(e:Expr):Bool:=by cases e with|Constant x _ _=>exact f x|_=>exact false
@[elab_as_elim] theorem Zh{f:Const→Bool}{e:Expr}{G:Expr→Prop}(h:eC f e=true)(k:∀x n q,f x=true→G (.Constant x n q)):G e:=by cases e with|Constant x n q=>exact k x n q h|_=>exact aw h
@[elab_as_elim] theorem Zi{x:Const}{G:Const→Prop}(h:cS x=true)(k:∀s,G (.str s)):G x:=by cases x with|str s=>exact k s|_=>exact aw h
noncomputable def Kv(e:Option Expr):Bool:=by cases e with|some e=>exact eC cS e|none=>exact false
noncomputable def cL(k:Str→Bool)(n:Nat):Expr→Bool:=@Nat.rec (λ_=>Expr→Bool) (λ_=>false) (λn ih e=>by
 cases e with
 |Constant c _ _=>exact cQ c
 |Name x _=>exact k x
 |Tuple l _ _=>exact decide (l.length≤1000)&&l.all ih
 |Dict ks vs _=>exact(ks.isEmpty&&vs.isEmpty)||(!ks.isEmpty&&Nat.beq ks.length vs.length&&decide (ks.length≤15)&&ks.all Kv&&vs.all ih)
 |_=>exact false) n
section
variable{c:Cx}{A:Around}{env:Env}{s₀ s:Shared}{m:Str→Option Value}{E:Value→Shared→Prop}{k:Str→Bool}
theorem nS{k:Str→Bool}{n:Nat}{e:Expr}{rest:List Expr}(h:cL k n e=true):starEach (e::rest) env=(false,eval e env)::starEach rest env:=by
 cases n with
 |zero=>cases h
 |succ n=>cases e<;>first|rfl|cases h
theorem BB{n:Nat}{pos:Pos}(ih:∀e s,cL k n e=true→aq c A env s₀ s m→wpAny c.M A (eval e env) (λv s'=>Nx c s s') E s):
  ∀(l:List Expr) (s:Shared),l.all (cL k n)=true→aq c A env s₀ s m→wpAny c.M A (spliced (backTo pos (starEach l env))) (λvs s'=>vs.length=l.length∧Nx c s s') E s
 |[],s,h,H=>ce ⟨rfl,Nx.refl H.nx.g⟩
 |e::l,s,h,H=>by
  rw[List.all_cons]at h;refine am (λh1 h2=>?_) (ba h);rw[nS h1];refine aV (aL (ih e s h1 H) (λv s1 n1=>?_) λz z q=>q);exact aL (BB ih l s1 h2 (H.on n1)) (λvs s2 ⟨a,b⟩=>⟨bp Nat.succ a,n1.trans b⟩) λz z q=>q
theorem Hy{n:Nat}{pos:Pos}(ih:∀e s,cL k n e=true→aq c A env s₀ s m→wpAny c.M A (eval e env) (λv s'=>Nx c s s') E s):
  ∀(ks:List (Option Expr)) (l:List Expr) (s:Shared),ks.length=l.length→ks.all Kv=true→l.all (cL k n)=true→aq c A env s₀ s m→wpAny c.M A (evalPairs (pairTrees ks l env pos)) (λr s'=>(∃bq,Carries (strKind c.prog c.w) r bq)∧Nx c s s') E s
 |[],[],s,_,_,_,H=>pairTrees_nil_walk ⟨⟨[],trivial⟩,Nx.refl H.nx.g⟩
 |ko::ks,e::l,s,hl,h,h',H=>by
  rw[List.all_cons]at h h';refine am (λh1 h2=>?_) (ba h);refine am (λh3 h4=>?_) (ba h');cases ko with
  |none=>exact aw h1
  |some e1=>
   refine Zh h1 λx n' q h1=>?_;refine Zi h1 λu=>?_;refine pairTrees_cons_walk (l0 ?_);have nt:=Nx.tok H.nx.g (s.toks+1);refine aL (ih e _ h3 (H.on nt)) (λv s1 n1=>?_) λz z q=>q;refine aL (Hy ih ks l s1 (by simpa using hl) h2 h4 (H.on (nt.trans n1))) (λr s2 ⟨⟨bq,a⟩,b⟩=>?_) λz z q=>q;exact⟨⟨(_,v)::bq,eK _ _ _ _,rfl,a⟩,(nt.trans n1).trans b⟩
 |[],_::_,_,hl,_,_,_=>by cases hl
 |_::_,[],_,hl,_,_,_=>by cases hl
theorem Ja{d:Addr}{s1:Shared}{h':Heap}{t:Nat}(H0:bz c)(HM:az c)(H9:av c)(g:c.G s.heap)(hd:d=s.heap.objs.size)(n1:Nx c {s with heap:=s.heap.push {cls:=.type "dict",data:=.dict #[]}} s1)(hs:Heap.SameBut d s1.heap h'):Nx c s {s1 with heap:=h',toks:=t}:=by
 have n0:Nx c s {s with heap:=s.heap.push {cls:=.type "dict",data:=.dict #[]}}:=Nx.ext H0 g _ s.toks λb o e=>bA _ e;have e1:s1.heap.get? d=some emptyDict:=cx n1.keep (by rw[hd];exact dy _ rfl) (λvs q=>by cases q) (by intro q;have:=iv q;exact absurd this (by decide));refine Nx.but (X:=λb=>b=d) HM H9 g (n0.trans n1) (λb q=>by rw[q,hd];exact cX (dp _)) (λb o q e=>(hs.2 b q).trans e) λb o q e vs hv=>?_;rw[q,e1]at e;cases au e;cases hv
theorem qx(H0:bz c)(HM:az c)(H9:av c)(hk:∀x p s Q,k x=true→aq c A env s₀ s m→(∀v,Q v s)→wpAny c.M A (eval (.Name x p) env) Q E s):
  ∀(n:Nat) (e:Expr) (s:Shared),cL k n e=true→aq c A env s₀ s m→wpAny c.M A (eval e env) (λv s'=>Nx c s s') E s
 |0,_,_,h,_=>by cases h
 |n+1,e,s,h,H=>by
  have ih:=qx H0 HM H9 hk n;have g:=H.nx.g;cases e with
  |Constant x u p=>cases x with
   |none=>exact lZ (Nx.refl g)
   |bool _=>exact rg (Nx.refl g)
   |int _=>exact iu (Nx.tok g _)
   |str _=>exact l0 (Nx.tok g _)
   |_=>exact aw h
  |Name x p=>exact hk _ _ s _ h H λv=>Nx.refl g
  |Tuple l x p=>
   refine am (λh1 h2=>?_) (ba h);refine wpAny_Tuple (aL (BB ih _ s h2 H) (λvs s1 ⟨a,n1⟩=>⟨?_,n1.trans (Nx.push H0 n1.g _ _)⟩) λz z q=>q);have:=aR h1;rw[a,sizeLine_eq];omega
  |Dict ks vs pos=>
   rcases Bool.or_eq_true_iff.mp h with h|h
   ·refine am (λh1 h2=>?_) (ba h);obtain rfl:=List.isEmpty_iff.mp h1;obtain rfl:=List.isEmpty_iff.mp h2;exact wpAny_Dict_empty (Nx.push H0 g _ _)
   ·refine am (λh h5=>?_) (ba h);refine am (λh h4=>?_) (ba h);refine am (λh h3=>?_) (ba h);refine am (λh1 h2=>?_) (ba h);have Dg:ks.all (·.isSome)=true:=by
     rw[List.all_eq_true]at h4⊢;intro x hx;have:=h4 x hx;cases x with
     |none=>cases this
     |some _=>rfl
    have n0:Nx c s {s with heap:=s.heap.push {cls:=.type "dict",data:=.dict #[]}}:=Nx.ext H0 g _ s.toks λb o e=>bA _ e;refine wpAny_Dict_walk (knd:=strKind c.prog c.w) Dg (gE h2) (by rintro rfl;cases h1) (aR h3) (aL (Hy ih ks vs _ (gE h2) h4 h5 (H.on n0)) (λr s1 ⟨⟨bq,cr⟩,n1⟩=>?_) λz z q=>q);refine⟨bq,cr,yx (cx n1.keep (dy _ rfl) (λvs q=>by cases q) (by intro q;have:=iv q;exact absurd this (by decide))),λh' hd hs=>Ja H0 HM H9 g rfl n1 hs⟩
  |_=>exact aw h
end
section
variable{prog:Program}{w:PySem.World}{A:Around}{E:Value→Shared→Prop}{s:Shared}{K:Frag}{C:Addr}
theorem qi{pos:Pos}{args:List (Bool×Sem Value)}{Q:Value→Shared→Prop}(hm:makesIn K C=true)(a7:args.any (·.1)=false)
  (h:wpAny (model prog w) A (evalArgs (.ref C) true args []) (λa an=>a.kw=[]∧K.In an.heap∧wpAny (model prog w) A (call (.ref C) a.pos) Q E an) E s):wpAny (model prog w) A (callWith pos (.ref C) [] args []) Q E s:=by
 unfold callWith;refine aj (eX (aL h (λa an ⟨h1,X,h2⟩=>?_) λz z q=>q));have Y:=makes_of (M:=model prog w) X hm;obtain⟨⟨oc,od,cd,sl,hC,_⟩,_,_,_,_,cal,_⟩:=Y;refine aj (iW ?_);simp only[a7,List.any_nil,Bool.or_false];refine aj (m:=keeperOf (.ref C)) ?_;unfold keeperOf;refine aj (wpAny_load hC ?_);dsimp only;refine aj (cal.here ?_);rw[if_pos (by rfl)];refine aM ?_;rw[h1];exact aj (aL h2 (λr s' hr=>aj (eX (wpAny_point (aM hr)))) λz z q=>q)
end
set_option tactic.hygienic false
def Bd(env:Env)(m:Str→Option Value)(ns:List Str):Prop:=∀x∈ns,env.kindOf x=some .local∧(∃v,m x=some v)∧(x==("__debug__":Str))=false
theorem Bd.store{env:Env}{m:Str→Option Value}{ns:List Str}(B:Bd env m ns){x:Str}(v:Value)(hk:env.kindOf x=some .local)(hd:(x==("__debug__":Str))=false):Bd env (upd m x v) (x::ns):=by
 intro y hy;rcases List.mem_cons.mp hy with rfl|hy
 ·exact⟨hk,⟨v,cT rfl⟩,hd⟩
 ·refine bY (B y hy) λa Zj b=>?_;refine ak Zj λu hu=>?_;refine⟨a,?_,b⟩;by_cases q:y=x
  ·exact⟨v,cT q⟩
  ·exact⟨u,(bD q).trans hu⟩
noncomputable def Gd(ns:List Str)(gl:Str)(x:Str):Bool:=ns.contains x||x==gl
section
variable{c:Cx}{P:Params}{A:Around}{env:Env}{s₀:Shared}{m:Str→Option Value}{E:Value→Shared→Prop}
theorem Kw(S:aN c P){ns:List Str}{gl:Str}{gv:Value}(B:Bd env m ns)(hg:env.kindOf gl=some .globalImplicit)(hd:(gl==("__debug__":Str))=false)(hv:bT P mainGlobals gl=some gv):
  ∀x p s Q,Gd ns gl x=true→aq c A env s₀ s m→(∀v,Q v s)→wpAny c.M A (eval (.Name x p) env) Q E s:=by
 intro x p s Q hx H hq;rcases Bool.or_eq_true_iff.mp hx with hx|hx
 ·refine bY (B x (by simpa using hx)) λa Zk b=>?_;refine ak Zk λv hv=>?_;exact H.load a hv b (hq v)
 ·obtain rfl:=eq_of_beq hx;exact H.glob hg hd (de (S.st _ H.nx.g) (n3 P)) hv (hq gv)
theorem yy{α:Type}{vs:List α}{n:Nat}(h:vs.length=n+1):∃u us,vs=u::us∧us.length=n:=eM (List.exists_cons_of_length_eq_add_one h) λu us e=>⟨u,us,e,by rw[e]at h;exact Nat.succ.inj h⟩
theorem Rs(S:aN c P)(HM:az c)(H9:av c){k:Str→Bool}(hk:∀x p s Q,k x=true→aq c A env s₀ s m→(∀v,Q v s)→wpAny c.M A (eval (.Name x p) env) Q E s){a b d e:Expr}{p1 p2:Pos}{s:Shared}{n:Nat}(H:aq c A env s₀ s m)(hg:env.kindOf "NamedRow"=some .globalImplicit)
  (hv:bT P mainGlobals "NamedRow"=some (.ref 519))(rm:A.depth+1<recursionLimit)(hq:[a,b,d,e].all (cL k n)=true):
  wpAny c.M A (eval (.Call (.Name "NamedRow" p1) [a,b,d,e] [] p2) env) (λv s'=>(∃x,v=.ref x)∧Nx c s s') E s:=by
 have e0:eval (.Call (.Name "NamedRow" p1) [a,b,d,e] [] p2) env=(eval (.Name "NamedRow" p1) env>>=λfv=>callWith p2 fv [] (backTo p2 (starEach [a,b,d,e] env)) []):=rfl;have q:=hq;simp only[List.all_cons,List.all_nil,Bool.and_true]at q;refine am (λq1 q=>?_) (ba q);refine am (λq2 q=>?_) (ba q);refine am (λq3 q4=>?_) (ba q);have a7:(backTo p2 (starEach [a,b,d,e] env)).any (·.1)=false:=by
  rw[nS q1,nS q2,nS q3,nS q4];rfl
 have L:=BB (E:=E) (pos:=p2) (qx HM.push HM H9 hk n) _ s hq H;rw[nS q1]at L;rw[e0];refine aj (H.glob hg rfl (de (S.st _ H.nx.g) (n3 P)) hv (qi (xC P).makes a7 ?_));rw[nS q1];refine dj (aL L (λvs s1 hn=>⟨rfl,cC (S.st _ hn.2.g) (dQ P),dq (am (λhl n1=>?_) hn)⟩) λz z q=>q);refine aO (yy hl) λu1 v1 e1 g1=>?_;subst e1;refine aO (yy g1) λu2 v2 e2 g2=>?_;subst e2;refine aO (yy g2) λu3 v3 e3 g3=>?_;subst e3;refine aO (yy g3) λu4 v4 e4 g4=>?_;subst e4;cases List.eq_nil_of_length_eq_zero g4;exact mkNamed S HM H9 n1.g ((H.on n1).fr H9) rm λx dx mi s2 n2 z z z z z=>⟨⟨x,rfl⟩,n1.trans n2⟩
theorem Q6{n:Nat}{e:Expr}{t:Option Expr}{line:Nat}(h:cL k n e=true):swapsWith e t line env=pure false:=by
 cases n with
 |zero=>cases h
 |succ n=>cases e<;>first|rfl|cases h
abbrev LL(q:Str×Pos×Expr×Pos):Stmt:=.Assign [.Name q.1 q.2.1] q.2.2.1 q.2.2.2
noncomputable def xU(sc:Scope)(gl:Str):List Str→List (Str×Pos×Expr×Pos)→Bool
 |_,[]=>true
 |ns,q::l=>sc.names.lookup q.1==some .local&&!(q.1==("__debug__":Str))&&cL (Gd ns gl) 6 q.2.2.1&&xU sc gl (q.1::ns) l
theorem Hz(S:aN c P)(HM:az c)(H9:av c){gl:Str}{gv:Value}(hg:env.kindOf gl=some .globalImplicit)(hd:(gl==("__debug__":Str))=false)(hv:bT P mainGlobals gl=some gv){rest:List Stmt}{Q:Flow→Shared→Prop}:
  ∀(l:List (Str×Pos×Expr×Pos)) (ns:List Str) (s:Shared) (m:Str→Option Value),xU env.scope gl ns l=true→aq c A env s₀ s m→Bd env m ns→
   (∀s' m',aq c A env s₀ s' m'→Bd env m' (l.foldl (λa q=>q.1::a) ns)→wpAny c.M A (execs rest env) Q E s')→wpAny c.M A (execs (l.map LL++rest) env) Q E s
 |[],ns,s,m,_,H,B,h=>h s m H B
 |q::l,ns,s,m,hq,H,B,h=>by
  unfold xU at hq;refine am (λhq h4=>?_) (ba hq);refine am (λhq h3=>?_) (ba hq);refine am (λh1 h2=>?_) (ba hq);have hk:env.kindOf q.1=some .local:=by show env.scope.names.lookup q.1=_;simpa using h1
  refine aI (gQ (aL (qx HM.push HM H9 (Kw S B hg hd hv) 6 _ _ h3 H) (λv t n=>(H.on n).store HM H9 hk λs' H' z=>?_) λz z q=>q) (Q6 h3));exact Hz S HM H9 hg hd hv l _ s' _ h4 H' (B.store v hk (by simpa using h2)) h
structure c7 where
 k:Str
 n:Int
 kp:Pos
 a:Expr
 b:Expr
 d:Expr
 e:Expr
 p1:Pos
 p2:Pos
abbrev c7.key(r:c7):Option Expr:=some (.Constant (.str r.k) 0 r.kp)
abbrev c7.val(r:c7):Expr:=.Call (.Name "NamedRow" r.p1) [r.a,r.b,r.d,r.e] [] r.p2
noncomputable def c7.ok(k:Str→Bool)(r:c7):Bool:=[r.a,r.b,r.d,r.e].all (cL k 6)
theorem HZ(S:aN c P)(HM:az c)(H9:av c)(hk:∀x p s Q,k x=true→aq c A env s₀ s m→(∀v,Q v s)→wpAny c.M A (eval (.Name x p) env) Q E s)(hg:env.kindOf "NamedRow"=some .globalImplicit)
  (hv:bT P mainGlobals "NamedRow"=some (.ref 519))(rm:A.depth+1<recursionLimit){pos:Pos}:∀(l:List c7) (s:Shared),l.all (c7.ok k)=true→aq c A env s₀ s m→
   wpAny c.M A (evalPairs (pairTrees (l.map c7.key) (l.map c7.val) env pos)) (λr s'=>∃rs:List Addr,rs.length=l.length∧Carries (strKind c.prog c.w) r ((l.map c7.k).zip (rs.map Value.ref))∧Nx c s s') E s
 |[],s,_,H=>pairTrees_nil_walk ⟨[],rfl,trivial,Nx.refl H.nx.g⟩
 |r::l,s,h,H=>by
  rw[List.all_cons]at h;refine am (λh1 h2=>?_) (ba h);refine pairTrees_cons_walk (l0 ?_);have nt:=Nx.tok H.nx.g (s.toks+1);refine aL (Rs S HM H9 hk (H.on nt) hg hv rm h1) (λv s1 ⟨⟨x,e⟩,n1⟩=>?_) λz z q=>q;subst e;refine aL (HZ S HM H9 hk hg hv rm l s1 h2 (H.on (nt.trans n1))) (λr' s2 ⟨rs,a1,a2,a3⟩=>?_) λz z q=>q;exact⟨x::rs,bp Nat.succ a1,⟨eK _ _ _ _,rfl,a2⟩,(nt.trans n1).trans a3⟩
theorem Sg(S:aN c P)(HM:az c)(H9:av c)(hk:∀x p s Q,k x=true→aq c A env s₀ s m→(∀v,Q v s)→wpAny c.M A (eval (.Name x p) env) Q E s)(hg:env.kindOf "NamedRow"=some .globalImplicit)
  (hv:bT P mainGlobals "NamedRow"=some (.ref 519))(rm:A.depth+1<recursionLimit){pos p2:Pos}{l:List c7}(hl:l.all (c7.ok k)=true)(h0:l≠[])(FY:l.length≤15)(hn:(l.map c7.k).Nodup){s:Shared}(H:aq c A env s₀ s m){Q:Flow→Shared→Prop}
  (hq:∀d (rs:List Addr) s',Nx c s s'→s.heap.get? d=none→rs.length=l.length→s'.heap.DictOf (strKind c.prog c.w) d ((l.map c7.k).zip (rs.map Value.ref))→Q (.ret (.ref d)) s'):
  wpAny c.M A (execs [.Return (some (.Dict (l.map c7.key) (l.map c7.val) pos)) p2] env) Q E s:=by
 have n0:Nx c s {s with heap:=s.heap.push {cls:=.type "dict",data:=.dict #[]}}:=Nx.ext HM.push H.nx.g _ s.toks λb o e=>bA _ e;refine aI (fE (wpAny_Dict_walk (knd:=strKind c.prog c.w) (by rw[List.all_map];simp) (by simp) (by simpa using h0) (by simpa using FY) (aL (HZ S HM H9 hk hg hv rm l _ hl (H.on n0)) (λr s1 ⟨rs,a1,a2,a3⟩=>?_) λz z q=>q)));refine⟨_,a2,yx (cx a3.keep (dy _ rfl) (λvs q=>by cases q) (by intro q;have:=iv q;exact absurd this (by decide))),λh' hd hs=>?_⟩;rw[merged_nil_of_nodup _ (by rw[IT (by simp[a1])];exact hn)]at hd;exact hq _ rs _ (Ja HM.push HM H9 H.nx.g rfl a3 hs) (cX (dp _)) a1 hd
end
theorem LN(P:Params):dY P 530=true:=by kernel_rfl
noncomputable def AI:List (Str×Pos×Expr×Pos):=[(.ofString "text",aa 474 4 8,(.Tuple [(.Constant (.str "func") 0 (aa 474 12 18)),(.Tuple [] 0 (aa 474 20 22)),(.Tuple [(.Tuple [(.Constant (.str "string") 0 (aa 474 26 34))] 0 (aa 474 25 36))] 0 (aa 474 24 38)),(.Constant (.bool false) 0 (aa 474 40 45))] 0 (aa 474 11 46)),(aa 474 4 46)),(.ofString "adding",aa 475 4 10,(.Tuple [(.Constant (.str "func") 0 (aa 475 14 20)),(.Tuple [(.Tuple [(.Constant (.str "int") 0 (aa 475 24 29)),(.Constant (.str "int") 0 (aa 475 31 36))] 0 (aa 475 23 37))] 0 (aa 475 22 39)),(.Tuple [] 0 (aa 475 41 43)),(.Constant (.bool false) 0 (aa 475 45 50))] 0 (aa 475 13 51)),(aa 475 4 51)),(.ofString "gate",aa 476 4 8,(.Tuple [(.Constant (.str "struct") 0 (aa 476 12 20)),(.Tuple [(.Tuple [(.Constant (.str "sync.#state") 0 (aa 476 24 37)),(.Tuple [(.Constant (.str "int") 0 (aa 476 40 45)),(.Constant (.str "int") 0 (aa 476 47 52))] 0 (aa 476 39 53)),(.Constant (.bool false) 0 (aa 476 55 60))] 0 (aa 476 23 61))] 0 (aa 476 22 63))] 0 (aa 476 11 64)),(aa 476 4 64)),(.ofString "group",aa 477 4 9,(.Tuple [(.Constant (.str "struct") 0 (aa 477 13 21)),(.Tuple [(.Tuple [(.Constant (.str "sync.#count") 0 (aa 477 25 38)),(.Tuple [(.Constant (.str "int") 0 (aa 477 41 46)),(.Constant (.str "int") 0 (aa 477 48 53))] 0 (aa 477 40 54)),(.Constant (.bool false) 0 (aa 477 56 61))] 0 (aa 477 24 62))] 0 (aa 477 23 64))] 0 (aa 477 12 65)),(aa 477 4 65)),(.ofString "told",aa 478 4 8,(.Dict [(some (.Constant (.str "Error") 0 (aa 478 12 19)))] [(.Tuple [(.Constant (.bool false) 0 (aa 478 22 27)),(.Name "text" (aa 478 29 33)),(.Constant (.str "runtime.Error.Error") 0 (aa 478 35 56))] 0 (aa 478 21 57))] (aa 478 11 58)),(aa 478 4 58)),(.ofString "locks",aa 479 4 9,(.Dict [(some (.Constant (.str "Lock") 0 (aa 479 13 19))),(some (.Constant (.str "Unlock") 0 (aa 479 55 63)))] [(.Tuple [(.Constant (.bool true) 0 (aa 479 22 26)),(.Name "PLAIN" (aa 479 28 33)),(.Constant (.str "sync.Mutex.Lock") 0 (aa 479 35 52))] 0 (aa 479 21 53)),(.Tuple [(.Constant (.bool true) 0 (aa 479 66 70)),(.Name "PLAIN" (aa 479 72 77)),(.Constant (.str "sync.Mutex.Unlock") 0 (aa 479 79 98))] 0 (aa 479 65 99))] (aa 479 12 100)),(aa 479 4 100)),(.ofString "waits",aa 480 4 9,(.Dict [(some (.Constant (.str "Add") 0 (aa 480 13 18))),(some (.Constant (.str "Done") 0 (aa 480 58 64))),(some (.Constant (.str "Wait") 0 (aa 480 104 110)))] [(.Tuple [(.Constant (.bool true) 0 (aa 480 21 25)),(.Name "adding" (aa 480 27 33)),(.Constant (.str "sync.WaitGroup.Add") 0 (aa 480 35 55))] 0 (aa 480 20 56)),(.Tuple [(.Constant (.bool true) 0 (aa 480 67 71)),(.Name "PLAIN" (aa 480 73 78)),(.Constant (.str "sync.WaitGroup.Done") 0 (aa 480 80 101))] 0 (aa 480 66 102)),(.Tuple [(.Constant (.bool true) 0 (aa 480 113 117)),(.Name "PLAIN" (aa 480 119 124)),(.Constant (.str "sync.WaitGroup.Wait") 0 (aa 480 126 147))] 0 (aa 480 112 148))] (aa 480 12 149)),(aa 480 4 149))]
noncomputable def pW:List c7:=[⟨"error",0,aa 481 12 19,(.Constant (.str "error") 0 (aa 481 30 37)),(.Constant (.str "") 0 (aa 481 39 41)),(.Tuple [(.Constant (.str "interface") 0 (aa 481 44 55)),(.Tuple [(.Tuple [(.Constant (.str "Error") 0 (aa 481 59 66)),(.Name "text" (aa 481 68 72))] 0 (aa 481 58 73))] 0 (aa 481 57 75))] 0 (aa 481 43 76)),(.Dict [] [] (aa 481 78 80)),aa 481 21 29,aa 481 21 81⟩,⟨"runtime.Error",0,aa 481 83 98,(.Constant (.str "runtime.Error") 0 (aa 481 109 124)),(.Constant (.str "runtime") 0 (aa 481 126 135)),(.Tuple [(.Constant (.str "string") 0 (aa 481 138 146))] 0 (aa 481 137 148)),(.Name "told" (aa 481 150 154)),aa 481 100 108,aa 481 100 155⟩,⟨"sync.Mutex",0,aa 481 157 169,(.Constant (.str "sync.Mutex") 0 (aa 481 180 192)),(.Constant (.str "sync") 0 (aa 481 194 200)),(.Name "gate" (aa 481 202 206)),(.Name "locks" (aa 481 208 213)),aa 481 171 179,aa 481 171 214⟩,⟨"sync.WaitGroup",0,aa 481 216 232,(.Constant (.str "sync.WaitGroup") 0 (aa 481 243 259)),(.Constant (.str "sync") 0 (aa 481 261 267)),(.Name "group" (aa 481 269 274)),(.Name "waits" (aa 481 276 281)),aa 481 234 242,aa 481 234 282⟩]
theorem Zl(P:Params):bodyOf (ai P 530)=AI.map LL++[.Return (some (.Dict (pW.map c7.key) (pW.map c7.val) (aa 481 11 283))) (aa 481 4 283)]:=by kernel_rfl
theorem LO(P:Params):(ai P 530).scope.names.lookup ("NamedRow":Str)=some .globalImplicit∧(ai P 530).scope.names.lookup ("PLAIN":Str)=some .globalImplicit:=⟨by kernel_rfl,by kernel_rfl⟩
theorem Zm(P:Params):xU (ai P 530).scope "PLAIN" [] AI=true:=by kernel_rfl
theorem Zn:pW.all (c7.ok (Gd (AI.foldl (λa q=>q.1::a) []) "PLAIN"))=true:=by kernel_rfl
theorem Zo(P:Params)(Z:Setting):peek (aC P []) Z (bindArgs (ai P 530) ⟨[],[]⟩)=some []:=by kernel_rfl
theorem Kx(P:Params):bT P mainGlobals "NamedRow"=some (.ref 519):=by kernel_rfl
theorem WD(P:Params):∃v,bT P mainGlobals "PLAIN"=some v:=⟨.ref 502,by kernel_rfl⟩
theorem known{c:Cx}{P:Params}{A:Around}{s:Shared}{R:Result→Shared→Prop}(S:aN c P)(HM:az c)(H9:av c)(g:c.G s.heap)(fr:bI c A s.heap)(rm:A.depth+2<recursionLimit)
  (hq:∀d (rs:List Addr) s',Nx c s s'→s.heap.get? d=none→rs.length=4→s'.heap.DictOf (strKind c.prog c.w) d ((pW.map c7.k).zip (rs.map Value.ref))→R (.ok (.ret (.ref d))) s'):codeAny c.M A (.call (.ref 530) ⟨[],[]⟩) R s:=by
 refine ah (cI (LN P)) λo F hf=>?_;refine ak (WD P) λpv OU=>?_;refine call_plain HM.push H9 (eI S) S.st F hf (s₀:=s) g (Nx.refl g) fr (by omega) (l:=[]) rfl (Zo P) (λb hb=>by cases hb) λenv s1 ay hL k1 n1 H1=>?_;have kN:env.kindOf "NamedRow"=some .globalImplicit:=by show env.scope.names.lookup _=_;rw[ay];exact(LO P).1
 have kP:env.kindOf "PLAIN"=some .globalImplicit:=by show env.scope.names.lookup _=_;rw[ay];exact(LO P).2
 have B1:Bd env (bindL env.kindOf [] λz=>none) []:=λx hx=>by cases hx
 have Ge:(A.deeper env).depth+1<recursionLimit:=by rw[depth_deeper];omega
 have hb:=Zm P;rw[←ay]at hb;rw[Zl P];generalize hk1:AI=l1 at hb;generalize AJ:pW=l2 at hq;have qr:=Zn;rw[hk1,AJ]at qr;have len:l2.length=4:=by rw[←AJ];rfl
 have nd:(l2.map c7.k).Nodup:=by rw[←AJ];exact aR (by kernel_rfl)
 refine Hz S HM H9 kP rfl OU l1 [] s1 _ hb H1 B1 λs2 m2 H2 B2=>?_;refine Sg S HM H9 (Kw S B2 kP rfl OU) kN (Kx P) Ge qr (by rintro rfl;cases len) (by rw[len];exact aX) nd H2 λd rs s3 n3 hd hr Dn=>?_;refine hq d rs s3 (H2.nx.trans n3) ?_ (hr.trans len) Dn;cases e:s.heap.get? d with
 |none=>rfl
 |some ob=>refine ah (H2.nx.keep.2 _ _ e) λo2 q z=>?_;exact bg hd q
inductive Src where
 |none
 |bool (b:Bool)
 |hJ
 |lst
structure ti where
 attr:Str
 src:Src
 p1:Pos
 p2:Pos
 p3:Pos
 pos:Pos
noncomputable def aea(p:Pos):Src→Expr
 |.none=>.Constant .none 0 p
 |.bool b=>.Constant (.bool b) 0 p
 |.hJ=>.Dict [] [] p
 |.lst=>.List [] p
noncomputable def yz(q:ti):Stmt:=.Assign [.Attribute (.Name "self" q.p1) q.attr q.p2] (aea q.p3 q.src) q.pos
section
variable{c:Cx}{K:Frag}{C:Addr}{cd:ClassData}{A:Around}{s₀:Shared}{env:Env}{m:Str→Option Value}{x dx:Addr}{E:Value→Shared→Prop}
theorem BJ(T:pp c K C cd s₀ env m x dx){rest:List Stmt}{Q:Flow→Shared→Prop}:∀(l:List ti) (s:Shared) (mi:Str→Option Value) (ns:List Str),(∀q∈l,takerIn K C q.attr=some none)→(l.map (·.attr)).Nodup→Within mi ns→ns.length+l.length≤1000→
  aq c A env s₀ s m→aJ s.heap x dx C mi→
  (∀s' lh tC,aq c A env s₀ s' m→aJ s'.heap x dx C lh→Kb x dx s.heap s'.heap→Within lh tC→tC.length≤ns.length+l.length→(∀a,(∀q∈l,q.attr≠a)→lh a=mi a)→(∀q∈l,q.src=.none→lh q.attr=some .none)→wpAny c.M A (execs rest env) Q E s')→
  wpAny c.M A (execs (l.map yz++rest) env) Q E s
 |[],s,mi,ns,_,_,hw,_,H,I,h=>h s mi ns H I Kb.refl hw (dp _) (λj j=>rfl) λq hq=>by cases hq
 |q::l,s,mi,ns,ht,hn,hw,hz,H,I,h=>by
  obtain⟨attr,src,p1,p2,p3,pos⟩:=q;rw[List.map_cons,List.nodup_cons]at hn;rw[List.length_cons]at hz;have fin:∀(v:Value) (s1 s2:Shared),(src=.none→v=.none)→Kb x dx s.heap s1.heap→aq c A env s₀ s2 m→aJ s2.heap x dx C (upd mi attr v)→Kb x dx s1.heap s2.heap→wpAny c.M A (execs (l.map yz++rest) env) Q E s2:=by
   intro v s1 s2 hv k1 H2 I2 k2;refine BJ T l s2 _ (attr::ns) (λq hq=>ht q (bH _ hq)) hn.2 (aW _ _ hw) (by rw[List.length_cons];omega) H2 I2 λs' lh tC H' I' k' w' z' r1 r2=>?_;refine h s' lh tC H' I' ((k1.trans k2).trans k') w' (by rw[List.length_cons]at z'⊢;omega) (λa ha=>?_) λq hq hs=>?_
   ·rw[r1 a λq hq=>ha q (List.mem_cons_of_mem _ hq)];exact bD (bi (ha _ dW))
   ·rcases List.mem_cons.mp hq with rfl|hq
    ·rw[r1 attr λq hq e=>hn.1 (List.mem_map.mpr ⟨q,hq,e⟩)];rw[if_pos rfl,hv hs]
    ·exact r2 q hq hs
  have AK:=ht _ dW;cases src with
  |none=>exact cY T AK hw (by omega) rfl (lZ ⟨H,I,λs2 H2 I2 k2=>fin _ _ _ (λj=>rfl) Kb.refl H2 I2 k2⟩)
  |bool b=>exact cY T AK hw (by omega) rfl (rg ⟨H,I,λs2 H2 I2 k2=>fin _ _ _ (λz=>by cases z) Kb.refl H2 I2 k2⟩)
  |hJ=>
   have na:=Nx.push T.HM.push H.nx.g emptyDict s.toks;exact cY T AK hw (by omega) rfl (wpAny_Dict_empty ⟨H.on na,I.keep na.keep,λs2 H2 I2 k2=>fin _ _ _ (λz=>by cases z) (λb o j j e=>bA _ e) H2 I2 k2⟩)
  |lst=>
   have na:=Nx.push T.HM.push H.nx.g {cls:=.type "list",data:=.seq [].toArray} s.toks;exact cY T AK hw (by omega) rfl (wpAny_List (ce ⟨gO _,H.on na,I.keep na.keep,λs2 H2 I2 k2=>fin _ _ _ (λz=>by cases z) (λb o j j e=>bA _ e) H2 I2 k2⟩))
end
theorem Zp(P:Params):dY P 545=true:=by kernel_rfl
noncomputable def jW:List ti:=[⟨"consts",.hJ,aa 488 8 12,aa 488 8 19,aa 488 22 24,aa 488 8 24⟩,⟨"funcs",.hJ,aa 489 8 12,aa 489 8 18,aa 489 21 23,aa 489 8 23⟩,⟨"bodies",.hJ,aa 490 8 12,aa 490 8 19,aa 490 22 24,aa 490 8 24⟩,⟨"files",.hJ,aa 491 8 12,aa 491 8 18,aa 491 21 23,aa 491 8 23⟩,⟨"scopes",.hJ,aa 492 8 12,aa 492 8 19,aa 492 22 24,aa 492 8 24⟩,⟨"order",.lst,aa 493 8 12,aa 493 8 18,aa 493 21 23,aa 493 8 23⟩,⟨"starts",.lst,aa 494 8 12,aa 494 8 19,aa 494 22 24,aa 494 8 24⟩,⟨"settle",.none,aa 495 8 12,aa 495 8 19,aa 495 22 26,aa 495 8 26⟩,⟨"want",.none,aa 496 8 12,aa 496 8 17,aa 496 20 24,aa 496 8 24⟩,⟨"mentions",.hJ,aa 497 8 12,aa 497 8 21,aa 497 24 26,aa 497 8 26⟩]
noncomputable def jj:List ti:=[⟨"values",.hJ,aa 499 8 12,aa 499 8 19,aa 499 22 24,aa 499 8 24⟩,⟨"inits",.hJ,aa 500 8 12,aa 500 8 18,aa 500 21 23,aa 500 8 23⟩,⟨"late_keys",.lst,aa 501 8 12,aa 501 8 22,aa 501 25 27,aa 501 8 27⟩,⟨"late_parts",.lst,aa 502 8 12,aa 502 8 23,aa 502 26 28,aa 502 8 28⟩,⟨"late_sizes",.lst,aa 503 8 12,aa 503 8 23,aa 503 26 28,aa 503 8 28⟩,⟨"is_whole",(.bool true),aa 504 8 12,aa 504 8 21,aa 504 24 28,aa 504 8 28⟩]
theorem Zq(P:Params):bodyOf (ai P 545)=.Assign [.Attribute (.Name "self" (aa 485 8 12)) "packages" (aa 485 8 21)] (.Name "packages" (aa 485 24 32)) (aa 485 8 32)::.Assign [.Attribute (.Name "self" (aa 486 8 12)) "named" (aa 486 8 18)] (.Call (.Name "known_rows" (aa 486 21 31)) [] [] (aa 486 21 33)) (aa 486 8 33)::.Assign [.Attribute (.Name "self" (aa 487 8 12)) "globals" (aa 487 8 20)] (.Dict [] [] (aa 487 23 25)) (aa 487 8 25)::(jW.map yz++.Assign [.Attribute (.Name "self" (aa 498 8 12)) "measured" (aa 498 8 21)] (.Dict [] [] (aa 498 24 26)) (aa 498 8 26)::(jj.map yz++[])):=by kernel_rfl
theorem LQ(P:Params):fj P 545 ["self","packages"]=true:=by kernel_rfl
theorem Zr(P:Params):(ai P 545).scope.names.lookup ("known_rows":Str)=some .globalImplicit:=by kernel_rfl
theorem WE(P:Params):bT P mainGlobals "known_rows"=some (.ref 530):=by kernel_rfl
theorem Zs(P:Params):fC P [538]=true:=by kernel_rfl
theorem Zt(P:Params)(x:Value)(Z:Setting):peek (aC P [538]) Z (bindArgs (ai P 545) ⟨[x],[]⟩)=some ((["self","packages"]:List Str).zip [x,.none]):=by kernel_rfl
theorem Sh:(jW.all λq=>aWorld.contains q.attr)=true∧(jW.map (·.attr)).Nodup∧jW.length≤100:=⟨by kernel_rfl,aR (by kernel_rfl),aX⟩
theorem Si:(jj.all λq=>aWorld.contains q.attr)=true∧(jj.map (·.attr)).Nodup∧jj.length≤100:=⟨by kernel_rfl,aR (by kernel_rfl),aX⟩
noncomputable def i8(l:List ti)(a:Str):Bool:=l.all λq=>!(q.attr==a)
theorem jq{l:List ti}{a:Str}(h:i8 l a=true):∀q∈l,q.attr≠a:=λq hq e=>by
 have:=List.all_eq_true.mp h q hq;rw[e]at this;simp at this
theorem WF:i8 jW "named"=true∧i8 jW "globals"=true∧i8 jj "named"=true∧i8 jj "globals"=true∧i8 jj "measured"=true∧i8 jj "settle"=true:=⟨by kernel_rfl,by kernel_rfl,by kernel_rfl,by kernel_rfl,by kernel_rfl,by kernel_rfl⟩
theorem UX:i8 jW "base_of"=true∧i8 jW "settled"=true∧i8 jj "base_of"=true∧i8 jj "settled"=true:=⟨by kernel_rfl,by kernel_rfl,by kernel_rfl,by kernel_rfl⟩
theorem Sj:∃q∈jW,q.src=.none∧q.attr="settle":=⟨_,al 7,rfl,rfl⟩
structure Cq(c:Cx)(s s':Shared)(x dx dn dg dm:Addr)(mi:Str→Option Value)(rs:List Addr):Prop where
 nx:Nx c s s'
 x0:s.heap.get? x=none
 d0:s.heap.get? dx=none
 inst:aJ s'.heap x dx 562 mi
 named:mi "named"=some (.ref dn)
 globals:mi "globals"=some (.ref dg)
 TA:mi "measured"=some (.ref dm)
 settle:mi "settle"=some .none
 meths:mi "base_of"=none∧mi "settled"=none
 OV:s'.heap.DictOf (strKind c.prog c.w) dn ((pW.map c7.k).zip (rs.map Value.ref))
 wH:s'.heap.get? dg=some emptyDict
 OW:s'.heap.get? dm=some emptyDict
 len:rs.length=4
 n0:s.heap.get? dn=none∧s.heap.get? dg=none∧s.heap.get? dm=none
 ne:dn≠dg∧dn≠dm∧dg≠dm∧dn≠x∧dn≠dx∧dg≠x∧dg≠dx∧dm≠x∧dm≠dx
theorem nT{prog:Program}{w:PySem.World}{h h':Heap}{d:Addr}{bq:List (Str×Value)}(D:h.DictOf (strKind prog w) d bq)(e:∀o,h.get? d=some o→h'.get? d=some o):h'.DictOf (strKind prog w) d bq:=by
 refine bC D λo es ep ho r=>?_;exact⟨o,es,ep,e _ ho,r⟩
theorem cO{c:Cx}{s s':Shared}{d:Addr}(n:Nx c s s')(h:s'.heap.get? d=none):s.heap.get? d=none:=by
 cases e:s.heap.get? d with
 |none=>rfl
 |some ob=>refine ah (n.keep.2 _ _ e) λo2 q j=>?_;exact bg h q
theorem UY{c:Cx}{P:Params}{A:Around}{s:Shared}{R:Result→Shared→Prop}(S:aN c P)(HM:az c)(H9:av c)(g:c.G s.heap)(fr:bI c A s.heap)(rm:A.depth+4<recursionLimit)
  (hq:∀x dx dn dg dm mi rs s',Cq c s s' x dx dn dg dm mi rs→R (.ok (.ret (.ref x))) s'):codeAny c.M A (.call (.ref 562) ⟨[],[]⟩) R s:=by
 have bv:=j1 P;refine t8 HM.push (cC (S.st _ g) (dQ P)) g bv.makes bv.init bv.fn λx dx an n1 k1 I hx hd=>?_;refine ah (cI (Zp P)) λo F hf=>?_;refine call_plain HM.push H9 (eI S) S.st F hf (s₀:=s) g n1 fr (by rw[depth_under_make];omega) (Zs P) (Zt P (.ref x)) (λb hb=>bQ (LQ P) (fP (a:=b.1) (b:=b.2) hb).1) λenv s2 ay hL k2 n2 H2=>?_;have kd:∀y,y∈(["self","packages"]:List Str)→env.kindOf y=some .local:=λy hy=>by show env.scope.names.lookup y=_;rw[ay];exact bQ (LQ P) hy
 have j9:=bR (ps:=["self","packages"]) (us:=[.ref x,.none]) (i:=0) (x:="self") (aR (by kernel_rfl)) rfl rfl (kd _ (al 0));have WG:=bR (ps:=["self","packages"]) (us:=[.ref x,.none]) (i:=1) (x:="packages") (aR (by kernel_rfl)) rfl rfl (kd _ (al 1));have kK:env.kindOf "known_rows"=some .globalImplicit:=by show env.scope.names.lookup _=_;rw[ay];exact Zr P
 have T:pp c (aC P kC) 562 (jV "World" 562 561) s env _ x dx:=⟨HM,H9,bv.store,λh gh=>cC (S.st _ gh) (dQ P),kd _ (al 0),j9,hx,hd,by rw[hL];exact fresh_ne I.1,by rw[hL];refine bC I.2.2 λo es ep e j=>?_;exact fresh_ne e⟩;have I2:=I.ext (k2 _) (k2 _);have tk:∀a,a∈aWorld→takerIn (aC P kC) 562 a=some none:=bv.eJ;have W1:=Sh;have W2:=Si;have WO:=WF;have WP:=UX;refine bS Sj λqs OX qs2 qs3=>?_;rw[Zq P];generalize jW=l1 at W1 WO WP OX;generalize jj=l2 at W2 WO WP;refine bY W1 λa1 a2 a3=>?_;refine bY W2 λb1 b2 b3=>?_;refine l9 WO λo1 o2 o3 o4 o5 o6=>?_;refine fc WP λz1 z2 z3 z4=>?_;have t1:∀q∈l1,takerIn (aC P kC) 562 q.attr=some none:=λq hq=>tk _ (by simpa using List.all_eq_true.mp a1 q hq);have t2:∀q∈l2,takerIn (aC P kC) 562 q.attr=some none:=λq hq=>tk _ (by simpa using List.all_eq_true.mp b1 q hq);refine cY T (tk _ (al 0)) cP aX rfl (H2.load (kd _ (al 1)) WG rfl ⟨H2,I2,λs3 H3 I3 k3=>?_⟩);have w3:=aW "packages" Value.none cP;refine cY T (tk _ (al 1)) w3 aX rfl ?_;have e0:∀p q,eval (.Call (.Name "known_rows" p) [] [] q) env=(eval (.Name "known_rows" p) env>>=λfv=>callWith q fv [] (backTo q (starEach [] env)) []):=λj j=>rfl;rw[e0];refine ah (cI (LN P)) λaeb NS Zu=>?_;refine aj (H3.glob kK rfl (de (S.st _ H3.nx.g) (n3 P)) (WE P) (gm (o:=aeb) (fd:=ai P 530) (evalArgs_kw_nil rfl (wpAny_evalAll_nil ⟨⟨(S.st _ H3.nx.g).ok _ _ NS.at_ Zu,NS.data⟩,dq ?_⟩))));refine known S HM H9 H3.nx.g (H3.fr H9) (by rw[depth_deeper,depth_under_make];omega) λdn rs s4 n4 tA hlen Dn=>?_;have H4:=H3.on n4;have I4:=I3.keep n4.keep;refine⟨H4,I4,λs5 H5 I5 k5=>?_⟩;have w5:=aW "named" (.ref dn) w3;have tL:dn≠x:=by rintro rfl;exact bg tA I3.1
 have tM:dn≠dx:=by rintro rfl;refine bC I3.2.2 λo es ep e j=>?_;exact bg tA e
 have LR:=nT Dn λo e=>k5 _ _ tL tM e;refine bC (id LR) λodn j j tN j=>?_;have na:=Nx.push HM.push H5.nx.g emptyDict s5.toks;refine cY T (tk _ (al 2)) w5 aX rfl (wpAny_Dict_empty ⟨H5.on na,I5.keep na.keep,λs6 H6 I6 k6=>?_⟩);have w6:=aW "globals" (.ref s5.heap.objs.size) w5;have gx:=fresh_ne I5.1;have gd:dx≠s5.heap.objs.size:=by refine bC I5.2.2 λo es ep e j=>?_;exact fresh_ne e
 have gn:=fresh_ne tN;have eg6:s6.heap.get? s5.heap.objs.size=some emptyDict:=k6 _ _ (bi gx) (bi gd) (dy _ rfl);have Zv:=nT LR λo e=>k6 _ _ tL tM (bA _ e);refine BJ T l1 s6 _ _ t1 a2 w6 (by simp only[List.length_cons,List.length_nil];omega) H6 I6 λs7 mi7 ns7 H7 I7 k7 w7 z7 r7 q7=>?_;have OY:=k7 _ _ (bi gx) (bi gd) eg6;have LS:=nT Zv λo e=>k7 _ _ tL tM e;refine bC (id LS) λaga j j aec j=>?_;have nb:=Nx.push HM.push H7.nx.g emptyDict s7.toks;refine cY T (tk _ (al 13)) w7 (by simp only[List.length_cons,List.length_nil]at z7;omega) rfl (wpAny_Dict_empty ⟨H7.on nb,I7.keep nb.keep,λs8 H8 I8 k8=>?_⟩);have w8:=aW "measured" (.ref s7.heap.objs.size) w7;have mx:=fresh_ne I7.1;have md:dx≠s7.heap.objs.size:=by refine bC I7.2.2 λo es ep e j=>?_;exact fresh_ne e
 have em8:s8.heap.get? s7.heap.objs.size=some emptyDict:=k8 _ _ (bi mx) (bi md) (dy _ rfl);have eg8:=k8 _ _ (bi gx) (bi gd) (bA _ OY);have Zw:=nT LS λo e=>k8 _ _ tL tM (bA _ e);refine BJ T l2 s8 _ _ t2 b2 w8 (by simp only[List.length_cons,List.length_nil]at z7⊢;omega) H8 I8 λs9 mi9 ns9 AL I9 k9 w9 z9 r9 q9=>?_;refine cz ⟨rfl,hq x dx dn s5.heap.objs.size s7.heap.objs.size mi9 rs s9 ⟨AL.nx,hx,hd,I9,?_,?_,?_,?_,⟨?_,?_⟩,nT Zw λo e=>k9 _ _ tL tM e,k9 _ _ (bi gx) (bi gd) eg8,k9 _ _ (bi mx) (bi md) em8,hlen,⟨cO H3.nx tA,cO H5.nx (cX (dp _)),cO H7.nx (cX (dp _))⟩,
  ⟨gn,fresh_ne aec,fresh_ne OY,tL,tM,bi gx,bi gd,bi mx,bi md⟩⟩⟩
 ·rw[r9 _ (jq o3)];refine(bD (aR (by kernel_rfl))).trans ?_;rw[r7 _ (jq o1)];kernel_rfl
 ·rw[r9 _ (jq o4)];refine(bD (aR (by kernel_rfl))).trans ?_;rw[r7 _ (jq o2)];kernel_rfl
 ·rw[r9 _ (jq o5)];exact cT rfl
 ·rw[r9 _ (jq o6)];refine(bD (aR (by kernel_rfl))).trans ?_;rw[←qs3];exact q7 qs OX qs2
 ·rw[r9 _ (jq z3)];refine(bD (aR (by kernel_rfl))).trans ?_;rw[r7 _ (jq z1)];kernel_rfl
 ·rw[r9 _ (jq z4)];refine(bD (aR (by kernel_rfl))).trans ?_;rw[r7 _ (jq z2)];kernel_rfl
noncomputable def ent(P:Params)(q:Str×Nat×Value):DictEntry:=⟨PyData.keyHash P q.1,.str q.1 q.2.1,q.2.2⟩
theorem afS{w:PySem.World}(x:Str):PyData.keyHash w.params x=hashStr w x:=rfl
theorem IB{prog:Program}{w:PySem.World}:∀(l:List (Str×Nat×Value)),Pairs (strKind prog w) (l.map (ent w.params)) (l.map λq=>(q.1,q.2.2))
 |[]=>.nil
 |q::l=>.cons (eK prog w q.1 q.2.1) rfl (IB l)
theorem Ru{prog:Program}{w:PySem.World}{a n:Nat}{l:List (Str×Nat×Value)}(e:cW w.params a=some ⟨.type "dict",none,.dict (l.map (ent w.params)).toArray n,#[]⟩)(hn:(l.map (·.1)).Nodup){h:Heap}(S:eS w.params h):h.DictOf (strKind prog w) a (l.map λq=>(q.1,q.2.2)):=by
 refine⟨_,_,n,S.ok _ _ e rfl,⟨rfl,rfl,rfl⟩,rfl,λen he=>?_,?_,by rw[List.map_map];exact hn⟩
 ·have:en∈l.map (ent w.params):=by simpa using he
  refine ah (List.mem_map.mp this) λq z Zx=>?_;subst Zx;exact⟨q.1,eK prog w q.1 q.2.1,rfl⟩
 ·exact IB l
noncomputable def LU:List (Str×Nat×Value):=[(ao [105,110,116],278,.int 64 279),(ao [105,110,116,56],280,.int 8 281),(ao [105,110,116,49,54],282,.int 16 283),(ao [105,110,116,51,50],284,.int 32 285),(ao [105,110,116,54,52],286,.int 64 287),
 (ao [117,105,110,116],288,.int 64 289),(ao [117,105,110,116,56],290,.int 8 291),(ao [117,105,110,116,49,54],292,.int 16 293),(ao [117,105,110,116,51,50],294,.int 32 295),(ao [117,105,110,116,54,52],296,.int 64 297)]
theorem UZ(P:Params):cW P 79=some ⟨.type "dict",none,.dict (LU.map (ent P)).toArray 10,#[]⟩:=by kernel_rfl
noncomputable def oJ:List (List Nat):=[[105,110,116],[105,110,116,56],[105,110,116,49,54],[105,110,116,51,50],[105,110,116,54,52],[117,105,110,116],[117,105,110,116,56],[117,105,110,116,49,54],[117,105,110,116,51,50],[117,105,110,116,54,52]]
noncomputable def uF:List Value:=[.int 64 279,.int 8 281,.int 16 283,.int 32 285,.int 64 287,.int 64 289,.int 8 291,.int 16 293,.int 32 295,.int 64 297]
noncomputable def qY:List D:=[.int 64,.int 8,.int 16,.int 32,.int 64,.int 64,.int 8,.int 16,.int 32,.int 64]
theorem TB:LU.map (λq=>(q.1,q.2.2))=(oJ.map ao).zip uF:=by kernel_rfl
theorem TC:assoc qX 5=some (oJ.zip qY):=by kernel_rfl
theorem Ib{σ:Nat→Addr}{h:Heap}:ax σ h uF qY:=.cons (.int _ _) (.cons (.int _ _) (.cons (.int _ _) (.cons (.int _ _) (.cons (.int _ _) (.cons (.int _ _) (.cons (.int _ _) (.cons (.int _ _) (.cons (.int _ _) (.cons (.int _ _) .nil)))))))))
theorem IC{prog:Program}{w:PySem.World}{h:Heap}(S:eS w.params h):h.DictOf (strKind prog w) 79 ((oJ.map ao).zip uF):=by
 have:=Ru (prog:=prog) (UZ w.params) (aR (by kernel_rfl)) S;rwa[TB]at this
theorem LV{c:Cx}{P:Params}(S:aN c P)(HM:az c)(H9:av c)(HF:c.Flt=ej c.aT c.σ 76)(LM:lW c)(h1:c.P.glob=getD globT .none)(h5:c.σ 5=79)(HD:cD c)(HA:xN c)(HT:xO c)(HI:Cz c)
  (RM:(c.P.bc 0 0).isSome=true→yt c 383):Ob c where
 push:=HM.push
 aT:=H9
 store:=HM.store H9
 wv:=qJ HD
 uW:=qm HD
 gU:=UQ HD
 glob:=Wu S h1 h5
 attr:=HA
 bc:=HT
 mix:=HI
 fn:=ad4 S
 fnAt:=fnAt S
 fns:=YF S
 lim:=eI S
 leave:=JB HM H9 HF
 mG:=λn L=>X9 HM.push HM H9 (HM.store H9) (oH S) L
 dG:=λn L=>V5 HM.push H9 (eI S) (CL S) (Co S) HF L
 node:=λn L hC=>Wc HM.push HM H9 (eI S) (JB HM H9 HF) (oH S) (CL S) (Kt S) (Co S) HF LM (YO S) RM n L hC
structure Base(P:Params)(B:Bs):Prop where
 st:eS P B.hs
 tabs:B.tabs=dM
 wF:∀t∈dM,B.hs.get? t.2.1=none
theorem Base.fY{w:PySem.World}{B:Bs}(b:Base w.params B){Pr:bJ}(hf:Pr.fn=wE){σ:Nat→Addr}:aN (lc pw w Pr aH σ (λf=>jU.getD f 0) 76 B) w.params:=
 ⟨hf,rfl,λz=>rfl,λh g=>⟨λa o e hf=>g.1 _ _ (b.st.ok a o e hf)⟩,λt ht=>⟨t.1,t.2.1,rfl,by rw[b.tabs];exact ht⟩⟩
theorem Zy{P:Params}{h:Heap}(S:eS P h):CodeHd h 328 324:=⟨vX P,_,_,_,_,_,_,_,_,S.ok _ _ (by kernel_rfl) rfl,rfl,rfl,rfl,rfl,rfl,rfl,rfl,rfl,by decide⟩
theorem Zz{P:Params}{h:Heap}(S:eS P h):CodeHd h 335 331:=⟨vY P,_,_,_,_,_,_,_,_,S.ok _ _ (by kernel_rfl) rfl,rfl,rfl,rfl,rfl,rfl,rfl,rfl,rfl,by decide⟩
theorem ZA{P:Params}{h:Heap}(S:eS P h):CodeHd h 703 699:=⟨NP P,_,_,_,_,_,_,_,_,S.ok _ _ (by kernel_rfl) rfl,rfl,rfl,rfl,rfl,rfl,rfl,rfl,rfl,by decide⟩
theorem Base.ok{P:Params}{B:Bs}(b:Base P B):B.Ok where
 hd:=by
  intro t ht;rw[b.tabs]at ht;refine⟨?_,b.wF t ht⟩;unfold dM at ht;simp only[List.mem_cons,List.not_mem_nil,or_false]at ht;rcases ht with rfl|rfl|rfl
  ·exact Zy b.st
  ·exact Zz b.st
  ·exact ZA b.st
 apart:=by
  intro t ht u hu e;rw[b.tabs]at ht hu;unfold dM at ht hu;simp only[List.mem_cons,List.not_mem_nil,or_false]at ht hu;rcases ht with rfl|rfl|rfl<;>rcases hu with rfl|rfl|rfl<;>first|rfl|cases e
 bE:=⟨_,4,boot_o_4 P,de b.st (n3 P),by kernel_rfl,by decide,by decide,b.st.ok _ _ (by kernel_rfl) rfl,rfl,rfl,rfl⟩
def Jb(rs:List Stmt)(p1 p2 p3 p4 p5 p6 p7 p8 p9 fw fx fU jR jS wI wJ wK wL wM wN wO tO Gf:Pos):List Stmt:=
 [.If (.Compare (.Name "name" p1) [.Eq] [.Constant (.str "_") 0 p2] p3) [.Return none p4] [] p5,
   .If (.Compare (.Name "name" p6) [.In] [.Attribute (.Name "self" p7) "rows" p8] p9) rs [] fw,
   .Assign [.Subscript (.Attribute (.Name "self" fx) "rows" fU) (.Name "name" jR) jS] (.Call (.Name "ScopeRow" wI) [.Name "name" wJ,.Name "entry" wK,.Name "spot" wL,.Attribute (.Name "self" wM) "owner" wN,.Name "is_checked" wO] [] tO) Gf]
abbrev less(s:Shared)(d:Addr):Shared:={s with heap:=s.heap.hide d}
section
variable{c:Cx}{A:Around}{s:Shared}{d:Addr}{bq:List (Str×Value)}
theorem dict_cls{prog:Program}{w:PySem.World}{h:Heap}(Dd:h.DictOf (strKind prog w) d bq){o:Obj}(e:h.get? d=some o):o.cls=.type "dict"∧∀vs,o.data≠.fields vs:=by
 refine eT Dd λo' es ep e' hx hd j=>?_;cases aD e' e;exact⟨hx.1,λvs q=>by rw[hd]at q;cases q⟩
theorem qK(HM:az c)(g:c.G s.heap)(hs:¬c.aT d)(hc:∀o,s.heap.get? d=some o→∀vs,o.data≠.fields vs):c.G (less s d).heap:=by
 refine HM _ _ (λb o st e=>(dE _ (by rintro rfl;exact hs st)).trans e) (λb o e j hv=>⟨o,(dE _ (by rintro rfl;refine ak hv λvs hv=>?_;exact hc _ e vs hv)).trans e,rfl,rfl⟩) g
theorem j3(g:c.G s.heap):Nx c (less s d) s:=⟨s.heap,s.toks,rfl,aE.gb λj j e=>Heap.of_hide e,g⟩
theorem qC(fr:bI c A s.heap)(hc:∀o,s.heap.get? d=some o→o.cls≠.type "frame"):bI c A (less s d).heap:=by
 refine ah fr λfs e F=>?_;refine⟨fs,e,λen he=>?_⟩;refine nV (F en he) λa L o b e1 f1 y z=>?_;exact⟨a,L,o,b,(dE _ (by rintro rfl;exact hc _ e1 y)).trans e1,f1,y,z⟩
theorem cy:Value.type "dict"≠Value.type "frame":=λq=>absurd (iv q) (by decide)
theorem stored_new{bq:List (Str×Value)}{k:Str}{v:Value}(h:∀q∈bq,q.1≠k):stored bq k v=bq++[(k,v)]:=by
 unfold stored;rw[if_neg];rw[List.any_eq_true]
 rintro⟨q,hq,e⟩
 exact h q hq (by simpa using e)
end
section
variable{c:Cx}{P:Params}{A:Around}{env:Env}{s₀ s:Shared}{m:Str→Option Value}{E:Value→Shared→Prop}
theorem TD(S:aN c P)(HM:az c)(H9:av c)(HD:cD c){rs:List Stmt}{p1 p2 p3 p4 p5 p6 p7 p8 p9 fw fx fU jR jS wI wJ wK wL wM wN wO tO Gf:Pos}{xs cN d:Addr}{ms:Str→Option Value}{bq:List (Str×Value)}{nm:List Nat}{t:Tok}{en sp ow ck:Value}{Q:Flow→Shared→Prop}
  (H:aq c A env s₀ s m)(rm:aP A 1)(I:aJ s.heap xs cN 495 ms)(hr:ms "rows"=some (.ref d))(ho:ms "owner"=some ow)(hh:handedIn ow=true)(Dd:s.heap.DictOf (strKind c.prog c.w) d bq)(c6:(d==sysModules)=false)(hlen:bq.length≤1000)
  (kZ:eh nm [95]=false)(dH:∀q∈bq,q.1≠ao nm)(eE:s₀.heap.get? d=none)(jh:d≠env.locals)
  (k1:env.kindOf "self"=some .local)(k2:env.kindOf "name"=some .local)(k3:env.kindOf "entry"=some .local)(k4:env.kindOf "spot"=some .local)(k5:env.kindOf "is_checked"=some .local)(kg:env.kindOf "ScopeRow"=some .globalImplicit)
  (hg:bT P mainGlobals "ScopeRow"=some (.ref 422))(m1:m "self"=some (.ref xs))(m2:m "name"=some (.str (ao nm) t))(m3:m "entry"=some en)(m4:m "spot"=some sp)(m5:m "is_checked"=some ck)
  (hq:∀r dr mr s',Nx c s₀ s'→s.heap.get? r=none→s.heap.get? dr=none→aJ s'.heap r dr 422 mr→mr "entry"=some en→s'.heap.DictOf (strKind c.prog c.w) d (bq++[(ao nm,.ref r)])→Q .next s'):
  wpAny c.M A (execs (Jb rs p1 p2 p3 p4 p5 p6 p7 p8 p9 fw fx fU jR jS wI wJ wK wL wM wN wO tO Gf) env) Q E s:=by
 have X:=λh g=>cC (S.st h g) (dQ P);have CK:=qB P;refine aI (eZ (rh (H.load k2 m2 rfl (l0 ?_))));have na:=Nx.tok H.nx.g (s.toks+1);have H1:=H.on na;refine lz (qJ HD) (qm HD) (a:=.str nm) (b:=.str [95]) (r:=false) (by show some (sEq nm [95])=_;rw[qG,kZ]) (.str nm t) (.str [95] s.toks) H1.nx.g (rm.less (gO _)) λs1 n1=>?_;have H2:=H1.on n1;have jX:=na.trans n1;have I2:=I.keep jX.keep;have D2:=hZ jX.keep Dd;refine ir (cz ?_);refine aI (eZ (rh (H2.load k2 m2 rfl (Attribute_name (H2.load k1 m1 rfl (lE (X _ H2.nx.g) CK.cls I2 (CK.none_ _ (al 2)) hr rfl ?_))))));have nb:=Nx.tok H2.nx.g (s1.toks+1);have H3:=H2.on nb;have aed:valueAt bq (ao nm)=none:=by
  unfold valueAt;rw[List.find?_eq_none.mpr (λq hq=>by simpa using dH q hq)];rfl
 refine wpAny_in_of (eK _ _ (ao nm) t) c6 (hZ nb.keep D2).mapOf ?_;rw[aed];have nc:=Nx.tok H3.nx.g (s1.toks+1+1);have H4:=H3.on nc;have wP:=(jX.trans nb).trans nc;refine ir (cz ?_);have e0:eval (.Call (.Name "ScopeRow" wI) [.Name "name" wJ,.Name "entry" wK,.Name "spot" wL,.Attribute (.Name "self" wM) "owner" wN,.Name "is_checked" wO] [] tO) env=(eval (.Name "ScopeRow" wI) env>>=λfv=>callWith tO fv [] (backTo tO (starEach [.Name "name" wJ,.Name "entry" wK,.Name "spot" wL,.Attribute (.Name "self" wM) "owner" wN,.Name "is_checked" wO] env)) []):=rfl;refine aI (rk ?_);rw[e0];refine aj (H4.glob kg rfl (de (S.st _ H4.nx.g) (n3 P)) hg (qi (Dm P).makes rfl ?_));refine dj (aV (H4.load k2 m2 rfl (aV (H4.load k3 m3 rfl (aV (H4.load k4 m4 rfl (aV (Attribute_name (H4.load k1 m1 rfl (lE (X _ H4.nx.g) CK.cls (I.keep wP.keep) (CK.none_ _ (al 1)) ho hh ?_))))))))));have ne:=Nx.tok H4.nx.g (s1.toks+1+1+1);have H5:=H4.on ne;have iF:=wP.trans ne;refine aV (H5.load k5 m5 rfl (ce (show _∧_∧_ from⟨rfl,X _ H5.nx.g,dq ?_⟩)));refine Y4 S HM H9 H5.nx.g (H5.fr H9) (by have:=rm.1;omega) λr dr mr s6 n6 lj E4 Ir lk j=>?_;have H6:=H5.on n6;have pX:=iF.trans n6;refine Attribute_name (H6.load k1 m1 rfl (lE (X _ H6.nx.g) CK.cls (I.keep pX.keep) (CK.none_ _ (al 2)) hr rfl ?_));have nf:=Nx.tok H6.nx.g (s6.toks+1);have H7:=H6.on nf;have D7:=hZ (pX.trans nf).keep Dd;refine H7.load k2 m2 rfl (wpAny_setItem_pairs (eK _ _ (ao nm) t) D7 (λh' a8 c9=>?_) (by rw[sizeLine_eq];omega));rw[stored_new dH]at a8;have AM:s.heap.get? r=none:=cO iF lj;have NT:s.heap.get? dr=none:=cO iF E4;refine bC (id Dd) λod j j wQ j=>?_;have rd:r≠d:=by rintro rfl;exact bg AM wQ
 have drd:dr≠d:=by rintro rfl;exact bg NT wQ
 refine cz (hq r dr mr _ (Nx.but (X:=λb=>b=d) HM H9 H.bj H7.nx (λb q=>by rw[q];exact eE) (λb o q e=>(c9.2 b q).trans e) λb o q e vs hv=>?_) AM NT (Ir.ext (λo e=>(c9.2 _ rd).trans e) λo e=>(c9.2 _ drd).trans e) lk a8);rw[q]at e;exact(dict_cls D7 e).2 vs hv
end
theorem LW(P:Params):dY P 449=true:=by kernel_rfl
theorem ZB(P:Params):∃rs,bodyOf (ai P 449)=Jb rs (aa 433 11 15) (aa 433 19 22) (aa 433 11 22) (aa 434 12 18) ⟨433,8,434,18⟩ (aa 435 11 15) (aa 435 19 23) (aa 435 19 28) (aa 435 11 28) ⟨435,8,436,58⟩ (aa 437 8 12) (aa 437 8 17) (aa 437 18 22) (aa 437 8 23) (aa 437 26 34) (aa 437 35 39) (aa 437 41 46) (aa 437 48 52) (aa 437 54 58) (aa 437 54 64) (aa 437 66 76) (aa 437 26 77) (aa 437 8 77):=⟨[(.Raise (some (.Call (.Name "NameFault" (aa 436 18 27)) [(.BinOp (.Name "name" (aa 436 28 32)) .Add (.Constant (.str " is told twice") 0 (aa 436 35 51)) (aa 436 28 51)),(.Name "spot" (aa 436 53 57))] [] (aa 436 18 58))) none (aa 436 12 58))],by kernel_rfl⟩
theorem LX(P:Params):fj P 449 ["self","name","entry","spot","is_checked"]=true:=by kernel_rfl
theorem ZC(P:Params):(ai P 449).scope.names.lookup ("ScopeRow":Str)=some .globalImplicit:=by kernel_rfl
theorem aee(P:Params):bT P mainGlobals "ScopeRow"=some (.ref 422):=by kernel_rfl
theorem ZD(P:Params):fC P [442]=true:=by kernel_rfl
theorem ZE(P:Params)(x n e p:Value)(Z:Setting):peek (aC P [442]) Z (bindArgs (ai P 449) ⟨[x,n,e,p],[]⟩)=some ((["self","name","entry","spot","is_checked"]:List Str).zip [x,n,e,p,.bool false]):=by kernel_rfl
theorem U0{c:Cx}{P:Params}{A:Around}{s:Shared}{R:Result→Shared→Prop}(S:aN c P)(HM:az c)(H9:av c)(HD:cD c){xs cN d:Addr}{ms:Str→Option Value}{bq:List (Str×Value)}{nm:List Nat}{t:Tok}{en sp ow:Value}
  (g:c.G s.heap)(fr:bI c A s.heap)(rm:aP A 3)(I:aJ s.heap xs cN 495 ms)(hr:ms "rows"=some (.ref d))(ho:ms "owner"=some ow)(hh:handedIn ow=true)(Dd:s.heap.DictOf (strKind c.prog c.w) d bq)(c6:(d==sysModules)=false)(a7:¬c.aT d)(hlen:bq.length≤1000)
  (kZ:eh nm [95]=false)(dH:∀q∈bq,q.1≠ao nm)
  (hq:∀r dr mr s',Nx c (less s d) s'→s.heap.get? r=none→s.heap.get? dr=none→aJ s'.heap r dr 422 mr→mr "entry"=some en→s'.heap.DictOf (strKind c.prog c.w) d (bq++[(ao nm,.ref r)])→R (.ok (.ret .none)) s'):
  codeAny c.M A (.call (.ref 449) ⟨[.ref xs,.str (ao nm) t,en,sp],[]⟩) R s:=by
 refine ah (cI (LW P)) λo F hf=>?_;refine bC (id Dd) λod j j wQ j=>?_;have hc:=dict_cls Dd wQ;have cq:∀o,s.heap.get? d=some o→o.cls=.type "dict"∧∀vs,o.data≠.fields vs:=λo e=>dict_cls Dd e;have g0:=qK HM g a7 (λo e=>(cq o e).2);refine call_plain HM.push H9 (eI S) S.st F hf (s₀:=less s d) g0 (j3 g) (qC fr λo e=>by rw[(cq o e).1];exact cy) (by have:=rm.1;omega) (ZD P) (ZE P (.ref xs) (.str (ao nm) t) en sp) (λb hb=>bQ (LX P) (fP (a:=b.1) (b:=b.2) hb).1) λenv s2 ay hL k2 n2 H2=>?_;have kd:∀y,y∈(["self","name","entry","spot","is_checked"]:List Str)→env.kindOf y=some .local:=λy hy=>by show env.scope.names.lookup y=_;rw[ay];exact bQ (LX P) hy
 have hb:∀(i:Nat) (y:Str) (v:Value),(["self","name","entry","spot","is_checked"]:List Str)[i]?=some y→([.ref xs,.str (ao nm) t,en,sp,.bool false]:List Value)[i]?=some v→bindL env.kindOf ((["self","name","entry","spot","is_checked"]:List Str).zip [.ref xs,.str (ao nm) t,en,sp,.bool false]) (λj=>none) y=some v:=
  λi y v h1 h2=>bR (aR (by kernel_rfl)) h1 h2 (kd _ (tn h1))
 have kg:env.kindOf "ScopeRow"=some .globalImplicit:=by show env.scope.names.lookup _=_;rw[ay];exact ZC P
 refine ak (ZB P) λrs FQ=>?_;rw[FQ];have Ge:aP (A.deeper env) 1:=⟨by rw[depth_deeper];have:=rm.1;omega,by rw[units_deeper];have:=rm.2.1;omega,rm.2.2⟩;have jh:d≠env.locals:=by rw[hL];exact fresh_ne wQ
 refine TD S HM H9 HD H2 Ge (I.keep n2.keep) hr ho hh (hZ n2.keep Dd) c6 hlen kZ dH (Heap.hide_self _ _) jh (kd _ (al 0)) (kd _ (al 1)) (kd _ (al 2)) (kd _ (al 3)) (kd _ (al 4)) kg (aee P)
  (hb 0 _ _ rfl rfl) (hb 1 _ _ rfl rfl) (hb 2 _ _ rfl rfl) (hb 3 _ _ rfl rfl) (hb 4 _ _ rfl rfl) λr dr mr s' n' h1 h2 Ir lk D'=>hq r dr mr s' n' (cO n2 h1) (cO n2 h2) Ir lk D'
abbrev Nl(c:Cx)(a:Addr)(s s':Shared):Prop:=Nx c (less s a) s'
section
variable{c:Cx}{A:Around}{env:Env}{s₀ s s' aS:Shared}{m:Str→Option Value}{a b d x dx C:Addr}
theorem im(g:c.G s.heap)(n:Nx c s s'):Nl c a s s':=(j3 g).trans n
theorem Nl.cu{m:Str→Option Value}(n:Nl c a s s')(h1:x≠a)(h2:dx≠a)(I:aJ s.heap x dx C m):aJ s'.heap x dx C m:=(I.ext (λo e=>(dE _ h1).trans e) (λo e=>(dE _ h2).trans e)).keep n.keep
theorem Nl.dict{bq:List (Str×Value)}(n:Nl c a s s')(h:d≠a)(D:s.heap.DictOf (strKind c.prog c.w) d bq):s'.heap.DictOf (strKind c.prog c.w) d bq:=hZ n.keep (nT D λo e=>(dE _ h).trans e)
theorem Nl.empty(n:Nl c a s s')(h:d≠a)(e:s.heap.get? d=some emptyDict):s'.heap.get? d=some emptyDict:=cx n.keep ((dE _ h).trans e) (λvs q=>by cases q) cy
def dU(h:Heap)(a:Addr):Prop:=∀t vs,¬aQ h a t vs
theorem Hr{h:Heap}(hs:dU h a):cJ h (h.hide a):=cJ.sameBut (Heap.SameBut.update ..) hs
theorem Nl.tells{v:Value}{e:D}(n:Nl c a s s')(hs:dU s.heap a)(T:Tells c.σ s.heap v e):Tells c.σ s'.heap v e:=(T.seq (Hr hs)).keep n.keep
theorem Nl.ju{v:List Value}{e:List D}(n:Nl c a s s')(hs:dU s.heap a)(T:ax c.σ s.heap v e):ax c.σ s'.heap v e:=(T.seq (Hr hs)).keep n.keep
theorem lB{prog:Program}{w:PySem.World}{h:Heap}{bq:List (Str×Value)}(D:h.DictOf (strKind prog w) d bq):dU h d:=λt vs ⟨o,e,a1,_,_,a4⟩=>by
 refine eT D λo' es ep e' hx hd j=>?_;cases aD e' a1;rw[hd]at a4;cases a4
theorem fB{h:Heap}{m:Str→Option Value}(n:h.Ns d m):dU h d:=ul n
theorem BC{h:Heap}{l:Addr}{i:Nat}(n:h.IsListIter d l i):dU h d:=λt vs ⟨o,e,a1,_,_,a4⟩=>by
 refine bS n λo' e' j hd=>?_;cases aD e' a1;rw[hd]at a4;cases a4
theorem Nl.iter{l:Addr}{i:Nat}(n:Nl c a s s')(h:d≠a)(I:s.heap.IsListIter d l i):s'.heap.IsListIter d l i:=by
 refine bS I λo e hc hd=>?_;refine eV (n.keep.2 _ _ ((dE _ h).trans e)) λo' e' c' j j g' j=>?_;exact⟨o',e',c'.trans hc,(g' ⟨.inr (.inr hc),_,hd⟩).1.trans hd⟩
theorem Nl.seq{t:String}{vs:List Value}(n:Nl c a s s')(hs:dU s.heap a)(I:aQ s.heap d t vs):aQ s'.heap d t vs:=by
 have bk:d≠a:=λq=>hs t vs (q▸I);refine bW I λo nn e hc hd Aj=>?_;refine eV (n.keep.2 _ _ ((dE _ bk).trans e)) λo' e' c' d' f' j j=>?_;exact⟨o',nn,e',c'.trans hc,d'.trans hd,(f' λvs q=>by rw[Aj]at q;cases q).trans Aj⟩
theorem fM{h':Heap}{tk:Tok}(g:c.G h')(hs:∀b o,b≠a→s.heap.get? b=some o→h'.get? b=some o):Nl c a s {s with heap:=h',toks:=tk}:=
 ⟨h',tk,rfl,aE.gb λb o e=>by
  by_cases q:b=a
  ·rw[q,Heap.hide_self]at e;exact aF e
  ·exact hs b o q (Heap.of_hide e),g⟩
theorem aE.wF{h₀ h:Heap}(k:aE h₀ h)(hn:h₀.get? a=none):aE h₀ (h.hide a):=⟨trivial,λb o e=>ah (k.2 b o e) λo' e' r=>⟨o',(dE _ λq=>bg hn (q▸e)).trans e',r⟩⟩
theorem Nl.nx(n:Nl c a s s')(h:s₀.heap.get? a=none)(n0:Nx c s₀ s):Nx c s₀ s':=
 aO n0 λh1 t1 e r=>by
  subst e;exact aO n λh2 t2 e r2=>⟨h2,t2,e,(r.1.wF h).trans r2.1,r2.2⟩
theorem Nl.trans(n:Nl c a s s')(n':Nl c a s' aS):Nl c a s aS:=n'.nx (Heap.hide_self ..) n
theorem aq.nl(H:aq c A env s₀ s m)(n:Nl c a s s')(ha:s₀.heap.get? a=none)(haL:a≠env.locals):aq c A env s₀ s' m:=by
 have af:(less s a).heap.Ns env.locals m:=by
  refine bC H.ns λo es ep e r=>?_;exact⟨o,es,ep,(dE _ (bi haL)).trans e,r⟩
 refine⟨H.out,H.frame,H.kind,H.bE,H.blt,H.new,?_,H.bj,n.nx ha H.nx,n.keep.ns af⟩;exact ik.keep af n.keep λo e=>H.cls o (Heap.of_hide e)
theorem aq.st(H9:av c)(H:aq c A env s₀ s m){n:Nat}{vs:List (Option Str)}{ρ:List (Option D)}(oG:env.kindOf "self"≠some .cell)(fQ:∀(i:Nat) (x:Str),vs[i]?=some (some x)→env.kindOf x=some .local)
  (hv:∀(i:Nat) (x:Str) (d:D),vs[i]?=some (some x)→cZ ρ i=some (some d)→∃v,m x=some v∧Tells c.σ s.heap v d)(r:aP A n):St c A n env.scope env s.heap vs ρ:=
 ⟨H.nx.g,⟨rfl,H.kind,H.bE,H.blt,λz=>absurd z oG,λi x h1 h2=>(by rw[fQ i x h1]at h2;cases h2),λi x d h1 h2=>let⟨v,a,b⟩:=hv i x d h1 h2;⟨v,.inl ⟨fQ i x h1,m,H.ns,a⟩,b⟩⟩,r,H.fr H9⟩
noncomputable def dw(m:Str→Option Value)(xs:List Str)(vs:List Value):Str→Option Value:=
 @List.rec Str (λj=>List Value→(Str→Option Value)→Str→Option Value) (λj m=>m) (λx j ih vs m=>@List.rec Value (λj=>Str→Option Value) m (λv vs j=>ih vs (upd m x v)) vs) xs vs m
theorem nU{y:Str}{xs:List Str}:∀{vs:List Value} {m:Str→Option Value},y∉xs→dw m xs vs y=m y:=by
 induction xs with
 |nil=>exact λj=>rfl
 |cons x xs ih=>
  intro vs m h;cases vs with
  |nil=>rfl
  |cons v vs=>exact(ih λq=>h (bH _ q)).trans (bD fun(q:y=x)=>h (q▸dW))
theorem nX{x:Str}{v:Value}{xs:List Str}:∀{vs:List Value} {m:Str→Option Value} {i:Nat},xs.Nodup→xs[i]?=some x→vs[i]?=some v→dw m xs vs x=some v:=by
 induction xs with
 |nil=>exact λj h=>aF h
 |cons y xs ih=>
  intro vs m i hn h1 h2;cases vs with
  |nil=>exact aF h2
  |cons u vs=>cases i with
   |zero=>rw[←Option.some.inj h1,←Option.some.inj h2];exact(nU (List.nodup_cons.mp hn).1).trans (cT rfl)
   |succ i=>exact ih (List.nodup_cons.mp hn).2 h1 h2
def OZ(c:Cx)(A:Around)(env:Env)(E:Value→Shared→Prop)(x:Str)(t:Value→Sem Unit):Prop:=env.kindOf x=some .local∧∀(v:Value) (s:Shared) (Q:Unit→Shared→Prop),wpAny c.M A (storeName env x v) Q E s→wpAny c.M A (t v) Q E s
theorem stores0(HM:az c)(H9:av c){E:Value→Shared→Prop}{xs:List Str}{ts:List (Value→Sem Unit)}(hf:d9 (OZ c A env E) xs ts):∀{us:List Value} {s:Shared} {m:Str→Option Value} {Q:Unit→Shared→Prop},xs.length=us.length→aq c A env s₀ s m→
  (∀s',aq c A env s₀ s' (dw m xs us)→Nl c env.locals s s'→Q () s')→wpAny c.M A (assignInOrder ts us) Q E s:=by
 induction hf with
 |nil=>
  intro us s m Q hl H;exact lenZ (G:=λus=>(∀s',aq c A env s₀ s' (dw m [] us)→Nl c env.locals s s'→Q () s')→wpAny c.M A (assignInOrder [] us) Q E s) hl λh=>assignInOrder_nil (h s H (j3 H.nx.g))
 |@cons x t xs ts hx hf ih=>
  intro us s m Q hl H;refine ru (G:=λus=>(∀s',aq c A env s₀ s' (dw m (x::xs) us)→Nl c env.locals s s'→Q () s')→wpAny c.M A (assignInOrder (t::ts) us) Q E s) hl λu us hl h=>?_;refine jE (hx.2 _ _ _ (H.store HM H9 hx.1 λs1 H1 z=>aO z λtk h1 e1 fW=>?_));have n1:Nl c env.locals s s1:=by
   have g1:=H1.nx.g;rw[e1]at g1⊢;exact fM g1 λb o q e=>(fW.2 b q).trans e
  exact ih hl H1 λs2 H2 n2=>h s2 H2 (n1.trans n2)
theorem names0{E:Value→Shared→Prop}{xs:List Str}:∀{ps:List Expr},ps.map asName=xs.map some→(∀x∈xs,env.kindOf x=some .local)→(assignEach ps env).length=ps.length∧(assignEach ps env).findIdx? (·.1)=none∧d9 (OZ c A env E) xs ((assignEach ps env).map (·.2)):=by
 induction xs with
 |nil=>exact λh j=>List.map_eq_nil_iff.mp h▸⟨rfl,rfl,.nil⟩
 |cons x xs ih=>
  intro ps h hl;cases ps with
  |nil=>exact absurd h.symm (List.cons_ne_nil _ _)
  |cons p ps=>
   refine RC (List.cons.inj h).1 λq=>bY (ih (List.cons.inj h).2 λy hy=>hl y (bH _ hy)) λa b d=>?_;rw[show assignEach (.Name x q::ps) env=(false,assign (.Name x q) env)::assignEach ps env from rfl];exact⟨bp Nat.succ a,by rw[List.findIdx?_cons,b];rfl,.cons ⟨hl x dW,λv s Q k=>assign_Name k⟩ d⟩
end
section
variable{prog:Program}{w:PySem.World}{A:Around}{E:Value→Shared→Prop}{s:Shared}
theorem Hn{ts:List Expr}{k:Nat}{p:Pos}{it l:Addr}{i:Nat}{v:Value}{Q:Unit→Shared→Prop}(I:s.heap.IsListIter it l i)(h:Q () s):wpAny (model prog w) A (letOwnedTupleGo (.Tuple ts k p) (.ref it) v) Q E s:=by
 unfold letOwnedTupleGo;cases v with
 |ref a=>
  refine bS I λo e hc hd=>?_;refine aj (wpAny_load e ?_);rw[hc,hd];dsimp only;rw[if_neg (by simp)];exact aM h
 |_=>exact aM h
theorem TE{R:Result→Shared→Prop}{target:Expr}{it:Value}{body orelse:List Stmt}{env:Env}(I:Nat→Shared→Prop)
  (turn:∀n s,I n s→wpAny (model prog w) A (pyNext it) (λr an=>match r with
   |none=>wpAny (model prog w) A (execs orelse env) (λf df=>R (.ok f) df) (notedBy (model prog w) A env λe s'=>R (.error e) s') an
   |some v=>wpAny (model prog w) A (letOwnedTupleGo target it v) (λz an=>wpAny (model prog w) A (assign target env v) (λz cB=>wpAny (model prog w) A (execs body env) (λf df=>match f with
     |.next|.cont=>∃m,m<n∧I m df
     |.brk=>R (.ok .next) df
     |.ret v=>R (.ok (.ret v)) df) (notedBy (model prog w) A env λe s'=>R (.error e) s') cB) (notedBy (model prog w) A env λe s'=>R (.error e) s') an) (notedBy (model prog w) A env λe s'=>R (.error e) s') an) (notedBy (model prog w) A env λe s'=>R (.error e) s') s)
  (n:Nat)(h:I n s):codeAny (model prog w) A (.forLoop target it body orelse env) R s:=by
 refine codeAny_loop' rfl I (λn s hI=>?_) n h;show wpAny _ _ ((forTurn target it body orelse env).onRaise (λx=>do noteFrame x env;theTreesLotGoes x)) _ _ s;refine wpAny_noted ?_;simp only[forTurn];refine aj (iW (aj (wpAny_onRaise (aL (turn n s hI) (λr an h₁=>?_) λz z h'=>iW h'))));cases r with
 |none=>exact aM (.inr ⟨rfl,codeAny_block h₁⟩)
 |some v=>
  refine aj (aL h₁ (λz an h₁=>?_) λz z h'=>h');refine aj (aL h₁ (λz cB d7=>aj (aL d7 (λf df fe=>?_) λz z h'=>h')) λz z h'=>h');cases f with
  |next=>exact aM (.inl ⟨rfl,fe⟩)
  |cont=>exact aM (.inl ⟨rfl,fe⟩)
  |brk=>exact aM fe
  |ret v=>exact aM fe
end
section
variable{c:Cx}{A:Around}{env:Env}{s₀ s:Shared}{m:Str→Option Value}{E:Value→Shared→Prop}
theorem xV(HM:az c)(H9:av c)(bj:c.G s₀.heap)(g:c.G s.heap){ia l:Addr}{i:Nat}{h':Heap}(h0:s₀.heap.get? ia=none)(I:s.heap.IsListIter ia l i)(hs:∀b o,b≠ia→s.heap.get? b=some o→h'.get? b=some o):c.G h':=by
 refine bS I λoi ei hc hd=>?_;refine HM _ _ (λb o st e=>hs b o ?_ e) (λb o e tK hv=>⟨o,hs b o ?_ e,rfl,rfl⟩) g
 ·rintro rfl
  refine ak (H9 _ _ bj st) λo' e'=>?_;exact bg h0 e'
 ·rintro rfl
  cases aD ei e;rw[hc]at tK;exact absurd (iv tK) (by decide)
theorem xj{i n l:Nat}(h:i+n=l+1)(k:i<l):n-1<n∧i+1+(n-1)=l+1:=by omega
structure wR(c:Cx)(J:Nat→Shared→Prop)(us:List Value)(ds:List D)(a:Addr)(i:Nat)(s:Shared):Prop where
 j:J i s
 sq:aQ s.heap a "list" us
 tl:ax c.σ s.heap us ds
theorem wR.mv{J:Nat→Shared→Prop}{us:List Value}{ds:List D}{a b:Addr}{i:Nat}{s':Shared}(X:wR c J us ds a i s)(h:J i s→dU s.heap b→Nl c b s s'→J i s')(ns:dU s.heap b)(n:Nl c b s s'):wR c J us ds a i s':=⟨h X.j ns n,n.seq ns X.sq,n.ju ns X.tl⟩
theorem Jc(HM:az c)(H9:av c){ts:List Expr}{xs:List Str}{kk:Nat}{p1 pos:Pos}{iter:Expr}{body:List Stmt}{Q:Flow→Shared→Prop}{ds:List D}{J:Addr→Nat→Shared→Prop}(Ay:ts.map asName=xs.map some)(fQ:∀x∈xs,env.kindOf x=some .local)(hh:A.handled=none)
  (hf:∀x,foldedSetIterable iter env x=pure x)(gu:∀d∈ds,∃es,d=.tuple es∧es.length=xs.length)
  (hi:wpAny c.M A (eval iter env) (λv s1=>∃a us,v=.ref a∧aQ s1.heap a "list" us∧ax c.σ s1.heap us ds∧aq c A env s₀ s1 m∧∀o s2,s2={s1 with heap:=s1.heap.push o}→Nx c s1 s2→J s1.heap.objs.size 0 s2) E s)
  (AN:∀ia i a s s',J ia i s→(a=ia∨a=env.locals)→dU s.heap a→Nl c a s s'→J ia i s')
  (step:∀ia a us i es vs s' m' E',ds[i]?=some (.tuple es)→ax c.σ s'.heap vs es→aq c A env s₀ s' (dw m' xs vs)→(∀y,y∉xs→m' y=m y)→J ia i s'→s'.heap.IsListIter ia a (i+1)→aQ s'.heap a "list" us→ax c.σ s'.heap us ds→ia≠env.locals→s₀.heap.get? ia=none→
   wpAny c.M A (execs body env) (λfl aS=>fl=.next∧J ia (i+1) aS∧aq c A env s₀ aS (dw m' xs vs)∧aS.heap.IsListIter ia a (i+1)∧aQ aS.heap a "list" us∧ax c.σ aS.heap us ds) E' s')
  (hq:∀ia s' m',J ia ds.length s'→aq c A env s₀ s' m'→(∀y,y∉xs→m' y=m y)→Q .next s'):wpAny c.M A (exec (.For (.Tuple ts kk p1) iter body [] pos) env) Q E s:=by
 refine wpAny_For (aL hi (λv s1 h=>Cv h λa us e hl tl H1 j0=>?_) λz z q=>q) hf;subst e;refine wpAny_pyIter_list hl.list ?_;have hlen:=tl.length;have n2:Nx c s1 {s1 with heap:=s1.heap.push {cls:=.type "list_iterator",data:=.fields #[.ref a,.int 0 0]}}:=Nx.ext HM.push H1.nx.g _ s1.toks λb o e=>bA _ e;have nD:s₀.heap.get? s1.heap.objs.size=none:=cO H1.nx (cX (dp _));have hK:s1.heap.objs.size≠env.locals:=bC H1.ns λo es ep e z=>bi (fresh_ne e);have Gg:(s1.heap.push {cls:=.type "list_iterator",data:=.fields #[.ref a,.int 0 0]}).IsListIter s1.heap.objs.size a 0:=⟨_,dy _ rfl,rfl,rfl⟩;have X0:wR c (J s1.heap.objs.size) us ds a 0 {s1 with heap:=s1.heap.push {cls:=.type "list_iterator",data:=.fields #[.ref a,.int 0 0]}}:=⟨j0 _ _ rfl n2,Nl.seq (a:=env.locals) (im H1.nx.g n2) (fB H1.ns) hl,tl.keep n2.keep⟩;have H2:=H1.on n2;generalize s1.heap.objs.size=ia at nD hK Gg X0⊢;refine TE (λn s'=>∃i m',i+n=ds.length+1∧i≤ds.length∧aq c A env s₀ s' m'∧(∀y,y∉xs→m' y=m y)∧s'.heap.IsListIter ia a i∧wR c (J ia) us ds a i s') (λn s' hI=>?_) (ds.length+1) ⟨0,m,Nat.zero_add _,gO _,H2,λz z=>rfl,Gg,X0⟩;clear Gg X0 H2 j0 hl tl n2 H1;refine JZ hI λi m' hn Ak H' iG hit X=>?_;have Gh:=BC hit;cases hv:us[i]?with
 |none=>
  have hle:i=ds.length:=Nat.le_antisymm Ak (hlen▸List.getElem?_eq_none_iff.mp hv);refine wpAny_pyNext_list_end hh hit X.sq.list ((ri ..).trans hv) λh1 pY=>?_;have n1:Nl c ia s' {s' with heap:=h1}:=fM (xV HM H9 H'.bj H'.nx.g nD hit λb o q e=>pY b o q e) λb o q e=>pY b o q e;exact cz (hq ia _ m' (hle▸(X.mv (AN ia i ia s' _ · (.inl rfl)) Gh n1).j) (H'.nl n1 nD hK) iG)
 |some u=>
  have dc:i<ds.length:=hlen▸(List.getElem?_eq_some_iff.mp hv).1;refine ak (⟨_,jA dc⟩:∃d,ds[i]?=some d) λd hd=>ah (gu d (tn hd)) λes ed O0=>?_;subst ed;refine wpAny_pyNext_list_item hit X.sq.list ((ri ..).trans hv) λh1 fy fW=>?_;have n1:Nl c ia s' {s' with heap:=h1}:=fM (xV HM H9 H'.bj H'.nx.g nD hit λb o q e=>(fW.2 b q).trans e) λb o q e=>(fW.2 b q).trans e;have AO:=H'.nl n1 nD hK;have X1:=X.mv (AN ia i ia s' _ · (.inl rfl)) Gh n1;refine Hn fy ?_;refine ah (X1.tl.get hd) λu' pO tu=>?_;cases aD hv pO;clear H' X hit Gh fW n1 hI;refine mf tu λb vs hx tx=>?_;refine bY (names0 (c:=c) (A:=A) (E:=notedBy c.M A env λe s'=>(match(Except.error e:Result)with|.ok f=>Q f s'|.error e=>cameBackBy c.M A env E e s')) Ay fQ) λa1 a2 a3=>?_;have aef:ts.length=xs.length:=by have:=bp List.length Ay;rwa[List.length_map,List.length_map]at this
  refine oS hh hx.tuple (by rw[a1,List.size_toArray,tx.length,O0,aef]) a2 λh2 hk=>?_;have n2:Nx c {s' with heap:=h1} {s' with heap:=h2}:=Nx.ext HM.push AO.nx.g h2 s'.toks λb o e=>hk b o (bL (cA e)) e;have H2:=AO.on n2;have O1:Nl c env.locals {s' with heap:=h1} {s' with heap:=h2}:=im AO.nx.g n2;have X2:=X1.mv (AN ia i env.locals _ _ · (.inr rfl)) (fB AO.ns) O1;have nE:=O1.iter hK fy;refine stores0 HM H9 a3 (by rw[tx.length,O0]) H2 λs3 H3 n3=>?_;have NU:=fB H2.ns;have X3:=X2.mv (AN ia i env.locals _ _ · (.inr rfl)) NU n3;refine aL (step ia a us i es vs s3 m' _ hd (n3.ju NU (tx.keep n2.keep)) H3 iG X3.j (n3.iter hK nE) X3.sq X3.tl hK nD) (λfl s4 h=>l9 h λe4 j4 H4 it4 sq4 tl4=>?_) λz z q=>q;subst e4;exact⟨n-1,(xj hn dc).1,i+1,_,(xj hn dc).2,dc,H4,λy hy=>(nU hy).trans (iG y hy),it4,j4,sq4,tl4⟩
end
structure BW where
 xw:Addr
 cw:Addr
 xs:Addr
 cN:Addr
 dn:Addr
 dg:Addr
 dm:Addr
 dr:Addr
 mw:Str→Option Value
 ms:Str→Option Value
def R1(c:Cx)(h:Heap)(Y:List Addr)(C:Addr)(at_:Str)(q:List Nat×Option D)(kv:Str×Value):Prop:=kv.1=ao q.1∧∃x,kv.2=.ref x∧∀d,q.2=some d→∃dx mr v,aJ h x dx C mr∧mr at_=some v∧handedIn v=true∧Tells c.σ h v d∧x∉Y∧dx∉Y
noncomputable def RT(c:Cx)(h:Heap)(Y:List Addr)(C:Addr)(at_:Str):List (List Nat×Option D)→List (Str×Value)→Prop
 |[],[]=>True
 |q::l,kv::r=>R1 c h Y C at_ q kv∧RT c h Y C at_ l r
 |_,_=>False
noncomputable def GT(c:Cx)(h:Heap):List (List Nat×D)→List (Str×Value)→Prop
 |[],[]=>True
 |q::l,kv::r=>(kv.1=ao q.1∧Tells c.σ h kv.2 q.2)∧GT c h l r
 |_,_=>False
section
variable{c:Cx}{h h':Heap}{Y Y':List Addr}{C:Addr}{at_:Str}
theorem R1.move{q:List Nat×Option D}{kv:Str×Value}(x:R1 c h Y C at_ q kv)(hI:∀x dx m,x∉Y→dx∉Y→aJ h x dx C m→aJ h' x dx C m∧x∉Y'∧dx∉Y')(hT:∀v d,Tells c.σ h v d→Tells c.σ h' v d):R1 c h' Y' C at_ q kv:=by
 refine xZ x λa x e f=>?_;refine⟨a,x,e,λd hd=>?_⟩;refine lI (f d hd) λdx mr v I b1 b2 b3 b4 b5=>?_;refine bY (hI _ _ _ b4 b5 I) λI' y1 y2=>?_;exact⟨dx,mr,v,I',b1,b2,hT _ _ b3,y1,y2⟩
theorem RT.move(hI:∀x dx m,x∉Y→dx∉Y→aJ h x dx C m→aJ h' x dx C m∧x∉Y'∧dx∉Y')(hT:∀v d,Tells c.σ h v d→Tells c.σ h' v d):∀{l:List (List Nat×Option D)} {r:List (Str×Value)},RT c h Y C at_ l r→RT c h' Y' C at_ l r
 |[],[],_=>trivial
 |_::_,_::_,⟨a,b⟩=>⟨a.move hI hT,RT.move hI hT b⟩
 |[],_::_,x=>x.elim
 |_::_,[],x=>x.elim
theorem RT.snoc{q:List Nat×Option D}{kv:Str×Value}(y:R1 c h Y C at_ q kv):∀{l:List (List Nat×Option D)} {r:List (Str×Value)},RT c h Y C at_ l r→RT c h Y C at_ (l++[q]) (r++[kv])
 |[],[],_=>⟨y,trivial⟩
 |_::_,_::_,⟨a,b⟩=>⟨a,RT.snoc y b⟩
 |[],_::_,x=>x.elim
 |_::_,[],x=>x.elim
theorem RT.keys:∀{l:List (List Nat×Option D)} {r:List (Str×Value)},RT c h Y C at_ l r→r.map (·.1)=l.map λq=>ao q.1
 |[],[],_=>rfl
 |_::_,_::_,⟨a,b⟩=>by rw[List.map_cons,List.map_cons,a.1,RT.keys b]
 |[],_::_,x=>x.elim
 |_::_,[],x=>x.elim
theorem GT.move(hT:∀v d,Tells c.σ h v d→Tells c.σ h' v d):∀{l:List (List Nat×D)} {r:List (Str×Value)},GT c h l r→GT c h' l r
 |[],[],_=>trivial
 |_::_,_::_,⟨a,b⟩=>⟨⟨a.1,hT _ _ a.2⟩,GT.move hT b⟩
 |[],_::_,x=>x.elim
 |_::_,[],x=>x.elim
theorem GT.snoc{q:List Nat×D}{kv:Str×Value}(y:kv.1=ao q.1∧Tells c.σ h kv.2 q.2):∀{l:List (List Nat×D)} {r:List (Str×Value)},GT c h l r→GT c h (l++[q]) (r++[kv])
 |[],[],_=>⟨y,trivial⟩
 |_::_,_::_,⟨a,b⟩=>⟨a,GT.snoc y b⟩
 |[],_::_,x=>x.elim
 |_::_,[],x=>x.elim
theorem GT.keys:∀{l:List (List Nat×D)} {r:List (Str×Value)},GT c h l r→r.map (·.1)=l.map λq=>ao q.1
 |[],[],_=>rfl
 |_::_,_::_,⟨a,b⟩=>by rw[List.map_cons,List.map_cons,a.1,GT.keys b]
 |[],_::_,x=>x.elim
 |_::_,[],x=>x.elim
end
structure Ow(c:Cx)(X:List Addr)(s:Shared)(w:BW)(Nt:List (List Nat×Option D))(Gt:List (List Nat×D))(Rt:List (List Nat×Option D))(N G R:List (Str×Value)):Prop where
 iw:aJ s.heap w.xw w.cw 562 w.mw
 gw:aJ s.heap w.xs w.cN 495 w.ms
 wn:w.mw "named"=some (.ref w.dn)
 wg:w.mw "globals"=some (.ref w.dg)
 wm:w.mw "measured"=some (.ref w.dm)
 wt:w.mw "settle"=some .none
 wo:w.mw "base_of"=none∧w.mw "settled"=none
 sr:w.ms "rows"=some (.ref w.dr)
 so:w.ms "outer"=some .none
 sw:w.ms "owner"=some .none
 sn:Within w.ms ["rows","owner","outer"]
 dn:s.heap.DictOf (strKind c.prog c.w) w.dn N
 dg:s.heap.DictOf (strKind c.prog c.w) w.dg G
 dr:s.heap.DictOf (strKind c.prog c.w) w.dr R
 dm:s.heap.get? w.dm=some emptyDict
 off:∀a,a∈[w.xw,w.cw,w.xs,w.cN,w.dm]→a∉w.dn::w.dg::w.dr::X
 apart:w.dn∉w.dg::w.dr::X∧w.dg∉w.dn::w.dr::X∧w.dr∉w.dn::w.dg::X
 nt:RT c s.heap (w.dn::w.dg::w.dr::X) 519 "underlying" Nt N
 gt:GT c s.heap Gt G
 rt:RT c s.heap (w.dn::w.dg::w.dr::X) 422 "entry" Rt R
section
variable{c:Cx}{X:List Addr}{s s':Shared}{w:BW}{Nt:List (List Nat×Option D)}{Gt:List (List Nat×D)}{Rt:List (List Nat×Option D)}{N G R:List (Str×Value)}{a:Addr}
theorem bU{Y:List Addr}{x:Addr}(h:x∉Y)(ha:a∈Y):x≠a:=λq=>h (q▸ha)
theorem Ow.nl(O:Ow c X s w Nt Gt Rt N G R)(ha:a∈X)(hs:dU s.heap a)(n:Nl c a s s'):Ow c X s' w Nt Gt Rt N G R:=by
 have hY:a∈w.dn::w.dg::w.dr::X:=bH _ (bH _ (bH _ ha));have of:∀x,x∈[w.xw,w.cw,w.xs,w.cN,w.dm]→x≠a:=λx hx=>bU (O.off x hx) hY;have mI:∀(C x dx:Addr) (m:Str→Option Value),x∉w.dn::w.dg::w.dr::X→dx∉w.dn::w.dg::w.dr::X→aJ s.heap x dx C m→aJ s'.heap x dx C m∧x∉w.dn::w.dg::w.dr::X∧dx∉w.dn::w.dg::w.dr::X:=
  λC x dx m h1 h2 I=>⟨n.cu (bU h1 hY) (bU h2 hY) I,h1,h2⟩
 have mT:∀v d,Tells c.σ s.heap v d→Tells c.σ s'.heap v d:=λv d t=>n.tells hs t;have hX1:a∈w.dg::w.dr::X:=bH _ (bH _ ha);have hX2:a∈w.dn::w.dr::X:=bH _ (bH _ ha);have hX3:a∈w.dn::w.dg::X:=bH _ (bH _ ha);exact⟨n.cu (of _ (by simp)) (of _ (by simp)) O.iw,n.cu (of _ (by simp)) (of _ (by simp)) O.gw,O.wn,O.wg,O.wm,O.wt,O.wo,O.sr,O.so,O.sw,O.sn,n.dict (bU O.apart.1 hX1) O.dn,n.dict (bU O.apart.2.1 hX2) O.dg,n.dict (bU O.apart.2.2 hX3) O.dr,
  n.empty (of _ (by simp)) O.dm,O.off,O.apart,O.nt.move (mI 519) mT,O.gt.move mT,O.rt.move (mI 422) mT⟩
theorem Ow.on(O:Ow c X s w Nt Gt Rt N G R)(n:Nx c s s'):Ow c X s' w Nt Gt Rt N G R:=by
 have mI:∀(C x dx:Addr) (m:Str→Option Value),x∉w.dn::w.dg::w.dr::X→dx∉w.dn::w.dg::w.dr::X→aJ s.heap x dx C m→aJ s'.heap x dx C m∧x∉w.dn::w.dg::w.dr::X∧dx∉w.dn::w.dg::w.dr::X:=
  λC x dx m h1 h2 I=>⟨I.keep n.keep,h1,h2⟩
 have mT:∀v d,Tells c.σ s.heap v d→Tells c.σ s'.heap v d:=λv d t=>t.keep n.keep;exact⟨O.iw.keep n.keep,O.gw.keep n.keep,O.wn,O.wg,O.wm,O.wt,O.wo,O.sr,O.so,O.sw,O.sn,hZ n.keep O.dn,hZ n.keep O.dg,hZ n.keep O.dr,cx n.keep O.dm (λvs q=>by cases q) cy,O.off,O.apart,O.nt.move (mI 519) mT,O.gt.move mT,O.rt.move (mI 422) mT⟩
theorem jm{prog:Program}{w:PySem.World}{h:Heap}{bq:List (Str×Value)}{d:Addr}(D:h.DictOf (strKind prog w) d bq):∃o,h.get? d=some o:=let⟨o,_,_,e,_⟩:=D;⟨o,e⟩
theorem Ow.add(O:Ow c X s w Nt Gt Rt N G R)(hn:s.heap.get? a=none):Ow c (a::X) s w Nt Gt Rt N G R:=by
 have nn:∀{b:Addr} {o:Obj},s.heap.get? b=some o→b≠a:=λe q=>by rw[q,hn]at e;exact aF e
 have ext:∀{x:Addr} {Y1:List Addr},x∉w.dn::w.dg::w.dr::X→x≠a→x∉w.dn::w.dg::w.dr::a::X:=by
  intro x Y1 h1 h2 q;simp only[List.mem_cons,not_or]at h1 q;rcases q with q|q|q|q|q
  ·exact h1.1 q
  ·exact h1.2.1 q
  ·exact h1.2.2.1 q
  ·exact h2 q
  ·exact h1.2.2.2 q
 have mI:∀(C x dx:Addr) (m:Str→Option Value),x∉w.dn::w.dg::w.dr::X→dx∉w.dn::w.dg::w.dr::X→aJ s.heap x dx C m→aJ s.heap x dx C m∧x∉w.dn::w.dg::w.dr::a::X∧dx∉w.dn::w.dg::w.dr::a::X:=by
  intro C x dx m h1 h2 I;refine bC I.2.2 λod z z e z=>?_;exact⟨I,ext (Y1:=[]) h1 (nn I.1),ext (Y1:=[]) h2 (nn e)⟩
 refine ak (jm O.dn) λo1 e1=>?_;refine ak (jm O.dg) λo2 e2=>?_;refine ak (jm O.dr) λo3 e3=>?_;refine⟨O.iw,O.gw,O.wn,O.wg,O.wm,O.wt,O.wo,O.sr,O.so,O.sw,O.sn,O.dn,O.dg,O.dr,O.dm,λx hx=>?_,?_,O.nt.move (mI 519) λz z t=>t,O.gt,O.rt.move (mI 422) λz z t=>t⟩
 ·refine ext (Y1:=[]) (O.off x hx) ?_;simp only[List.mem_cons,List.not_mem_nil,or_false]at hx;refine bC O.iw.2.2 λod z z e z=>?_;refine bC O.gw.2.2 λod' z z e' z=>?_;rcases hx with rfl|rfl|rfl|rfl|rfl
  ·exact nn O.iw.1
  ·exact nn e
  ·exact nn O.gw.1
  ·exact nn e'
  ·exact nn O.dm
 ·refine bY O.apart λm1 m2 m3=>?_;simp only[List.mem_cons,not_or]at m1 m2 m3⊢;exact⟨⟨m1.1,m1.2.1,nn e1,m1.2.2⟩,⟨m2.1,m2.2.1,nn e2,m2.2.2⟩,⟨m3.1,m3.2.1,nn e3,m3.2.2⟩⟩
theorem Ow.aeg(O:Ow c X s w Nt Gt Rt N G R)(n:Nl c w.dr s s'){q:List Nat×Option D}{kv:Str×Value}(D':s'.heap.DictOf (strKind c.prog c.w) w.dr (R++[kv]))(hr:R1 c s'.heap (w.dn::w.dg::w.dr::X) 422 "entry" q kv):Ow c X s' w Nt Gt (Rt++[q]) N G (R++[kv]):=by
 have hY:w.dr∈w.dn::w.dg::w.dr::X:=by simp
 have of:∀x,x∈[w.xw,w.cw,w.xs,w.cN,w.dm]→x≠w.dr:=λx hx=>bU (O.off x hx) hY;have mI:∀(C x dx:Addr) (m:Str→Option Value),x∉w.dn::w.dg::w.dr::X→dx∉w.dn::w.dg::w.dr::X→aJ s.heap x dx C m→aJ s'.heap x dx C m∧x∉w.dn::w.dg::w.dr::X∧dx∉w.dn::w.dg::w.dr::X:=
  λC x dx m h1 h2 I=>⟨n.cu (bU h1 hY) (bU h2 hY) I,h1,h2⟩
 have mT:∀v d,Tells c.σ s.heap v d→Tells c.σ s'.heap v d:=λv d t=>n.tells (lB O.dr) t;exact⟨n.cu (of _ (by simp)) (of _ (by simp)) O.iw,n.cu (of _ (by simp)) (of _ (by simp)) O.gw,O.wn,O.wg,O.wm,O.wt,O.wo,O.sr,O.so,O.sw,O.sn,n.dict (bU O.apart.1 (by simp)) O.dn,n.dict (bU O.apart.2.1 (by simp)) O.dg,D',
  n.empty (of _ (by simp)) O.dm,O.off,O.apart,O.nt.move (mI 519) mT,O.gt.move mT,(O.rt.move (mI 422) mT).snoc hr⟩
theorem Ow.aeh(O:Ow c X s w Nt Gt Rt N G R)(n:Nl c w.dn s s'){q:List Nat×Option D}{kv:Str×Value}(D':s'.heap.DictOf (strKind c.prog c.w) w.dn (N++[kv]))(hr:R1 c s'.heap (w.dn::w.dg::w.dr::X) 519 "underlying" q kv):Ow c X s' w (Nt++[q]) Gt Rt (N++[kv]) G R:=by
 have hY:w.dn∈w.dn::w.dg::w.dr::X:=by simp
 have of:∀x,x∈[w.xw,w.cw,w.xs,w.cN,w.dm]→x≠w.dn:=λx hx=>bU (O.off x hx) hY;have mI:∀(C x dx:Addr) (m:Str→Option Value),x∉w.dn::w.dg::w.dr::X→dx∉w.dn::w.dg::w.dr::X→aJ s.heap x dx C m→aJ s'.heap x dx C m∧x∉w.dn::w.dg::w.dr::X∧dx∉w.dn::w.dg::w.dr::X:=
  λC x dx m h1 h2 I=>⟨n.cu (bU h1 hY) (bU h2 hY) I,h1,h2⟩
 have mT:∀v d,Tells c.σ s.heap v d→Tells c.σ s'.heap v d:=λv d t=>n.tells (lB O.dn) t;exact⟨n.cu (of _ (by simp)) (of _ (by simp)) O.iw,n.cu (of _ (by simp)) (of _ (by simp)) O.gw,O.wn,O.wg,O.wm,O.wt,O.wo,O.sr,O.so,O.sw,O.sn,D',n.dict (bU O.apart.2.1 (by simp)) O.dg,n.dict (bU O.apart.2.2 (by simp)) O.dr,
  n.empty (of _ (by simp)) O.dm,O.off,O.apart,(O.nt.move (mI 519) mT).snoc hr,O.gt.move mT,O.rt.move (mI 422) mT⟩
theorem Ow.setG(O:Ow c X s w Nt Gt Rt N G R)(n:Nl c w.dg s s'){q:List Nat×D}{kv:Str×Value}(D':s'.heap.DictOf (strKind c.prog c.w) w.dg (G++[kv]))(hr:kv.1=ao q.1∧Tells c.σ s'.heap kv.2 q.2):Ow c X s' w Nt (Gt++[q]) Rt N (G++[kv]) R:=by
 have hY:w.dg∈w.dn::w.dg::w.dr::X:=by simp
 have of:∀x,x∈[w.xw,w.cw,w.xs,w.cN,w.dm]→x≠w.dg:=λx hx=>bU (O.off x hx) hY;have mI:∀(C x dx:Addr) (m:Str→Option Value),x∉w.dn::w.dg::w.dr::X→dx∉w.dn::w.dg::w.dr::X→aJ s.heap x dx C m→aJ s'.heap x dx C m∧x∉w.dn::w.dg::w.dr::X∧dx∉w.dn::w.dg::w.dr::X:=
  λC x dx m h1 h2 I=>⟨n.cu (bU h1 hY) (bU h2 hY) I,h1,h2⟩
 have mT:∀v d,Tells c.σ s.heap v d→Tells c.σ s'.heap v d:=λv d t=>n.tells (lB O.dg) t;exact⟨n.cu (of _ (by simp)) (of _ (by simp)) O.iw,n.cu (of _ (by simp)) (of _ (by simp)) O.gw,O.wn,O.wg,O.wm,O.wt,O.wo,O.sr,O.so,O.sw,O.sn,n.dict (bU O.apart.1 (by simp)) O.dn,D',n.dict (bU O.apart.2.2 (by simp)) O.dr,
  n.empty (of _ (by simp)) O.dm,O.off,O.apart,O.nt.move (mI 519) mT,(O.gt.move mT).snoc hr,O.rt.move (mI 422) mT⟩
end
theorem Bp{σ:Nat→Addr}{h:Heap}{v:Value}{d:D}(t:Tells σ h v d):handedIn v=true:=by cases t<;>rfl
section
variable{c:Cx}{A:Around}{env:Env}{s:Shared}{sc:Scope}
theorem cG(O:Ob c){n:Nat}{vs:List (Option Str)}{ρ:List (Option D)}{e:E}{p:Expr}{d:D}{Q:Value→Shared→Prop}{E₀:Value→Shared→Prop}(F:St c A n sc env s.heap vs ρ)(hm:mE c.N sc vs e p=true)(he:(rec c.P n).ev ρ e=.ok d)
  (hq:∀v s',Tells c.σ s'.heap v d→Nx c s s'→Q v s'):wpAny c.M A (eval p env) Q E₀ s:=
 ((ww O n).e A s sc env vs ρ e p F hm (by rw[he];intro z;cases z)).use (λv d' s' e1 t1 m=>by rw[he]at e1;cases e1;exact hq v s' t1 m) λx d' s' e1 j j=>by rw[he]at e1;cases e1
theorem gf(O:Ob c){n:Nat}{vs:List (Option Str)}{ρ:List (Option D)}{e:E}{p:Expr}{b:Bool}{Q:Bool→Shared→Prop}{E₀:Value→Shared→Prop}(F:St c A n sc env s.heap vs ρ)(hm:mE c.N sc vs e p=true)(he:(rec c.P n).ts ρ e=.ok b)
  (hq:∀s',Nx c s s'→Q b s'):wpAny c.M A (isTrue p env (eval p env)) Q E₀ s:=
 ((ww O n).t A s sc env vs ρ e p F hm (by rw[he];intro z;cases z)).use (λb' s' e1 m=>by rw[he]at e1;cases e1;exact hq s' m) λx d' s' e1 j j=>by rw[he]at e1;cases e1
end
section
variable{c:Cx}{P:Params}{A:Around}{env:Env}{s₀ s:Shared}{m:Str→Option Value}{E:Value→Shared→Prop}{sc:Scope}
theorem Ky(HM:az c)(H9:av c){d:Addr}{bq:List (Str×Value)}{h':Heap}(bj:c.G s₀.heap)(g:c.G s.heap)(h0:s₀.heap.get? d=none)(D:s.heap.DictOf (strKind c.prog c.w) d bq)(hs:∀b o,b≠d→s.heap.get? b=some o→h'.get? b=some o):c.G h':=by
 refine HM _ _ (λb o st e=>hs b o ?_ e) (λb o e tK hv=>⟨o,hs b o ?_ e,rfl,rfl⟩) g
 ·rintro rfl
  refine ak (H9 _ _ bj st) λo' e'=>?_;exact bg h0 e'
 ·rintro rfl
  refine ak hv λvs hv=>?_;exact(dict_cls D e).2 vs hv
theorem Ic(S:aN c P)(HM:az c)(H9:av c){X:List Addr}{w:BW}{Nt:List (List Nat×Option D)}{Gt:List (List Nat×D)}{Rt:List (List Nat×Option D)}{N G R:List (Str×Value)}(W:Ow c X s w Nt Gt Rt N G R)(H:aq c A env s₀ s m)
  (hw:m "world"=some (.ref w.xw))(kw:env.kindOf "world"=some .local)(kg:env.kindOf "NamedRow"=some .globalImplicit){key:List Nat}{a b u e:Expr}{p1 p2 p3 p4 p5 p6 p7:Pos}{du:D}{Q:Flow→Shared→Prop}
  (ha:cL (λj=>false) 6 a=true)(hb:cL (λj=>false) 6 b=true)(he:cL (λj=>false) 6 e=true)(hu:∀s' E',Nx c s s'→wpAny c.M A (eval u env) (λv aS=>Tells c.σ aS.heap v du∧Nx c s' aS) E' s')
  (a7:starEach [a,b,u,e] env=[(false,eval a env),(false,eval b env),(false,eval u env),(false,eval e env)])(dH:∀q∈N,q.1≠ao key)(hlen:N.length≤1000)(eE:s₀.heap.get? w.dn=none)(jh:w.dn≠env.locals)(rm:A.depth+1<recursionLimit)
  (hX:∀a∈X,∃o,s.heap.get? a=some o)(hq:∀s' x,aq c A env s₀ s' m→Ow c X s' w (Nt++[(key,some du)]) Gt Rt (N++[(ao key,.ref x)]) G R→(∀b o,b≠w.dn→s.heap.get? b=some o→∃o',s'.heap.get? b=some o')→Q .next s'):
  wpAny c.M A (exec (.Assign [.Subscript (.Attribute (.Name "world" p1) "named" p2) (.Constant (.str (ao key)) 0 p3) p4] (.Call (.Name "NamedRow" p5) [a,b,u,e] [] p6) p7) env) Q E s:=by
 have CK:=j1 P;have Xf:=λh g=>cC (S.st h g) (dQ P);have hk:∀(x:Str) (p:Pos) (s:Shared) (Q:Value→Shared→Prop),(λj=>false) x=true→aq c A env s₀ s m→(∀v,Q v s)→wpAny c.M A (eval (.Name x p) env) Q E s:=λx p s Q h=>by cases h
 have qk:=qx (k:=λj=>false) HM.push HM H9 hk 6;have e0:eval (.Call (.Name "NamedRow" p5) [a,b,u,e] [] p6) env=(eval (.Name "NamedRow" p5) env>>=λfv=>callWith p6 fv [] (backTo p6 (starEach [a,b,u,e] env)) []):=rfl;refine rk ?_;rw[e0,a7];refine aj (H.glob kg rfl (de (S.st _ H.nx.g) (n3 P)) (Kx P) (qi (xC P).makes rfl ?_));refine dj (aV (aL (qk a s ha H) (λv1 s1 n1=>?_) λj j q=>q));refine aV (aL (qk b s1 hb (H.on n1)) (λv2 s2 n2=>?_) λj j q=>q);refine aV (aL (hu s2 E (n1.trans n2)) (λv3 s3 ⟨t3,bx⟩=>?_) λj j q=>q);have iF:=(n1.trans n2).trans bx;refine aV (aL (qk e s3 he (H.on iF)) (λv4 s4 n4=>?_) λj j q=>q);have pX:=iF.trans n4;have H4:=H.on pX;refine ce (show _∧_∧_ from⟨rfl,Xf _ H4.nx.g,dq ?_⟩);refine mkNamed S HM H9 H4.nx.g (H4.fr H9) rm λx dx mi s5 n5 F0 aei Ix hun j=>?_;have Gi:=pX.trans n5;have H5:=H.on Gi;have W5:=W.on Gi;refine Attribute_name (H5.load kw hw rfl (lE (Xf _ H5.nx.g) CK.cls W5.iw (CK.none_ _ (al 1)) W5.wn rfl (l0 ?_)));have n6:=Nx.tok H5.nx.g (s5.toks+1+1);have W6:=W5.on n6;have H6:=H5.on n6;refine wpAny_setItem_pairs (eK _ _ (ao key) (s5.toks+1)) W6.dn (λh' a8 c9=>?_) (by rw[sizeLine_eq];omega);rw[stored_new dH]at a8;have n7:Nl c w.dn {s5 with toks:=s5.toks+1+1} {s5 with heap:=h',toks:=s5.toks+1+1+1}:=fM (s:={s5 with toks:=s5.toks+1+1}) (Ky (s:={s5 with toks:=s5.toks+1+1}) HM H9 H6.bj H6.nx.g eE W6.dn λb o q e=>(c9.2 b q).trans e) λb o q e=>(c9.2 b q).trans e;have hx:s.heap.get? x=none:=cO pX F0;have iH:s.heap.get? dx=none:=cO pX aei;have nY:∀y,s.heap.get? y=none→y∉w.dn::w.dg::w.dr::X:=by
  intro y hy q;refine ak (jm W.dn) λo1 e1=>?_;refine ak (jm W.dg) λo2 e2=>?_;refine ak (jm W.dr) λo3 e3=>?_;simp only[List.mem_cons]at q;rcases q with rfl|rfl|rfl|q
  ·exact bg hy e1
  ·exact bg hy e2
  ·exact bg hy e3
  ·refine ak (hX _ q) λo e=>?_;exact bg hy e
 refine hq _ x (H6.nl n7 eE jh) (W6.aeh n7 a8 ⟨rfl,x,rfl,λd hd=>?_⟩) λb o hb e=>?_
 ·cases hd;exact⟨dx,mi,v3,n7.cu (bU (nY x hx) (by simp)) (bU (nY dx iH) (by simp)) (Ix.keep n6.keep),hun,Bp t3,n7.tells (lB W6.dn) (((t3.keep n4.keep).keep n5.keep).keep n6.keep),nY x hx,nY dx iH⟩
 ·refine ah (Gi.keep.2 _ _ e) λo' e' j=>?_;exact⟨o',(c9.2 b hb).trans e'⟩
theorem Jd(P:Params):findIn (aC P kC) (.ref 495) "declare"=some (some (.ref 449))∧typeIn (aC P kC) (.ref 449)=some (.type "function"):=⟨by kernel_rfl,by kernel_rfl⟩
theorem iU{ms:Str→Option Value}{l:List Str}(h:Within ms l){x:Str}(hx:l.contains x=false):ms x=none:=by
 cases e:ms x with
 |none=>rfl
 |some v=>
  have:=h x (by rw[e];intro z;exact oV z);rw[←List.contains_iff_mem,hx]at this;cases this
theorem BK(S:aN c P)(HM:az c)(H9:av c)(HD:cD c){X:List Addr}{w:BW}{Nt:List (List Nat×Option D)}{Gt:List (List Nat×D)}{Rt:List (List Nat×Option D)}{N G R:List (Str×Value)}(W:Ow c X s w Nt Gt Rt N G R)(H:aq c A env s₀ s m)
  (hw:m "scope"=some (.ref w.xs))(kw:env.kindOf "scope"=some .local){nm:List Nat}{en:D}{a b e:Expr}{p1 p2 p3 p4:Pos}{Q:Flow→Shared→Prop}(fV:p2.endLine=p3.line)
  (h1:∀s' E',Nx c s s'→wpAny c.M A (eval a env) (λv aS=>(∃t,v=.str (ao nm) t)∧Nx c s' aS) E' s')(h2:∀s' E',Nx c s s'→wpAny c.M A (eval b env) (λv aS=>Tells c.σ aS.heap v en∧Nx c s' aS) E' s')
  (he:cL (λj=>false) 6 e=true)(a7:starEach [a,b,e] env=[(false,eval a env),(false,eval b env),(false,eval e env)])(kZ:eh nm [95]=false)(dH:∀q∈R,q.1≠ao nm)(hlen:R.length≤1000)(eE:s₀.heap.get? w.dr=none)(jh:w.dr≠env.locals)(rm:aP A 3)
  (hX:∀a∈X,∃o,s.heap.get? a=some o)
  (hq:∀s' r,aq c A env s₀ s' m→Ow c X s' w Nt Gt (Rt++[(nm,some en)]) N G (R++[(ao nm,.ref r)])→(∃sm,Nx c s sm∧Nl c w.dr sm s'∧dU sm.heap w.dr)→Q .next s'):
  wpAny c.M A (exec (.Expr (.Call (.Attribute (.Name "scope" p1) "declare" p2) [a,b,e] [] p3) p4) env) Q E s:=by
 have CK:=qB P;have Xf:=λh g=>cC (S.st h g) (dQ P);have hk:∀(x:Str) (p:Pos) (s:Shared) (Q:Value→Shared→Prop),(λj=>false) x=true→aq c A env s₀ s m→(∀v,Q v s)→wpAny c.M A (eval (.Name x p) env) Q E s:=λx p s Q h=>by cases h
 have qk:=qx (k:=λj=>false) HM.push HM H9 hk 6;refine wpAny_Expr ?_ (by unfold interactive;rw[H.kind];rfl) (by rfl);refine lG (c:=c) (es:=[]) fV rfl aX (by rw[a7];rfl) (H.load kw hw rfl λpl=>?_);refine method_inst (Xf _ H.nx.g) CK.cls W.gw (Jd P).1 (Jd P).2 (iU W.sn (by kernel_rfl)) ?_;rw[a7];refine ah (cI (LW P)) λof F hf=>?_;refine gm (o:=of) (fd:=ai P 449) (dj (aV (aL (h1 s E (Nx.refl H.nx.g)) (λv1 s1 ⟨⟨t,et⟩,n1⟩=>?_) λj j q=>q)));subst et;refine aV (aL (h2 s1 E n1) (λv2 s2 ⟨t2,n2⟩=>?_) λj j q=>q);have wP:=n1.trans n2;refine aV (aL (qk e s2 he (H.on wP)) (λv3 s3 bx=>?_) λj j q=>q);have iF:=wP.trans bx;have H3:=H.on iF;have W3:=W.on iF;refine ce (show(_∧_)∧_ from⟨⟨(S.st _ H3.nx.g).ok _ _ F.at_ hf,F.data⟩,dq ?_⟩);have c6:(w.dr==sysModules)=false:=by
  rw[beq_eq_false_iff_ne];intro q;have b0:=(S.st _ H.bj).ok 1 (boot_o_1 P) (by kernel_rfl) rfl;have:w.dr=1:=q;rw[this,b0]at eE;exact oV eE
 have pr:¬c.aT w.dr:=λz=>by refine ak (H9 _ _ H.bj z) λo e=>?_;exact bg eE e
 refine U0 S HM H9 HD H3.nx.g (H3.fr H9) rm W3.gw W3.sr W3.sw rfl W3.dr c6 pr hlen kZ dH λr dr mr s4 n4 lj E4 Ir lk D'=>?_;have hr:s.heap.get? r=none:=cO iF lj;have AM:s.heap.get? dr=none:=cO iF E4;have nY:∀y,s.heap.get? y=none→y∉w.dn::w.dg::w.dr::X:=by
  intro y hy q;refine ak (jm W.dn) λo1 e1=>?_;refine ak (jm W.dg) λo2 e2=>?_;refine ak (jm W.dr) λo3 e3=>?_;simp only[List.mem_cons]at q;rcases q with rfl|rfl|rfl|q
  ·exact bg hy e1
  ·exact bg hy e2
  ·exact bg hy e3
  ·refine ak (hX _ q) λo e=>?_;exact bg hy e
 refine hq s4 r (H3.nl n4 eE jh) (W3.aeg n4 D' ⟨rfl,r,rfl,λd hd=>?_⟩) ⟨s3,iF,n4,lB W3.dr⟩;cases hd;exact⟨dr,mr,v2,Ir,lk,Bp t2,Nl.tells (a:=w.dr) (s:=s3) n4 (lB W3.dr) (t2.keep bx.keep),nY r hr,nY dr AM⟩
end
set_option tactic.hygienic true
section
variable{c:Cx}{P:Params}{A:Around}{env:Env}{s₀ s:Shared}{m:Str→Option Value}{E:Value→Shared→Prop}{X:List Addr}{w:BW}{Nt:List (List Nat×Option D)}{Gt:List (List Nat×D)}{Rt:List (List Nat×Option D)}{N G R:List (Str×Value)}
theorem Sk(S:aN c P)(HM:az c)(H9:av c)(W:Ow c X s w Nt Gt Rt N G R)(H:aq c A env s₀ s m)(hw:m "world"=some (.ref w.xw))(kw:env.kindOf "world"=some .local){vT:Value}{dT:D}(hT:m "T"=some vT)(kT:env.kindOf "T"=some .local)(tT:Tells c.σ s.heap vT dT)
  {key:List Nat}{kx:Expr}{p1 p2 p3 p4 p5:Pos}{Q:Flow→Shared→Prop}(h1:∀s' E',Nx c s s'→wpAny c.M A (eval kx env) (λv aS=>(∃t,v=.str (ao key) t)∧Nx c s' aS) E' s')(dH:∀q∈G,q.1≠ao key)(hlen:G.length≤1000)(eE:s₀.heap.get? w.dg=none)(jh:w.dg≠env.locals)
  (hq:∀s',aq c A env s₀ s' m→Ow c X s' w Nt (Gt++[(key,dT)]) Rt N (G++[(ao key,vT)]) R→(∃sm,Nx c s sm∧Nl c w.dg sm s'∧dU sm.heap w.dg)→Q .next s'):
  wpAny c.M A (exec (.Assign [.Subscript (.Attribute (.Name "world" p1) "globals" p2) kx p3] (.Name "T" p4) p5) env) Q E s:=by
 have CK:=j1 P;have Xf:=λh g=>cC (S.st h g) (dQ P);refine rk (H.load kT hT rfl ?_);refine Attribute_name (H.load kw hw rfl (lE (Xf _ H.nx.g) CK.cls W.iw (CK.none_ _ (al 2)) W.wg rfl ?_));have n0:=Nx.tok H.nx.g (s.toks+1);refine aL (h1 _ E n0) (λv s1 ⟨⟨t,et⟩,n1⟩=>?_) λz z q=>q;subst et;have jX:=n0.trans n1;have H1:=H.on jX;have W1:=W.on jX;refine wpAny_setItem_pairs (eK _ _ (ao key) t) W1.dg (λh' a8 c9=>?_) (by rw[sizeLine_eq];omega);rw[stored_new dH]at a8;have n7:Nl c w.dg s1 {s1 with heap:=h',toks:=s1.toks+1}:=fM (Ky HM H9 H1.bj H1.nx.g eE W1.dg λb o q e=>(c9.2 b q).trans e) λb o q e=>(c9.2 b q).trans e;exact hq _ (H1.nl n7 eE jh) (W1.setG n7 a8 ⟨rfl,n7.tells (lB W1.dg) (tT.keep jX.keep)⟩) ⟨s1,jX,n7,lB W1.dg⟩
theorem Ow.len(W:Ow c X s w Nt Gt Rt N G R):R.length=Rt.length∧G.length=Gt.length∧N.length=Nt.length:=by
 have a:=bp List.length W.rt.keys;have b:=bp List.length W.gt.keys;have d:=bp List.length W.nt.keys;simp only[List.length_map]at a b d;exact⟨a,b,d⟩
theorem up{l:List (List Nat×Option D)}{r:List (Str×Value)}{nm:List Nat}(hk:r.map (·.1)=l.map λq=>ao q.1)(h:(l.any λq=>eh q.1 nm)=false):∀q∈r,q.1≠ao nm:=by
 intro q hq e;have h1:q.1∈r.map (·.1):=List.mem_map_of_mem hq;rw[hk]at h1;refine ah (List.mem_map.mp h1) λx hx ex=>?_;have:x.1=nm:=xA (ex.trans e);rw[List.any_eq_false]at h;exact h x hx (nP.mpr this)
theorem U1{l:List (List Nat×D)}{r:List (Str×Value)}{nm:List Nat}(hk:r.map (·.1)=l.map λq=>ao q.1)(h:(l.any λq=>eh q.1 nm)=false):∀q∈r,q.1≠ao nm:=by
 intro q hq e;have h1:q.1∈r.map (·.1):=List.mem_map_of_mem hq;rw[hk]at h1;refine ah (List.mem_map.mp h1) λx hx ex=>?_;have:x.1=nm:=xA (ex.trans e);rw[List.any_eq_false]at h;exact h x hx (nP.mpr this)
end
noncomputable def dh:bJ:=⟨λz z=>none,λk=>ap (Nat.beq k 5) (assoc qX 5) none,λz z=>none,getD globT .none,wE⟩
noncomputable def vZ:E:=.cmp .Eq (.sub (.var 0) (.lit (.int 0))) (.lit aK)
noncomputable def AP:E:=.sub (.var 0) (.lit (.int 2))
noncomputable def AQ:E:=.ite (.cmp .Is (.var 1) (.lit .none)) (.tup [.lit (.str [108,111,99,97,108]),.lit (.int 0)]) (.tup [.lit d6,.var 1,.var 2])
section
variable{α β:Type}
noncomputable def tP(o:Out α)(f:α→Option β):Option β:=by cases o with|ok a=>exact f a|_=>exact none
noncomputable def Al(d:D)(f:List Nat→Option β):Option β:=by cases d with|str x=>exact f x|_=>exact none
noncomputable def gC(l:List D)(f:D→List D→Option β):Option β:=by cases l with|cons a l=>exact f a l|nil=>exact none
noncomputable def gN(l:List D)(f:Option β):Option β:=by cases l with|cons a l=>exact none|nil=>exact f
noncomputable def g3(d:D)(f:D→D→D→Option β):Option β:=by cases d with|tuple l=>exact gC l λa l=>gC l λb l=>gC l λc l=>gN l (f a b c)|_=>exact none
theorem uG{o:Out α}{f:α→Option β}{r:β}(h:tP o f=some r):∃a,o=.ok a∧f a=some r:=by cases o with|ok a=>exact⟨a,rfl,h⟩|_=>exact aF h
theorem CM{d:D}{f:List Nat→Option β}{r:β}(h:Al d f=some r):∃a,d=.str a∧f a=some r:=by cases d with|str a=>exact⟨a,rfl,h⟩|_=>exact aF h
theorem E5{l:List D}{f:D→List D→Option β}{r:β}(h:gC l f=some r):∃a t,l=a::t∧f a t=some r:=by cases l with|cons a t=>exact⟨a,t,rfl,h⟩|nil=>exact aF h
theorem aej{l:List D}{f:Option β}{r:β}(h:gN l f=some r):l=[]∧f=some r:=by cases l with|nil=>exact⟨rfl,h⟩|cons _ _=>exact aF h
theorem NV{d:D}{f:D→D→D→Option β}{r:β}(h:g3 d f=some r):∃a b c,d=.tuple [a,b,c]∧f a b c=some r:=by
 cases d with
 |tuple l=>
  refine aO (E5 h) λa l1 e h=>aO (E5 h) λb l2 e2 h=>aO (E5 h) λc l3 e3 h=>am (λe4 h=>?_) (aej h);rw[e,e2,e3,e4];exact⟨a,b,c,rfl,h⟩
 |_=>exact aF h
end
noncomputable def xD(d:D):Option (Option (List Nat×D)):=g3 d λe T v=>tP ((rec dh 6).ts [some e,some T,some v] vZ) λb=>
 ap b (tP ((rec dh 6).ev [some e,some T,some v] AP) λx=>Al x λnm=>tP ((rec dh 6).ev [some e,some T,some v] AQ) λen=>some (some (nm,en))) (some none)
theorem HC{d:D}{o:Option (List Nat×D)}(h:xD d=some o):∃e T v,d=.tuple [e,T,v]∧((o=none∧(rec dh 6).ts [some e,some T,some v] vZ=.ok false)∨
  ∃nm en,o=some (nm,en)∧(rec dh 6).ts [some e,some T,some v] vZ=.ok true∧(rec dh 6).ev [some e,some T,some v] AP=.ok (.str nm)∧(rec dh 6).ev [some e,some T,some v] AQ=.ok en):=by
 refine bC (NV h) λe T v hd h=>⟨e,T,v,hd,?_⟩;refine ah (uG h) λb h1 h=>?_;cases b with
 |false=>exact .inl ⟨(au h).symm,h1⟩
 |true=>exact ah (uG h) λx h2 h=>ah (CM h) λnm e2 h=>ah (uG h) λen h3 h=>.inr ⟨nm,en,(au h).symm,h1,e2▸h2,h3⟩
noncomputable def AS:E:=.bin .Add (.lit (.str [109,97,105,110,46])) (.var 0)
noncomputable def AT:E:=.tup [.lit ch,.bin .Add (.lit (.str [109,97,105,110,46])) (.var 0)]
noncomputable def xn(d:D):Option (List Nat×List Nat×D×D):=g3 d λx T v=>Al x λnm=>
 tP ((rec dh 6).ev [some (.str nm),some T,some v] AS) λy=>Al y λkey=>tP ((rec dh 6).ev [some (.str nm),some T,some v] AT) λen=>some (nm,key,T,en)
theorem Hs{d:D}{nm key:List Nat}{T en:D}(h:xn d=some (nm,key,T,en)):∃v,d=.tuple [.str nm,T,v]∧(rec dh 6).ev [some (.str nm),some T,some v] AS=.ok (.str key)∧(rec dh 6).ev [some (.str nm),some T,some v] AT=.ok en:=by
 refine bC (NV h) λx T v hd h=>ah (CM h) λnm e1 h=>ah (uG h) λy h2 h=>ah (CM h) λkey e2 h=>ah (uG h) λen h3 h=>?_;cases au h;exact⟨v,e1▸hd,e2▸h2,h3⟩
set_option tactic.hygienic false
theorem RT.sub{c:Cx}{h:Heap}{Y Y':List Addr}{C:Addr}{at_:Str}{l:List (List Nat×Option D)}{r:List (Str×Value)}(hs:∀a,a∈Y'→a∈Y)(x:RT c h Y C at_ l r):RT c h Y' C at_ l r:=
 x.move (λz z z h1 h2 I=>⟨I,λq=>h1 (hs _ q),λq=>h2 (hs _ q)⟩) λz z t=>t
theorem Ow.sub{c:Cx}{X X':List Addr}{s:Shared}{w:BW}{Nt:List (List Nat×Option D)}{Gt:List (List Nat×D)}{Rt:List (List Nat×Option D)}{N G R:List (Str×Value)}(O:Ow c X s w Nt Gt Rt N G R)(hs:∀a,a∈X'→a∈X):Ow c X' s w Nt Gt Rt N G R:=by
 have hY:∀a,a∈w.dn::w.dg::w.dr::X'→a∈w.dn::w.dg::w.dr::X:=by
  intro a h;simp only[List.mem_cons]at h⊢;rcases h with h|h|h|h
  ·exact .inl h
  ·exact .inr (.inl h)
  ·exact .inr (.inr (.inl h))
  ·exact .inr (.inr (.inr (hs _ h)))
 refine bY O.apart λm1 m2 m3=>?_;simp only[List.mem_cons,not_or]at m1 m2 m3;refine⟨O.iw,O.gw,O.wn,O.wg,O.wm,O.wt,O.wo,O.sr,O.so,O.sw,O.sn,O.dn,O.dg,O.dr,O.dm,λa ha q=>O.off a ha (hY _ q),?_,O.nt.sub hY,O.gt,O.rt.sub hY⟩;simp only[List.mem_cons,not_or];exact⟨⟨m1.1,m1.2.1,λq=>m1.2.2 (hs _ q)⟩,⟨m2.1,m2.2.1,λq=>m2.2.2 (hs _ q)⟩,⟨m3.1,m3.2.1,λq=>m3.2.2 (hs _ q)⟩⟩
theorem Ie{h:Heap}{a l:Addr}{i:Nat}(I:h.IsListIter a l i):∃o,h.get? a=some o:=let⟨o,e,_⟩:=I;⟨o,e⟩
theorem ua{h:Heap}{a:Addr}{m:Str→Option Value}(I:h.Ns a m):∃o,h.get? a=some o:=let⟨o,_,_,e,_⟩:=I;⟨o,e⟩
noncomputable def fJ(pk:List (Option (List Nat×D)))(i:Nat):List (List Nat×Option D):=((pk.take i).filterMap id).map λq=>(q.1,some q.2)
noncomputable def Gj(pk:List (Option (List Nat×D)))(i:Nat):Bool:=match pk[i]?with
 |some (some q)=>!((fJ pk i).any λr=>eh r.1 q.1)&&!eh q.1 [95]
 |_=>true
theorem Sl{pk:List (Option (List Nat×D))}{i:Nat}(h:pk[i]?=some none):fJ pk (i+1)=fJ pk i:=by
 unfold fJ;rw[List.take_add_one,h];simp
theorem Sm{pk:List (Option (List Nat×D))}{i:Nat}{q:List Nat×D}(h:pk[i]?=some (some q)):fJ pk (i+1)=fJ pk i++[(q.1,some q.2)]:=by
 unfold fJ;rw[List.take_add_one,h];simp
section
variable{c:Cx}{P:Params}{A:Around}{env:Env}{s₀ s:Shared}{m:Str→Option Value}{w:BW}{Nt:List (List Nat×Option D)}{Gt:List (List Nat×D)}{N G R:List (Str×Value)}
theorem TF{E₀:Value→Shared→Prop}(S:aN c P)(HM:az c)(H9:av c)(HD:cD c)(O:Ob c)(hP:c.P=dh){X0:List Addr}(W:Ow c (env.locals::X0) s w Nt Gt [] N G R)(iI:∀b∈X0,∃o,s₀.heap.get? b=some o)(H:aq c A env s₀ s m)(hw:m "scope"=some (.ref w.xs))(ks:env.kindOf "scope"=some .local)
  (ke:env.kindOf "e"=some .local)(kT:env.kindOf "T"=some .local)(kv:env.kindOf "value"=some .local)(dZ:env.kindOf "self"≠some .cell){it gy ll lm zx:Expr}{q1 q2 q3 q4 p1 p2 p3 p4 p5 p6:Pos}{Q:Flow→Shared→Prop}
  (hit:mE c.N env.scope [] (.call 22 []) it=true)(NW:mE c.N env.scope [some "e",some "T",some "value"] vZ gy=true)(kZ:mE c.N env.scope [some "e",some "T",some "value"] AP ll=true)(jQ:mE c.N env.scope [some "e",some "T",some "value"] AQ lm=true)
  (hz:cL (λz=>false) 6 zx=true)(a7:starEach [ll,lm,zx] env=[(false,eval ll env),(false,eval lm env),(false,eval zx env)])(hf:∀x,foldedSetIterable it env x=pure x)(fV:p2.endLine=p3.line)(rm:aP A 12)(eE:s₀.heap.get? w.dr=none)
  {ds:List D}{pk:List (Option (List Nat×D))}(Gk:(rec dh 10).ev [] (.call 22 [])=.ok (.list ds))(wS:ds.map xD=pk.map some)(jc:∀i,i<pk.length→Gj pk i=true)(FE:pk.length≤500)
  (hq:∀s' m' R',aq c A env s₀ s' m'→(∀y,y∉(["e","T","value"]:List Str)→m' y=m y)→Ow c (env.locals::X0) s' w Nt Gt (fJ pk pk.length) N G R'→Q .next s'):
  wpAny c.M A (exec (.For (.Tuple [.Name "e" q1,.Name "T" q2,.Name "value" q3] 0 q4) it [.If gy [.Expr (.Call (.Attribute (.Name "scope" p1) "declare" p2) [ll,lm,zx] [] p3) p4] [] p5] [] p6) env) Q E₀ s:=by
 have hlen:ds.length=pk.length:=by have:=bp List.length wS;simpa using this
 have row:∀(i:Nat) (d:D),ds[i]?=some d→∃o,pk[i]?=some o∧xD d=some o:=by
  intro i d hd;have:=bp (λl=>l[i]?) wS;simp only[List.getElem?_map,hd,Option.map_some]at this;cases hp:pk[i]?with
  |none=>rw[hp]at this;cases this
  |some o=>rw[hp]at this;exact⟨o,rfl,au this⟩
 refine Jc (s₀:=s₀) (m:=m) (J:=λia i s'=>∃R',Ow c (ia::env.locals::X0) s' w Nt Gt (fJ pk i) N G R') (ds:=ds) (xs:=["e","T","value"]) HM H9 rfl (λx hx=>?_) rm.2.2 hf (λd hd=>?_) ?_ ?_ ?_ ?_
 ·simp only[List.mem_cons,List.not_mem_nil,or_false]at hx;rcases hx with rfl|rfl|rfl<;>assumption
 ·refine ak (List.getElem?_of_mem hd) λi hi=>?_;refine ah (row i d hi) λo z ho=>?_;refine bC (HC ho) λe T v ZF af6=>?_;subst ZF;exact⟨_,rfl,rfl⟩
 ·have F:St c A 10 env.scope env s.heap [] []:=H.st H9 dZ (λi x h=>by cases h) (λi x d h=>by cases h) (rm.less (by omega));refine cG O F hit (by rw[hP];exact Gk) λv s1 t1 n1=>?_;cases t1 with
  |@list a us _ hs ts=>
  refine⟨a,us,rfl,hs,ts,H.on n1,λo s2 e2 n2=>⟨R,?_⟩⟩;exact((W.on n1).add (cX (dp _))).on n2
 ·rintro ia i a s1 s2 ⟨R',W'⟩ ha hs n
  refine⟨R',W'.nl ?_ hs n⟩;rcases ha with rfl|rfl<;>simp
 ·rintro ia a us i es vs s' m' E' hd ts H' iG ⟨R',W'⟩ v5 AU AV hK nD
  refine ah (row i _ hd) λo nF ho=>?_;refine bC (HC ho) λe T v he ZG=>?_;cases he;cases ts with|@cons ve _ _ _ te ts=>cases ts with|@cons vT _ _ _ tT ts=>cases ts with|@cons vv _ _ _ tv ts=>
  cases ts;have fX:∀(j:Nat) (x:Str) (u:Value),(["e","T","value"]:List Str)[j]?=some x→([ve,vT,vv]:List Value)[j]?=some u→dw m' ["e","T","value"] [ve,vT,vv] x=some u:=λj x u h1 h2=>nX (by decide) h1 h2;have F:St c A 6 env.scope env s'.heap [some "e",some "T",some "value"] [some e,some T,some v]:=by
   refine H'.st H9 dZ (λj x h=>?_) (λj x d h1 h2=>?_) (rm.less (by omega))
   ·match j,h with
    |0,h=>cases h;exact ke
    |1,h=>cases h;exact kT
    |2,h=>cases h;exact kv
   ·match j,h1,h2 with
    |0,h1,h2=>cases h1;cases h2;exact⟨ve,fX 0 _ _ rfl rfl,te⟩
    |1,h1,h2=>cases h1;cases h2;exact⟨vT,fX 1 _ _ rfl rfl,tT⟩
    |2,h1,h2=>cases h1;cases h2;exact⟨vv,fX 2 _ _ rfl rfl,tv⟩
  rcases ZG with⟨rfl,h1⟩|⟨nm,en,rfl,h1,h2,h3⟩
  ·refine aI (eZ (gf O F NW (by rw[hP];exact h1) λs1 n1=>?_));rw[if_neg (by decide)];refine cz (cz ⟨rfl,⟨R',by rw[Sl nF];exact W'.on n1⟩,H'.on n1,Nl.iter (a:=env.locals) (im H'.nx.g n1) hK v5,Nl.seq (a:=env.locals) (im H'.nx.g n1) (fB H'.ns) AU,AV.keep n1.keep⟩)
  ·refine aI (eZ (gf O F NW (by rw[hP];exact h1) λs1 n1=>?_));rw[if_pos rfl];have pt:=jc i (by have:=(List.getElem?_eq_some_iff.mp nF).1;exact this);unfold Gj at pt;rw[nF]at pt;refine am (λk1 k2=>?_) (ba pt);have W1:=W'.on n1;have H1:=H'.on n1;have fy:=Nl.iter (a:=env.locals) (im H'.nx.g n1) hK v5;have hX:∀b∈ia::env.locals::X0,∃o,s1.heap.get? b=some o:=by
    intro b hb;simp only[List.mem_cons]at hb;rcases hb with rfl|rfl|hb
    ·exact Ie fy
    ·exact ua H1.ns
    ·refine ak (iI _ hb) λo e=>?_;refine ah (H1.nx.keep.2 _ _ e) λo' e' z=>?_;exact⟨o',e'⟩
   have Gl:R'.length≤1000:=by
    rw[W1.len.1];unfold fJ;have:=List.length_filterMap_le id (pk.take i);have:=List.length_take_le i pk;have:=List.length_take_le' i pk;rw[List.length_map];omega
   refine aI (BK (en:=en) (nm:=nm) S HM H9 HD W1 H1 ((nU (by decide)).trans ((iG _ (by decide)).trans hw)) ks fV (λs' E' n=>?_) (λs' E' n=>?_) hz a7 (by simpa using k2) (up W1.rt.keys (by simpa using k1)) Gl eE (bU W1.apart.2.2 (by simp)) (rm.less (by omega)) hX λs2 r H2 W2 tI=>?_)
   ·exact cG O ((F.nx n1).nx n) kZ (by rw[hP];exact h2) λv aS t n'=>⟨by cases t;exact⟨_,rfl⟩,n'⟩
   ·exact cG O ((F.nx n1).nx n) jQ (by rw[hP];exact h3) λv aS t n'=>⟨t,n'⟩
   ·refine bS tI λsm na nb ns=>?_;have Gm:=n1.trans na;have itm:=Nl.iter (a:=env.locals) (im H'.nx.g Gm) hK v5;have sqm:=Nl.seq (a:=env.locals) (im H'.nx.g Gm) (fB H'.ns) AU;have bk:ia≠w.dr:=bi (bU W1.apart.2.2 (by simp));exact cz (cz ⟨rfl,⟨_,by rw[Sm nF];exact W2⟩,H2,nb.iter bk itm,nb.seq ns sqm,nb.ju ns (AV.keep Gm.keep)⟩)
 ·rintro ia s' m' ⟨R',W'⟩ H' iG
  rw[hlen]at W';exact hq s' m' R' H' iG (W'.sub λa h=>bH _ h)
end
noncomputable def i9(gk:List (List Nat×List Nat×D×D))(i:Nat):List (List Nat×D):=(gk.take i).map λq=>(q.2.1,q.2.2.1)
noncomputable def iz(gk:List (List Nat×List Nat×D×D))(i:Nat):List (List Nat×Option D):=(gk.take i).map λq=>(q.1,some q.2.2.2)
noncomputable def AW(lp:List (List Nat×Option D))(gk:List (List Nat×List Nat×D×D))(i:Nat):Bool:=match gk[i]?with
 |some q=>!((i9 gk i).any λr=>eh r.1 q.2.1)&&!((lp++iz gk i).any λr=>eh r.1 q.1)&&!eh q.1 [95]
 |none=>true
theorem Sn{gk:List (List Nat×List Nat×D×D)}{i:Nat}{q:List Nat×List Nat×D×D}(h:gk[i]?=some q):i9 gk (i+1)=i9 gk i++[(q.2.1,q.2.2.1)]∧iz gk (i+1)=iz gk i++[(q.1,some q.2.2.2)]:=by
 unfold i9 iz;rw[List.take_add_one,h];simp
section
variable{c:Cx}{P:Params}{A:Around}{env:Env}{s₀ s:Shared}{m:Str→Option Value}{w:BW}{Nt:List (List Nat×Option D)}{lp:List (List Nat×Option D)}{N G R:List (Str×Value)}
theorem TG{E₀:Value→Shared→Prop}(S:aN c P)(HM:az c)(H9:av c)(HD:cD c)(O:Ob c)(hP:c.P=dh){X0:List Addr}(W:Ow c (env.locals::X0) s w Nt [] lp N G R)(iI:∀b∈X0,∃o,s₀.heap.get? b=some o)(H:aq c A env s₀ s m)(hw:m "scope"=some (.ref w.xs))(hww:m "world"=some (.ref w.xw))(ks:env.kindOf "scope"=some .local)(kw:env.kindOf "world"=some .local)
  (ke:env.kindOf "name"=some .local)(kT:env.kindOf "T"=some .local)(kv:env.kindOf "due"=some .local)(dZ:env.kindOf "self"≠some .cell){it kx lq gen gz:Expr}{q1 q2 q3 q4 p1 p2 p3 p4 p6 g1 g2 g3 g4 g5:Pos}{Q:Flow→Shared→Prop}
  (hit:mE c.N env.scope [] (.call 34 []) it=true)(hkx:mE c.N env.scope [some "name",some "T",some "due"] AS kx=true)(hgn:mE c.N env.scope [some "name",some "T",some "due"] (.var 0) lq=true)(OI:mE c.N env.scope [some "name",some "T",some "due"] AT gen=true)
  (hz:cL (λz=>false) 6 gz=true)(a7:starEach [lq,gen,gz] env=[(false,eval lq env),(false,eval gen env),(false,eval gz env)])(hf:∀x,foldedSetIterable it env x=pure x)(fV:p2.endLine=p3.line)(rm:aP A 12)(eE:s₀.heap.get? w.dr=none)(pZ:s₀.heap.get? w.dg=none)
  {ds:List D}{gk:List (List Nat×List Nat×D×D)}(Gk:(rec dh 10).ev [] (.call 34 [])=.ok (.list ds))(wS:ds.map xn=gk.map some)(jc:∀i,i<gk.length→AW lp gk i=true)(FE:gk.length≤300)(hrl:lp.length≤300)
  (hq:∀s' m' G' R',aq c A env s₀ s' m'→(∀y,y∉(["name","T","due"]:List Str)→m' y=m y)→Ow c (env.locals::X0) s' w Nt (i9 gk gk.length) (lp++iz gk gk.length) N G' R'→Q .next s'):
  wpAny c.M A (exec (.For (.Tuple [.Name "name" q1,.Name "T" q2,.Name "due" q3] 0 q4) it [.Assign [.Subscript (.Attribute (.Name "world" g1) "globals" g2) kx g3] (.Name "T" g4) g5,.Expr (.Call (.Attribute (.Name "scope" p1) "declare" p2) [lq,gen,gz] [] p3) p4] [] p6) env) Q E₀ s:=by
 have hlen:ds.length=gk.length:=by have:=bp List.length wS;simpa using this
 have row:∀(i:Nat) (d:D),ds[i]?=some d→∃o,gk[i]?=some o∧xn d=some o:=by
  intro i d hd;have:=bp (λl=>l[i]?) wS;simp only[List.getElem?_map,hd,Option.map_some]at this;cases hp:gk[i]?with
  |none=>rw[hp]at this;cases this
  |some o=>rw[hp]at this;exact⟨o,rfl,au this⟩
 refine Jc (s₀:=s₀) (m:=m) (J:=λia i s'=>∃G' R',Ow c (ia::env.locals::X0) s' w Nt (i9 gk i) (lp++iz gk i) N G' R') (ds:=ds) (xs:=["name","T","due"]) HM H9 rfl (λx hx=>?_) rm.2.2 hf (λd hd=>?_) ?_ ?_ ?_ ?_
 ·simp only[List.mem_cons,List.not_mem_nil,or_false]at hx;rcases hx with rfl|rfl|rfl<;>assumption
 ·refine ak (List.getElem?_of_mem hd) λi hi=>?_;refine ah (row i d hi) λZH z ho=>?_;obtain⟨nm,key,T,en⟩:=ZH;refine ah (Hs ho) λv ZI af7=>?_;subst ZI;exact⟨_,rfl,rfl⟩
 ·have F:St c A 10 env.scope env s.heap [] []:=H.st H9 dZ (λi x h=>by cases h) (λi x d h=>by cases h) (rm.less (by omega));refine cG O F hit (by rw[hP];exact Gk) λv s1 t1 n1=>?_;cases t1 with
  |@list a us _ hs ts=>
  refine⟨a,us,rfl,hs,ts,H.on n1,λo s2 e2 n2=>⟨G,R,?_⟩⟩;have:=((W.on n1).add (cX (dp _))).on n2;have e:lp++iz gk 0=lp:=List.append_nil _;rw[e];exact this
 ·rintro ia i a s1 s2 ⟨G',R',W'⟩ ha hs n
  refine⟨G',R',W'.nl ?_ hs n⟩;rcases ha with rfl|rfl<;>simp
 ·rintro ia a us i es vs s' m' E' hd ts H' iG ⟨G',R',W'⟩ v5 AU AV hK nD
  refine ah (row i _ hd) λZJ nF ho=>?_;obtain⟨nm,key,T,en⟩:=ZJ;refine bS (Hs ho) λv he h2 h3=>?_;cases he;cases ts with|@cons ve _ _ _ te ts=>cases ts with|@cons vT _ _ _ tT ts=>cases ts with|@cons vv _ _ _ tv ts=>
  cases ts;have fX:∀(j:Nat) (x:Str) (u:Value),(["name","T","due"]:List Str)[j]?=some x→([ve,vT,vv]:List Value)[j]?=some u→dw m' ["name","T","due"] [ve,vT,vv] x=some u:=λj x u h1 h2=>nX (by decide) h1 h2;have F:St c A 6 env.scope env s'.heap [some "name",some "T",some "due"] [some (.str nm),some T,some v]:=by
   refine H'.st H9 dZ (λj x h=>?_) (λj x d h1 h2=>?_) (rm.less (by omega))
   ·match j,h with
    |0,h=>cases h;exact ke
    |1,h=>cases h;exact kT
    |2,h=>cases h;exact kv
   ·match j,h1,h2 with
    |0,h1,h2=>cases h1;cases h2;exact⟨ve,fX 0 _ _ rfl rfl,te⟩
    |1,h1,h2=>cases h1;cases h2;exact⟨vT,fX 1 _ _ rfl rfl,tT⟩
    |2,h1,h2=>cases h1;cases h2;exact⟨vv,fX 2 _ _ rfl rfl,tv⟩
  have pt:=jc i (by have:=(List.getElem?_eq_some_iff.mp nF).1;exact this);unfold AW at pt;rw[nF]at pt;refine am (λGb k3=>?_) (ba pt);refine am (λk1 k2=>?_) (ba Gb);have l1:(i9 gk i).length≤300:=by unfold i9;rw[List.length_map];have:=List.length_take_le' i gk;omega
  have l2:(iz gk i).length≤300:=by unfold iz;rw[List.length_map];have:=List.length_take_le' i gk;omega
  have hGl:G'.length≤1000:=by rw[W'.len.2.1];omega
  have Gl:R'.length≤1000:=by rw[W'.len.1,List.length_append];omega
  refine aI (Sk (key:=key) S HM H9 W' H' ((nU (by decide)).trans ((iG _ (by decide)).trans hww)) kw (fX 1 _ _ rfl rfl) kT tT (λs2 E2 n=>?_) (U1 W'.gt.keys (by simpa using k1)) hGl pZ (bU W'.apart.2.1 (by simp)) λs1 H1 W1 tQ=>?_)
  ·exact cG O (F.nx n) hkx (by rw[hP];exact h2) λv aS t n'=>⟨by cases t;exact⟨_,rfl⟩,n'⟩
  refine bS tQ λsm na nb ns=>?_;have neg:ia≠w.dg:=bi (bU W'.apart.2.1 (by simp));have fy:=nb.iter neg (Nl.iter (a:=env.locals) (im H'.nx.g na) hK v5);have sq1:=nb.seq ns (Nl.seq (a:=env.locals) (im H'.nx.g na) (fB H'.ns) AU);have tl1:=nb.ju ns (AV.keep na.keep);have te1:=nb.tells ns (te.keep na.keep);have tT1:=nb.tells ns (tT.keep na.keep);have tv1:=nb.tells ns (tv.keep na.keep);have F1:St c A 6 env.scope env s1.heap [some "name",some "T",some "due"] [some (.str nm),some T,some v]:=by
   refine H1.st H9 dZ (λj x h=>?_) (λj x d h1 h2=>?_) (rm.less (by omega))
   ·match j,h with
    |0,h=>cases h;exact ke
    |1,h=>cases h;exact kT
    |2,h=>cases h;exact kv
   ·match j,h1,h2 with
    |0,h1,h2=>cases h1;cases h2;exact⟨ve,fX 0 _ _ rfl rfl,te1⟩
    |1,h1,h2=>cases h1;cases h2;exact⟨vT,fX 1 _ _ rfl rfl,tT1⟩
    |2,h1,h2=>cases h1;cases h2;exact⟨vv,fX 2 _ _ rfl rfl,tv1⟩
  have hX:∀b∈ia::env.locals::X0,∃o,s1.heap.get? b=some o:=by
   intro b hb;simp only[List.mem_cons]at hb;rcases hb with rfl|rfl|hb
   ·exact Ie fy
   ·exact ua H1.ns
   ·refine ak (iI _ hb) λo e=>?_;refine ah (H1.nx.keep.2 _ _ e) λo' e' z=>?_;exact⟨o',e'⟩
  refine aI (BK (en:=en) (nm:=nm) S HM H9 HD W1 H1 ((nU (by decide)).trans ((iG _ (by decide)).trans hw)) ks fV (λs' E' n=>?_) (λs' E' n=>?_) hz a7 (by simpa using k3) (up W1.rt.keys (by simpa using k2)) Gl eE (bU W1.apart.2.2 (by simp)) (rm.less (by omega)) hX λs2 r H2 W2 tI=>?_)
  ·exact cG O (F1.nx n) hgn (by rw[hP];rfl) λv aS t n'=>⟨by cases t;exact⟨_,rfl⟩,n'⟩
  ·exact cG O (F1.nx n) OI (by rw[hP];exact h3) λv aS t n'=>⟨t,n'⟩
  ·refine bS tI λsm2 Gn Go Av=>?_;have bk:ia≠w.dr:=bi (bU W1.apart.2.2 (by simp));refine am (λe1 e2=>?_) (Sn nF);dsimp only at e1 e2;rw[List.append_assoc,←e2,←e1]at W2;refine cz ⟨rfl,⟨_,_,W2⟩,H2,Go.iter bk (Nl.iter (a:=env.locals) (im H1.nx.g Gn) hK fy),Go.seq Av (Nl.seq (a:=env.locals) (im H1.nx.g Gn) (fB H1.ns) sq1),Go.ju Av (tl1.keep Gn.keep)⟩
 ·rintro ia s' m' ⟨G',R',W'⟩ H' iG
  rw[hlen]at W';exact hq s' m' G' R' H' iG (W'.sub λa h=>bH _ h)
end
noncomputable def kA:List (List Nat×Option D):=[([101,114,114,111,114],none),([114,117,110,116,105,109,101,46,69,114,114,111,114],none),([115,121,110,99,46,77,117,116,101,120],none),([115,121,110,99,46,87,97,105,116,71,114,111,117,112],none)]
theorem Rv:pW.map c7.k=kA.map λq=>ao q.1:=by kernel_rfl
theorem JP{c:Cx}{h:Heap}{Y:List Addr}{C:Addr}{at_:Str}:∀{l:List (List Nat×Option D)} {rs:List Addr},l.length=rs.length→(∀q∈l,q.2=none)→RT c h Y C at_ l ((l.map λq=>ao q.1).zip (rs.map Value.ref))
 |[],[],_,_=>trivial
 |q::l,r::rs,hl,hn=>⟨⟨rfl,r,rfl,λd hd=>by exact bg (hn q dW) hd⟩,JP (by simpa using hl) λq hq=>hn q (bH _ hq)⟩
 |[],_::_,hl,_=>by cases hl
 |_::_,[],hl,_=>by cases hl
theorem bindAll{c:Cx}{A:Around}{env:Env}{E:Value→Shared→Prop}:∀{xs:List Str},(∀x∈xs,env.kindOf x=some .local)→d9 (λx (t:Value→Sem Unit)=>env.kindOf x=some .local∧∀(v:Value) (s:Shared) (Q:Unit→Shared→Prop),wpAny c.M A (storeName env x v) Q E s→wpAny c.M A (t v) Q E s) xs (xs.map λn=>bindName env n)
 |[],_=>.nil
 |x::xs,h=>.cons ⟨h x dW,λv s Q k=>wpAny_bindName k⟩ (bindAll λy hy=>h y (bH _ hy))
theorem CN(P:Params):bT P mainGlobals "World"=some (.ref 562)∧bT P mainGlobals "Scope"=some (.ref 495)∧bT P mainGlobals "ConstReader"=some (.ref 386):=⟨by kernel_rfl,by kernel_rfl,by kernel_rfl⟩
section
variable{c:Cx}{P:Params}{A:Around}{env:Env}{s₀ s:Shared}{m:Str→Option Value}{E:Value→Shared→Prop}{X0:List Addr}
structure JQ(c:Cx)(s s':Shared)(x dx dr:Addr)(ms:Str→Option Value):Prop where
 nx:Nx c s s'
 x0:s.heap.get? x=none
 d0:s.heap.get? dx=none
 inst:aJ s'.heap x dx 495 ms
 rows:ms "rows"=some (.ref dr)∧s'.heap.get? dr=some emptyDict∧dr≠x∧dr≠dx∧s.heap.get? dr=none
 outer:ms "outer"=some .none
 owner:ms "owner"=some .none
 within:Within ms ["rows","owner","outer"]
theorem Rw(S:aN c P)(HM:az c)(H9:av c)(H:aq c A env s₀ s m)(g1:env.kindOf "World"=some .globalImplicit)(rm:A.depth+4<recursionLimit){q3 q4:Pos}:
  wpAny c.M A (eval (.Call (.Name "World" q3) [] [] q4) env) (λv s1=>∃xw cw dn dg dm mw rs,v=.ref xw∧Cq c s s1 xw cw dn dg dm mw rs) E s:=by
 have Xf:=λh g=>cC (S.st h g) (dQ P);have e1:eval (.Call (.Name "World" q3) [] [] q4) env=(eval (.Name "World" q3) env>>=λfv=>callWith q4 fv [] (backTo q4 (starEach [] env)) []):=rfl;rw[e1];refine aj (H.glob g1 rfl (de (S.st _ H.nx.g) (n3 P)) (CN P).1 (qi (j1 P).makes rfl (evalArgs_kw_nil rfl (wpAny_evalAll_nil ⟨rfl,Xf _ H.nx.g,dq ?_⟩))));exact UY S HM H9 H.nx.g (H.fr H9) rm λxw cw dn dg dm mw rs s1 WA=>⟨xw,cw,dn,dg,dm,mw,rs,rfl,WA⟩
theorem Rx(S:aN c P)(HM:az c)(H9:av c)(H:aq c A env s₀ s m)(g2:env.kindOf "Scope"=some .globalImplicit)(rm:A.depth+1<recursionLimit){q5 q7:Pos}{a:Expr}(a7:starEach [a] env=[(false,eval a env)])(ha:∀Q,Q Value.none s→wpAny c.M A (eval a env) Q E s):
  wpAny c.M A (eval (.Call (.Name "Scope" q5) [a] [] q7) env) (λv s1=>∃xs cN dr ms,v=.ref xs∧JQ c s s1 xs cN dr ms) E s:=by
 have Xf:=λh g=>cC (S.st h g) (dQ P);have e2:eval (.Call (.Name "Scope" q5) [a] [] q7) env=(eval (.Name "Scope" q5) env>>=λfv=>callWith q7 fv [] (backTo q7 (starEach [a] env)) []):=rfl;rw[e2,a7];refine aj (H.glob g2 rfl (de (S.st _ H.nx.g) (n3 P)) (CN P).2.1 (qi (qB P).makes rfl (dj (aV (ha _ (ce (show _∧_∧_ from⟨rfl,Xf _ H.nx.g,dq ?_⟩)))))));exact UT S HM H9 H.nx.g (H.fr H9) rm λxs cN ms dr s2 n2 v7 uH Is r so sw sn=>⟨xs,cN,dr,ms,rfl,n2,v7,uH,Is,r,so,sw,sn⟩
theorem ZK(HM:az c)(H9:av c)(iI:∀b∈X0,∃o,s₀.heap.get? b=some o)(H:aq c A env s₀ s m)(kw:env.kindOf "world"=some .local)(ks:env.kindOf "scope"=some .local)
  (hh:A.handled=none){c1 c2:Expr}{q0 q1 q2 q8 q9:Pos}{Q:Flow→Shared→Prop}(a7:starEach [c1,c2] env=[(false,eval c1 env),(false,eval c2 env)])
  (h1:∀E,wpAny c.M A (eval c1 env) (λv s1=>∃xw cw dn dg dm mw rs,v=.ref xw∧Cq c s s1 xw cw dn dg dm mw rs) E s)
  (h2:∀s1 E,aq c A env s₀ s1 m→wpAny c.M A (eval c2 env) (λv s2=>∃xs cN dr ms,v=.ref xs∧JQ c s1 s2 xs cN dr ms) E s1)
  (ji:swappedStores [.Tuple [.Name "world" q0,.Name "scope" q1] 0 q2] (.Tuple [c1,c2] 0 q8) env=pure (some (["world","scope"]:List Str)))
  (hq:∀s' w N,aq c A env s₀ s' (upd (upd m "scope" (.ref w.xs)) "world" (.ref w.xw))→Ow c (env.locals::X0) s' w kA [] [] N [] []→s₀.heap.get? w.dn=none∧s₀.heap.get? w.dg=none∧s₀.heap.get? w.dr=none∧s₀.heap.get? w.dm=none→Q .next s'):
  wpAny c.M A (exec (.Assign [.Tuple [.Name "world" q0,.Name "scope" q1] 0 q2] (.Tuple [c1,c2] 0 q8) q9) env) Q E s:=by
 refine Assign_Tuple_swapped (wpAny_Tuple ?_) rfl ji;rw[a7];refine aV (aL (h1 E) (λv s1 ⟨xw,cw,dn,dg,dm,mw,rs,ev,WA⟩=>?_) λj j q=>q);subst ev;have H1:=H.on WA.nx;refine aV (aL (h2 s1 E H1) (λv s2 ⟨xs,cN,dr,ms,ev,SA⟩=>?_) λj j q=>q);subst ev;obtain⟨n2,v7,uH,Is,⟨r1,r2,r3,r4,r5⟩,so,sw,sn⟩:=SA;refine ce ⟨by rw[sizeLine_eq];exact aX,?_⟩;have H2:=H1.on n2;have bx:=Nx.push HM.push H2.nx.g {cls:=.type "tuple",data:=.seq [Value.ref xw,.ref xs].toArray} s2.toks;have H3:=H2.on bx;have hT:aQ (s2.heap.push {cls:=.type "tuple",data:=.seq [Value.ref xw,.ref xs].toArray}) s2.heap.objs.size "tuple" [.ref xw,.ref xs]:=aQ.push;have iE:(["world","scope"]:List Str).length=([Value.ref xw,.ref xs]:List Value).toArray.size:=rfl;rw[iE];refine unpackItems_tuple hh hT.tuple λh' hk=>?_;have n4:Nx c {s2 with heap:=s2.heap.push {cls:=.type "tuple",data:=.seq [Value.ref xw,.ref xs].toArray}} {s2 with heap:=h'}:=Nx.ext (s:={s2 with heap:=s2.heap.push {cls:=.type "tuple",data:=.seq [Value.ref xw,.ref xs].toArray}}) HM.push H3.nx.g h' s2.toks λb o e=>hk b o (bL (cA e)) e;have H4:=H3.on n4;have AX:=bx.trans n4;refine ak (ua H.ns) λoL eL=>?_;have aek:∀y,s.heap.get? y=none→y≠env.locals:=λy hy q=>by rw[q,eL]at hy;exact oV hy
 have newX:∀y,s.heap.get? y=none→y∉env.locals::X0:=by
  intro y hy q;rcases List.mem_cons.mp q with q|q
  ·exact aek y hy q
  ·refine ak (iI _ q) λo e=>?_;refine ah (H.nx.keep.2 _ _ e) λo' e' j=>?_;exact bg hy e'
 have AY:∀{y},s1.heap.get? y=none→s.heap.get? y=none:=λh=>cO WA.nx h;refine ak (jm WA.OV) λodn tN=>?_;refine bC (id WA.inst.2.2) λoxw j j exw j=>?_;have ne1:∀{y z:Addr} {o:Obj},s1.heap.get? y=none→s1.heap.get? z=some o→y≠z:=λh1 h2 q=>by rw[q,h2]at h1;exact oV h1
 refine Mu WA.ne λx1 x2 x3 x4 x5 x6 x7 x8 x9=>?_;have hOw:Ow c (env.locals::X0) {s2 with heap:=h'} ⟨xw,cw,xs,cN,dn,dg,dm,dr,mw,ms⟩ kA [] [] ((kA.map λq=>ao q.1).zip (rs.map Value.ref)) [] []:=by
  refine Ow.on (s:=s2) ⟨WA.inst.keep n2.keep,Is,WA.named,WA.globals,WA.TA,WA.settle,WA.meths,r1,so,sw,sn,?_,?_,yx r2,cx n2.keep WA.OW (λvs q=>by cases q) cy,?_,?_,JP ?_ ?_,trivial,trivial⟩ AX
  ·have:=hZ n2.keep WA.OV;rwa[Rv]at this
  ·exact yx (cx n2.keep WA.wH (λvs q=>by cases q) cy)
  ·intro a ha;simp only[List.mem_cons,List.not_mem_nil,or_false]at ha;have key:∀{a:Addr},a≠dn→a≠dg→a≠dr→s.heap.get? a=none→a∉dn::dg::dr::env.locals::X0:=by
    intro a h1 h2 h3 h4 q;rcases List.mem_cons.mp q with q|q
    ·exact h1 q
    rcases List.mem_cons.mp q with q|q
    ·exact h2 q
    rcases List.mem_cons.mp q with q|q
    ·exact h3 q
    exact newX a h4 q
   rcases ha with rfl|rfl|rfl|rfl|rfl
   ·exact key (bi x4) (bi x6) (bi (ne1 r5 WA.inst.1)) WA.x0
   ·exact key (bi x5) (bi x7) (bi (ne1 r5 exw)) WA.d0
   ·exact key (ne1 v7 tN) (ne1 v7 WA.wH) (bi r3) (AY v7)
   ·exact key (ne1 uH tN) (ne1 uH WA.wH) (bi r4) (AY uH)
   ·exact key (bi x2) (bi x3) (bi (ne1 r5 WA.OW)) WA.n0.2.2
  ·have key:∀{a b d:Addr},a≠b→a≠d→s.heap.get? a=none→a∉b::d::env.locals::X0:=by
    intro a b d h1 h2 h4 q;rcases List.mem_cons.mp q with q|q
    ·exact h1 q
    rcases List.mem_cons.mp q with q|q
    ·exact h2 q
    exact newX a h4 q
   exact⟨key x1 (bi (ne1 r5 tN)) WA.n0.1,key (bi x1) (bi (ne1 r5 WA.wH)) WA.n0.2.1,key (ne1 r5 tN) (ne1 r5 WA.wH) (AY r5)⟩
  ·exact WA.len.symm
  ·intro q hq;unfold kA at hq;simp only[List.mem_cons,List.not_mem_nil,or_false]at hq;rcases hq with rfl|rfl|rfl|rfl<;>rfl
 refine stores0 (xs:=["scope","world"]) (us:=[.ref xs,.ref xw]) HM H9 (bindAll λx hx=>?_) rfl H4 λs5 H5 n5=>?_
 ·simp only[List.mem_cons,List.not_mem_nil,or_false]at hx;rcases hx with rfl|rfl<;>assumption
 ·exact hq s5 ⟨xw,cw,xs,cN,dn,dg,dm,dr,mw,ms⟩ _ H5 (hOw.nl (by simp) (fB H4.ns) n5) ⟨cO H.nx WA.n0.1,cO H.nx WA.n0.2.1,cO H.nx (AY r5),cO H.nx WA.n0.2.2⟩
theorem WH(S:aN c P)(HM:az c)(H9:av c)(H:aq c A env s₀ s m){xw xs:Addr}(hw:m "world"=some (.ref xw))(hs:m "scope"=some (.ref xs))(kw:env.kindOf "world"=some .local)(ks:env.kindOf "scope"=some .local)(g1:env.kindOf "ConstReader"=some .globalImplicit)(rm:A.depth+1<recursionLimit)
  {q0 q1 q3 q5 q6:Pos}{a b:Expr}{Q:Flow→Shared→Prop}(a7:starEach [.Name "world" q1,a,.Name "scope" q3,b] env=[(false,eval (.Name "world" q1) env),(false,eval a env),(false,eval (.Name "scope" q3) env),(false,eval b env)])
  (ha:cL (λj=>false) 6 a=true)(hb:∀s' Q,Q Value.none s'→wpAny c.M A (eval b env) Q E s')
  (hq:∀x dx mi s',Nx c s s'→s.heap.get? x=none→s.heap.get? dx=none→aJ s'.heap x dx 386 mi→mi "world"=some (.ref xw)→mi "scope"=some (.ref xs)→mi "iota"=some .none→Within mi ["iota","scope","package","world"]→Q (.ret (.ref x)) s'):
  wpAny c.M A (exec (.Return (some (.Call (.Name "ConstReader" q0) [.Name "world" q1,a,.Name "scope" q3,b] [] q5)) q6) env) Q E s:=by
 have Xf:=λh g=>cC (S.st h g) (dQ P);have e2:eval (.Call (.Name "ConstReader" q0) [.Name "world" q1,a,.Name "scope" q3,b] [] q5) env=(eval (.Name "ConstReader" q0) env>>=λfv=>callWith q5 fv [] (backTo q5 (starEach [.Name "world" q1,a,.Name "scope" q3,b] env)) []):=rfl;refine fE ?_;rw[e2,a7];have hk:∀(x:Str) (p:Pos) (s:Shared) (Q:Value→Shared→Prop),(λj=>false) x=true→aq c A env s₀ s m→(∀v,Q v s)→wpAny c.M A (eval (.Name x p) env) Q E s:=λx p s Q h=>by cases h
 have qk:=qx (k:=λj=>false) HM.push HM H9 hk 6;refine aj (H.glob g1 rfl (de (S.st _ H.nx.g) (n3 P)) (CN P).2.2 (qi (qw P).makes rfl (dj (aV (H.load kw hw rfl (aV (aL (qk a s ha H) (λv1 s1 n1=>?_) λj j q=>q)))))));have H1:=H.on n1;refine aV (H1.load ks hs rfl (aV (hb _ _ (ce (show _∧_∧_ from⟨rfl,Xf _ H1.nx.g,dq ?_⟩)))));exact Tz S HM H9 H1.nx.g (H1.fr H9) rm λx dx mi s2 n2 hx iH I a1 a2 a3 j a5=>hq x dx mi s2 (n1.trans n2) (cO n1 hx) (cO n1 iH) I a1 a2 a3 a5
end
structure Gp where
 c1:Expr
 c2:Expr
 a1:Expr
 b1:Expr
 u1:Expr
 d1:Expr
 a2:Expr
 b2:Expr
 u2:Expr
 d2:Expr
 fy:Expr
 gy:Expr
 ll:Expr
 lm:Expr
 zx:Expr
 nE:Expr
 kx:Expr
 lq:Expr
 gen:Expr
 gz:Expr
 hn:Expr
 jQ:Expr
 hz:Expr
 ra:Expr
 rb:Expr
 q:Nat→Pos
def Kz(x:Gp):List Stmt:=[
 .Assign [.Tuple [.Name "world" (x.q 0),.Name "scope" (x.q 1)] 0 (x.q 2)] (.Tuple [x.c1,x.c2] 0 (x.q 3)) (x.q 4),
 .Assign [.Subscript (.Attribute (.Name "world" (x.q 5)) "named" (x.q 6)) (.Constant (.str (ao [109,97,105,110,46,84])) 0 (x.q 7)) (x.q 8)] (.Call (.Name "NamedRow" (x.q 9)) [x.a1,x.b1,x.u1,x.d1] [] (x.q 10)) (x.q 11),
 .Assign [.Subscript (.Attribute (.Name "world" (x.q 12)) "named" (x.q 13)) (.Constant (.str (ao [109,97,105,110,46,78])) 0 (x.q 14)) (x.q 15)] (.Call (.Name "NamedRow" (x.q 16)) [x.a2,x.b2,x.u2,x.d2] [] (x.q 17)) (x.q 18),
 .For (.Tuple [.Name "e" (x.q 19),.Name "T" (x.q 20),.Name "value" (x.q 21)] 0 (x.q 22)) x.fy [.If x.gy [.Expr (.Call (.Attribute (.Name "scope" (x.q 23)) "declare" (x.q 24)) [x.ll,x.lm,x.zx] [] (x.q 25)) (x.q 26)] [] (x.q 27)] [] (x.q 28),
 .For (.Tuple [.Name "name" (x.q 29),.Name "T" (x.q 30),.Name "due" (x.q 31)] 0 (x.q 32)) x.nE [.Assign [.Subscript (.Attribute (.Name "world" (x.q 33)) "globals" (x.q 34)) x.kx (x.q 35)] (.Name "T" (x.q 36)) (x.q 37),.Expr (.Call (.Attribute (.Name "scope" (x.q 38)) "declare" (x.q 39)) [x.lq,x.gen,x.gz] [] (x.q 40)) (x.q 41)] [] (x.q 42),
 .Expr (.Call (.Attribute (.Name "scope" (x.q 43)) "declare" (x.q 44)) [x.hn,x.jQ,x.hz] [] (x.q 45)) (x.q 46),
 .Return (some (.Call (.Name "ConstReader" (x.q 47)) [.Name "world" (x.q 48),x.ra,.Name "scope" (x.q 49),x.rb] [] (x.q 50))) (x.q 51)]
noncomputable def rdQ:List Pos:=[aa 557 4 9,aa 557 11 16,aa 557 4 16,aa 557 19 41,aa 557 4 41,aa 558 4 9,aa 558 4 15,aa 558 16 24,aa 558 4 25,aa 558 28 36,aa 558 28 75,aa 558 4 75,aa 559 4 9,aa 559 4 15,aa 559 16 24,aa 559 4 25,aa 559 28 36,aa 559 28 83,aa 559 4 83,aa 560 8 9,aa 560 11 12,aa 560 14 19,aa 560 8 19,aa 562 12 17,aa 562 12 25,aa 562 12 86,aa 562 12 86,⟨561,8,562,86⟩,⟨560,4,562,86⟩,aa 563 8 12,aa 563 14 15,aa 563 17 20,aa 563 8 20,aa 564 8 13,aa 564 8 21,aa 564 8 37,aa 564 40 41,aa 564 8 41,aa 565 8 13,aa 565 8 21,aa 565 8 58,aa 565 8 58,⟨563,4,565,58⟩,aa 566 4 9,aa 566 4 17,aa 566 4 49,aa 566 4 49,aa 567 11 22,aa 567 23 28,aa 567 38 43,aa 567 11 50,aa 567 4 50]
noncomputable def Gq:Gp:=⟨(.Call (.Name "World" (aa 557 20 25)) [] [] (aa 557 20 27)),
 (.Call (.Name "Scope" (aa 557 29 34)) [(.Constant .none 0 (aa 557 35 39))] [] (aa 557 29 40)),
 (.Constant (.str "main.T") 0 (aa 558 37 45)),
 (.Constant (.str "main") 0 (aa 558 47 53)),
 (.Tuple [(.Constant (.str "int") 0 (aa 558 56 61)),(.Constant (.str "int8") 0 (aa 558 63 69))] 0 (aa 558 55 70)),
 (.Dict [] [] (aa 558 72 74)),
 (.Constant (.str "main.N") 0 (aa 559 37 45)),
 (.Constant (.str "main") 0 (aa 559 47 53)),
 (.Tuple [(.Constant (.str "array") 0 (aa 559 56 63)),(.Constant (.int 5) 0 (aa 559 65 66)),(.Tuple [(.Constant (.str "bool") 0 (aa 559 69 75))] 0 (aa 559 68 77))] 0 (aa 559 55 78)),
 (.Dict [] [] (aa 559 80 82)),
 (.Call (.Name "_law_rows" (aa 560 23 32)) [] [] (aa 560 23 34)),
 (.Compare (.Subscript (.Name "e" (aa 561 11 12)) (.Constant (.int 0) 0 (aa 561 13 14)) (aa 561 11 15)) [.Eq] [(.Constant (.str "name") 0 (aa 561 19 25))] (aa 561 11 25)),
 (.Subscript (.Name "e" (aa 562 26 27)) (.Constant (.int 2) 0 (aa 562 28 29)) (aa 562 26 30)),
 (.IfExp (.Compare (.Name "T" (aa 562 48 49)) [.Is] [(.Constant .none 0 (aa 562 53 57))] (aa 562 48 57)) (.Tuple [(.Constant (.str "local") 0 (aa 562 33 40)),(.Constant (.int 0) 0 (aa 562 42 43))] 0 (aa 562 32 44)) (.Tuple [(.Constant (.str "const") 0 (aa 562 64 71)),(.Name "T" (aa 562 73 74)),(.Name "value" (aa 562 76 81))] 0 (aa 562 63 82)) (aa 562 32 82)),
 (.Constant (.int 0) 0 (aa 562 84 85)),
 (.Call (.Name "_law_globals" (aa 563 24 36)) [] [] (aa 563 24 38)),
 (.BinOp (.Constant (.str "main.") 0 (aa 564 22 29)) .Add (.Name "name" (aa 564 32 36)) (aa 564 22 36)),
 (.Name "name" (aa 565 22 26)),
 (.Tuple [(.Constant (.str "global") 0 (aa 565 29 37)),(.BinOp (.Constant (.str "main.") 0 (aa 565 39 46)) .Add (.Name "name" (aa 565 49 53)) (aa 565 39 53))] 0 (aa 565 28 54)),
 (.Constant (.int 0) 0 (aa 565 56 57)),
 (.Constant (.str "gh") 0 (aa 566 18 22)),
 (.Tuple [(.Constant (.str "global") 0 (aa 566 25 33)),(.Constant (.str "main.gh") 0 (aa 566 35 44))] 0 (aa 566 24 45)),
 (.Constant (.int 0) 0 (aa 566 47 48)),
 (.Constant (.str "main") 0 (aa 567 30 36)),
 (.Constant .none 0 (aa 567 45 49)),λi=>rdQ.getD i (aa 0 0 0)⟩
theorem LY(P:Params):dY P 615=true:=by kernel_rfl
theorem ZL(P:Params):bodyOf (ai P 615)=Kz Gq:=by kernel_rfl
theorem ZM(P:Params)(Z:Setting):peek (aC P []) Z (bindArgs (ai P 615) ⟨[],[]⟩)=some []:=by kernel_rfl
noncomputable def cb:List D:=[(.tuple [(.tuple [aU,(.int 30),(.int 5)]),(.tuple [bM,aU]),(.int 5)]),
 (.tuple [(.tuple [aU,(.int 31),(.int 0)]),(.tuple [bM,aU]),(.int 0)]),
 (.tuple [(.tuple [aU,(.int 32),(.int 300)]),(.tuple [bM,aU]),(.int 300)]),
 (.tuple [(.tuple [aK,(.int 33),(.str [109])]),(.tuple [bM,aU]),(.int (-3))]),
 (.tuple [(.tuple [kh,(.int 34),(.int 97)]),(.tuple [bM,kh]),(.int 97)]),
 (.tuple [(.tuple [qP,(.int 35),(.bytes [97])]),(.tuple [bM,iX]),(.bytes [97])]),
 (.tuple [(.tuple [aK,(.int 36),(.str [120])]),(.tuple [iX]),(.bytes [98])]),
 (.tuple [(.tuple [aK,(.int 37),(.str [116])]),(.tuple [bM,bf]),(.bool true)]),
 (.tuple [(.tuple [aK,(.int 38),(.str [102])]),(.tuple [bf]),(.bool false)]),
 (.tuple [(.tuple [aK,(.int 39),(.str [99])]),(.tuple [fF,oz]),(.int 100)]),
 (.tuple [(.tuple [aK,(.int 40),(.str [100])]),(.tuple [fF,oz]),(.int (-128))]),
 (.tuple [(.tuple [aK,(.int 41),(.str [117])]),(.tuple [aU,lN]),(.int 200)]),
 (.tuple [(.tuple [aK,(.int 42),(.str [122])]),(.tuple [aU,lN]),(.int 0)]),
 (.tuple [(.tuple [aK,(.int 43),(.str [119])]),(.tuple [aU,aU]),(.int 7)]),
 (.tuple [(.tuple [aK,(.int 44),(.str [118])]),.none,.none])]
noncomputable def gj:List (Option (List Nat×D)):=[none,
 none,
 none,
 some ([109],(.tuple [d6,(.tuple [bM,aU]),(.int (-3))])),
 none,
 none,
 some ([120],(.tuple [d6,(.tuple [iX]),(.bytes [98])])),
 some ([116],(.tuple [d6,(.tuple [bM,bf]),(.bool true)])),
 some ([102],(.tuple [d6,(.tuple [bf]),(.bool false)])),
 some ([99],(.tuple [d6,(.tuple [fF,oz]),(.int 100)])),
 some ([100],(.tuple [d6,(.tuple [fF,oz]),(.int (-128))])),
 some ([117],(.tuple [d6,(.tuple [aU,lN]),(.int 200)])),
 some ([122],(.tuple [d6,(.tuple [aU,lN]),(.int 0)])),
 some ([119],(.tuple [d6,(.tuple [aU,aU]),(.int 7)])),
 some ([118],(.tuple [(.str [108,111,99,97,108]),(.int 0)]))]
noncomputable def uI:List D:=[(.tuple [(.str [103,97]),(.tuple [cg,(.int 3),(.tuple [bf])]),(.int 3)]),
 (.tuple [(.str [103,112]),(.tuple [dF,(.tuple [cg,(.int 4),(.tuple [bf])])]),(.int 4)]),
 (.tuple [(.str [103,110]),(.tuple [fF,lO]),(.int 5)]),
 (.tuple [(.str [103,114]),(.tuple [dF,(.tuple [fF,lO])]),(.int 5)]),
 (.tuple [(.str [103,113]),(.tuple [aU,aU]),.none]),
 (.tuple [(.str [103,115]),(.tuple [qQ,(.tuple [bf])]),.none]),
 (.tuple [(.str [103,116]),(.tuple [dF,(.tuple [dF,(.tuple [cg,(.int 4),(.tuple [bf])])])]),.none]),
 (.tuple [(.str [103,101]),(.tuple [cg,(.int 0),(.tuple [bf])]),(.int 0)])]
noncomputable def globK:List (List Nat×List Nat×D×D):=[([103,97],[109,97,105,110,46,103,97],(.tuple [cg,(.int 3),(.tuple [bf])]),(.tuple [ch,(.str [109,97,105,110,46,103,97])])),
 ([103,112],[109,97,105,110,46,103,112],(.tuple [dF,(.tuple [cg,(.int 4),(.tuple [bf])])]),(.tuple [ch,(.str [109,97,105,110,46,103,112])])),
 ([103,110],[109,97,105,110,46,103,110],(.tuple [fF,lO]),(.tuple [ch,(.str [109,97,105,110,46,103,110])])),
 ([103,114],[109,97,105,110,46,103,114],(.tuple [dF,(.tuple [fF,lO])]),(.tuple [ch,(.str [109,97,105,110,46,103,114])])),
 ([103,113],[109,97,105,110,46,103,113],(.tuple [aU,aU]),(.tuple [ch,(.str [109,97,105,110,46,103,113])])),
 ([103,115],[109,97,105,110,46,103,115],(.tuple [qQ,(.tuple [bf])]),(.tuple [ch,(.str [109,97,105,110,46,103,115])])),
 ([103,116],[109,97,105,110,46,103,116],(.tuple [dF,(.tuple [dF,(.tuple [cg,(.int 4),(.tuple [bf])])])]),(.tuple [ch,(.str [109,97,105,110,46,103,116])])),
 ([103,101],[109,97,105,110,46,103,101],(.tuple [cg,(.int 0),(.tuple [bf])]),(.tuple [ch,(.str [109,97,105,110,46,103,101])]))]
theorem U2:(rec dh 10).ev [] (.call 22 [])=.ok (.list cb):=by kernel_rfl
theorem U3:cb.map xD=gj.map some:=by kernel_rfl
theorem U4:(List.range 15).all (Gj gj)=true:=by kernel_rfl
theorem TH:(rec dh 10).ev [] (.call 34 [])=.ok (.list uI):=by kernel_rfl
theorem TJ:uI.map xn=globK.map some:=by kernel_rfl
theorem TK:(List.range 8).all (AW (fJ gj 15) globK)=true:=by kernel_rfl
noncomputable def uJ(a b:List Nat):E:=.tup [.lit (.str a),.lit (.str b)]
noncomputable def O2:E:=.tup [.lit cg,.lit (.int 5),.tup [.lit bf]]
noncomputable def tR:D:=.tuple [aU,.str [105,110,116,56]]
noncomputable def wT:D:=.tuple [cg,.int 5,.tuple [bf]]
noncomputable def Gr:D:=.tuple [ch,.str [109,97,105,110,46,103,104]]
noncomputable def JR:List Str:=["world","scope","e","T","value","name","due"]
noncomputable def Je:List Str:=["World","Scope","NamedRow","ConstReader"]
structure RdF(P:Params)(x:Gp):Prop where
 loc:fj P 615 JR=true
 glob:(Je.all λy=>(ai P 615).scope.names.lookup y==some .globalImplicit)=true
 self:(ai P 615).scope.names.lookup ("self":Str)=none
 c1:∃p p',x.c1=.Call (.Name "World" p) [] [] p'
 c2:∃p p' p'',x.c2=.Call (.Name "Scope" p) [.Constant .none 0 p''] [] p'
 sw:mm (ai P 615).scope [.Name "world" (x.q 0),.Name "scope" (x.q 1)] [x.c1,x.c2]=some (some [.ofString "world",.ofString "scope"])
 q1:cL (λz=>false) 6 x.a1=true∧cL (λz=>false) 6 x.b1=true∧cL (λz=>false) 6 x.d1=true
 q2:cL (λz=>false) 6 x.a2=true∧cL (λz=>false) 6 x.b2=true∧cL (λz=>false) 6 x.d2=true
 q3:cL (λz=>false) 6 x.zx=true∧cL (λz=>false) 6 x.gz=true∧cL (λz=>false) 6 x.hz=true∧cL (λz=>false) 6 x.ra=true
 rb:∃p,x.rb=.Constant .none 0 p
 u1:mE aH (ai P 615).scope [] (uJ [105,110,116] [105,110,116,56]) x.u1=true
 u2:mE aH (ai P 615).scope [] O2 x.u2=true
 fy:mE aH (ai P 615).scope [] (.call 22 []) x.fy=true
 nE:mE aH (ai P 615).scope [] (.call 34 []) x.nE=true
 r1:mE aH (ai P 615).scope [some "e",some "T",some "value"] vZ x.gy=true
 r2:mE aH (ai P 615).scope [some "e",some "T",some "value"] AP x.ll=true
 r3:mE aH (ai P 615).scope [some "e",some "T",some "value"] AQ x.lm=true
 g1:mE aH (ai P 615).scope [some "name",some "T",some "due"] AS x.kx=true
 g2:mE aH (ai P 615).scope [some "name",some "T",some "due"] (.var 0) x.lq=true
 g3:mE aH (ai P 615).scope [some "name",some "T",some "due"] AT x.gen=true
 h1:mE aH (ai P 615).scope [] (.lit (.str [103,104])) x.hn=true
 h2:mE aH (ai P 615).scope [] (uJ [103,108,111,98,97,108] [109,97,105,110,46,103,104]) x.jQ=true
 lr:∀env,starEach [x.a1,x.b1,x.u1,x.d1] env=[(false,eval x.a1 env),(false,eval x.b1 env),(false,eval x.u1 env),(false,eval x.d1 env)]
 nG:∀env,starEach [x.a2,x.b2,x.u2,x.d2] env=[(false,eval x.a2 env),(false,eval x.b2 env),(false,eval x.u2 env),(false,eval x.d2 env)]
 O3:∀env,starEach [x.ll,x.lm,x.zx] env=[(false,eval x.ll env),(false,eval x.lm env),(false,eval x.zx env)]
 AD:∀env,starEach [x.lq,x.gen,x.gz] env=[(false,eval x.lq env),(false,eval x.gen env),(false,eval x.gz env)]
 O4:∀env,starEach [x.hn,x.jQ,x.hz] env=[(false,eval x.hn env),(false,eval x.jQ env),(false,eval x.hz env)]
 O5:∀env p p',starEach [.Name "world" p,x.ra,.Name "scope" p',x.rb] env=[(false,eval (.Name "world" p) env),(false,eval x.ra env),(false,eval (.Name "scope" p') env),(false,eval x.rb env)]
 f1:∀env v,foldedSetIterable x.fy env v=pure v
 f2:∀env v,foldedSetIterable x.nE env v=pure v
 l1:(x.q 24).endLine=(x.q 25).line∧(x.q 39).endLine=(x.q 40).line∧(x.q 44).endLine=(x.q 45).line
theorem rdF(P:Params):RdF P Gq where
 loc:=by kernel_rfl
 glob:=by kernel_rfl
 self:=by kernel_rfl
 c1:=⟨_,_,rfl⟩
 c2:=⟨_,_,_,rfl⟩
 sw:=by kernel_rfl
 q1:=⟨by kernel_rfl,by kernel_rfl,by kernel_rfl⟩
 q2:=⟨by kernel_rfl,by kernel_rfl,by kernel_rfl⟩
 q3:=⟨by kernel_rfl,by kernel_rfl,by kernel_rfl,by kernel_rfl⟩
 rb:=⟨_,rfl⟩
 u1:=by kernel_rfl
 u2:=by kernel_rfl
 fy:=by kernel_rfl
 nE:=by kernel_rfl
 r1:=by kernel_rfl
 r2:=by kernel_rfl
 r3:=by kernel_rfl
 g1:=by kernel_rfl
 g2:=by kernel_rfl
 g3:=by kernel_rfl
 h1:=by kernel_rfl
 h2:=by kernel_rfl
 lr:=λz=>by kernel_rfl
 nG:=λz=>by kernel_rfl
 O3:=λz=>by kernel_rfl
 AD:=λz=>by kernel_rfl
 O4:=λz=>by kernel_rfl
 O5:=λz z z=>by kernel_rfl
 f1:=λz z=>by kernel_rfl
 f2:=λz z=>by kernel_rfl
 l1:=⟨by kernel_rfl,by kernel_rfl,by kernel_rfl⟩
noncomputable def nH:List (List Nat×Option D):=(kA++[([109,97,105,110,46,84],some tR)])++[([109,97,105,110,46,78],some wT)]
noncomputable def nI:List (List Nat×Option D):=(fJ gj gj.length++iz globK globK.length)++[([103,104],some Gr)]
theorem Jf:(kA.any λq=>eh q.1 [109,97,105,110,46,84])=false∧((kA++[([109,97,105,110,46,84],some tR)]).any λq=>eh q.1 [109,97,105,110,46,78])=false:=⟨by kernel_rfl,by kernel_rfl⟩
theorem WI:((fJ gj gj.length++iz globK globK.length).any λq=>eh q.1 [103,104])=false∧eh [103,104] [95]=false∧(fJ gj gj.length++iz globK globK.length).length≤500∧(fJ gj gj.length).length≤300:=⟨by kernel_rfl,by kernel_rfl,kO (by kernel_rfl),kO (by kernel_rfl)⟩
theorem WJ:gj.length=15∧globK.length=8∧kA.length=4:=⟨by kernel_rfl,by kernel_rfl,by kernel_rfl⟩
theorem ZN:(rec dh 6).ev [] (uJ [105,110,116] [105,110,116,56])=.ok tR∧(rec dh 6).ev [] O2=.ok wT∧(rec dh 6).ev [] (.lit (.str [103,104]))=.ok (.str [103,104])∧(rec dh 6).ev [] (uJ [103,108,111,98,97,108] [109,97,105,110,46,103,104])=.ok Gr:=
 ⟨by kernel_rfl,by kernel_rfl,by kernel_rfl,by kernel_rfl⟩
theorem xo:("scope":Str)∉(["e","T","value"]:List Str)∧("world":Str)∉(["e","T","value"]:List Str)∧("scope":Str)∉(["name","T","due"]:List Str)∧("world":Str)∉(["name","T","due"]:List Str):=⟨by decide,by decide,by decide,by decide⟩
structure Cb(c:Cx)(X0:List Addr)(s s':Shared)(xr aY:Addr)(mr:Str→Option Value)(w:BW)(N G R:List (Str×Value)):Prop where
 nx:Nx c s s'
 x0:s.heap.get? xr=none
 d0:s.heap.get? aY=none
 inst:aJ s'.heap xr aY 386 mr
 oK:mr "world"=some (.ref w.xw)
 scope:mr "scope"=some (.ref w.xs)
 iota:mr "iota"=some .none
 within:Within mr ["iota","scope","package","world"]
 wU:s.heap.get? w.dm=none
 ow:Ow c X0 s' w nH (i9 globK globK.length) nI N G R
section
variable{c:Cx}{P:Params}{A:Around}{s:Shared}{X0:List Addr}
theorem Q7(S:aN c P)(HM:az c)(H9:av c)(HD:cD c)(O:Ob c)(hP:c.P=dh)(iI:∀b∈X0,∃o,s.heap.get? b=some o)(g:c.G s.heap)(fr:bI c A s.heap)(rm:aP A 16){R':Result→Shared→Prop}
  (hq:∀xr aY mr w N G R s',Cb c X0 s s' xr aY mr w N G R→R' (.ok (.ret (.ref xr))) s'):codeAny c.M A (.call (.ref 615) ⟨[],[]⟩) R' s:=by
 refine ah (cI (LY P)) λo F hf=>?_;have X:=rdF P;have Y:=ZL P;generalize Gq=x at X Y;refine call_plain HM.push H9 (eI S) S.st F hf (s₀:=s) g (Nx.refl g) fr (by have:=rm.1;omega) (l:=[]) rfl (ZM P) (λb hb=>by cases hb) λenv s1 ay hL k1 n1 H1=>?_;have agb:(A.deeper env).depth+30<recursionLimit:=by rw[depth_deeper];have:=rm.1;omega
 have AZ:aP (A.deeper env) 12:=⟨by rw[depth_deeper];have:=rm.1;omega,by rw[units_deeper];have:=rm.2.1;omega,rm.2.2⟩;have kl:∀y,y∈JR→env.kindOf y=some .local:=λy hy=>by show env.scope.names.lookup y=_;rw[ay];exact bQ X.loc hy
 have kg:∀y,y∈Je→env.kindOf y=some .globalImplicit:=λy hy=>by show env.scope.names.lookup y=_;rw[ay];simpa using List.all_eq_true.mp X.glob y hy
 have dZ:env.kindOf "self"≠some .cell:=by show env.scope.names.lookup _≠_;rw[ay,X.self];intro z;exact aF z
 have kw:=kl "world" (al 0);have ks:=kl "scope" (al 1);have ke:=kl "e" (al 2);have kT:=kl "T" (al 3);have kv:=kl "value" (al 4);have kn:=kl "name" (al 5);have kd:=kl "due" (al 6);have gW:=kg "World" (al 0);have gS:=kg "Scope" (al 1);have gN:=kg "NamedRow" (al 2);have gR:=kg "ConstReader" (al 3);have hN:c.N=aH:=S.nm;rw[Y];unfold Kz;refine eM X.c1 λpw1 pw2 O6=>?_;refine abj X.c2 λps1 ps2 ps3 O7=>?_;have ZO:starEach [x.c1,x.c2] env=[(false,eval x.c1 env),(false,eval x.c2 env)]:=by rw[O6,O7];rfl
 refine aI (ZK HM H9 iI H1 kw ks rm.2.2 ZO (λE=>?_) (λs2 E H2=>?_) (nW ay H1.kind X.sw) λs2 w N H2 W2 hn=>?_)
 ·rw[O6];exact Rw S HM H9 H1 gW (by omega)
 ·rw[O7];exact Rx S HM H9 H2 gS (by omega) rfl λQ h=>lZ h
 refine fc hn λtQ tI Gs hn4=>?_;have tS:∀{sx:Shared} {mx:Str→Option Value},aq c (A.deeper env) env s sx mx→∀b∈env.locals::X0,∃o,sx.heap.get? b=some o:=by
  intro sx mx Hx b hb;rcases List.mem_cons.mp hb with rfl|hb
  ·exact ua Hx.ns
  ·refine ak (iI _ hb) λo e=>?_;refine ah (Hx.nx.keep.2 _ _ e) λo' e' j=>?_;exact⟨o',e'⟩
 have eS:∀{sx:Shared} {mx:Str→Option Value},aq c (A.deeper env) env s sx mx→St c (A.deeper env) 6 env.scope env sx.heap [] []:=λHx=>Hx.st H9 dZ (λi x h=>by cases h) (λi x d h=>by cases h) (AZ.less (by omega));have A0:upd (upd (bindL env.kindOf [] λj=>none) "scope" (.ref w.xs)) "world" (.ref w.xw) "world"=some (.ref w.xw):=cT rfl;have Gu:upd (upd (bindL env.kindOf [] λj=>none) "scope" (.ref w.xs)) "world" (.ref w.xw) "scope"=some (.ref w.xs):=(bD (by decide)).trans (cT rfl);generalize upd (upd (bindL env.kindOf [] λj=>none) "scope" (.ref w.xs)) "world" (.ref w.xw)=m2 at H2 A0 Gu;have pu:=WJ;have EV:=ZN;have hNl:N.length≤1000:=by rw[W2.len.2.2,pu.2.2];omega
 refine aI (Ic S HM H9 W2 H2 A0 kw gN X.q1.1 X.q1.2.1 X.q1.2.2 (λs' E' n=>cG O ((eS H2).nx n) (by rw[hN,ay];exact X.u1) (by rw[hP];exact EV.1) λv aS t n'=>⟨t,n'⟩) (X.lr env) (up W2.nt.keys Jf.1) hNl tQ (bU W2.apart.1 (by simp)) (by omega) (tS H2) λs3 r1 H3 W3 j=>?_);have ael:(N++[(ao [109,97,105,110,46,84],Value.ref r1)]).length≤1000:=by rw[W3.len.2.2,List.length_append,pu.2.2];simp
 refine aI (Ic S HM H9 W3 H3 A0 kw gN X.q2.1 X.q2.2.1 X.q2.2.2 (λs' E' n=>cG O ((eS H3).nx n) (by rw[hN,ay];exact X.u2) (by rw[hP];exact EV.2.1) λv aS t n'=>⟨t,n'⟩) (X.nG env) (up W3.nt.keys Jf.2) ael tQ (bU W3.apart.1 (by simp)) (by omega) (tS H3) λs4 r2 H4 W4 j=>?_);have GN:=WI;refine aI (TF S HM H9 HD O hP W4 iI H4 Gu ks ke kT kv dZ (by rw[hN,ay];exact X.fy) (by rw[hN,ay];exact X.r1) (by rw[hN,ay];exact X.r2) (by rw[hN,ay];exact X.r3) X.q3.1 (X.O3 env) (X.f1 env) X.l1.1 AZ Gs U2 U3 (λi hi=>range_all U4 (by rw[pu.1]at hi;exact hi)) (by rw[pu.1];omega) λs5 m5 R5 H5 e5 W5=>?_);have O8:m5 "scope"=some (.ref w.xs):=(e5 _ xo.1).trans Gu;have O9:m5 "world"=some (.ref w.xw):=(e5 _ xo.2.1).trans A0;have okg:∀i,i<globK.length→AW (fJ gj gj.length) globK i=true:=λi hi=>by rw[pu.1];exact range_all TK (by rw[pu.2.1]at hi;exact hi)
 refine aI (TG S HM H9 HD O hP W5 iI H5 O8 O9 ks kw kn kT kd dZ (by rw[hN,ay];exact X.nE) (by rw[hN,ay];exact X.g1) (by rw[hN,ay];exact X.g2) (by rw[hN,ay];exact X.g3) X.q3.2.1 (X.AD env) (X.f2 env) X.l1.2.1 AZ Gs tI TH TJ okg (by rw[pu.2.1];omega) GN.2.2.2 λs6 m6 G6 R6 H6 e6 W6=>?_);have Pa:m6 "scope"=some (.ref w.xs):=(e6 _ xo.2.2.1).trans O8;have mw6:m6 "world"=some (.ref w.xw):=(e6 _ xo.2.2.2).trans O9;have hR6:R6.length≤1000:=by rw[W6.len.1];have:=GN.2.2.1;omega
 refine aI (BK (nm:=[103,104]) (en:=Gr) S HM H9 HD W6 H6 Pa ks X.l1.2.2 (λs' E' n=>cG O ((eS H6).nx n) (by rw[hN,ay];exact X.h1) (by rw[hP];exact EV.2.2.1) λv aS t n'=>⟨by cases t;exact⟨_,rfl⟩,n'⟩)
  (λs' E' n=>cG O ((eS H6).nx n) (by rw[hN,ay];exact X.h2) (by rw[hP];exact EV.2.2.2) λv aS t n'=>⟨t,n'⟩) X.q3.2.2.1 (X.O4 env) GN.2.1 (up W6.rt.keys GN.1) hR6 Gs (bU W6.apart.2.2 (by simp)) (AZ.less (by omega)) (tS H6) λs7 r7 H7 W7 j=>?_)
 refine ak X.rb λprb erb=>?_;refine aI (WH S HM H9 H7 mw6 Pa kw ks gR (by omega) (X.O5 env _ _) X.q3.2.2.2 (λs' Q h=>by rw[erb];exact lZ h) λxr aY mr s8 n8 hx iH I a1 a2 a3 a4=>?_);exact hq xr aY mr w _ G6 _ s8 ⟨H7.nx.trans n8,cO H7.nx hx,cO H7.nx iH,I,a1,a2,a3,a4,hn4,(W7.on n8).sub λa h=>bH _ h⟩
end
noncomputable def Pb(k:Nat):Addr:=ap (Nat.beq k 5) 79 0
abbrev ci:List Addr:=[324,331,699]
theorem JS{P:Params}{a:Addr}{o:Obj}(h:cW P a=some o):a<705∧a∉ci:=by
 refine bY (JJ h) λh1 h2 z=>?_;refine⟨h1,λq=>?_⟩;simp only[ci,List.mem_cons,List.not_mem_nil,or_false]at q;unfold yv at h2;rcases q with rfl|rfl|rfl<;>cases h2
theorem JT{P:Params}{h:Heap}(k:∀a o,cW P a=some o→o.isFreed=false→h.get? a=some o){XL:List Addr}(hx:∀a∈XL,∀o,cW P a=some o→o.isFreed=false→False):Base P ⟨hideAll h (ci++XL),dM⟩where
 st:=⟨λa o e hf=>by
  refine am (λh1 h2=>?_) (JS e);refine hideAll_get _ (k a o e hf) λq=>?_;rcases List.mem_append.mp q with q|q
  ·exact h2 q
  ·exact hx a q o e hf⟩
 tabs:=rfl
 wF:=by
  intro t ht;refine hideAll_none _ (List.mem_append_left _ ?_);unfold dM at ht;simp only[List.mem_cons,List.not_mem_nil,or_false]at ht;rcases ht with rfl|rfl|rfl<;>simp[ci]
noncomputable abbrev B0(h₁:Heap):Bs:=⟨hideAll h₁ (ci++[]),dM⟩
theorem kB{P:Params}{h₁:Heap}(k:Kept (H1 P) h₁):Base P (B0 h₁):=JT (λa o e hf=>k a o (Kr e hf)) (λa ha=>by cases ha)
noncomputable abbrev c0(w:PySem.World)(h₁:Heap):Cx:=lc pw w dh aH Pb (λf=>jU.getD f 0) 76 (B0 h₁)
theorem KA{w:PySem.World}{h₁:Heap}(k₁:Kept (H1 w.params) h₁):cD (c0 w h₁):=by
 intro k l h;have h':ap (Nat.beq k 5) (assoc qX 5) none=some l:=h;cases hb:Nat.beq k 5 with
 |false=>rw[hb]at h';cases h'
 |true=>
  rw[hb]at h';obtain rfl:=gE hb;have e:some (oJ.zip qY)=some l:=TC.symm.trans h';cases au e;exact⟨rfl,oJ,uF,qY,rfl,by kernel_rfl,λh g=>⟨IC ((kB k₁).fY (σ:=Pb) (Pr:=dh) rfl|>.st h g),Ib⟩⟩
theorem ob0{w:PySem.World}{h₁:Heap}(k₁:Kept (H1 w.params) h₁):Ob (c0 w h₁):=
 LV ((kB k₁).fY rfl) ii jp rfl (CJ (kB k₁).ok) rfl rfl (KA k₁) (λA s k m a d value Q E g rm ha hd=>by cases hd) (λA s k m f x pl Q E g rm hx hf=>by cases hf) (λk m f h=>by cases h) (λh=>by cases h)
theorem KC(P:Params):(ib P).get 324=some (tabObj #[])∧(ib P).get 331=some (tabObj #[])∧(ib P).get 699=some (tabObj #[]):=⟨by kernel_rfl,by kernel_rfl,by kernel_rfl⟩
theorem BL{h:Heap}{t:Addr×Addr×Str}(e:h.get? t.2.1=some (tabObj #[])):qW h t:=⟨#[],e,trivial,λpos cv q=>by cases q⟩
theorem LZ{w:PySem.World}{h₁ h:Heap}(k₁:Kept (H1 w.params) h₁)(k₂:Kept h₁ h):(c0 w h₁).G h:=by
 have k:Kept (H1 w.params) h:=λb o e=>k₂ b o (k₁ b o e);refine⟨λb o e=>k₂ b o (of_hideAll _ e),λt ht=>?_⟩;refine bY (KC w.params) λt1 t2 t3=>?_;have jk:t∈dM:=ht;unfold dM at jk;simp only[List.mem_cons,List.not_mem_nil,or_false]at jk;rcases jk with rfl|rfl|rfl
 ·exact BL (k _ _ (abs_get (by decide) t1))
 ·exact BL (k _ _ (abs_get (by decide) t2))
 ·exact BL (k _ _ (abs_get (by decide) t3))
theorem Ry{w:PySem.World}{h₁:Heap}(k₁:Kept (H1 w.params) h₁){A:Around}{s:Shared}{X0:List Addr}(iI:∀b∈X0,∃o,s.heap.get? b=some o)(g:(c0 w h₁).G s.heap)(fr:bI (c0 w h₁) A s.heap)(rm:aP A 16){R':Result→Shared→Prop}
  (hq:∀xr aY mr bw N G R s',Cb (c0 w h₁) X0 s s' xr aY mr bw N G R→R' (.ok (.ret (.ref xr))) s'):codeAny (model pw w) A (.call (.ref 615) ⟨[],[]⟩) R' s:=
 Q7 (c:=c0 w h₁) ((kB k₁).fY rfl) ii jp (KA k₁) (ob0 k₁) rfl iI g fr rm hq
noncomputable def ls(d:D):Bool:=@D.rec (λz=>Bool) (λz=>Bool) true (λz=>true) (λz=>true) (λz=>true) (λz=>true) (λz b=>b) (λz b=>b) (λz=>false) true (λz z a b=>a&&b) d
section
variable{σ wV:Nat→Addr}{h h':Heap}
theorem Tells.re(k:cJ h h'){v:Value}{d:D}(T:Tells σ h v d):ls d=true→Tells wV h' v d:=
 @Tells.rec σ h (λv d z=>ls d=true→Tells wV h' v d) (λv d z=>ls (.tuple d)=true→ax wV h' v d) (λz=>.none) (λb z=>.bool b) (λi t z=>.int i t) (λx t z=>.str x t) (λb t z=>.bytes b t)
  (λx z i n=>.tuple (k _ _ _ x) (i n)) (λx z i n=>.list (k _ _ _ x) (i n)) (λz n=>aw n) (λz=>.nil) (λz z x y n=>.cons (x (a1 n)) (y (a2 n))) v d T
end
noncomputable def adr(kv:Option (Str×Value)):Addr:=match kv with|some (_,.ref a)=>a|_=>0
noncomputable def hO(xr:Addr)(bw:BW)(N R:List (Str×Value))(k:Nat):Addr:=match k with
 |0=>xr
 |1=>bw.xw
 |2=>bw.xs
 |3=>bw.dr
 |4=>bw.dn
 |5=>79
 |6=>bw.dg
 |k=>if k<40 then adr R[k-10]?else adr N[k-40]?
theorem RT.get{c:Cx}{h:Heap}{Y:List Addr}{C:Addr}{at_:Str}:∀{l:List (List Nat×Option D)} {r:List (Str×Value)} {i:Nat} {q:List Nat×Option D},RT c h Y C at_ l r→l[i]?=some q→∃kv,r[i]?=some kv∧R1 c h Y C at_ q kv
 |_::_,kv::_,0,_,⟨a,_⟩,e=>by cases e;exact⟨kv,rfl,a⟩
 |_::_,_::_,i+1,q,⟨_,b⟩,e=>RT.get (i:=i) b e
 |[],_,_,_,_,e=>by cases e
 |_::_,[],_,_,x,_=>x.elim
theorem Jg:∀(r:List (Str×Value)),r=(r.map (·.1)).zip (r.map (·.2))
 |[]=>rfl
 |(a,b)::r=>by rw[List.map_cons,List.map_cons,List.zip_cons_cons,←Jg r]
theorem xk{α:Type}:∀{l:List (Nat×α)} {k:Nat} {a:α},assoc l k=some a→(k,a)∈l
 |[],_,_,h=>by cases h
 |(j,b)::l,k,a,h=>by
  have h':ap (Nat.beq j k) (some b) (assoc l k)=some a:=h;cases hb:Nat.beq j k with
  |true=>rw[hb]at h';cases h';rw[gE hb];exact dW
  |false=>rw[hb]at h';exact bH _ (xk h')
noncomputable def Do{α:Type}(T:List (Nat×List (Nat×α))):List (Nat×Nat×α):=T.flatMap λp=>p.2.map λq=>(p.1,q.1,q.2)
theorem BD{α:Type}{T:List (Nat×List (Nat×α))}{k j:Nat}{a:α}(h:ui T k j=some a):(k,j,a)∈Do T:=by
 cases e:assoc T k with
 |none=>
  have:ui T k j=none:=by show cM (assoc T k) _=_;rw[e]
  rw[this]at h;cases h
 |some l=>
  have:ui T k j=assoc l j:=by show cM (assoc T k) _=_;rw[e]
  rw[this]at h;exact List.mem_flatMap.mpr ⟨(k,l),xk e,List.mem_map.mpr ⟨(j,a),xk h,rfl⟩⟩
noncomputable def NX(i:Nat):Nat×Nat×D:=(10+i,6,((nI[i]?.bind (·.2)).getD .none))
noncomputable def L6:List (Nat×Nat×D):=[(0,0,.obj 1),(0,2,.obj 2),(0,3,.none),(1,7,.obj 4),(1,8,.none),(1,9,.obj 6),(2,4,.obj 3),(2,5,.none)]
theorem So:Do Dj=L6++((List.range 19).map NX++[(44,10,tR),(45,10,wT)]):=by kernel_rfl
theorem U5:((List.range 19).all λi=>match nI[i]?with|some (_,some d)=>ls d|_=>false)=true:=by kernel_rfl
theorem ot:(∃q,nH[4]?=some (q,some tR))∧(∃q,nH[5]?=some (q,some wT))∧ls tR=true∧ls wT=true∧nH.length=6∧nI.length=19:=⟨⟨[109,97,105,110,46,84],by kernel_rfl⟩,⟨[109,97,105,110,46,78],by kernel_rfl⟩,by kernel_rfl,by kernel_rfl,by kernel_rfl,by kernel_rfl⟩
noncomputable def p0:List (List Nat×D):=i9 globK globK.length
theorem U6:(p0.all λq=>ls q.2)=true:=by kernel_rfl
theorem TM:qX=[(3,(nI.map (·.1)).zip ((List.range 19).map λi=>D.obj (10+i))),(4,(nH.map (·.1)).zip ((List.range 6).map λi=>D.obj (40+i))),(5,oJ.zip qY),(6,(p0.map (·.1)).zip (p0.map (·.2)))]:=by kernel_rfl
noncomputable def yA:List (Nat×Nat×Nat):=[(0,0,12),(0,1,13),(0,4,14),(0,6,17),(0,8,15),(0,9,16),(1,3,21),(1,5,20),(2,2,19),(2,7,18)]
theorem ID:Do yu=yA:=by kernel_rfl
noncomputable def yB(k:Nat):Addr:=match k with|0=>386|1=>562|_=>495
noncomputable def U7(P:Params):Bool:=yA.all λq=>match aH.bc[q.2.1]?with
 |some x=>findIn (aC P kC) (.ref (yB q.1)) x==some (some (.ref (jU.getD q.2.2 0)))&&typeIn (aC P kC) (.ref (jU.getD q.2.2 0))==some (.type "function")
 |none=>false
theorem U8(P:Params):U7 P=true:=by kernel_rfl
theorem JU(P:Params):findIn (aC P kC) (.ref 386) "reckoned"=some (some (.ref 383))∧typeIn (aC P kC) (.ref 383)=some (.type "function"):=⟨by kernel_rfl,by kernel_rfl⟩
noncomputable abbrev B2(hR:Heap)(dm:Addr)(XL:List Addr):Bs:=⟨hideAll hR (ci++(dm::XL)),dM⟩
noncomputable abbrev c2(w:PySem.World)(hR:Heap)(XL:List Addr)(xr:Addr)(bw:BW)(N R:List (Str×Value)):Cx:=lc pw w bG aH (hO xr bw N R) (λf=>jU.getD f 0) 76 (B2 hR bw.dm XL)
structure bu(w:PySem.World)(h₁:Heap)(XL:List Addr)(s s':Shared)(xr aY:Addr)(mr:Str→Option Value)(bw:BW)(N G R:List (Str×Value)):Prop where
 rd:Cb (c0 w h₁) (1::(ci++XL)) s s' xr aY mr bw N G R
 kept:Kept (H1 w.params) h₁
 high:∀a∈XL,705≤a
 hs:Kept h₁ s.heap
 ns:∀a∈ci++XL,dU s'.heap a
 ex:∀a∈ci++XL,∃o,s.heap.get? a=some o
section
variable{w:PySem.World}{h₁:Heap}{XL:List Addr}{s s':Shared}{xr aY:Addr}{mr:Str→Option Value}{bw:BW}{N G R:List (Str×Value)}{h:Heap}
theorem bu.base(T:bu w h₁ XL s s' xr aY mr bw N G R):Base w.params (B2 s'.heap bw.dm XL):=JT (λa o e hf=>T.rd.nx.g.1 a o ((kB T.kept).st.ok a o e hf)) (λa ha o e hf=>by
 rcases List.mem_cons.mp ha with rfl|ha
 ·have:=T.hs _ _ (T.kept _ _ (Kr e hf));exact bg T.rd.wU this
 ·exact absurd (T.high a ha) (Nat.not_le.mpr (JS e).1))
theorem bu.g(T:bu w h₁ XL s s' xr aY mr bw N G R):(c2 w s'.heap XL xr bw N R).G s'.heap:=⟨λb o e=>of_hideAll _ e,T.rd.nx.g.2⟩
theorem bu.keep(T:bu w h₁ XL s s' xr aY mr bw N G R)(g:(c2 w s'.heap XL xr bw N R).G h){b:Addr}{o:Obj}(e:s'.heap.get? b=some o)(hb:b∉ci++XL)(hm:b≠bw.dm):h.get? b=some o:=g.1 b o (hideAll_get _ e λq=>by
 rcases List.mem_append.mp q with q|q
 ·exact hb (List.mem_append_left _ q)
 ·rcases List.mem_cons.mp q with q|q
  ·exact hm q
  ·exact hb (List.mem_append_right _ q))
theorem bu.seq(T:bu w h₁ XL s s' xr aY mr bw N G R)(g:(c2 w s'.heap XL xr bw N R).G h):cJ s'.heap h:=λa c vs x=>by
 have ha:a∉ci++XL:=λq=>T.ns a q _ _ x;refine bW x λo n e r1 r2 r3=>?_;refine⟨o,n,T.keep g e ha ?_,r1,r2,r3⟩
 rintro rfl
 cases aD T.rd.ow.dm e;cases r3
theorem WK{h:Heap}{d dm:Addr}{m:Str→Option Value}{a:Str}{v:Value}(n:h.Ns1 d m)(hv:m a=some v)(e:h.get? dm=some emptyDict):d≠dm:=by
 rintro rfl
 refine xH n λo es ep e' hd z z hf=>?_;cases aD e e';cases hd;rw[←hf a]at hv;cases hv
theorem bu.cu(T:bu w h₁ XL s s' xr aY mr bw N G R)(g:(c2 w s'.heap XL xr bw N R).G h){x dx C:Addr}{m:Str→Option Value}{a:Str}{v:Value}(h1:x∉ci++XL)(h2:dx∉ci++XL)(hv:m a=some v)(I:aJ s'.heap x dx C m):aJ h x dx C m:=
 I.ext (λo e=>T.keep g e h1 (by rintro rfl;rw[T.rd.ow.dm]at e;have:=I.1;rw[T.rd.ow.dm]at this;cases this)) (λo e=>T.keep g e h2 (WK I.2.2 hv T.rd.ow.dm))
theorem bu.new(T:bu w h₁ XL s s' xr aY mr bw N G R){a:Addr}(e:s.heap.get? a=none):a∉ci++XL:=λq=>by refine ak (T.ex a q) λo e'=>?_;exact bg e e'
theorem px{X:List Addr}{a:Addr}(h:a∉bw.dn::bw.dg::bw.dr::1::X):a∉X:=λq=>h (bH _ (bH _ (bH _ (bH _ q))))
theorem E6{X:List Addr}{a b c:Addr}(h:a∉b::c::1::X):a∉X∧a≠1:=⟨λq=>h (bH _ (bH _ (bH _ q))),λq=>h (by rw[q];simp)⟩
theorem bu.insts(T:bu w h₁ XL s s' xr aY mr bw N G R):JN (c2 w s'.heap XL xr bw N R) (aC w.params kC):=by
 intro k j a d ha hd;have W:=T.rd.ow;have hx:=T.new T.rd.x0;have iH:=T.new T.rd.d0;have ow:∀a,a∈[bw.xw,bw.cw,bw.xs,bw.cN,bw.dm]→a∉ci++XL:=λa h=>px (W.off a h);have o1:=ow bw.xw (by simp);have o2:=ow bw.cw (by simp);have o3:=ow bw.xs (by simp);have o4:=ow bw.cN (by simp);have hm:=BD (T:=Dj) hd;rw[So]at hm;rcases List.mem_append.mp hm with hm|hm
 ·have nJ:=qw w.params;have nK:=j1 w.params;have tU:=qB w.params;unfold L6 at hm;simp only[List.mem_cons,List.not_mem_nil,or_false,Prod.mk.injEq]at hm;rcases hm with⟨rfl,rfl,rfl⟩|⟨rfl,rfl,rfl⟩|⟨rfl,rfl,rfl⟩|⟨rfl,rfl,rfl⟩|⟨rfl,rfl,rfl⟩|⟨rfl,rfl,rfl⟩|⟨rfl,rfl,rfl⟩|⟨rfl,rfl,rfl⟩
  ·obtain rfl:=au (show some (Str.ofString "world")=some a from ha);exact⟨386,aY,_,mr,_,nJ.cls,nJ.none_ _ (al 0),T.rd.oK,rfl,λh g=>⟨T.cu g hx iH T.rd.oK T.rd.inst,.obj 1⟩⟩
  ·obtain rfl:=au (show some (Str.ofString "scope")=some a from ha);exact⟨386,aY,_,mr,_,nJ.cls,nJ.none_ _ (al 2),T.rd.scope,rfl,λh g=>⟨T.cu g hx iH T.rd.oK T.rd.inst,.obj 2⟩⟩
  ·obtain rfl:=au (show some (Str.ofString "iota")=some a from ha);exact⟨386,aY,_,mr,_,nJ.cls,nJ.none_ _ (al 3),T.rd.iota,rfl,λh g=>⟨T.cu g hx iH T.rd.oK T.rd.inst,.none⟩⟩
  ·obtain rfl:=au (show some (Str.ofString "named")=some a from ha);exact⟨562,bw.cw,_,bw.mw,_,nK.cls,nK.none_ _ (al 1),W.wn,rfl,λh g=>⟨T.cu g o1 o2 W.wn W.iw,.obj 4⟩⟩
  ·obtain rfl:=au (show some (Str.ofString "settle")=some a from ha);exact⟨562,bw.cw,_,bw.mw,_,nK.cls,nK.none_ _ (al 10),W.wt,rfl,λh g=>⟨T.cu g o1 o2 W.wn W.iw,.none⟩⟩
  ·obtain rfl:=au (show some (Str.ofString "globals")=some a from ha);exact⟨562,bw.cw,_,bw.mw,_,nK.cls,nK.none_ _ (al 2),W.wg,rfl,λh g=>⟨T.cu g o1 o2 W.wn W.iw,.obj 6⟩⟩
  ·obtain rfl:=au (show some (Str.ofString "rows")=some a from ha);exact⟨495,bw.cN,_,bw.ms,_,tU.cls,tU.none_ _ (al 2),W.sr,rfl,λh g=>⟨T.cu g o3 o4 W.sr W.gw,.obj 3⟩⟩
  ·obtain rfl:=au (show some (Str.ofString "outer")=some a from ha);exact⟨495,bw.cN,_,bw.ms,_,tU.cls,tU.none_ _ (al 0),W.so,rfl,λh g=>⟨T.cu g o3 o4 W.sr W.gw,.none⟩⟩
 rcases List.mem_append.mp hm with hm|hm
 ·refine ah (List.mem_map.mp hm) λi hi e=>?_;have Pc:=List.mem_range.mp hi;unfold NX at e;cases e;have q:=range_all U5 Pc;have ck:=Dm w.params;cases hq:nI[i]?with
  |none=>rw[hq]at q;cases q
  |some x=>
   obtain⟨nm,od⟩:=x;rw[hq]at q;cases od with
   |none=>cases q
   |some d=>
    dsimp only at q;refine xp (W.rt.get hq) λkv qc E7 x ex hI=>?_;refine lI (hI d rfl) λdx m v I hv hh tv y1 y2=>?_;obtain rfl:=au (show some (Str.ofString "entry")=some a from ha);have es:hO xr bw N R (10+i)=x:=by
     obtain⟨kn,Gv⟩:=kv;dsimp only at ex;subst ex;have h1:hO xr bw N R (10+i)=if 10+i<40 then adr R[10+i-10]?else adr N[10+i-40]?:=by
      match i,Pc with
      |i,_=>rw[Nat.add_comm 10 i];rfl
     rw[h1,if_pos (by omega),Nat.add_sub_cancel_left,qc];rfl
    refine⟨422,dx,_,m,v,ck.cls,ck.none_ _ (al 1),hv,hh,λh g=>⟨?_,tv.re (T.seq g) q⟩⟩;show aJ h (hO xr bw N R (10+i)) dx 422 m;rw[es];exact T.cu g (px y1) (px y2) hv I
 ·have ck:=xC w.params;refine oX ot λZP ZQ n1 n2 z=>?_;refine ak ZP λqa ha4=>?_;refine ak ZQ λqb Gw=>?_;simp only[List.mem_cons,List.not_mem_nil,or_false,Prod.mk.injEq]at hm;have key:∀(i:Nat) (qn:List Nat) (du:D),nH[i]?=some (qn,some du)→ls du=true→i<40→a="underlying"→∃(C dx:Addr) (cd:ClassData) (m:Str→Option Value) (v:Value),jM (aC w.params kC) C cd∧findIn (aC w.params kC) (.ref C) a=some none∧m a=some v∧handedIn v=true∧∀h,(c2 w s'.heap XL xr bw N R).G h→aJ h (hO xr bw N R (40+i)) dx C m∧Tells (hO xr bw N R) h v du:=by
   intro i qn du hq hn hi ea;subst ea;refine xp (W.nt.get hq) λkv qc E7 x ex hI=>?_;refine lI (hI du rfl) λdx m v I hv hh tv y1 y2=>?_;have es:hO xr bw N R (40+i)=x:=by
    obtain⟨kn,Gv⟩:=kv;dsimp only at ex;subst ex;have h1:hO xr bw N R (40+i)=if 40+i<40 then adr R[40+i-10]?else adr N[40+i-40]?:=by rw[Nat.add_comm 40 i];rfl
    rw[h1,if_neg (by omega),Nat.add_sub_cancel_left,qc];rfl
   refine⟨519,dx,_,m,v,ck.cls,ck.none_ _ (al 2),hv,hh,λh g=>⟨?_,tv.re (T.seq g) hn⟩⟩;rw[es];exact T.cu g (px y1) (px y2) hv I
  rcases hm with⟨rfl,rfl,rfl⟩|⟨rfl,rfl,rfl⟩
  ·exact key 4 _ _ ha4 n1 (by omega) (au (show some (Str.ofString "underlying")=some a from ha)).symm
  ·exact key 5 _ _ Gw n2 (by omega) (au (show some (Str.ofString "underlying")=some a from ha)).symm
end
section
variable{w:PySem.World}{h₁:Heap}{XL:List Addr}{s s':Shared}{xr aY:Addr}{mr:Str→Option Value}{bw:BW}{N G R:List (Str×Value)}{h:Heap}
theorem bu.meths(T:bu w h₁ XL s s' xr aY mr bw N G R):JO (c2 w s'.heap XL xr bw N R) (aC w.params kC):=by
 intro k j f x hx hf;have W:=T.rd.ow;have hxr:=T.new T.rd.x0;have iH:=T.new T.rd.d0;have ow:∀a,a∈[bw.xw,bw.cw,bw.xs,bw.cN,bw.dm]→a∉ci++XL:=λa h=>px (W.off a h);have o1:=ow bw.xw (by simp);have o2:=ow bw.cw (by simp);have o3:=ow bw.xs (by simp);have o4:=ow bw.cN (by simp);have hm:=BD (T:=yu) hf;rw[ID]at hm;have q0:=List.all_eq_true.mp (U8 w.params) _ hm;have nJ:=qw w.params;have nK:=j1 w.params;have tU:=qB w.params;have kX:aH.bc[j]?=some x:=hx;dsimp only at q0;rw[kX]at q0;refine am (λq1 q2=>?_) (ba q0);have q1:=eq_of_beq q1;have q2:=eq_of_beq q2;have R0:yB k=386→mr x=none→k=0→∃(C dx:Addr) (cd:ClassData) (m:Str→Option Value),jM (aC w.params kC) C cd∧findIn (aC w.params kC) (.ref C) x=some (some (.ref ((c2 w s'.heap XL xr bw N R).fa f)))∧typeIn (aC w.params kC) (.ref ((c2 w s'.heap XL xr bw N R).fa f))=some (.type "function")∧m x=none∧∀h,(c2 w s'.heap XL xr bw N R).G h→aJ h ((c2 w s'.heap XL xr bw N R).σ k) dx C m:=by
  intro hc hn hk;subst hk;exact⟨386,aY,_,mr,nJ.cls,q1,q2,hn,λh g=>T.cu g hxr iH T.rd.oK T.rd.inst⟩
 have R1:yB k=562→bw.mw x=none→k=1→∃(C dx:Addr) (cd:ClassData) (m:Str→Option Value),jM (aC w.params kC) C cd∧findIn (aC w.params kC) (.ref C) x=some (some (.ref ((c2 w s'.heap XL xr bw N R).fa f)))∧typeIn (aC w.params kC) (.ref ((c2 w s'.heap XL xr bw N R).fa f))=some (.type "function")∧m x=none∧∀h,(c2 w s'.heap XL xr bw N R).G h→aJ h ((c2 w s'.heap XL xr bw N R).σ k) dx C m:=by
  intro hc hn hk;subst hk;exact⟨562,bw.cw,_,bw.mw,nK.cls,q1,q2,hn,λh g=>T.cu g o1 o2 W.wn W.iw⟩
 have R2:yB k=495→bw.ms x=none→k=2→∃(C dx:Addr) (cd:ClassData) (m:Str→Option Value),jM (aC w.params kC) C cd∧findIn (aC w.params kC) (.ref C) x=some (some (.ref ((c2 w s'.heap XL xr bw N R).fa f)))∧typeIn (aC w.params kC) (.ref ((c2 w s'.heap XL xr bw N R).fa f))=some (.type "function")∧m x=none∧∀h,(c2 w s'.heap XL xr bw N R).G h→aJ h ((c2 w s'.heap XL xr bw N R).σ k) dx C m:=by
  intro hc hn hk;subst hk;exact⟨495,bw.cN,_,bw.ms,tU.cls,q1,q2,hn,λh g=>T.cu g o3 o4 W.sr W.gw⟩
 unfold yA at hm;simp only[List.mem_cons,List.not_mem_nil,or_false,Prod.mk.injEq]at hm;rcases hm with⟨rfl,rfl,rfl⟩|⟨rfl,rfl,rfl⟩|⟨rfl,rfl,rfl⟩|⟨rfl,rfl,rfl⟩|⟨rfl,rfl,rfl⟩|⟨rfl,rfl,rfl⟩|⟨rfl,rfl,rfl⟩|⟨rfl,rfl,rfl⟩|⟨rfl,rfl,rfl⟩|⟨rfl,rfl,rfl⟩
 ·obtain rfl:=au (show some (Str.ofString "read")=some x from hx);exact R0 rfl (iU T.rd.within (by kernel_rfl)) rfl
 ·obtain rfl:=au (show some (Str.ofString "named")=some x from hx);exact R0 rfl (iU T.rd.within (by kernel_rfl)) rfl
 ·obtain rfl:=au (show some (Str.ofString "kind_of")=some x from hx);exact R0 rfl (iU T.rd.within (by kernel_rfl)) rfl
 ·obtain rfl:=au (show some (Str.ofString "common")=some x from hx);exact R0 rfl (iU T.rd.within (by kernel_rfl)) rfl
 ·obtain rfl:=au (show some (Str.ofString "of_one")=some x from hx);exact R0 rfl (iU T.rd.within (by kernel_rfl)) rfl
 ·obtain rfl:=au (show some (Str.ofString "of_two")=some x from hx);exact R0 rfl (iU T.rd.within (by kernel_rfl)) rfl
 ·obtain rfl:=au (show some (Str.ofString "settled")=some x from hx);exact R1 rfl W.wo.2 rfl
 ·obtain rfl:=au (show some (Str.ofString "base_of")=some x from hx);exact R1 rfl W.wo.1 rfl
 ·obtain rfl:=au (show some (Str.ofString "find")=some x from hx);exact R2 rfl (iU W.sn (by kernel_rfl)) rfl
 ·obtain rfl:=au (show some (Str.ofString "row")=some x from hx);exact R2 rfl (iU W.sn (by kernel_rfl)) rfl
theorem BE{σ:Nat→Addr}{h:Heap}:∀{us:List Value} {f:Nat→Nat} {n b:Nat},us.length=n→(∀i,i<n→us[i]?=some (.ref (σ (f (b+i)))))→ax σ h us ((List.range' b n).map λi=>D.obj (f i))
 |[],f,0,b,_,_=>.nil
 |u::us,f,n+1,b,hl,hu=>by
  rw[List.range'_succ,List.map_cons];have h0:=hu 0 (Nat.succ_pos _);cases h0;refine .cons (.obj _) (BE (by simpa using hl) λi hi=>?_);have:=hu (i+1) (Nat.succ_lt_succ hi);rw[show b+1+i=b+(i+1) by omega];simpa using this
 |[],_,_+1,_,hl,_=>by cases hl
 |_::_,_,0,_,hl,_=>by cases hl
theorem Jh{c:Cx}{h h':Heap}{wV:Nat→Addr}(k:cJ h h'):∀{l:List (List Nat×D)} {r:List (Str×Value)},GT c h l r→(l.all λq=>ls q.2)=true→ax wV h' (r.map (·.2)) (l.map (·.2))
 |[],[],_,_=>.nil
 |q::l,kv::r,⟨a,b⟩,n=>by
  rw[List.all_cons]at n;refine am (λn1 n2=>?_) (ba n);exact .cons (a.2.re k n1) (Jh k b n2)
 |[],_::_,x,_=>x.elim
 |_::_,[],x,_=>x.elim
end
theorem ZR:(nI.map (·.1)).length=((List.range 19).map λi=>D.obj (10+i)).length∧(nH.map (·.1)).length=((List.range 6).map λi=>D.obj (40+i)).length∧(p0.map (·.1)).length=(p0.map (·.2)).length∧oJ.length=qY.length:=⟨by kernel_rfl,by kernel_rfl,by kernel_rfl,by kernel_rfl⟩
theorem U9:(yA.all λq=>Nat.blt q.2.2 35)=true:=by kernel_rfl
theorem Bn{α:Type}{l:List α}{n:Nat}(h:l.length=n+1):l≠[]:=by rintro rfl;cases h
theorem Va:(i9 globK globK.length).length=7+1:=by kernel_rfl
theorem Ji{l:List (List Nat×Option D)}:(l.map λq=>ao q.1)=(l.map (·.1)).map ao:=by rw[List.map_map];rfl
theorem Sp{l:List (List Nat×D)}:(l.map λq=>ao q.1)=(l.map (·.1)).map ao:=by rw[List.map_map];rfl
section
variable{w:PySem.World}{h₁:Heap}{XL:List Addr}{s s':Shared}{xr aY:Addr}{mr:Str→Option Value}{bw:BW}{N G R:List (Str×Value)}{h:Heap}
theorem bu.row(T:bu w h₁ XL s s' xr aY mr bw N G R){i:Nat}(hi:i<19):∃nm,R[i]?=some (nm,.ref (hO xr bw N R (10+i))):=by
 refine l9 ot λz z z z z hl=>?_;obtain⟨q,hq⟩:∃q,nI[i]?=some q:=⟨_,jA (by rw[hl];exact hi)⟩;refine xp (T.rd.ow.rt.get hq) λZS qc E7 x ex z=>?_;obtain⟨kn,Gv⟩:=ZS;dsimp only at ex;subst ex;have h1:hO xr bw N R (10+i)=if 10+i<40 then adr R[10+i-10]?else adr N[10+i-40]?:=by rw[Nat.add_comm 10 i];rfl
 refine⟨kn,?_⟩;rw[h1,if_pos (by omega),Nat.add_sub_cancel_left,qc];rfl
theorem bu.aem(T:bu w h₁ XL s s' xr aY mr bw N G R){i:Nat}(hi:i<6):∃nm,N[i]?=some (nm,.ref (hO xr bw N R (40+i))):=by
 refine l9 ot λz z z z hl z=>?_;obtain⟨q,hq⟩:∃q,nH[i]?=some q:=⟨_,jA (by rw[hl];exact hi)⟩;refine xp (T.rd.ow.nt.get hq) λZT qc E7 x ex z=>?_;obtain⟨kn,Gv⟩:=ZT;dsimp only at ex;subst ex;have h1:hO xr bw N R (40+i)=if 40+i<40 then adr R[40+i-10]?else adr N[40+i-40]?:=by rw[Nat.add_comm 40 i];rfl
 refine⟨kn,?_⟩;rw[h1,if_neg (by omega),Nat.add_sub_cancel_left,qc];rfl
theorem Vb{h:Heap}{d dm:Addr}{bq:List (Str×Value)}(D:h.DictOf (strKind pw w) d bq)(h0:bq≠[])(e:h.get? dm=some emptyDict):d≠dm:=by
 rintro rfl
 refine lI D λo es ep e' z hd z hp z=>?_;cases aD e e';cases hd;cases hp;exact h0 rfl
theorem bu.dict(T:bu w h₁ XL s s' xr aY mr bw N G R)(g:(c2 w s'.heap XL xr bw N R).G h){d:Addr}{bq:List (Str×Value)}(hd:d∉ci++XL)(h0:bq≠[])(D:s'.heap.DictOf (strKind pw w) d bq){ks:List (List Nat)}(hk:bq.map (·.1)=ks.map ao):h.DictOf (strKind pw w) d ((ks.map ao).zip (bq.map (·.2))):=by
 rw[←hk,←Jg];exact nT D λo e=>T.keep g e hd (Vb D h0 T.rd.ow.dm)
theorem bu.Dp(T:bu w h₁ XL s s' xr aY mr bw N G R):cD (c2 w s'.heap XL xr bw N R):=by
 intro k l hkl;have W:=T.rd.ow;refine bY W.apart λm1 m2 m3=>?_;have d1:=E6 m1;have d2:=E6 m2;have d3:=E6 m3;have FL:=ZR;have ne:∀{a:Addr},a≠1→(a==sysModules)=false:=λh=>beq_eq_false_iff_ne.mpr h;have hm:=xk (l:=qX) hkl;rw[TM]at hm;simp only[List.mem_cons,List.not_mem_nil,or_false,Prod.mk.injEq]at hm;rcases hm with⟨rfl,rfl⟩|⟨rfl,rfl⟩|⟨rfl,rfl⟩|⟨rfl,rfl⟩
 ·refine⟨ne d3.2,_,(R.map fun(q:Str×Value)=>q.2),_,rfl,FL.1,λh g=>⟨T.dict g d3.1 (Bn (by rw[W.len.1];exact ot.2.2.2.2.2)) W.dr (W.rt.keys.trans Ji),?_⟩⟩;rw[List.range_eq_range'];refine BE (f:=λi=>10+i) (by rw[List.length_map,W.len.1];exact ot.2.2.2.2.2) λi hi=>?_;refine ak (T.row hi) λnm e=>?_;rw[List.getElem?_map,e,Nat.zero_add];rfl
 ·refine⟨ne d1.2,_,(N.map fun(q:Str×Value)=>q.2),_,rfl,FL.2.1,λh g=>⟨T.dict g d1.1 (Bn (by rw[W.len.2.2];exact ot.2.2.2.2.1)) W.dn (W.nt.keys.trans Ji),?_⟩⟩;rw[List.range_eq_range'];refine BE (f:=λi=>40+i) (by rw[List.length_map,W.len.2.2];exact ot.2.2.2.2.1) λi hi=>?_;refine ak (T.aem hi) λnm e=>?_;rw[List.getElem?_map,e,Nat.zero_add];rfl
 ·exact⟨rfl,_,uF,_,rfl,FL.2.2.2,λh g=>⟨IC ((T.base.fY (Pr:=bG) (σ:=hO xr bw N R) rfl).st h g),Ib⟩⟩
 ·exact⟨ne d2.2,_,(G.map fun(q:Str×Value)=>q.2),_,rfl,FL.2.2.1,λh g=>⟨T.dict g d2.1 (Bn (n:=7) (by rw[W.len.2.1];exact Va)) W.dg (W.gt.keys.trans Sp),Jh (T.seq g) W.gt U6⟩⟩
theorem bu.fY(T:bu w h₁ XL s s' xr aY mr bw N G R):aN (c2 w s'.heap XL xr bw N R) w.params:=T.base.fY rfl
theorem bu.kc(T:bu w h₁ XL s s' xr aY mr bw N G R):∀h,(c2 w s'.heap XL xr bw N R).G h→(aC w.params kC).In h:=λh g=>cC (T.fY.st h g) (dQ w.params)
theorem bu.ob(T:bu w h₁ XL s s' xr aY mr bw N G R):Ob (c2 w s'.heap XL xr bw N R):=
 LV T.fY ii jp rfl (CJ T.base.ok) rfl rfl T.Dp (attrOk T.kc T.insts) (Wv T.kc T.meths)
  (λk m f hf=>by
   have hm:=BD (T:=yu) hf;rw[ID]at hm;exact kO (List.all_eq_true.mp U9 _ hm))
  λz=>YW T.kc (qw w.params).cls (JU w.params).1 (JU w.params).2 (iU T.rd.within (by kernel_rfl)) λh g=>T.cu g (T.new T.rd.x0) (T.new T.rd.d0) T.rd.oK T.rd.inst
end
structure Gx where
 gy:Expr
 e1:Expr
 e2:Expr
 e3:Expr
 e4:Expr
 q:Nat→Pos
def KD(x:Gx):List Stmt:=[
 .If x.gy [.Assign [.Name "found" (x.q 1)] x.e1 (x.q 2),.Assign [.Subscript (.Name "reel" (x.q 3)) (.Constant (.int 0) 0 (x.q 4)) (x.q 5)] x.e2 (x.q 6),.Return (some (.Name "found" (x.q 7))) (x.q 8)] [] (x.q 0),
 .Assign [.Subscript (.Name "reel" (x.q 9)) (.Constant (.int 1) 0 (x.q 10)) (x.q 11)] x.e3 (x.q 12),
 .Return (some x.e4) (x.q 13)]
noncomputable def wdQ:List Pos:=[⟨528,4,531,20⟩,aa 529 8 13,aa 529 8 30,aa 530 8 12,aa 530 13 14,aa 530 8 15,aa 530 8 33,aa 531 15 20,aa 531 8 20,aa 532 4 8,aa 532 9 10,aa 532 4 11,aa 532 4 48,aa 533 4 54]
noncomputable def Gy:Gx:=⟨(.Compare (.Subscript (.Name "reel" (aa 528 7 11)) (.Constant (.int 0) 0 (aa 528 12 13)) (aa 528 7 14)) [.Gt] [(.Constant (.int 0) 0 (aa 528 17 18))] (aa 528 7 18)),
 (.BinOp (.Subscript (.Name "reel" (aa 529 16 20)) (.Constant (.int 0) 0 (aa 529 21 22)) (aa 529 16 23)) .Mod (.Name "many" (aa 529 26 30)) (aa 529 16 30)),
 (.BinOp (.Subscript (.Name "reel" (aa 530 18 22)) (.Constant (.int 0) 0 (aa 530 23 24)) (aa 530 18 25)) .FloorDiv (.Name "many" (aa 530 29 33)) (aa 530 18 33)),
 (.BinOp (.BinOp (.BinOp (.Subscript (.Name "reel" (aa 532 15 19)) (.Constant (.int 1) 0 (aa 532 20 21)) (aa 532 15 22)) .Mult (.Constant (.int 39373) 0 (aa 532 25 30)) (aa 532 15 30)) .Add (.Constant (.int 7) 0 (aa 532 33 34)) (aa 532 15 34)) .Mod (.Constant (.int 2147483647) 0 (aa 532 38 48)) (aa 532 14 48)),
 (.BinOp (.BinOp (.BinOp (.BinOp (.Subscript (.Name "reel" (aa 533 11 15)) (.Constant (.int 1) 0 (aa 533 16 17)) (aa 533 11 18)) .Mult (.Subscript (.Name "reel" (aa 533 21 25)) (.Constant (.int 1) 0 (aa 533 26 27)) (aa 533 21 28)) (aa 533 11 28)) .Mod (.Constant (.int 2147483629) 0 (aa 533 31 41)) (aa 533 11 41)) .FloorDiv (.Constant (.int 32) 0 (aa 533 45 47)) (aa 533 11 47)) .Mod (.Name "many" (aa 533 50 54)) (aa 533 11 54)),λi=>wdQ.getD i (aa 0 0 0)⟩
theorem L7(P:Params):dY P 580=true:=by kernel_rfl
theorem ZU(P:Params):bodyOf (ai P 580)=KD Gy:=by kernel_rfl
theorem ZV(P:Params)(r n:Value)(Z:Setting):peek (aC P []) Z (bindArgs (ai P 580) ⟨[r,n],[]⟩)=some ((["reel","many"]:List Str).zip [r,n]):=by kernel_rfl
theorem L8(P:Params):fj P 580 ["reel","many","found"]=true:=by kernel_rfl
inductive IE where
 |k (i:Int)
 |nm (x:Str)
 |at_ (x:Str) (j:Nat)
 |bin (op:Operator) (a b:IE)
noncomputable def mI(e:IE):Expr→Bool:=@IE.rec (λu=>Expr→Bool)
 (λi=>uc λk=>k==.int i)
 (λx=>jr λy=>y==x&&!(y==("__debug__":Str)))
 (λx j=>yj λo i=>jr (λy=>y==x&&!(y==("__debug__":Str))) o&&uc (λk=>k==.int j) i)
 (λop u u r t=>C7 λl o x=>o==op&&r l&&t x) e
noncomputable def E8(d:D):Option Int:=dI some d
noncomputable def vI(ν:Str→Option Int)(μ:Str→Nat→Option Int)(e:IE):Option Int:=@IE.rec (λu=>Option Int) some ν μ (λop u u r t=>cM r λx=>cM t λy=>cM (jI op (.int x) (.int y)) E8) e
section
variable{p:Expr}{G:Expr→Prop}{x:Str}{j:Nat}
@[elab_as_elim] theorem NY{i:Int}(h:mI (.k i) p=true)(k:∀n q,G (.Constant (.int i) n q)):G p:=xf h λx n q h=>eq_of_beq h▸k n q
@[elab_as_elim] theorem L9(h:mI (.nm x) p=true)(k:∀q,(x==("__debug__":Str))=false→G (.Name x q)):G p:=lC h λy q h=>by cases eq_of_beq (a1 h);exact k q (kq (a2 h))
@[elab_as_elim] theorem Ma(h:mI (.at_ x j) p=true)(k:∀q1 n q2 q,(x==("__debug__":Str))=false→G (.Subscript (.Name x q1) (.Constant (.int j) n q2) q)):G p:=
 BN h λo i q h=>lC (G:=λo=>G (.Subscript o i q)) (a1 h) λy q1 g=>xf (G:=λi=>G (.Subscript (.Name y q1) i q)) (a2 h) λz n q2 f=>by cases eq_of_beq (a1 g);cases eq_of_beq f;exact k q1 n q2 q (kq (a2 g))
@[elab_as_elim] theorem KE{op:Operator}{a b:IE}(h:mI (.bin op a b) p=true)(k:∀l r q,mI a l=true→mI b r=true→G (.BinOp l op r q)):G p:=IH h λl o r q h=>eq_of_beq (a1 (a1 h))▸k l r q (a2 (a1 h)) (a2 h)
end
section
variable{c:Cx}{A:Around}{env:Env}{s₀:Shared}{m:Str→Option Value}{E:Value→Shared→Prop}{ν:Str→Option Int}{μ:Str→Nat→Option Int}
def E9(env:Env)(m:Str→Option Value)(ν:Str→Option Int):Prop:=∀x i,ν x=some i→env.kindOf x=some .local∧∃t,m x=some (.int i t)
def v8(env:Env)(m:Str→Option Value)(h:Heap)(μ:Str→Nat→Option Int):Prop:=∀x j i,μ x j=some i→env.kindOf x=some .local∧(j:Int)<2^62∧∃(ra:Addr) (vs:List Value) (t:Tok),m x=some (.ref ra)∧h.IsList ra vs.toArray∧vs[j]?=some (.int i t)
theorem fA{h h':Heap}{a:Addr}{vs:Array Value}(k:aE h h')(x:h.IsList a vs):h'.IsList a vs:=by
 refine qD x λo e hc n hd=>?_;refine eV (k.2 _ _ e) λo' e' c' u f' u u=>?_;exact⟨o',e',c'.trans hc,n,(f' λvs q=>by rw[hd]at q;cases q).trans hd⟩
theorem v8.keep{h h':Heap}(k:aE h h')(H:v8 env m h μ):v8 env m h' μ:=λx j i e=>by
 refine IG (H x j i e) λa b ra vs t r1 r2 r3=>?_;exact⟨a,b,ra,vs,t,r1,fA k r2,r3⟩
theorem qL(HM:az c)(Gz:E9 env m ν){e:IE}:∀{p:Expr} {i:Int} {s:Shared},mI e p=true→vI ν μ e=some i→aq c A env s₀ s m→v8 env m s.heap μ→wpAny c.M A (eval p env) (λv s'=>(∃t,v=.int i t)∧Nx c s s') E s:=by
 induction e with
 |k i=>exact λhm hv H u=>NY hm λn q=>iu ⟨⟨_,by rw[show i=_ from Option.some.inj hv]⟩,Nx.tok H.nx.g _⟩
 |nm x=>exact fun{p j s} hm hv H _=>L9 hm λq h2=>oW (Gz x j hv) λa t b=>H.load a b h2 ⟨⟨t,rfl⟩,Nx.refl H.nx.g⟩
 |at_ x j=>
  intro p i s hm hv H A1;refine Ma hm λq1 n q2 q h2=>IG (A1 x j i hv) λa hj ra vs t r1 r2 r3=>?_;refine Subscript_ (H.load a r1 h2 (iu ?_));refine tail_any (s:={s with toks:=s.toks+1}) (Heap.IsList.typeIs (s:={s with toks:=s.toks+1}) r2) slot_list_getitem.lookup (wpAny_getItem_list (s:={s with toks:=s.toks+1}) (x:=.int i t) r2 (kQ _) (by omega) ((ri ..).trans r3) ?_) (oj _ _ _).choose_spec;exact⟨⟨t,rfl⟩,Nx.tok H.nx.g _⟩
 |bin op a b iha ihb=>
  intro p i s hm hv H A1;refine KE hm λl r q h1 h2=>jb hv λx ex hv=>jb hv λy ey hv=>jb hv λd hz hd=>?_;refine wpAny_BinOp (aL (iha h1 ex H A1) (λv1 s1 h=>am (λz n1=>ak z λt1 e1=>?_) h) λu u q=>q);subst e1;refine aL (ihb h2 ey (H.on n1) (A1.keep n1.keep)) (λv2 s2 h=>am (λz n2=>ak z λt2 e2=>?_) h) λu u q=>q;subst e2;refine HJ HM.push hz (.int x t1) (.int y t2) (n1.trans n2).g λw s3 tw n3=>?_;exact gI hd tw λk t e=>⟨⟨t,by rw[Option.some.inj e]⟩,(n1.trans n2).trans n3⟩
theorem BM{e:IE}{p:Expr}{t:Option Expr}{line:Nat}(h:mI e p=true):swapsWith p t line env=pure false:=by
 cases e with
 |k i=>exact NY h λu u=>rfl
 |nm x=>exact L9 h λu u=>rfl
 |at_ x j=>exact Ma h λu u u u u=>rfl
 |bin op a b=>exact KE h λu u u u u=>rfl
theorem gG{op:Operator}{a b:IE}{x y r:Int}(ha:vI ν μ a=some x)(hb:vI ν μ b=some y)(h:jI op (.int x) (.int y)=some (.int r)):vI ν μ (.bin op a b)=some r:=by
 show cM (vI ν μ a) (λx=>cM (vI ν μ b) λy=>cM (jI op (.int x) (.int y)) E8)=some r;rw[ha,hb];show cM (jI op (.int x) (.int y)) E8=some r;rw[h];rfl
end
theorem Pd{n:Int}(h:0<n):mH n (.ofNat 0)=false:=by rw[qH];exact beq_eq_false_iff_ne.mpr (Int.ne_of_gt h)
theorem tj{a n:Int}(h:0<n):jI .Mod (.int a) (.int n)=some (.int (a.fmod n)):=by
 show Dv a n=_;unfold Dv;rw[Pd h]
theorem NZ{a n:Int}(h:0<n)(hf:fits n=true):jI .FloorDiv (.int a) (.int n)=some (.int (a.fdiv n)):=by
 show Du a n=_;unfold Du;rw[Pd h,hf]
theorem Fa{a n:Int}(ha:fits a=true)(hf:fits n=true):jI .Mult (.int a) (.int n)=some (.int (a*n)):=by
 show Dt a n=_;unfold Dt;rw[ha,hf];rfl
theorem N0{a n:Int}:jI .Add (.int a) (.int n)=some (.int (a+n)):=rfl
theorem fits_of{b:Int}(h0:0≤b)(h1:b<2147483647):fits b=true:=by
 unfold fits;rw[Nat.blt_eq];have:b.natAbs<2147483647:=by omega
 exact Nat.lt_of_lt_of_le this (kO (by kernel_rfl))
noncomputable def w0:IE:=.at_ "reel" 0
noncomputable def wb:IE:=.at_ "reel" 1
noncomputable def w1:IE:=.bin .Mod w0 (.nm "many")
noncomputable def w2:IE:=.bin .FloorDiv w0 (.nm "many")
noncomputable def w3:IE:=.bin .Mod (.bin .Add (.bin .Mult wb (.k 39373)) (.k 7)) (.k 2147483647)
noncomputable def w4:IE:=.bin .Mod (.bin .FloorDiv (.bin .Mod (.bin .Mult wb wb) (.k 2147483629)) (.k 32)) (.nm "many")
structure WdF(P:Params)(x:Gx):Prop where
 self:(ai P 580).scope.names.lookup ("self":Str)=none
 t:∃t0 p p',x.gy=.Compare t0 [.Gt] [.Constant (.int 0) 0 p] p'∧mI w0 t0=true
 e1:mI w1 x.e1=true
 e2:mI w2 x.e2=true
 e3:mI w3 x.e3=true
 e4:mI w4 x.e4=true
theorem wdF(P:Params):WdF P Gy:=⟨by kernel_rfl,⟨_,_,_,rfl,by kernel_rfl⟩,by kernel_rfl,by kernel_rfl,by kernel_rfl,by kernel_rfl⟩
def bX(h:Heap)(ra:Addr):Prop:=∃(a b:Int) (t u:Tok),h.IsList ra [Value.int a t,.int b u].toArray∧0≤b∧b<2147483647
noncomputable def hU(n:Int)(x:Str):Option Int:=if x="many" then some n else none
noncomputable def fZ(a b:Int)(x:Str)(j:Nat):Option Int:=if x="reel" then(if j=0 then some a else if j=1 then some b else none)else none
section
variable{c:Cx}{A:Around}{env:Env}{s₀ s:Shared}{m:Str→Option Value}{E:Value→Shared→Prop}{ra:Addr}{a b n:Int}{t u tm:Tok}
theorem KG(hn:0<n)(hf:fits n=true)(h0:0≤b)(h1:b<2147483647):vI (hU n) (fZ a b) w0=some a∧vI (hU n) (fZ a b) w1=some (a.fmod n)∧vI (hU n) (fZ a b) w2=some (a.fdiv n)∧vI (hU n) (fZ a b) w3=some ((b*39373+7).fmod 2147483647)∧
  vI (hU n) (fZ a b) w4=some ((((b*b).fmod 2147483629).fdiv 32).fmod n):=by
 have e0:vI (hU n) (fZ a b) w0=some a:=by show fZ a b "reel" 0=_;unfold fZ;rw[if_pos rfl,if_pos rfl]
 have eb:vI (hU n) (fZ a b) wb=some b:=by show fZ a b "reel" 1=_;unfold fZ;rw[if_pos rfl,if_neg (by decide),if_pos rfl]
 have en:vI (hU n) (fZ a b) (.nm "many")=some n:=by show hU n "many"=_;unfold hU;rw[if_pos rfl]
 have fb:=fits_of h0 h1;have ek:∀i,vI (hU n) (fZ a b) (.k i)=some i:=λi=>rfl;have f3:fits 39373=true:=fits_of (by omega) (by omega);have f4:fits 32=true:=fits_of (by omega) (by omega);exact⟨e0,gG e0 en (tj hn),gG e0 en (NZ hn hf),gG (gG (gG eb (ek _) (Fa fb f3)) (ek _) N0) (ek _) (tj (by omega)),gG (gG (gG (gG eb eb (Fa fb fb)) (ek _) (tj (by omega))) (ek _) (NZ (by omega) f4)) en (tj hn)⟩
theorem uK(kn:env.kindOf "many"=some .local)(hm:m "many"=some (.int n tm)):E9 env m (hU n):=by
 intro x i e;unfold hU at e;split at e
 ·rename_i h;subst h;cases au e;exact⟨kn,tm,hm⟩
 ·exact aF e
theorem uL{h:Heap}(kr:env.kindOf "reel"=some .local)(hr:m "reel"=some (.ref ra))(I:h.IsList ra [Value.int a t,.int b u].toArray):v8 env m h (fZ a b):=by
 intro x j i e;unfold fZ at e;split at e
 ·rename_i h;subst h;split at e
  ·rename_i h;subst h;cases au e;exact⟨kr,by omega,ra,_,t,hr,I,rfl⟩
  ·split at e
   ·rename_i h;subst h;cases au e;exact⟨kr,by omega,ra,_,u,hr,I,rfl⟩
   ·exact aF e
 ·exact aF e
theorem nO{h:Heap}{vs:Array Value}(I:h.IsList ra vs){o:Obj}(e:h.get? ra=some o):(∀ws,o.data≠.fields ws)∧o.cls=.type "list":=by
 refine qD I λo' e' hc n hd=>?_;cases aD e e';exact⟨λws q=>(by rw[hd]at q;cases q),hc⟩
theorem Jj(HM:az c)(H9:av c)(H:aq c A env s₀ s m)(h0:s₀.heap.get? ra=none)(hL:ra≠env.locals){vs:Array Value}(I:s.heap.IsList ra vs){k:Nat}{tk:Tok}{v:Value}{Q:Unit→Shared→Prop}(hk:k<vs.size)(AJ:k<2^62)
  (hq:∀s',aq c A env s₀ s' m→s'.heap.IsList ra (vs.setIfInBounds k v)→Q () s'):wpAny c.M A (setItem (.ref ra) (.int k tk) v) Q E s:=by
 refine wpAny_setItem_list I (kQ _) (by omega) (by omega) λh' I' hs=>hq _ (H.but (X:=λy=>y=ra) (tk:=s.toks) HM H9 (λy q=>by rw[q];exact h0) (λq=>hL q.symm) (λy o q e=>(hs.2 y q).trans e) λy o q e=>?_) (by simpa using I');rw[q]at e;exact(nO I e).1
end
section
variable{c:Cx}{P:Params}{A:Around}{s:Shared}
theorem ZW(S:aN c P)(HM:az c)(H9:av c)(HD:cD c){ra:Addr}{n:Int}{tm:Tok}{R:Result→Shared→Prop}(g:c.G s.heap)(fr:bI c A s.heap)(rm:aP A 4)(a7:¬c.aT ra)(I:bX s.heap ra)(hn:0<n)(hf:fits n=true)
  (hq:∀i t s',Nl c ra s s'→0≤i→i<n→bX s'.heap ra→R (.ok (.ret (.int i t))) s'):codeAny c.M A (.call (.ref 580) ⟨[.ref ra,.int n tm],[]⟩) R s:=by
 refine xG I λa b t u I b0 b1=>?_;refine ah (cI (L7 P)) λo F bF=>?_;have X:=wdF P;have Y:=ZU P;generalize Gy=x at X Y;refine ah (id I) λoR eR z=>?_;have g0:=qK (d:=ra) HM g a7 (λo e=>(nO I e).1);refine call_plain HM.push H9 (eI S) S.st F bF (s₀:=less s ra) g0 (j3 g) (qC fr λo e=>by rw[(nO I e).2];intro q;exact absurd (iv q) (by decide)) (by have:=rm.1;omega) (l:=[]) rfl (ZV P (.ref ra) (.int n tm))
  (λy hy=>bQ (L8 P) (oU (i:=2) (fP (a:=y.1) (b:=y.2) hy).1)) λenv s1 ay hL k1 n1 H1=>?_
 have kd:∀y,y∈(["reel","many","found"]:List Str)→env.kindOf y=some .local:=λy hy=>by show env.scope.names.lookup y=_;rw[ay];exact bQ (L8 P) hy
 have kr:=kd "reel" (al 0);have km:=kd "many" (al 1);have kf:=kd "found" (al 2);have hr:=bR (k:=env.kindOf) (ps:=["reel","many"]) (us:=[.ref ra,.int n tm]) (i:=0) (x:="reel") (aR (by kernel_rfl)) rfl rfl kr;have hm:=bR (k:=env.kindOf) (ps:=["reel","many"]) (us:=[.ref ra,.int n tm]) (i:=1) (x:="many") (aR (by kernel_rfl)) rfl rfl km;generalize bindL env.kindOf _ _=m at H1 hr hm;have I1:=fA n1.keep I;have lj:(less s ra).heap.get? ra=none:=Heap.hide_self _ _;have wW:ra≠env.locals:=by rw[hL];exact fresh_ne eR
 refine oX (KG (a:=a) hn hf b0 b1) λv0 v1 v2 v3 v4=>?_;refine bC X.t λt0 p p' et ht0=>?_;have wX:aP (A.deeper env) 0:=⟨by rw[depth_deeper];have:=rm.1;omega,by rw[units_deeper];have:=rm.2.1;omega,rm.2.2⟩;rw[Y];unfold KD;rw[et];refine aI (eZ (rh (aL (qL HM (uK km hm) ht0 v0 H1 (uL kr hr I1)) (λw s2 ⟨⟨tw,ew⟩,n2⟩=>?_) λz z q=>q)));subst ew;refine iu ?_;have bx:=Nx.tok n2.g (s2.toks+1);refine lz (qJ HD) (qm HD) (a:=.int a) (b:=.int 0) (r:=eO 0 a) rfl (.int a tw) (.int 0 _) bx.g wX λs3 n3=>?_;have wY:=(n2.trans bx).trans n3;have H3:=H1.on wY;have I3:=fA wY.keep I1;refine ir ?_;cases dc:eO 0 a with
 |true=>
  rw[if_pos rfl];refine aI (gQ (aL (qL HM (uK km hm) X.e1 v1 H3 (uL kr hr I3)) (λw s4 ⟨⟨tV,ew⟩,n4⟩=>?_) λz z q=>q) (BM X.e1));subst ew;have I4:=fA n4.keep I3;refine(H3.on n4).store HM H9 kf λs5 H5 ⟨tk5,h5,e5,wZ⟩=>?_;have I5:s5.heap.IsList ra [Value.int a t,.int b u].toArray:=by
   refine ah I4 λo e r=>?_;subst e5;exact⟨o,(wZ.2 _ wW).trans e,r⟩
  have GA:upd m "found" (.int (a.fmod n) tV) "reel"=some (.ref ra):=(bD (by decide)).trans hr;have Pe:upd m "found" (.int (a.fmod n) tV) "many"=some (.int n tm):=(bD (by decide)).trans hm;have Pf:upd m "found" (.int (a.fmod n) tV) "found"=some (.int (a.fmod n) tV):=cT rfl;have GB:aq c (A.deeper env) env (less s ra) s5 (upd m "found" (.int (a.fmod n) tV)):=H5;clear H5;generalize upd m "found" (.int (a.fmod n) tV)=m5 at GB GA Pe Pf;refine aI (rk (aL (qL HM (uK km Pe) X.e2 v2 GB (uL kr GA I5)) (λw s6 ⟨⟨A2,ew⟩,n6⟩=>?_) λz z q=>q) (BM X.e2));subst ew;have H6:=GB.on n6;refine H6.load kr GA rfl (iu ?_);have n7:=Nx.tok H6.nx.g (s6.toks+1);refine Jj (k:=0) HM H9 (H6.on n7) lj wW (fA n7.keep (fA n6.keep I5)) (by simp) (by omega) λs8 H8 I8=>?_;refine aI (fE (H8.load kf Pf rfl ?_));exact hq _ _ _ H8.nx (uP _ hn) (Int.fmod_lt_of_pos _ hn) ⟨a.fdiv n,b,A2,u,by simpa using I8,b0,b1⟩
 |false=>
  rw[if_neg (by decide)];refine cz ?_;refine aI (rk (aL (qL HM (uK km hm) X.e3 v3 H3 (uL kr hr I3)) (λw s6 ⟨⟨A2,ew⟩,n6⟩=>?_) λz z q=>q) (BM X.e3));subst ew;have H6:=H3.on n6;refine H6.load kr hr rfl (iu ?_);have n7:=Nx.tok H6.nx.g (s6.toks+1);refine Jj (k:=1) HM H9 (H6.on n7) lj wW (fA n7.keep (fA n6.keep I3)) (by simp) (by omega) λs8 H8 I8=>?_;have Pg:s8.heap.IsList ra [Value.int a t,.int ((b*39373+7).fmod 2147483647) A2].toArray:=by simpa using I8
  have c0:0≤(b*39373+7).fmod 2147483647:=uP _ (by omega);have c1:(b*39373+7).fmod 2147483647<2147483647:=Int.fmod_lt_of_pos _ (by omega);refine oX (KG (a:=a) hn hf c0 c1) λz z z z z4=>?_;refine aI (fE (aL (qL HM (uK km hm) X.e4 z4 H8 (uL kr hr Pg)) (λw s9 ⟨⟨tw9,ew⟩,n9⟩=>?_) λz z q=>q));subst ew;exact hq _ _ _ (H8.on n9).nx (uP _ hn) (Int.fmod_lt_of_pos _ hn) ⟨a,_,t,A2,fA n9.keep Pg,c0,c1⟩
end
noncomputable def isInt(d:D):Bool:=by cases d with|int _=>exact true|_=>exact false
noncomputable def two(ds:List D):Bool:=kS (λa b=>isInt a&&isInt b) ds
noncomputable def dK(d:D):Bool:=@D.rec (λw=>Bool) (λw=>Bool) true (λw=>true) (λw=>true) (λw=>true) (λw=>true) (λw b=>b) (λds b=>!two ds&&b) (λw=>true) true (λw w a b=>a&&b) d
section
variable{c:Cx}{s s':Shared}{ra:Addr}
theorem KH{h:Heap}{a:Addr}{t:String}{vs:List Value}(I:bX h ra)(x:aQ h a t vs)(hn:t="list"→∀(i j:Int) (u v:Tok),vs≠[.int i u,.int j v]):a≠ra:=by
 rintro rfl
 refine jw I λi j u v ZX w=>?_;refine qD ZX λo e hc n hd=>?_;refine bW x λo' n' e' jP w a8=>?_;cases aD e e';rw[hc]at jP;have ht:=iv jP;refine hn ht.symm i j u v ?_;rw[hd]at a8;injection a8 with h1 _
 exact(bp Array.toList h1).symm
theorem aQ.hide{h:Heap}{a:Addr}{t:String}{vs:List Value}(ne:a≠ra)(x:aQ h a t vs):aQ (h.hide ra) a t vs:=aO x λo k e z=>⟨o,k,(dE _ ne).trans e,z⟩
theorem Vc{σ:Nat→Addr}{h:Heap}{ds:List D}{i j:Int}{u v:Tok}(T:ax σ h [.int i u,.int j v] ds):two ds=true:=by
 cases T with|cons r1 r=>cases r with|cons r2 r=>cases r;cases r1;cases r2;rfl
theorem Tells.Am(n:Nl c ra s s')(I:bX s.heap ra){v:Value}{d:D}(T:Tells c.σ s.heap v d):dK d=true→Tells c.σ s'.heap v d:=
 @Tells.rec c.σ s.heap (λv d w=>dK d=true→Tells c.σ s'.heap v d) (λv d w=>dK (.tuple d)=true→ax c.σ s'.heap v d) (λw=>.none) (λb w=>.bool b) (λi t w=>.int i t) (λx t w=>.str x t) (λb t w=>.bytes b t)
  (λx w i h=>.tuple (n.keep.seq _ _ _ (x.hide (KH I x λq=>absurd q (by decide)))) (i h))
  (λx r i h=>.list (n.keep.seq _ _ _ (x.hide (KH I x λw i j u v q=>by subst q;have:=a1 h;rw[Vc r]at this;exact Bool.noConfusion this))) (i (a2 h))) (λj w=>.obj j) (λw=>.nil) (λw w x y n=>.cons (x (a1 n)) (y (a2 n))) v d T
theorem ax.Am(n:Nl c ra s s')(I:bX s.heap ra){ds:List D}:∀{vs:List Value},ax c.σ s.heap vs ds→dK (.tuple ds)=true→ax c.σ s'.heap vs ds:=by
 induction ds with
 |nil=>exact λT w=>kE T .nil
 |cons d ds ih=>exact λT h=>fN T λv vs x r=>.cons (x.Am n I (a1 h)) (ih r (a2 h))
end
structure N5 where
 q:Nat→Pos
def JV(x:N5):List Stmt:=[.Return (some (.Subscript (.Name "some" (x.q 0)) (.Call (.Name "_law_wound" (x.q 1)) [.Name "reel" (x.q 2),.Call (.Name "len" (x.q 6)) [.Name "some" (x.q 7)] [] (x.q 8)] [] (x.q 3)) (x.q 4))) (x.q 5)]
noncomputable def aen:List Pos:=[aa 535 11 15,aa 535 16 26,aa 535 27 31,aa 535 16 43,aa 535 11 44,aa 535 4 44,aa 535 33 36,aa 535 37 41,aa 535 33 42]
noncomputable def N6:N5:=⟨λi=>aen.getD i (aa 0 0 0)⟩
theorem Mb(P:Params):dY P 587=true:=by kernel_rfl
theorem ZY(P:Params):bodyOf (ai P 587)=JV N6:=by kernel_rfl
theorem ZZ(P:Params)(r n:Value)(Z:Setting):peek (aC P []) Z (bindArgs (ai P 587) ⟨[r,n],[]⟩)=some ((["reel","some"]:List Str).zip [r,n]):=by kernel_rfl
theorem Mc(P:Params):fj P 587 ["reel","some"]=true:=by kernel_rfl
theorem Md(P:Params):(ai P 587).scope.names.lookup ("_law_wound":Str)=some .globalImplicit∧(ai P 587).scope.names.lookup ("len":Str)=some .globalImplicit:=⟨by kernel_rfl,by kernel_rfl⟩
theorem WL(P:Params):bT P mainGlobals "_law_wound"=some (.ref 580):=by kernel_rfl
theorem bX.keep{h h':Heap}{ra:Addr}(k:aE h h'):bX h ra→bX h' ra:=fun⟨a,b,t,u,I,r⟩=>⟨a,b,t,u,fA k I,r⟩
section
variable{c:Cx}{P:Params}{A:Around}{s:Shared}
theorem KI(HB:fO c){env:Env}{s₀:Shared}{m:Str→Option Value}{E:Value→Shared→Prop}{Q:Value→Shared→Prop}(H:aq c A env s₀ s m){l:Addr}{vs:Array Value}{x:Str}{q0 q1 q2:Pos}(kl:env.kindOf "len"=some .globalImplicit)(kx:env.kindOf x=some .local)
  (mx:m x=some (.ref l))(hd:(x==("__debug__":Str))=false)(I:s.heap.IsList l vs)(aeo:(vs.size:Int)<2^63)(hq:∀t s',Nx c s s'→Q (.int vs.size t) s'):
  wpAny c.M A (eval (.Call (.Name "len" q0) [.Name x q1] [] q2) env) Q E s:=by
 have e0:eval (.Call (.Name "len" q0) [.Name x q1] [] q2) env=(eval (.Name "len" q0) env>>=λfv=>callWith q2 fv [] (backTo q2 [(false,eval (.Name x q1) env)]) []):=rfl;rw[e0];refine cK (HB _ H.nx.g) λmg mb g1 g2 g3=>?_;refine am (λh1 h2=>?_) (g3 "len" (al 1));refine aj (oN H.kind kl (Calls.loadGlobal_builtin (by rw[H.bE];exact g1) h1 (by rw[H.blt];exact g2) (h2.trans CF) ?_) rfl);refine jF rfl (dj (aV (H.load kx mx hd (ce ?_))));exact Calls.call_len_list I aeo (hq _ _ (Nx.tok H.nx.g _))
theorem Vd(O:Ob c)(S:aN c P)(HM:az c)(H9:av c)(HD:cD c){ra:Addr}{v:Value}{ds:List D}{R:Result→Shared→Prop}(g:c.G s.heap)(fr:bI c A s.heap)(rm:aP A 8)(a7:¬c.aT ra)(I:bX s.heap ra)
  (T:Tells c.σ s.heap v (.list ds))(hr:dK (.list ds)=true)(hl:0<ds.length)(hz:ds.length≤1000)(hf:fits (ds.length:Int)=true)
  (hq:∀(i:Nat) d v' s',Nl c ra s s'→ds[i]?=some d→Tells c.σ s'.heap v' d→bX s'.heap ra→R (.ok (.ret v')) s'):codeAny c.M A (.call (.ref 587) ⟨[.ref ra,v],[]⟩) R s:=by
 refine ah (cI (Mb P)) λo F bF=>?_;refine xG (id I) λa b t u I0 b0 b1=>?_;have Y:=ZY P;generalize N6=x at Y;refine ah (id I0) λoR eR w=>?_;have g0:=qK (d:=ra) HM g a7 (λo e=>(nO I0 e).1);refine call_plain HM.push H9 (eI S) S.st F bF (s₀:=less s ra) g0 (j3 g) (qC fr λo e=>by rw[(nO I0 e).2];intro q;exact absurd (iv q) (by decide)) (by have:=rm.1;omega) (l:=[]) rfl (ZZ P (.ref ra) v)
  (λy hy=>bQ (Mc P) (fP (a:=y.1) (b:=y.2) hy).1) λenv s1 ay hL k1 n1 H1=>?_
 have kd:∀y,y∈(["reel","some"]:List Str)→env.kindOf y=some .local:=λy hy=>by show env.scope.names.lookup y=_;rw[ay];exact bQ (Mc P) hy
 have kr:=kd "reel" (al 0);have ks:=kd "some" (al 1);have kg:env.kindOf "_law_wound"=some .globalImplicit:=by show env.scope.names.lookup _=_;rw[ay];exact(Md P).1
 have kl:env.kindOf "len"=some .globalImplicit:=by show env.scope.names.lookup _=_;rw[ay];exact(Md P).2
 have Ph:=bR (k:=env.kindOf) (ps:=["reel","some"]) (us:=[.ref ra,v]) (i:=0) (x:="reel") (aR (by kernel_rfl)) rfl rfl kr;have fW:=bR (k:=env.kindOf) (ps:=["reel","some"]) (us:=[.ref ra,v]) (i:=1) (x:="some") (aR (by kernel_rfl)) rfl rfl ks;generalize bindL env.kindOf _ _=m at H1 Ph fW;have I1:bX s1.heap ra:=I.keep n1.keep;have T1:Tells c.σ s1.heap v (.list ds):=T.keep n1.keep;have lj:(less s ra).heap.get? ra=none:=Heap.hide_self _ _;have wW:ra≠env.locals:=by rw[hL];exact fresh_ne eR
 have dC:aP (A.deeper env) 4:=⟨by rw[depth_deeper];have:=rm.1;omega,by rw[units_deeper];have:=rm.2.1;omega,rm.2.2⟩;rw[Y];unfold JV;refine aI (fE (Subscript_ (H1.load ks fW rfl ?_)));have e1:eval (.Call (.Name "_law_wound" (x.q 1)) [.Name "reel" (x.q 2),.Call (.Name "len" (x.q 6)) [.Name "some" (x.q 7)] [] (x.q 8)] [] (x.q 3)) env=(eval (.Name "_law_wound" (x.q 1)) env>>=λfv=>callWith (x.q 3) fv [] (backTo (x.q 3) [(false,eval (.Name "reel" (x.q 2)) env),(false,eval (.Call (.Name "len" (x.q 6)) [.Name "some" (x.q 7)] [] (x.q 8)) env)]) []):=rfl;rw[e1];refine ah (cI (L7 P)) λof F2 jl=>?_;refine aj (H1.glob kg rfl (de (S.st _ H1.nx.g) (n3 P)) (WL P) ?_);refine gm (o:=of) (fd:=ai P 580) (dj (aV (H1.load kr Ph rfl ?_)));obtain⟨l,A3,rfl,Pj⟩:∃l A3,v=.ref l∧(aQ s1.heap l "list" A3∧ax c.σ s1.heap A3 ds):=by cases T1 with|list x r=>exact⟨_,_,rfl,x,r⟩
 have tQ:=Pj.2.length;refine aV (KI (oH S) H1 kl ks fW rfl Pj.1.list (by simp;omega) λtl s2 n2=>?_);have en:((A3.toArray.size:Nat):Int)=ds.length:=by simp[tQ]
 rw[en];have H2:=H1.on n2;refine ce (show(_∧_)∧_ from⟨⟨(S.st _ H2.nx.g).ok _ _ F2.at_ jl,F2.data⟩,dq ?_⟩);have pr:¬c.aT ra:=λz=>by refine ak (H9 _ _ H1.bj z) λo e=>?_;exact bg lj e
 refine ZW S HM H9 HD H2.nx.g (H2.fr H9) dC pr ?_ (by omega) hf λi t s3 bx i0 i1 I3=>?_
 ·exact I1.keep n2.keep
 have H3:=H2.nl bx lj wW;have T3:=Tells.Am bx (I1.keep n2.keep) (T1.keep n2.keep) hr;cases T3 with
 |list x r=>
  rename_i sa vs;obtain⟨j,rfl⟩:∃j:Nat,i=j:=⟨i.toNat,by omega⟩;have hj:j<ds.length:=by omega
  refine ah (r.get (jA hj)) λv' wj T'=>?_;refine tail_any (Heap.IsList.typeIs x.list) slot_list_getitem.lookup (wpAny_getItem_list (x:=v') x.list (kQ _) (by omega) (by simpa using wj) ?_) (oj _ _ _).choose_spec;exact hq j _ v' s3 H3.nx (jA hj) T' I3
end
structure GC where
 mx:Expr
 a:Expr
 b:Expr
 q:Nat→Pos
def KJ(x:GC):List Stmt:=[
 .Assign [.Name "told" (x.q 0)] (.IfExp (.Compare (.Call (.Name "len" (x.q 1)) [.Name "script" (x.q 2)] [] (x.q 3)) [.Gt] [.Constant (.int 0) 0 (x.q 4)] (x.q 5)) (.Subscript (.Name "script" (x.q 6)) (.Constant (.int 0) 0 (x.q 7)) (x.q 8)) (.Constant (.int 0) 0 (x.q 9)) (x.q 10)) (x.q 11),
 .Assign [.Name "size" (x.q 12)] x.mx (x.q 13),
 .Return (some (.List [x.a,x.b] (x.q 14))) (x.q 15)]
noncomputable def reQ:List Pos:=[aa 524 4 8,aa 524 24 27,aa 524 28 34,aa 524 24 35,aa 524 38 39,aa 524 24 39,aa 524 11 17,aa 524 18 19,aa 524 11 20,aa 524 45 46,aa 524 11 46,aa 524 4 46,aa 525 4 8,aa 525 4 31,aa 526 11 91,aa 526 4 91]
noncomputable def GD:GC:=⟨(.Call (.Name "max" (aa 525 11 14)) [(.Name "told" (aa 525 15 19)),(.BinOp (.UnaryOp .USub (.Constant (.int 1) 0 (aa 525 22 23)) (aa 525 21 23)) .Sub (.Name "told" (aa 525 26 30)) (aa 525 21 30))] [] (aa 525 11 31)),
 (.IfExp (.Compare (.Name "size" (aa 526 20 24)) [.GtE] [(.BinOp (.Constant (.int 10) 0 (aa 526 28 30)) .Pow (.Constant (.int 18) 0 (aa 526 34 36)) (aa 526 28 36))] (aa 526 20 36)) (.Name "size" (aa 526 12 16)) (.Constant (.int 0) 0 (aa 526 42 43)) (aa 526 12 43)),
 (.BinOp (.BinOp (.BinOp (.BinOp (.Name "size" (aa 526 46 50)) .Mod (.Constant (.int 2147483629) 0 (aa 526 53 63)) (aa 526 46 63)) .Add (.Constant (.int 17) 0 (aa 526 66 68)) (aa 526 46 68)) .Mult (.Constant (.int 48271) 0 (aa 526 72 77)) (aa 526 45 77)) .Mod (.Constant (.int 2147483647) 0 (aa 526 80 90)) (aa 526 45 90)),λi=>reQ.getD i (aa 0 0 0)⟩
theorem Me(P:Params):dY P 573=true:=by kernel_rfl
theorem Z0(P:Params):bodyOf (ai P 573)=KJ GD:=by kernel_rfl
theorem Z1(P:Params)(r:Value)(Z:Setting):peek (aC P []) Z (bindArgs (ai P 573) ⟨[r],[]⟩)=some ((["script"]:List Str).zip [r]):=by kernel_rfl
theorem Mf(P:Params):fj P 573 ["script","told","size"]=true:=by kernel_rfl
theorem Mg(P:Params):(ai P 573).scope.names.lookup ("len":Str)=some .globalImplicit∧(ai P 573).scope.names.lookup ("self":Str)=none:=⟨by kernel_rfl,by kernel_rfl⟩
noncomputable def Pk:E:=.b2 1 (.var 1) (.bin .Sub (.neg (.lit (.int 1))) (.var 1))
noncomputable def eA:E:=.ite (.cmp .GtE (.var 2) (.bin .Pow (.lit (.int 10)) (.lit (.int 18)))) (.var 2) (.lit (.int 0))
noncomputable def iB:IE:=.bin .Mod (.bin .Mult (.bin .Add (.bin .Mod (.nm "size") (.k 2147483629)) (.k 17)) (.k 48271)) (.k 2147483647)
noncomputable def Fb:List (Option Str):=[none,some "told",some "size"]
structure ReF(P:Params)(x:GC):Prop where
 mx:mE aH (ai P 573).scope Fb Pk x.mx=true
 a:mE aH (ai P 573).scope Fb eA x.a=true
 b:mI iB x.b=true
 sw:∀(t:Option Expr) (line:Nat) (env:Env),swapsWith x.mx t line env=pure false
 st:∀env,starEach [x.a,x.b] env=[(false,eval x.a env),(false,eval x.b env)]
theorem reF(P:Params):ReF P GD:=⟨by kernel_rfl,by kernel_rfl,by kernel_rfl,λu u u=>rfl,λu=>rfl⟩
theorem Z2(P:bJ)(i:Int):(rec P 6).ev [none,some (.int i),none] Pk=.ok (.int (ap (eO i (Int.sub (Int.neg 1) i)) (Int.sub (Int.neg 1) i) i)):=by kernel_rfl
theorem Z3(P:bJ)(o:Option D)(r:Int):(rec P 6).ev [none,o,some (.int r)] eA=(rec P 5).ev [none,o,some (.int r)] (ap (ap (eO r (.ofNat (Nat.pow 10 18))) false true) (.var 2) (.lit (.int 0))):=by kernel_rfl
theorem aep(P:bJ)(o:Option D)(r:Int):∃z,(rec P 6).ev [none,o,some (.int r)] eA=.ok (.int z):=by
 rw[Z3];cases eO r (.ofNat (Nat.pow 10 18))with
 |true=>exact⟨0,by kernel_rfl⟩
 |false=>exact⟨r,by kernel_rfl⟩
noncomputable def qd(n:Int)(x:Str):Option Int:=if x="size" then some n else none
theorem WM(n:Int):∃z,vI (qd n) (λu u=>none) iB=some z∧0≤z∧z<2147483647:=by
 have en:vI (qd n) (λu u=>none) (.nm "size")=some n:=by show qd n "size"=_;unfold qd;rw[if_pos rfl]
 have ek:∀i,vI (qd n) (λu u=>none) (.k i)=some i:=λi=>rfl;have h0:=uP n (b:=2147483629) (by omega);have h1:=Int.fmod_lt_of_pos n (b:=2147483629) (by omega);have f1:fits (n.fmod 2147483629+17)=true:=fits_of (by omega) (by omega);have f2:fits 48271=true:=fits_of (by omega) (by omega);exact⟨_,gG (gG (gG (gG en (ek _) (tj (by omega))) (ek _) N0) (ek _) (Fa f1 f2)) (ek _) (tj (by omega)),uP _ (by omega),Int.fmod_lt_of_pos _ (by omega)⟩
section
variable{c:Cx}{P:Params}{A:Around}{s:Shared}
theorem TN(O:Ob c)(S:aN c P)(HM:az c)(H9:av c)(HD:cD c){l:Addr}{vs:List Value}{R:Result→Shared→Prop}(g:c.G s.heap)(fr:bI c A s.heap)(rm:aP A 10)(I:s.heap.IsList l vs.toArray)(hi:∀v∈vs,∃i t,v=.int i t)(hlen:vs.length≤1000)
  (hq:∀ra s',Nx c s s'→s.heap.get? ra=none→bX s'.heap ra→R (.ok (.ret (.ref ra))) s'):codeAny c.M A (.call (.ref 573) ⟨[.ref l],[]⟩) R s:=by
 refine ah (cI (Me P)) λo F bF=>?_;have Y:=Z0 P;have X:=reF P;generalize GD=x at X Y;refine call_plain HM.push H9 (eI S) S.st F bF (s₀:=s) g (Nx.refl g) fr (by have:=rm.1;omega) (l:=[]) rfl (Z1 P (.ref l))
  (λy hy=>bQ (Mf P) (oU (i:=1) (fP (a:=y.1) (b:=y.2) hy).1)) λenv s1 ay hL k1 n1 H1=>?_
 have kd:∀y,y∈(["script","told","size"]:List Str)→env.kindOf y=some .local:=λy hy=>by show env.scope.names.lookup y=_;rw[ay];exact bQ (Mf P) hy
 have ks:=kd "script" (al 0);have kt:=kd "told" (al 1);have kz:=kd "size" (al 2);have kl:env.kindOf "len"=some .globalImplicit:=by show env.scope.names.lookup _=_;rw[ay];exact(Mg P).1
 have dZ:env.kindOf "self"≠some .cell:=by show env.scope.names.lookup _≠_;rw[ay,(Mg P).2];intro q;exact aF q
 have hs:=bR (k:=env.kindOf) (ps:=["script"]) (us:=[.ref l]) (i:=0) (x:="script") (aR (by kernel_rfl)) rfl rfl ks;generalize bindL env.kindOf _ _=m at H1 hs;have I1:=fA n1.keep I;have dC:aP (A.deeper env) 6:=⟨by rw[depth_deeper];have:=rm.1;omega,by rw[units_deeper];have:=rm.2.1;omega,rm.2.2⟩;have wX:aP (A.deeper env) 0:=⟨by have:=dC.1;omega,by have:=dC.2.1;omega,dC.2.2⟩;rw[Y];unfold KJ;have tail:∀(i:Int) (t:Tok) s2,aq c (A.deeper env) env s s2 (upd m "told" (.int i t))→wpAny c.M (A.deeper env) (execs [.Assign [.Name "size" (x.q 12)] x.mx (x.q 13),.Return (some (.List [x.a,x.b] (x.q 14))) (x.q 15)] env) (λfl s'=>R (.ok (.ret (match fl with|.ret v=>v|_=>.none))) s') (λu u=>False) s2:=by
  intro i t s2 H2;have GF:upd m "told" (.int i t) "told"=some (.int i t):=cT rfl;generalize upd m "told" (.int i t)=m2 at H2 GF;have fQ:∀(i:Nat) (y:Str),Fb[i]?=some (some y)→env.kindOf y=some .local:=by
   intro i y hi
   match i,hi with
   |1,hi=>cases hi;exact kt
   |2,hi=>cases hi;exact kz
  refine aI (gQ (cG O (n:=6) (ρ:=[none,some (.int i),none]) (H2.st H9 dZ fQ ?_ dC) (by rw[S.nm,ay];exact X.mx) (Z2 _ i) λv s3 T3 bx=>?_) (X.sw _ _ _))
  ·intro j y d hj hd
   match j,hj with
   |1,hj=>cases hj;cases hd;exact⟨_,GF,.int i t⟩
   |2,hj=>cases hd
  generalize ap (eO i (Int.sub (Int.neg 1) i)) (Int.sub (Int.neg 1) i) i=r at T3;obtain⟨tr,rfl⟩:∃tr,v=.int r tr:=by cases T3;exact⟨_,rfl⟩
  refine(H2.on bx).store HM H9 kz λs4 H4 u=>?_;have GG:aq c (A.deeper env) env s s4 (upd m2 "size" (.int r tr)):=H4;have GH:upd m2 "size" (.int r tr) "size"=some (.int r tr):=cT rfl;have Pl:upd m2 "size" (.int r tr) "told"=some (.int i t):=(bD (by decide)).trans GF;clear H4;generalize upd m2 "size" (.int r tr)=m4 at GG GH Pl;refine ak (aep c.P (some (.int i)) r) λz hz=>?_;refine bS (WM r) λy hy y0 y1=>?_;refine aI (fE (wpAny_List ?_));rw[X.st];refine aV (cG O (n:=6) (ρ:=[none,some (.int i),some (.int r)]) (GG.st H9 dZ fQ ?_ dC) (by rw[S.nm,ay];exact X.a) hz λv s5 T5 n5=>?_)
  ·intro j y d hj hd
   match j,hj with
   |1,hj=>cases hj;cases hd;exact⟨_,Pl,.int i t⟩
   |2,hj=>cases hj;cases hd;exact⟨_,GH,.int r tr⟩
  obtain⟨tz,rfl⟩:∃tz,v=.int z tz:=by cases T5;exact⟨_,rfl⟩
  have H5:=GG.on n5;have Gz:E9 env m4 (qd r):=by
   intro x i e;unfold qd at e;split at e
   ·rename_i h;subst h;cases au e;exact⟨kz,tr,GH⟩
   ·exact aF e
  refine aV (aL (qL HM Gz X.b hy H5 (λx j i e=>by exact aF e)) (λw s6 ⟨⟨tw,ew⟩,n6⟩=>?_) λu u q=>q);subst ew;have H6:=H5.on n6;have n7:=Nx.push HM.push H6.nx.g {cls:=.type "list",data:=.seq [Value.int z tz,.int y tw].toArray} s6.toks;refine ce ⟨by rw[sizeLine_eq];exact aX,hq _ _ (H6.on n7).nx ?_ ⟨z,y,tz,tw,(aQ.push (c:="list")).list,y0,y1⟩⟩;cases e:s.heap.get? s6.heap.objs.size with
  |none=>rfl
  |some o=>refine ah (H6.nx.keep.2 _ _ e) λo' e' u=>?_;exact bg (cX (dp _)) e'
 refine aI (gQ (wpAny_IfExp (rh (KI (oH S) H1 kl ks hs rfl I1 (by simp;omega) λtl s2 n2=>?_))) rfl);refine iu ?_;have bx:=Nx.tok n2.g (s2.toks+1);refine lz (qJ HD) (qm HD) (a:=.int vs.toArray.size) (b:=.int 0) (r:=eO 0 vs.toArray.size) rfl (.int _ tl) (.int 0 _) bx.g wX λs3 n3=>?_;have wY:=(n2.trans bx).trans n3;have H3:=H1.on wY;have I3:=fA wY.keep I1;refine ir ?_;cases vs with
 |nil=>
  rw[show eO 0 ((([]:List Value).toArray.size:Nat):Int)=false from rfl,if_neg (by decide)];refine iu ?_;exact(H3.on (Nx.tok H3.nx.g _)).store HM H9 kt λs4 H4 u=>tail 0 _ s4 H4
 |cons v0 vs=>
  rw[show eO 0 (((v0::vs).toArray.size:Nat):Int)=true from by rw[j7];simp,if_pos rfl];refine eM (hi v0 dW) λi t Z4=>?_;subst Z4;refine Subscript_ (H3.load ks hs rfl (iu ?_));refine tail_any (s:={s3 with toks:=s3.toks+1}) (Heap.IsList.typeIs (s:={s3 with toks:=s3.toks+1}) I3) slot_list_getitem.lookup (wpAny_getItem_list (s:={s3 with toks:=s3.toks+1}) (x:=.int i t) I3 (by omega) (by omega) rfl ?_) (oj _ _ _).choose_spec;exact(H3.on (Nx.tok H3.nx.g _)).store HM H9 kt λs4 H4 u=>tail i t s4 H4
end
structure Pm where
 rest:List ExceptHandler
 q:Nat→Pos
def KL(x:Pm):List Stmt:=[
 .Try [.Return (some (.Call (.Name "call" (x.q 0)) [] [] (x.q 1))) (x.q 2)]
  (.ExceptHandler (some (.Name "ConstFault" (x.q 3))) (some "fault") [.Return (some (.Tuple [.Constant (.str "const fault") 0 (x.q 4),.Attribute (.Name "fault" (x.q 5)) "spot" (x.q 6)] 0 (x.q 7))) (x.q 8)] (x.q 9)::x.rest) [] [] (x.q 10)]
noncomputable def trQ:List Pos:=[aa 538 15 19,aa 538 15 21,aa 538 8 21,aa 539 11 21,aa 540 16 29,aa 540 31 36,aa 540 31 41,aa 540 15 42,aa 540 8 42,⟨539,4,540,42⟩,⟨537,4,542,41⟩]
noncomputable def Pn:Pm:=⟨[.ExceptHandler (some (.Name "TypeFault" (aa 541 11 20))) (some "fault") [.Return (some (.Tuple [.Constant (.str "type fault") 0 (aa 542 16 28),.Attribute (.Name "fault" (aa 542 30 35)) "spot" (aa 542 30 40)] 0 (aa 542 15 41))) (aa 542 8 41)] ⟨541,4,542,41⟩],λi=>trQ.getD i (aa 0 0 0)⟩
theorem Mh(P:Params):dY P 594=true:=by kernel_rfl
theorem Z5(P:Params):bodyOf (ai P 594)=KL Pn:=by kernel_rfl
theorem Z6(P:Params)(r:Value)(Z:Setting):peek (aC P []) Z (bindArgs (ai P 594) ⟨[r],[]⟩)=some ((["call"]:List Str).zip [r]):=by kernel_rfl
theorem Mi(P:Params):fj P 594 ["call","fault"]=true:=by kernel_rfl
theorem Z7(P:Params):(ai P 594).scope.names.lookup ("ConstFault":Str)=some .globalImplicit:=by kernel_rfl
noncomputable def qM(o:Out D):Option D:=by cases o with|ok d=>exact some d|exc d=>exact some (.tuple [jx,d])|stuck=>exact none
theorem Z8:ao [99,111,110,115,116,32,102,97,117,108,116]="const fault":=by kernel_rfl
section
variable{c:Cx}{P:Params}{A:Around}{s:Shared}{C:Addr}
theorem Sq(O:Ob c)(S:aN c P)(HM:az c)(H9:av c)(FK:js c C)(FA:oq c C)(HN:lH c C)(HF:c.Flt=ej c.aT c.σ C){lam:Addr}{o:Out D}{R:Result→Shared→Prop}(g:c.G s.heap)(fr:bI c A s.heap)(rm:A.depth+2<recursionLimit)(hA:A.handled=none)
  (DL:∀s',Nx c s s'→∃ol pU,s'.heap.get? lam=some ol∧ol.data=.func pU)
  (Di:∀env s',bI c (A.deeper env) s'.heap→Nx c s s'→wpAny c.M (A.deeper env) (call (.ref lam) []) (VP c s' o) (EP c s' o) s')
  (hq:∀v d s',qM o=some d→Tells c.σ s'.heap v d→Nx c s s'→R (.ok (.ret v)) s'):codeAny c.M A (.call (.ref 594) ⟨[.ref lam],[]⟩) R s:=by
 refine ah (cI (Mh P)) λof F bF=>?_;have Y:=Z5 P;generalize Pn=x at Y;refine call_plain HM.push H9 (eI S) S.st F bF (s₀:=s) g (Nx.refl g) fr (by omega) (l:=[]) rfl (Z6 P (.ref lam))
  (λy hy=>bQ (Mi P) (oU (i:=1) (fP (a:=y.1) (b:=y.2) hy).1)) λenv s1 ay hL k1 n1 H1=>?_
 have kd:∀y,y∈(["call","fault"]:List Str)→env.kindOf y=some .local:=λy hy=>by show env.scope.names.lookup y=_;rw[ay];exact bQ (Mi P) hy
 have kc:=kd "call" (al 0);have kf:=kd "fault" (al 1);have kg:env.kindOf "ConstFault"=some .globalImplicit:=by show env.scope.names.lookup _=_;rw[ay];exact Z7 P
 have hs:=bR (k:=env.kindOf) (ps:=["call"]) (us:=[.ref lam]) (i:=0) (x:="call") (aR (by kernel_rfl)) rfl rfl kc;have N7:bindL env.kindOf ((["call"]:List Str).zip [.ref lam]) (λz=>none) "message"=none:=by
  show bindL env.kindOf [("call",.ref lam)] (λz=>none) "message"=none;unfold bindL bindL;rw[if_pos kc];exact bD (by decide)
 generalize bindL env.kindOf _ _=m at H1 hs N7;rw[Y];unfold KL;refine ah (id H1.out) λouter aeq FF=>?_;have HD:Hd c (A.deeper env) env env.locals s s1 m:=⟨H1.fr H9,⟨_,aeq⟩,H1.frame,rfl,H1.kind,H1.bE,H1.new,g,n1,H1.ns,N7,kg⟩;refine aI (IV λE' hE=>aI (fE ?_));have e0:eval (.Call (.Name "call" (x.q 0)) [] [] (x.q 1)) env=(eval (.Name "call" (x.q 0)) env>>=λfv=>callWith (x.q 1) fv [] (backTo (x.q 1) (starEach [] env)) []):=rfl;rw[e0];refine aj (HD.load kc hs rfl ?_);refine aO (DL _ n1) λol pU F6 tJ=>?_;refine gm (o:=ol) (fd:=pU) (evalArgs_kw_nil rfl (wpAny_evalAll_nil ⟨⟨F6,tJ⟩,?_⟩));refine aL (Di env s1 (H1.fr H9) n1) (λv s2 h=>bS h λd e1 t1 n2=>hq _ d _ (by rw[e1];rfl) t1 (n1.trans n2)) λxv s2 h=>bS h λd GI f1 n2=>?_;rw[HF]at f1;refine hE _ _ (Iw HM H9 FK HN (HD.on n2) kf (by decide) f1 λe s3 hx f3 H3=>?_);subst hx;have AE:(fun(y:Str)=>if y=("fault":Str)then some (Value.ref e)else m y) "fault"=some (.ref e):=cT rfl;generalize(fun(y:Str)=>if y=("fault":Str)then some (Value.ref e)else m y)=m3 at H3 AE;have H4:=H3.mark (some (Value.ref e));refine cK (id f3) λr tb ex B T=>?_;cases ex;refine aI (fE (wpAny_Tuple ?_));have e1:starEach [.Constant (.str "const fault") 0 (x.q 4),.Attribute (.Name "fault" (x.q 5)) "spot" (x.q 6)] env=[(false,eval (.Constant (.str "const fault") 0 (x.q 4)) env),(false,eval (.Attribute (.Name "fault" (x.q 5)) "spot" (x.q 6)) env)]:=rfl;rw[e1];refine aV (l0 (k:=0) (pos:=x.q 4) ?_);have n4:=Nx.tok H3.nx.g (s3.toks+1);have n5:=Nx.tok H3.nx.g (s3.toks+1+1);refine aV (Attribute_name ((H4.on n4).load kf AE rfl (IU FA n4.g (.inr rfl) B.he B.hc B.eQ B.hd B.n B.hs (Bp B.t) ?_)));have n6:=Nx.push HM.push (s:={s3 with toks:=s3.toks+1+1}) n5.g {cls:=.type "tuple",data:=.seq [Value.str "const fault" s3.toks,r.v].toArray} (s3.toks+1+1);refine ce ⟨by rw[sizeLine_eq];exact aX,?_⟩;have H6:=(H3.on n5).on n6;refine H6.unbind (HM.store H9) kf (by decide) λs7 n7 U=>?_;have T6:Tells c.σ (s3.heap.push {cls:=.type "tuple",data:=.seq [Value.str "const fault" s3.toks,r.v].toArray}) (.ref s3.heap.objs.size) (.tuple [jx,d]):=
  .tuple aQ.push (.cons (by rw[←Z8];exact .str _ _) (.cons ((B.t.keep n5.keep).keep n6.keep) .nil))
 exact hq _ _ _ (by rw[GI];rfl) (U.tells H6.ns T6) n7
end
structure Cl(env:Env)(s₀ s:Shared)(k:Str→Option Value):Prop where
 at_:∀x a,env.cells.lookup x=some a→s₀.heap.get? a=none∧s.heap.IsCell a (k x)∧a≠env.locals
 apart:∀x y a,env.cells.lookup x=some a→env.cells.lookup y=some a→x=y
section
variable{c:Cx}{A:Around}{env:Env}{s₀ s s':Shared}{m k:Str→Option Value}{E:Value→Shared→Prop}
theorem Cl.on(C:Cl env s₀ s k)(n:Nx c s s'):Cl env s₀ s' k:=⟨λx a e=>⟨(C.at_ x a e).1,n.keep.cell (C.at_ x a e).2.1,(C.at_ x a e).2.2⟩,C.apart⟩
theorem Cl.but(C:Cl env s₀ s k){b:Addr}(hs:∀a,a≠b→∀o,s.heap.get? a=some o→s'.heap.get? a=some o)(hb:∀x a,env.cells.lookup x=some a→a≠b):Cl env s₀ s' k:=
 ⟨λx a e=>⟨(C.at_ x a e).1,by refine ah ((C.at_ x a e).2.1) λo ho hd=>?_;exact⟨o,hs a (hb x a e) o ho,hd⟩,(C.at_ x a e).2.2⟩,C.apart⟩
theorem Cl.nl(C:Cl env s₀ s k){b:Addr}(n:Nl c b s s')(hb:∀x a,env.cells.lookup x=some a→a≠b):Cl env s₀ s' k:=
 ⟨λx a e=>⟨(C.at_ x a e).1,by refine ah ((C.at_ x a e).2.1) λo ho hd=>?_;exact n.keep.cell ⟨o,(dE _ (hb x a e)).trans ho,hd⟩,(C.at_ x a e).2.2⟩,C.apart⟩
theorem Cl.Z9(C:Cl env s₀ s k)(H:aq c A env s₀ s m){x:Str}{v:Value}{p:Pos}{Q:Value→Shared→Prop}(hl:env.kindOf x=some .cell)(hc:(env.cells.lookup x).isSome=true)(hv:k x=some v)(hd:(x==("__debug__":Str))=false)(h:Q v s):wpAny c.M A (eval (.Name x p) env) Q E s:=by
 refine ak (Option.isSome_iff_exists.mp hc) λa ha=>?_;have:=(C.at_ x a ha).2.1;rw[hv]at this;exact wpAny_Name (wpAny_loadName_cell H.kind hl ha this h) hd
theorem Cl.qN(C:Cl env s₀ s k)(HM:az c)(H9:av c)(H:aq c A env s₀ s m){x:Str}{v:Value}{Q:Unit→Shared→Prop}(hl:env.kindOf x=some .local)
  (hq:∀s',aq c A env s₀ s' (upd m x v)→Cl env s₀ s' k→(∃tk h',s'={s with heap:=h',toks:=tk}∧Heap.SameBut env.locals s.heap h')→Q () s'):wpAny c.M A (storeName env x v) Q E s:=
 H.store HM H9 hl λs' H' ⟨tk,h',e,hs⟩=>hq s' H' (C.but (b:=env.locals) (λa ha o ho=>by subst e;exact(hs.2 a ha).trans ho) λx a e=>(C.at_ x a e).2.2) ⟨tk,h',e,hs⟩
theorem Cl.xW(C:Cl env s₀ s k)(HM:az c)(H9:av c)(H:aq c A env s₀ s m){x:Str}{v:Value}{Q:Unit→Shared→Prop}(hl:env.kindOf x=some .cell)(hc:(env.cells.lookup x).isSome=true)
  (hq:∀s',aq c A env s₀ s' m→Cl env s₀ s' (upd k x v)→(∃a h',env.cells.lookup x=some a∧s'={s with heap:=h'}∧Heap.SameBut a s.heap h')→Q () s'):wpAny c.M A (storeName env x v) Q E s:=by
 refine ak (Option.isSome_iff_exists.mp hc) λa ha=>?_;refine bY (C.at_ x a ha) λz1 z2 z3=>?_;refine ah (id z2) λoc AF OJ=>?_;refine Bv H.kind hl ha z2 λh' jP c9 j=>?_;have H':=H.but (X:=λb=>b=a) (h':=h') (tk:=s.toks) HM H9 (λb q=>by rw[q];exact z1) (λq=>z3 q.symm) (λb o q e=>(c9.2 b q).trans e) λb o q e vs hv=>by rw[q]at e;cases aD AF e;rw[OJ]at hv;cases hv
 refine hq _ H' ⟨λy b e=>⟨(C.at_ y b e).1,?_,(C.at_ y b e).2.2⟩,C.apart⟩ ⟨a,h',ha,rfl,c9⟩;by_cases q:y=x
 ·subst q;cases aD ha e;show h'.IsCell a (if y=y then some v else k y);rw[if_pos rfl];exact jP
 ·show h'.IsCell b (if y=x then some v else k y);rw[if_neg q];exact(C.at_ y b e).2.1.sameBut c9 λz=>q (C.apart y x b e (z▸ha))
theorem Cl.st(C:Cl env s₀ s k)(H9:av c)(H:aq c A env s₀ s m){n:Nat}{vs:List (Option Str)}{ρ:List (Option D)}(oG:env.kindOf "self"≠some .cell)(fQ:∀(i:Nat) (x:Str),vs[i]?=some (some x)→env.kindOf x=some .local∨(env.kindOf x=some .cell∧(env.cells.lookup x).isSome=true))
  (hv:∀(i:Nat) (x:Str) (d:D),vs[i]?=some (some x)→cZ ρ i=some (some d)→∃v,((env.kindOf x=some .local∧m x=some v)∨(env.kindOf x=some .cell∧k x=some v))∧Tells c.σ s.heap v d)(r:aP A n):St c A n env.scope env s.heap vs ρ:=
 have aer:∀(i:Nat) (x:Str),vs[i]?=some (some x)→env.kindOf x=some .cell→(env.cells.lookup x).isSome=true:=λi x h1 h2=>by
  rcases fQ i x h1 with h|h
  ·rw[h]at h2;cases h2
  ·exact h.2
 ⟨H.nx.g,⟨rfl,H.kind,H.bE,H.blt,λz=>absurd z oG,aer,λi x d h1 h2=>by
  refine ah (hv i x d h1 h2) λv a b=>?_;refine⟨v,?_,b⟩;rcases a with⟨a1,a2⟩|⟨a1,a2⟩
  ·exact .inl ⟨a1,m,H.ns,a2⟩
  ·rcases fQ i x h1 with h|⟨_,h⟩
   ·rw[a1]at h;cases h
   ·refine ak (Option.isSome_iff_exists.mp h) λl hl=>?_;refine .inr ⟨l,.inl a1,hl,?_⟩;rw[←a2];exact(C.at_ x l hl).2.1⟩,r,H.fr H9⟩
end
theorem wa(P:Params):bT P mainGlobals "_law_one"=some (.ref 587)∧bT P mainGlobals "_law_reel"=some (.ref 573)∧bT P mainGlobals "_law_tried"=some (.ref 594)∧bT P mainGlobals "_law_reader"=some (.ref 615)∧bT P mainGlobals "_law_size_right"=some (.ref 697):=⟨by kernel_rfl,by kernel_rfl,by kernel_rfl,by kernel_rfl,by kernel_rfl⟩
section
variable{c:Cx}{P:Params}{A:Around}{env:Env}{s₀ s:Shared}{m k:Str→Option Value}{E₀:Value→Shared→Prop}
theorem Jk(O:Ob c)(S:aN c P)(HM:az c)(H9:av c)(HD:cD c)(H:aq c A env s₀ s m)(rm:aP A 12){ra:Addr}(hr:m "reel"=some (.ref ra))(kr:env.kindOf "reel"=some .local)(kg:env.kindOf "_law_one"=some .globalImplicit)(h0:s₀.heap.get? ra=none)
  (I:bX s.heap ra){n:Nat}{vs:List (Option Str)}{ρ:List (Option D)}{e:E}{p:Expr}{ds:List D}{q0 q1 q2:Pos}(F:St c A n env.scope env s.heap vs ρ)(hm:mE aH env.scope vs e p=true)(he:(rec c.P n).ev ρ e=.ok (.list ds))
  (a7:starEach [.Name "reel" q1,p] env=[(false,eval (.Name "reel" q1) env),(false,eval p env)])(hn:dK (.list ds)=true)(hl:0<ds.length)(hz:ds.length≤1000)(hf:fits (ds.length:Int)=true)
  {Q:Value→Shared→Prop}(hq:∀(i:Nat) d v s1 s2,Nx c s s1→Nl c ra s1 s2→bX s1.heap ra→ds[i]?=some d→Tells c.σ s2.heap v d→bX s2.heap ra→Q v s2):
  wpAny c.M A (eval (.Call (.Name "_law_one" q0) [.Name "reel" q1,p] [] q2) env) Q E₀ s:=by
 have e1:eval (.Call (.Name "_law_one" q0) [.Name "reel" q1,p] [] q2) env=(eval (.Name "_law_one" q0) env>>=λfv=>callWith q2 fv [] (backTo q2 (starEach [.Name "reel" q1,p] env)) []):=rfl;rw[e1,a7];refine ah (cI (Mb P)) λof F2 jl=>?_;refine aj (H.glob kg rfl (de (S.st _ H.nx.g) (n3 P)) (wa P).1 ?_);refine gm (o:=of) (fd:=ai P 587) (dj (aV (H.load kr hr rfl ?_)));refine aV (cG O F (by rw[S.nm];exact hm) he λv s1 T n1=>?_);have H1:=H.on n1;have I1:=I.keep n1.keep;refine ce (show(_∧_)∧_ from⟨⟨(S.st _ H1.nx.g).ok _ _ F2.at_ jl,F2.data⟩,dq ?_⟩);have pr:¬c.aT ra:=λz=>by refine ak (H9 _ _ H1.bj z) λo e=>?_;exact bg h0 e
 exact Vd O S HM H9 HD H1.nx.g (H1.fr H9) ⟨by have:=rm.1;omega,by have:=rm.2.1;omega,rm.2.2⟩ pr I1 T hn hl hz hf λi d v' s2 n2 hd T2 I2=>hq i d v' s1 s2 n1 n2 I1 hd T2 I2
end
section
variable{c:Cx}{P:Params}{A:Around}{env:Env}{s₀ s:Shared}{m k:Str→Option Value}{E₀:Value→Shared→Prop}
theorem Rz(O:Ob c)(S:aN c P)(HM:az c)(H9:av c)(HF:c.Flt=ej c.aT c.σ 76)(LM:lW c)(H:aq c A env s₀ s m)(kg:env.kindOf "_law_tried"=some .globalImplicit)(cq:c.cd env.code env.qual)
  {n:Nat}{vs:List (Option Str)}{ρ:List (Option D)}{e:E}{body:Expr}{sl:Scope}{o:Out D}{dr:D}{q0 q1 q2:Pos}(F:St c A n env.scope env s.heap vs ρ)(hn:6≤n)(hD:gJ noArgs sl=true)(jT:freeOk env.scope sl vs=true)(hm:mE aH sl (gK sl vs) e body=true)
  (he:(rec c.P (n-3)).ev ρ e=o)(hd:qM o=some dr){Q:Value→Shared→Prop}(hq:∀v s',Tells c.σ s'.heap v dr→Nx c s s'→Q v s'):
  wpAny c.M A (eval (.Call (.Name "_law_tried" q0) [.Lambda noArgs body sl q1] [] q2) env) Q E₀ s:=by
 have e1:eval (.Call (.Name "_law_tried" q0) [.Lambda noArgs body sl q1] [] q2) env=(eval (.Name "_law_tried" q0) env>>=λfv=>callWith q2 fv [] (backTo q2 [(false,eval (.Lambda noArgs body sl q1) env)]) []):=rfl;rw[e1];refine ah (cI (Mh P)) λof F2 jl=>?_;refine aj (H.glob kg rfl (de (S.st _ H.nx.g) (n3 P)) (wa P).2.2.1 ?_);refine gm (o:=of) (fd:=ai P 594) (dj (aV (LM A s env body sl q1 _ _ H.nx.g H.bE cq (BA F.f jT) λlam cv pm ct s1 n1 ck hl=>?_)));have H1:=H.on n1;have F1:=F.nx n1;refine ce (show(_∧_)∧_ from⟨⟨(S.st _ H1.nx.g).ok _ _ F2.at_ jl,F2.data⟩,dq ?_⟩);have bk:(rec c.P (n-3)).ev ρ e≠.stuck:=by rw[he];rintro rfl;cases hd
 have Mj:∀s',Nx c s1 s'→s'.heap.get? lam=some {cls:=.type "function",data:=.func (kla_fn "<lambda>" (env.qual++"<lambda>") noArgs body sl (eH env sl.names []) pm cv ct)}:=λs' n'=>by
  refine eV (n'.keep.2 _ _ hl) λo' e' c' d' f' j s'=>?_;have h1:=f' (λvs q=>by cases q);have h2:=s' (λz=>by have:=iv z;exact absurd this (by decide));obtain⟨a1,a2,a3,a4⟩:=o';dsimp only at c' d' h1 h2;subst c' d' h1 h2;exact e'
 refine Sq (o:=o) O S HM H9 (CL S) (Kt S) (Co S) HF H1.nx.g (H1.fr H9) (by have:=F.r.1;omega) F.r.2.2 (λs' n'=>⟨_,_,Mj s' n',rfl⟩) (λfi s' F9 n'=>?_) λv d s' a8 T n'=>?_
 ·subst he;exact IW (A:=A.deeper fi) (sc:=env.scope) O.push H9 O.lim O.leave (ww O _).e hD jT (by rw[S.nm];exact hm) (F1.nx n').f n'.g F9 (by rw[depth_deeper];have:=F.r.1;omega) (by rw[units_deeper];have:=F.r.2.1;omega) F.r.2.2 (Mj s' n') (ck.uC n'.keep.codes) bk
 ·cases aD hd a8;exact hq v s' T (n1.trans n')
end
structure Tk(c:Cx)(s s':Shared):Prop where
 t:∀v d,dK d=true→Tells c.σ s.heap v d→Tells c.σ s'.heap v d
 s:gT s.heap s'.heap
structure Lw(c:Cx)(A:Around)(env:Env)(s₀ s:Shared)(m k:Str→Option Value)(ra:Addr):Prop where
 H:aq c A env s₀ s m
 C:Cl env s₀ s k
 I:bX s.heap ra
 r:m "reel"=some (.ref ra)
 r0:s₀.heap.get? ra=none
 rL:ra≠env.locals
 rC:∀x a,env.cells.lookup x=some a→a≠ra
 kr:env.kindOf "reel"=some .local
section
variable{c:Cx}{P:Params}{A:Around}{env:Env}{s₀ s s' aS:Shared}{m k:Str→Option Value}{ra:Addr}{E₀:Value→Shared→Prop}
theorem Tk.refl:Tk c s s:=⟨λw w w t=>t,gT.refl _⟩
theorem Tk.trans(a:Tk c s s')(b:Tk c s' aS):Tk c s aS:=⟨λv d h t=>b.t v d h (a.t v d h t),a.s.trans b.s⟩
theorem Tk.nx(n:Nx c s s'):Tk c s s':=⟨λv d w t=>t.keep n.keep,n.keep.oY⟩
theorem Tk.nl(n:Nl c ra s s')(I:bX s.heap ra):Tk c s s':=⟨λv d h t=>Tells.Am n I t h,λb o e hs=>n.keep.oY b o ((dE _ (λq=>by
 refine jw I λi j u v aaa w=>?_;refine qD aaa λo' e' w w hd=>?_;refine oW hs λw vs hv=>?_;rw[q,e']at e;cases au e;rw[hd]at hv;cases hv)).trans e) hs⟩
theorem Tk.but{b:Addr}{h':Heap}{tk:Tok}(hs:Heap.SameBut b s.heap h')(nb:dU s.heap b)(nr:∀o,s.heap.get? b=some o→∀vs,o.data≠.fields vs):Tk c s {s with heap:=h',toks:=tk}:=
 ⟨λv d w t=>t.seq (cJ.sameBut hs nb),λa o e ⟨_,vs,hv⟩=>(hs.2 a λq=>nr o (q▸e) vs hv).trans e⟩
theorem Lw.on(W:Lw c A env s₀ s m k ra)(n:Nx c s s'):Lw c A env s₀ s' m k ra:=⟨W.H.on n,W.C.on n,W.I.keep n.keep,W.r,W.r0,W.rL,W.rC,W.kr⟩
theorem Lw.nl(W:Lw c A env s₀ s m k ra)(n:Nl c ra s s')(I:bX s'.heap ra):Lw c A env s₀ s' m k ra:=⟨W.H.nl n W.r0 W.rL,W.C.nl n λx a e=>W.rC x a e,I,W.r,W.r0,W.rL,W.rC,W.kr⟩
theorem Ig{h:Heap}{a:Addr}{v:Option Value}(n:h.IsCell a v):dU h a:=λt vs ⟨o,e,a1,_,_,a4⟩=>by
 refine ah n λo' e' hd=>?_;cases aD e' a1;rw[hd]at a4;cases a4
theorem bX.but{h h':Heap}{b:Addr}(hs:Heap.SameBut b h h')(hb:ra≠b)(I:bX h ra):bX h' ra:=by
 refine jw I λi j u v aab z=>?_;refine ah aab λo e r=>?_;exact⟨i,j,u,v,⟨o,(hs.2 _ hb).trans e,r⟩,z⟩
theorem Lw.xW(HM:az c)(H9:av c)(W:Lw c A env s₀ s m k ra){x:Str}{v:Value}{Q:Unit→Shared→Prop}(hl:env.kindOf x=some .cell)(hc:(env.cells.lookup x).isSome=true)
  (hq:∀s',Lw c A env s₀ s' m (upd k x v) ra→Tk c s s'→Q () s'):wpAny c.M A (storeName env x v) Q E₀ s:=
 W.C.xW HM H9 W.H hl hc λs' H' C' ⟨a,h',ha,e,hs⟩=>hq s' ⟨H',C',by subst e;exact W.I.but hs (W.rC x a ha).symm,W.r,W.r0,W.rL,W.rC,W.kr⟩ (by subst e;exact Tk.but (tk:=s.toks) hs (Ig (W.C.at_ x a ha).2.1) λo e vs hv=>by refine ah ((W.C.at_ x a ha).2.1) λo' e' hd=>?_;cases aD e' e;rw[hd]at hv;cases hv)
theorem Lw.qN(HM:az c)(H9:av c)(W:Lw c A env s₀ s m k ra){x:Str}{v:Value}{Q:Unit→Shared→Prop}(hl:env.kindOf x=some .local)(hx:x≠"reel")
  (hq:∀s',Lw c A env s₀ s' (upd m x v) k ra→Tk c s s'→Q () s'):wpAny c.M A (storeName env x v) Q E₀ s:=
 W.C.qN HM H9 W.H hl λs' H' C' ⟨tk,h',e,hs⟩=>hq s' ⟨H',C',by subst e;exact W.I.but hs W.rL,(bD hx.symm).trans W.r,W.r0,W.rL,W.rC,W.kr⟩ (by subst e;exact Tk.but (tk:=tk) hs (fB W.H.ns) λo e vs hv=>by refine cF W.H.ns λo' w w e' hd w=>?_;cases aD e' e;rw[hd]at hv;cases hv)
structure cV where
 p:Expr
 ds:List D
 q0:Pos
 q1:Pos
 q2:Pos
abbrev cV.text(x:cV):Expr:=.Call (.Name "_law_one" x.q0) [.Name "reel" x.q1,x.p] [] x.q2
def cV.Ok(c:Cx)(P:Params)(A:Around)(env:Env)(s₀:Shared)(m k:Str→Option Value)(ra:Addr)(J:Shared→Prop)(x:cV):Prop:=
 (starEach [.Name "reel" x.q1,x.p] env=[(false,eval (.Name "reel" x.q1) env),(false,eval x.p env)])∧(∀s,Lw c A env s₀ s m k ra→J s→∃n vs ρ e,St c A n env.scope env s.heap vs ρ∧mE aH env.scope vs e x.p=true∧(Mine.rec c.P n).ev ρ e=.ok (.list x.ds))∧
  dK (.list x.ds)=true∧0<x.ds.length∧x.ds.length≤1000
theorem Ve{ds:List D}:∀{i:Nat} {d:D},dK (.tuple ds)=true→ds[i]?=some d→dK d=true:=by
 induction ds with
 |nil=>exact λw e=>aF e
 |cons d ds ih=>
  intro i e h k;cases i with
  |zero=>exact au k▸a1 h
  |succ i=>exact ih (a2 h) k
theorem uM(O:Ob c)(S:aN c P)(HM:az c)(H9:av c)(HD:cD c)(W:Lw c A env s₀ s m k ra)(rm:aP A 12)(kg:env.kindOf "_law_one"=some .globalImplicit){J:Shared→Prop}(j:J s){x:cV}(X:x.Ok c P A env s₀ m k ra J)
  {Q:Value→Shared→Prop}(hq:∀(i:Nat) d v s',Lw c A env s₀ s' m k ra→Tk c s s'→x.ds[i]?=some d→dK d=true→Tells c.σ s'.heap v d→Q v s'):wpAny c.M A (eval x.text env) Q E₀ s:=by
 refine xG (X.2.1 s W j) λn vs ρ e F hm he=>?_;refine Jk (P:=P) O S HM H9 HD W.H rm W.r W.kr kg W.r0 W.I F hm he X.1 X.2.2.1 X.2.2.2.1 X.2.2.2.2 (fits_of (by omega) (by have:=X.2.2.2.2;omega)) λi d v s1 s2 n1 n2 I1 hd T I2=>?_;have W1:=W.on n1;refine hq i d v s2 (W1.nl n2 I2) ((Tk.nx n1).trans (Tk.nl n2 I1)) hd (Ve (a2 X.2.2.1) hd) T
end
section
variable{c:Cx}{P:Params}{A:Around}{env:Env}{s₀ s s' aS:Shared}{m k:Str→Option Value}{ra:Addr}{E₀:Value→Shared→Prop}
def ip(env:Env)(x:Str):Prop:=env.kindOf x=some .cell∧(env.cells.lookup x).isSome=true
theorem Lw.cells(HM:az c)(H9:av c):∀{xs:List (Str×Pos)} {vs:List Value} {s:Shared} {k:Str→Option Value} {Q:Unit→Shared→Prop},Lw c A env s₀ s m k ra→(∀x∈xs,ip env x.1)→xs.length=vs.length→
  (∀s',Lw c A env s₀ s' m (dw k (xs.map (·.1)) vs) ra→Tk c s s'→Q () s')→wpAny c.M A (assignInOrder (xs.map λx=>assign (.Name x.1 x.2) env) vs) Q E₀ s
 |[],[],s,k,Q,W,_,_,h=>assignInOrder_nil (h s W Tk.refl)
 |x::xs,v::vs,s,k,Q,W,hc,hl,h=>by
  refine jE (assign_Name (W.xW HM H9 (hc x dW).1 (hc x dW).2 λs1 W1 t1=>?_));exact Lw.cells HM H9 W1 (λy hy=>hc y (bH _ hy)) (by simpa using hl) λs2 W2 t2=>h s2 W2 (t1.trans t2)
 |[],_::_,_,_,_,_,_,hl,_=>by cases hl
 |_::_,[],_,_,_,_,_,hl,_=>by cases hl
theorem RA{xs:List (Str×Pos)}:(assignEach (xs.map λx=>Expr.Name x.1 x.2) env).length=xs.length∧(assignEach (xs.map λx=>Expr.Name x.1 x.2) env).findIdx? (·.1)=none∧(assignEach (xs.map λx=>Expr.Name x.1 x.2) env).map (·.2)=xs.map λx=>assign (.Name x.1 x.2) env:=by
 induction xs with
 |nil=>exact⟨rfl,rfl,rfl⟩
 |cons x xs ih=>
  have e:assignEach ((x::xs).map λx=>Expr.Name x.1 x.2) env=(false,assign (.Name x.1 x.2) env)::assignEach (xs.map λx=>Expr.Name x.1 x.2) env:=rfl;rw[e];refine⟨bp Nat.succ ih.1,?_,bp (List.cons _) ih.2.2⟩;rw[List.findIdx?_cons,ih.2.1];rfl
theorem Lw.unpack(HM:az c)(H9:av c)(W:Lw c A env s₀ s m k ra)(hh:A.handled=none){xs:List (Str×Pos)}{vs:List Value}{kk:Nat}{q:Pos}{Q:Flow→Shared→Prop}(hc:∀x∈xs,ip env x.1)(hl:xs.length=vs.length)
  (hq:∀s',Lw c A env s₀ s' m (dw k (xs.map (·.1)) vs) ra→Tk c s s'→Q .next s'):
  wpAny c.M A (assign (.Tuple (xs.map λx=>Expr.Name x.1 x.2) kk q) env (.ref s.heap.objs.size)) (λz=>Q .next) E₀ {s with heap:=s.heap.push {cls:=.type "tuple",data:=.seq vs.toArray}}:=by
 have bx:=Nx.push HM.push W.H.nx.g {cls:=.type "tuple",data:=.seq vs.toArray} s.toks;have W3:=W.on bx;have hT:aQ (s.heap.push {cls:=.type "tuple",data:=.seq vs.toArray}) s.heap.objs.size "tuple" vs:=aQ.push;refine bY (RA (env:=env) (xs:=xs)) λa1 a2 a3=>?_;refine oS hh hT.tuple (by rw[a1,List.size_toArray,hl]) a2 λh' hk=>?_;rw[a3];have n4:Nx c {s with heap:=s.heap.push {cls:=.type "tuple",data:=.seq vs.toArray}} {s with heap:=h'}:=Nx.ext (s:={s with heap:=s.heap.push {cls:=.type "tuple",data:=.seq vs.toArray}}) HM.push W3.H.nx.g h' s.toks λb o e=>hk b o (bL (cA e)) e;exact Lw.cells HM H9 (W3.on n4) hc hl λs' W' t'=>hq s' W' (((Tk.nx bx).trans (Tk.nx n4)).trans t')
theorem aac(O:Ob c)(S:aN c P)(HM:az c)(H9:av c)(HD:cD c)(W:Lw c A env s₀ s m k ra)(rm:aP A 12)(kg:env.kindOf "_law_one"=some .globalImplicit){J:Shared→Prop}(j:J s)(Jt:∀s s',Tk c s s'→J s→J s'){x1 x2:cV}(X1:x1.Ok c P A env s₀ m k ra J)(X2:x2.Ok c P A env s₀ m k ra J)
  {y1 y2:Str}{p1 p2 q1 q2 q3:Pos}(hc:∀y∈[(y1,p1),(y2,p2)],ip env y.1)
  (ji:swappedStores [.Tuple [.Name y1 p1,.Name y2 p2] 0 q1] (.Tuple [x1.text,x2.text] 0 q2) env=pure none)
  (a7:starEach [x1.text,x2.text] env=[(false,eval x1.text env),(false,eval x2.text env)])
  {Q:Flow→Shared→Prop}(hq:∀(i1 i2:Nat) d1 d2 v1 v2 s',Lw c A env s₀ s' m (dw k [y1,y2] [v1,v2]) ra→Tk c s s'→x1.ds[i1]?=some d1→x2.ds[i2]?=some d2→dK d1=true→dK d2=true→Tells c.σ s'.heap v1 d1→Tells c.σ s'.heap v2 d2→Q .next s'):
  wpAny c.M A (exec (.Assign [.Tuple [.Name y1 p1,.Name y2 p2] 0 q1] (.Tuple [x1.text,x2.text] 0 q2) q3) env) Q E₀ s:=by
 refine Assign_Tuple (wpAny_Tuple ?_) rfl ji;rw[a7];refine aV (uM O S HM H9 HD W rm kg j X1 λi1 d1 v1 s1 W1 t1 g1 r1 T1=>?_);refine aV (uM O S HM H9 HD W1 rm kg (Jt _ _ t1 j) X2 λi2 d2 v2 s2 W2 t2 g2 r2 T2=>?_);refine ce ⟨by rw[sizeLine_eq];exact aX,?_⟩;exact W2.unpack HM H9 rm.2.2 (xs:=[(y1,p1),(y2,p2)]) (vs:=[v1,v2]) hc rfl λs' W' t'=>hq i1 i2 d1 d2 v1 v2 s' W' ((t1.trans t2).trans t') g1 g2 r1 r2 (t'.t _ _ r1 (t2.t _ _ r1 T1)) (t'.t _ _ r2 T2)
theorem Mk(O:Ob c)(S:aN c P)(HM:az c)(H9:av c)(HD:cD c)(W:Lw c A env s₀ s m k ra)(rm:aP A 12)(kg:env.kindOf "_law_one"=some .globalImplicit){J:Shared→Prop}(j:J s)(Jt:∀s s',Tk c s s'→J s→J s'){x1 x2 x3:cV}(X1:x1.Ok c P A env s₀ m k ra J)(X2:x2.Ok c P A env s₀ m k ra J)(X3:x3.Ok c P A env s₀ m k ra J)
  {y1 y2 y3:Str}{p1 p2 p3 q1 q2 q3:Pos}(hc:∀y∈[(y1,p1),(y2,p2),(y3,p3)],ip env y.1)
  (ji:swappedStores [.Tuple [.Name y1 p1,.Name y2 p2,.Name y3 p3] 0 q1] (.Tuple [x1.text,x2.text,x3.text] 0 q2) env=pure none)
  (a7:starEach [x1.text,x2.text,x3.text] env=[(false,eval x1.text env),(false,eval x2.text env),(false,eval x3.text env)])
  {Q:Flow→Shared→Prop}(hq:∀(i1 i2 i3:Nat) d1 d2 d3 v1 v2 v3 s',Lw c A env s₀ s' m (dw k [y1,y2,y3] [v1,v2,v3]) ra→Tk c s s'→x1.ds[i1]?=some d1→x2.ds[i2]?=some d2→x3.ds[i3]?=some d3→
   Tells c.σ s'.heap v1 d1→Tells c.σ s'.heap v2 d2→Tells c.σ s'.heap v3 d3→Q .next s'):
  wpAny c.M A (exec (.Assign [.Tuple [.Name y1 p1,.Name y2 p2,.Name y3 p3] 0 q1] (.Tuple [x1.text,x2.text,x3.text] 0 q2) q3) env) Q E₀ s:=by
 refine Assign_Tuple (wpAny_Tuple ?_) rfl ji;rw[a7];refine aV (uM O S HM H9 HD W rm kg j X1 λi1 d1 v1 s1 W1 t1 g1 r1 T1=>?_);refine aV (uM O S HM H9 HD W1 rm kg (Jt _ _ t1 j) X2 λi2 d2 v2 s2 W2 t2 g2 r2 T2=>?_);refine aV (uM O S HM H9 HD W2 rm kg (Jt _ _ t2 (Jt _ _ t1 j)) X3 λi3 d3 v3 s3 W3 t3 g3 r3 T3=>?_);refine ce ⟨by rw[sizeLine_eq];exact aX,?_⟩;exact W3.unpack HM H9 rm.2.2 (xs:=[(y1,p1),(y2,p2),(y3,p3)]) (vs:=[v1,v2,v3]) hc rfl λs' W' t'=>hq i1 i2 i3 d1 d2 d3 v1 v2 v3 s' W' (((t1.trans t2).trans t3).trans t') g1 g2 g3 (t'.t _ _ r1 (t3.t _ _ r1 (t2.t _ _ r1 T1))) (t'.t _ _ r2 (t3.t _ _ r2 T2)) (t'.t _ _ r3 T3)
end
section
variable{c:Cx}{P:Params}{A:Around}{env:Env}{s₀ s s' aS:Shared}{m k:Str→Option Value}{ra:Addr}{E₀:Value→Shared→Prop}
theorem TO(O:Ob c)(S:aN c P)(HM:az c)(H9:av c)(HD:cD c)(HF:c.Flt=ej c.aT c.σ 76)(LM:lW c)(H:aq c A env s₀ s m)(kg:env.kindOf "_law_tried"=some .globalImplicit)(cq:c.cd env.code env.qual)
  {n:Nat}{vs:List (Option Str)}{ρ:List (Option D)}{e e2:E}{body R:Expr}{sl:Scope}{o:Out D}{dr d2:D}{q0 q1 q2 q3 q4:Pos}{ret:List Stmt}(F:St c A n env.scope env s.heap vs ρ)(hn:6≤n)(hD:gJ noArgs sl=true)(jT:freeOk env.scope sl vs=true)(hm:mE aH sl (gK sl vs) e body=true)
  (he:(rec c.P (n-3)).ev ρ e=o)(hd:qM o=some dr)(hm2:mE aH env.scope vs e2 R=true)(la:(rec c.P n).ev ρ e2=.ok d2)(hc:fG c.P .NotEq dr d2=some false)(hb:behindInMarks .NotEq R=false)
  {Q:Flow→Shared→Prop}(hq:∀s',Nx c s s'→Q .next s'):
  wpAny c.M A (exec (.If (.Compare (.Call (.Name "_law_tried" q0) [.Lambda noArgs body sl q1] [] q2) [.NotEq] [R] q3) ret [] q4) env) Q E₀ s:=by
 refine eZ (rh (Rz (P:=P) O S HM H9 HF LM H kg cq F hn hD jT hm he hd λv1 s1 T1 n1=>?_) hb);refine cG O (F.nx n1) (by rw[S.nm];exact hm2) la λv2 s2 T2 n2=>?_;refine lz (qJ HD) (qm HD) hc (T1.keep n2.keep) T2 n2.g ⟨by have:=F.r.1;omega,by have:=F.r.2.1;omega,F.r.2.2⟩ λs3 n3=>?_;refine ir ?_;rw[if_neg (by decide)];exact cz (hq s3 ((n1.trans n2).trans n3))
theorem Lw.own(W:Lw c A env s₀ s m k ra){I:Addr}(n:Nl c I s s')(h0:s₀.heap.get? I=none)(hL:I≠env.locals)(hC:∀x a,env.cells.lookup x=some a→a≠I)(hr:ra≠I):Lw c A env s₀ s' m k ra:=
 ⟨W.H.nl n h0 hL,W.C.nl n hC,by
  refine jw W.I λi j u v aad y=>?_;refine ah aad λo e z=>?_;have:bX (s.heap.hide I) ra:=⟨i,j,u,v,⟨o,(dE _ hr).trans e,z⟩,y⟩;exact this.keep n.keep,W.r,W.r0,W.rL,W.rC,W.kr⟩
theorem HE{h:Heap}{I:Addr}{i n st:Int}(it:IsRangeIter h I i n st):dU h I:=λt vs ⟨o,e,a1,_,_,a4⟩=>by
 cases aD (show h.get? I=some _ from it) a1;cases a4
theorem Own.nl{h₀ h':Heap}{I:Addr}{tk:Tok}(w:Own h₀ s.heap I)(HM:az c)(H9:av c)(bj:c.G h₀)(g:c.G s.heap)(k:Heap.ExtBut I s.heap h'):Nl c I s {s with heap:=h',toks:=tk}:=
 fM (w.g HM H9 bj g k) λb o q e=>k b o q e
theorem Sr(HM:az c)(H9:av c)(HB:fO c)(W:Lw c A env s₀ s m k ra)(hh:A.handled=none){x:Str}{N:Nat}{q0 q1 q2 q3 q4:Pos}{body:List Stmt}(kx:env.kindOf x=some .local)(hx:x≠"reel")(kg:env.kindOf "range"=some .globalImplicit)(hN:N<1000)
  {vo:Value}{d:D}(T:Tells c.σ s.heap vo d)(hd:dK d=true){Z:(Str→Option Value)→(Str→Option Value)→Prop}(z0:Z m k)(zx:∀m k v,Z m k→Z (upd m x v) k)
  {Q:Flow→Shared→Prop}(step:∀s m k E,Lw c A env s₀ s m k ra→Z m k→Tells c.σ s.heap vo d→wpAny c.M A (execs body env) (λf s'=>f=.next∧∃k',Lw c A env s₀ s' m k' ra∧Z m k'∧Tk c s s') E s)
  (hq:∀s m k,Lw c A env s₀ s m k ra→Z m k→Tells c.σ s.heap vo d→Q .next s):
  wpAny c.M A (exec (.For (.Name x q0) (.Call (.Name "range" q1) [.Constant (.int N) 0 q2] [] q3) body [] q4) env) Q E₀ s:=by
 refine wpAny_For ?_;have e0:eval (.Call (.Name "range" q1) [.Constant (.int N) 0 q2] [] q3) env=(eval (.Name "range" q1) env>>=λfv=>callWith q3 fv [] (backTo q3 (starEach [.Constant (.int N) 0 q2] env)) []):=rfl;rw[e0];refine cK (HB _ W.H.nx.g) λmg mb g1 g2 g3=>?_;refine am (λh1 h2=>?_) (g3 "range" (al 10));refine aj (oN W.H.kind kg (Calls.loadGlobal_builtin (by rw[W.H.bE];exact g1) h1 (by rw[W.H.blt];exact g2) (h2.trans B4) ?_) rfl);refine PyProof.Rows.callWith_type rfl (dj (aV (iu (k:=0) (pos:=q2) (ce (call_range_1 ?_)))));refine wpAny_pyIter_range (IsRange.new _ 0 N 1 _ _ _) (small_one (by decide) (by decide) (by omega) (by omega)) ?_;have iE:Builtin.Range.rangeSize 0 (N:Int) 1=N:=by
  rw[rangeSize_one];split<;>omega
 rw[iE];generalize hr:s.heap.push _=hp;have kp:∀b o,s.heap.get? b=some o→hp.get? b=some o:=λb o e=>hr▸bA _ e;have FV:s.heap.objs.size≤hp.objs.size:=by rw[←hr,Heap.size_push];exact di _
 have k1:∀b o,s.heap.get? b=some o→(hp.push {cls:=.type "range_iterator",data:=.fields #[rawInt 0,rawInt N,rawInt 1]}).get? b=some o:=λb o e=>bA _ (kp b o e);have tH:s.heap.get? hp.objs.size=none:=cX FV;have wA:s₀.heap.get? hp.objs.size=none:=cO W.H.nx tH;have n1:=Nx.ext HM.push W.H.nx.g _ (s.toks+1+1+1) k1;have bk:∀{b:Addr} {o:Obj},s.heap.get? b=some o→b≠hp.objs.size:=λe q=>by rw[q,tH]at e;exact aF e
 have hL:hp.objs.size≠env.locals:=by refine bC W.H.ns λo Y Y e Y=>?_;exact(bk e).symm
 have hC:∀x a,env.cells.lookup x=some a→a≠hp.objs.size:=λx a e=>by refine ah ((W.C.at_ x a e).2.1) λo e' Y=>?_;exact bk e'
 have hR:ra≠hp.objs.size:=by refine jw W.I λY Y Y Y aae Y=>?_;refine ah aae λo e Y=>?_;exact bk e
 refine codeAny_forLoop (λj an=>∃m' k' i,j=N+1-i∧i≤N∧Lw c A env s₀ an m' k' ra∧Z m' k'∧Tells c.σ an.heap vo d∧IsRangeIter an.heap hp.objs.size i ((N:Int)-i) 1) (λj an hI=>?_) (N+1)
  ⟨m,k,0,rfl,gO _,W.on n1,z0,T.keep n1.keep,by simpa using dy _ rfl⟩
 refine bC hI λm' k' i aaf aag=>?_;subst aaf;refine oX aag λhi W1 z1 T1 it=>?_;have w:Own s₀.heap an.heap hp.objs.size:=⟨wA,_,_,it,rfl,rfl⟩;by_cases dc:i<N
 ·refine wpAny_pyNext_range_item it (by omega) λh₁ it₁ ku=>?_;have n2:=w.nl (tk:=an.toks+1) HM H9 W1.H.bj W1.H.nx.g ku.extBut;have W2:=W1.own n2 wA hL hC hR;have T2:=n2.tells (HE it) T1;refine wpAny_assign_Name (W2.qN HM H9 kx hx λs3 W3 t3=>?_);have it3:IsRangeIter s3.heap hp.objs.size (i+1) ((N:Int)-i-1) 1:=t3.s _ _ it₁ ⟨.inr (.inl rfl),_,rfl⟩;refine aL (step s3 _ k' _ W3 (zx _ _ _ z1) (t3.t _ _ hd T2)) (λf s4 ⟨ef,k4,W4,z4,t4⟩=>?_) λY Y q=>q;subst ef;refine⟨N+1-(i+1),by omega,_,k4,i+1,rfl,dc,W4,z4,t4.t _ _ hd (t3.t _ _ hd T2),?_⟩;have:=t4.s _ _ it3 ⟨.inr (.inl rfl),_,rfl⟩;rw[show((i+1:Nat):Int)=(i:Int)+1 from rfl,show(N:Int)-((i:Int)+1)=(N:Int)-i-1 from by omega];exact this
 ·obtain rfl:i=N:=by omega
  refine wpAny_pyNext_range_end hh it (by omega) λh₁ gM=>cz ?_;have n2:=w.nl (tk:=an.toks) HM H9 W1.H.bj W1.H.nx.g gM;exact hq _ m' k' (W1.own n2 wA hL hC hR) z1 (n2.tells (HE it) T1)
end
noncomputable def gY:List D:=[(.str [43]),(.str [45]),(.str [94]),(.str [33])]
noncomputable def aB:List D:=[(.str [43]),(.str [45]),(.str [42]),(.str [47]),(.str [37]),(.str [38]),(.str [124]),(.str [94]),(.str [38,94]),(.str [61,61]),(.str [33,61]),(.str [60]),(.str [62,61]),(.str [38,38]),(.str [124,124])]
noncomputable def er:List D:=[(.str [60,60]),(.str [62,62])]
structure An where
 lo:Expr
 t1:Expr
 r1:List Stmt
 e1:Expr
 w1:Expr
 b1:Expr
 xa:Scope
 R1:Expr
 z1:List Stmt
 eo:Expr
 e2:Expr
 w2:Expr
 w3:Expr
 b2:Expr
 pP:Scope
 R2:Expr
 z2:List Stmt
 e3:Expr
 w4:Expr
 w5:Expr
 b3:Expr
 xb:Scope
 R3:Expr
 z3:List Stmt
 q:Nat→Pos
noncomputable def ug(x:An):List Stmt:=[
 .Assign [.Tuple [.Name "reader" (x.q 0),.Name "loose" (x.q 1)] 0 (x.q 2)] (.Tuple [.Call (.Name "_law_reader" (x.q 3)) [] [] (x.q 4),x.lo] 0 (x.q 5)) (x.q 6),
 .If x.t1 x.r1 [] (x.q 7),
 .Assign [.Name "reel" (x.q 8)] (.Call (.Name "_law_reel" (x.q 9)) [.Name "script" (x.q 10)] [] (x.q 11)) (x.q 12),
 .Assign [.Tuple [.Name "op" (x.q 13),.Name "one" (x.q 14)] 0 (x.q 15)] (.Tuple [(cV.text ⟨x.e1,gY,(x.q 16),(x.q 17),(x.q 18)⟩),(cV.text ⟨x.w1,cb,(x.q 19),(x.q 20),(x.q 21)⟩)] 0 (x.q 22)) (x.q 23),
 .If (.Compare (.Call (.Name "_law_tried" (x.q 24)) [.Lambda noArgs x.b1 x.xa (x.q 25)] [] (x.q 26)) [.NotEq] [x.R1] (x.q 27)) x.z1 [] (x.q 28),
 .Assign [.Name "ops" (x.q 29)] x.eo (x.q 30),
 .For (.Name "turn" (x.q 51)) (.Call (.Name "range" (x.q 52)) [.Constant (.int 2) 0 (x.q 53)] [] (x.q 54)) [.Assign [.Tuple [.Name "op" (x.q 31),.Name "one" (x.q 32),.Name "other" (x.q 33)] 0 (x.q 34)] (.Tuple [(cV.text ⟨x.e2,aB,(x.q 35),(x.q 36),(x.q 37)⟩),(cV.text ⟨x.w2,cb,(x.q 38),(x.q 39),(x.q 40)⟩),(cV.text ⟨x.w3,cb,(x.q 41),(x.q 42),(x.q 43)⟩)] 0 (x.q 44)) (x.q 45),.If (.Compare (.Call (.Name "_law_tried" (x.q 46)) [.Lambda noArgs x.b2 x.pP (x.q 47)] [] (x.q 48)) [.NotEq] [x.R2] (x.q 49)) x.z2 [] (x.q 50)] [] (x.q 55),
 .Assign [.Tuple [.Name "op" (x.q 56),.Name "one" (x.q 57),.Name "other" (x.q 58)] 0 (x.q 59)] (.Tuple [(cV.text ⟨x.e3,er,(x.q 60),(x.q 61),(x.q 62)⟩),(cV.text ⟨x.w4,cb,(x.q 63),(x.q 64),(x.q 65)⟩),(cV.text ⟨x.w5,cb,(x.q 66),(x.q 67),(x.q 68)⟩)] 0 (x.q 69)) (x.q 70),
 .If (.Compare (.Call (.Name "_law_tried" (x.q 71)) [.Lambda noArgs x.b3 x.xb (x.q 72)] [] (x.q 73)) [.NotEq] [x.R3] (x.q 74)) x.z3 [] (x.q 75),
 .Return (some (.Call (.Name "_law_size_right" (x.q 76)) [.Name "reel" (x.q 77),.Name "reader" (x.q 78)] [] (x.q 79))) (x.q 80)]
noncomputable def aes:List Pos:=[aa 654 4 10,aa 654 12 17,aa 654 4 17,aa 654 21 32,aa 654 21 34,aa 654 20 55,aa 654 4 55,⟨655,4,656,20⟩,aa 657 4 8,aa 657 11 20,aa 657 21 27,aa 657 11 28,aa 657 4 28,aa 658 4 6,aa 658 8 11,aa 658 4 11,aa 658 15 23,aa 658 24 28,aa 658 15 51,aa 658 53 61,aa 658 62 66,aa 658 53 80,aa 658 14 81,aa 658 4 81,aa 659 7 17,aa 659 18 65,aa 659 7 66,aa 659 7 90,⟨659,4,660,20⟩,aa 661 4 7,aa 661 4 91,aa 663 8 10,aa 663 12 15,aa 663 17 22,aa 663 8 22,aa 663 26 34,aa 663 35 39,aa 663 26 45,aa 663 47 55,aa 663 56 60,aa 663 47 74,aa 663 76 84,aa 663 85 89,aa 663 76 103,aa 663 25 104,aa 663 8 104,aa 664 11 21,aa 664 22 80,aa 664 11 81,aa 664 11 112,⟨664,8,665,24⟩,aa 662 8 12,aa 662 16 21,aa 662 22 23,aa 662 16 24,⟨662,4,665,24⟩,aa 666 4 6,aa 666 8 11,aa 666 13 18,aa 666 4 18,aa 666 22 30,aa 666 31 35,aa 666 22 50,aa 666 52 60,aa 666 61 65,aa 666 52 79,aa 666 81 89,aa 666 90 94,aa 666 81 108,aa 666 21 109,aa 666 4 109,aa 667 7 17,aa 667 18 76,aa 667 7 77,aa 667 7 109,⟨667,4,668,20⟩,aa 669 11 26,aa 669 27 31,aa 669 33 39,aa 669 11 40,aa 669 4 40]
noncomputable def Fc:An:=⟨(.Tuple [(.Constant (.str "untyped") 0 (aa 654 37 46)),(.Constant (.str "int") 0 (aa 654 48 53))] 0 (aa 654 36 54)),
 (.Compare (.Call (.Attribute (.Name "reader" (aa 655 7 13)) "of_two" (aa 655 7 20)) [(.Tuple [(.Constant (.str "binary") 0 (aa 655 22 30)),(.Constant (.int 9) 0 (aa 655 32 33)),(.Constant (.str "<") 0 (aa 655 35 38)),(.Tuple [(.Constant (.str "int") 0 (aa 655 41 46)),(.Constant (.int 1) 0 (aa 655 48 49)),(.Constant (.int 5) 0 (aa 655 51 52))] 0 (aa 655 40 53)),(.Tuple [(.Constant (.str "int") 0 (aa 655 56 61)),(.Constant (.int 2) 0 (aa 655 63 64)),(.Constant (.int 7) 0 (aa 655 66 67))] 0 (aa 655 55 68))] 0 (aa 655 21 69))] [] (aa 655 7 70)) [.NotEq] [(.Tuple [(.Tuple [(.Constant (.str "untyped") 0 (aa 655 76 85)),(.Constant (.str "bool") 0 (aa 655 87 93))] 0 (aa 655 75 94)),(.Constant (.bool true) 0 (aa 655 96 100))] 0 (aa 655 74 101))] (aa 655 7 101)),
 [(.Return (some (.Constant (.bool false) 0 (aa 656 15 20))) (aa 656 8 20))],
 (.List [(.Constant (.str "+") 0 (aa 658 31 34)),(.Constant (.str "-") 0 (aa 658 36 39)),(.Constant (.str "^") 0 (aa 658 41 44)),(.Constant (.str "!") 0 (aa 658 46 49))] (aa 658 30 50)),
 (.Call (.Name "_law_rows" (aa 658 68 77)) [] [] (aa 658 68 79)),
 (.Call (.Attribute (.Name "reader" (aa 659 26 32)) "of_one" (aa 659 26 39)) [(.Tuple [(.Constant (.str "unary") 0 (aa 659 41 48)),(.Constant (.int 9) 0 (aa 659 50 51)),(.Name "op" (aa 659 53 55)),(.Subscript (.Name "one" (aa 659 57 60)) (.Constant (.int 0) 0 (aa 659 61 62)) (aa 659 57 63))] 0 (aa 659 40 64))] [] (aa 659 26 65)),
 ⟨.function,[(.ofString "one",.free),(.ofString "op",.free),(.ofString "reader",.free)],false,false,[]⟩,
 (.Call (.Name "_law_signed" (aa 659 70 81)) [(.Name "op" (aa 659 82 84)),(.Name "one" (aa 659 86 89))] [] (aa 659 70 90)),
 [(.Return (some (.Constant (.bool false) 0 (aa 660 15 20))) (aa 660 8 20))],
 (.List [(.Constant (.str "+") 0 (aa 661 11 14)),(.Constant (.str "-") 0 (aa 661 16 19)),(.Constant (.str "*") 0 (aa 661 21 24)),(.Constant (.str "/") 0 (aa 661 26 29)),(.Constant (.str "%") 0 (aa 661 31 34)),(.Constant (.str "&") 0 (aa 661 36 39)),(.Constant (.str "|") 0 (aa 661 41 44)),(.Constant (.str "^") 0 (aa 661 46 49)),(.Constant (.str "&^") 0 (aa 661 51 55)),(.Constant (.str "==") 0 (aa 661 57 61)),(.Constant (.str "!=") 0 (aa 661 63 67)),(.Constant (.str "<") 0 (aa 661 69 72)),(.Constant (.str ">=") 0 (aa 661 74 78)),(.Constant (.str "&&") 0 (aa 661 80 84)),(.Constant (.str "||") 0 (aa 661 86 90))] (aa 661 10 91)),
 (.Name "ops" (aa 663 41 44)),
 (.Call (.Name "_law_rows" (aa 663 62 71)) [] [] (aa 663 62 73)),
 (.Call (.Name "_law_rows" (aa 663 91 100)) [] [] (aa 663 91 102)),
 (.Call (.Attribute (.Name "reader" (aa 664 30 36)) "of_two" (aa 664 30 43)) [(.Tuple [(.Constant (.str "binary") 0 (aa 664 45 53)),(.Constant (.int 9) 0 (aa 664 55 56)),(.Name "op" (aa 664 58 60)),(.Subscript (.Name "one" (aa 664 62 65)) (.Constant (.int 0) 0 (aa 664 66 67)) (aa 664 62 68)),(.Subscript (.Name "other" (aa 664 70 75)) (.Constant (.int 0) 0 (aa 664 76 77)) (aa 664 70 78))] 0 (aa 664 44 79))] [] (aa 664 30 80)),
 ⟨.function,[(.ofString "one",.free),(.ofString "op",.free),(.ofString "other",.free),(.ofString "reader",.free)],false,false,[]⟩,
 (.Call (.Name "_law_joined" (aa 664 85 96)) [(.Name "op" (aa 664 97 99)),(.Name "one" (aa 664 101 104)),(.Name "other" (aa 664 106 111))] [] (aa 664 85 112)),
 [(.Return (some (.Constant (.bool false) 0 (aa 665 19 24))) (aa 665 12 24))],
 (.List [(.Constant (.str "<<") 0 (aa 666 38 42)),(.Constant (.str ">>") 0 (aa 666 44 48))] (aa 666 37 49)),
 (.Call (.Name "_law_rows" (aa 666 67 76)) [] [] (aa 666 67 78)),
 (.Call (.Name "_law_rows" (aa 666 96 105)) [] [] (aa 666 96 107)),
 (.Call (.Attribute (.Name "reader" (aa 667 26 32)) "of_two" (aa 667 26 39)) [(.Tuple [(.Constant (.str "binary") 0 (aa 667 41 49)),(.Constant (.int 9) 0 (aa 667 51 52)),(.Name "op" (aa 667 54 56)),(.Subscript (.Name "one" (aa 667 58 61)) (.Constant (.int 0) 0 (aa 667 62 63)) (aa 667 58 64)),(.Subscript (.Name "other" (aa 667 66 71)) (.Constant (.int 0) 0 (aa 667 72 73)) (aa 667 66 74))] 0 (aa 667 40 75))] [] (aa 667 26 76)),
 ⟨.function,[(.ofString "one",.free),(.ofString "op",.free),(.ofString "other",.free),(.ofString "reader",.free)],false,false,[]⟩,
 (.Call (.Name "_law_shifted" (aa 667 81 93)) [(.Name "op" (aa 667 94 96)),(.Name "one" (aa 667 98 101)),(.Name "other" (aa 667 103 108))] [] (aa 667 81 109)),
 [(.Return (some (.Constant (.bool false) 0 (aa 668 15 20))) (aa 668 8 20))],λi=>aes.getD i (aa 0 0 0)⟩
theorem aah(P:Params):bodyOf (ai P 704)=ug Fc:=by kernel_rfl
noncomputable def fD:List (Option Str):=[some "reader",some "op",some "one",some "other",some "ops"]
noncomputable def Oa:List Nat:=[98,105,110,97,114,121]
noncomputable def Po:E:=.cmp .NotEq (.bc (.var 0) 9 [.tup [.lit (.str Oa),.lit (.int 9),.lit (.str [60]),.tup [.lit aU,.lit (.int 1),.lit (.int 5)],.tup [.lit aU,.lit (.int 2),.lit (.int 7)]]])
 (.tup [.tup [.lit bM,.lit bf],.lit (.bool true)])
noncomputable def eU:E:=.bc (.var 0) 8 [.tup [.lit (.str [117,110,97,114,121]),.lit (.int 9),.var 1,.sub (.var 2) (.lit (.int 0))]]
noncomputable def eB:E:=.bc (.var 0) 9 [.tup [.lit (.str Oa),.lit (.int 9),.var 1,.sub (.var 2) (.lit (.int 0)),.sub (.var 3) (.lit (.int 0))]]
noncomputable def qe:E:=.call 31 [.var 1,.var 2]
noncomputable def aG:E:=.call 33 [.var 1,.var 2,.var 3]
noncomputable def hV:E:=.call 32 [.var 1,.var 2,.var 3]
noncomputable def kM(l:List D):E:=.lst (l.map .lit)
noncomputable def GJ:E:=uJ [117,110,116,121,112,101,100] [105,110,116]
structure Oc(P:Params)(x:An):Prop where
 lo:mE aH (ai P 704).scope [] GJ x.lo=true
 t1:mE aH (ai P 704).scope fD Po x.t1=true
 e1:mE aH (ai P 704).scope [] (kM gY) x.e1=true
 w1:mE aH (ai P 704).scope [] (.call 22 []) x.w1=true
 b1:mE aH x.xa (gK x.xa fD) eU x.b1=true
 l1:gJ noArgs x.xa=true∧freeOk (ai P 704).scope x.xa fD=true
 R1:mE aH (ai P 704).scope fD qe x.R1=true∧behindInMarks .NotEq x.R1=false
 eo:mE aH (ai P 704).scope [] (kM aB) x.eo=true
 so:∀(t:Option Expr) (line:Nat) (env:Env),swapsWith x.eo t line env=pure false
 e2:mE aH (ai P 704).scope fD (.var 4) x.e2=true
 w2:mE aH (ai P 704).scope [] (.call 22 []) x.w2=true
 w3:mE aH (ai P 704).scope [] (.call 22 []) x.w3=true
 b2:mE aH x.pP (gK x.pP fD) eB x.b2=true
 l2:gJ noArgs x.pP=true∧freeOk (ai P 704).scope x.pP fD=true
 R2:mE aH (ai P 704).scope fD aG x.R2=true∧behindInMarks .NotEq x.R2=false
 e3:mE aH (ai P 704).scope [] (kM er) x.e3=true
 w4:mE aH (ai P 704).scope [] (.call 22 []) x.w4=true
 w5:mE aH (ai P 704).scope [] (.call 22 []) x.w5=true
 b3:mE aH x.xb (gK x.xb fD) eB x.b3=true
 l3:gJ noArgs x.xb=true∧freeOk (ai P 704).scope x.xb fD=true
 R3:mE aH (ai P 704).scope fD hV x.R3=true∧behindInMarks .NotEq x.R3=false
 q0:mm (ai P 704).scope [.Name "reader" (x.q 0),.Name "loose" (x.q 1)] [.Call (.Name "_law_reader" (x.q 3)) [] [] (x.q 4),x.lo]=some none
 q1:mm (ai P 704).scope [.Name "op" (x.q 13),.Name "one" (x.q 14)] [cV.text ⟨x.e1,gY,x.q 16,x.q 17,x.q 18⟩,cV.text ⟨x.w1,cb,x.q 19,x.q 20,x.q 21⟩]=some none
 q2:mm (ai P 704).scope [.Name "op" (x.q 31),.Name "one" (x.q 32),.Name "other" (x.q 33)] [cV.text ⟨x.e2,aB,x.q 35,x.q 36,x.q 37⟩,cV.text ⟨x.w2,cb,x.q 38,x.q 39,x.q 40⟩,cV.text ⟨x.w3,cb,x.q 41,x.q 42,x.q 43⟩]=some none
 q3:mm (ai P 704).scope [.Name "op" (x.q 56),.Name "one" (x.q 57),.Name "other" (x.q 58)] [cV.text ⟨x.e3,er,x.q 60,x.q 61,x.q 62⟩,cV.text ⟨x.w4,cb,x.q 63,x.q 64,x.q 65⟩,cV.text ⟨x.w5,cb,x.q 66,x.q 67,x.q 68⟩]=some none
 st0:∀(a b:Pos) (env:Env),starEach [.Call (.Name "_law_reader" a) [] [] b,x.lo] env=[(false,eval (.Call (.Name "_law_reader" a) [] [] b) env),(false,eval x.lo env)]
 lr:∀(a:Pos) (env:Env),(starEach [.Name "reel" a,x.e1] env=[(false,eval (.Name "reel" a) env),(false,eval x.e1 env)])∧(starEach [.Name "reel" a,x.e2] env=[(false,eval (.Name "reel" a) env),(false,eval x.e2 env)])∧(starEach [.Name "reel" a,x.e3] env=[(false,eval (.Name "reel" a) env),(false,eval x.e3 env)])
 nG:∀(a:Pos) (env:Env),∀y∈[x.w1,x.w2,x.w3,x.w4,x.w5],starEach [.Name "reel" a,y] env=[(false,eval (.Name "reel" a) env),(false,eval y env)]
theorem aet(P:Params):Oc P Fc:=⟨by kernel_rfl,by kernel_rfl,by kernel_rfl,by kernel_rfl,by kernel_rfl,⟨by kernel_rfl,by kernel_rfl⟩,⟨by kernel_rfl,by kernel_rfl⟩,by kernel_rfl,λz z z=>rfl,by kernel_rfl,by kernel_rfl,by kernel_rfl,by kernel_rfl,⟨by kernel_rfl,by kernel_rfl⟩,⟨by kernel_rfl,by kernel_rfl⟩,by kernel_rfl,by kernel_rfl,by kernel_rfl,by kernel_rfl,⟨by kernel_rfl,by kernel_rfl⟩,⟨by kernel_rfl,by kernel_rfl⟩,
 by kernel_rfl,by kernel_rfl,by kernel_rfl,by kernel_rfl,λz z z=>rfl,λz z=>⟨rfl,rfl,rfl⟩,λz z y hy=>by
  simp only[List.mem_cons,List.not_mem_nil,or_false]at hy;rcases hy with rfl|rfl|rfl|rfl|rfl<;>rfl⟩
theorem aai(P:Params)(r:Value)(Z:Setting):peek (aC P []) Z (bindArgs (ai P 704) ⟨[r],[]⟩)=some ((["script"]:List Str).zip [r]):=by kernel_rfl
theorem Ml(P:Params):fj P 704 ["script","loose","reel","ops","turn"]=true:=by kernel_rfl
noncomputable def aeu(P:Params)(a:Addr)(l:List Str):Bool:=l.all λx=>(ai P a).scope.names.lookup x==some .cell
theorem aaj(P:Params):aeu P 704 ["one","op","other","reader"]=true:=by kernel_rfl
noncomputable def Od(P:Params)(a:Addr)(l:List Str):Bool:=l.all λx=>(ai P a).scope.names.lookup x==some .globalImplicit
theorem aak(P:Params):Od P 704 ["_law_reader","_law_reel","_law_one","_law_tried","range","_law_size_right"]=true:=by kernel_rfl
theorem aal(P:Params)(L:Addr):∀x∈(["one","op","other","reader"]:List Str),((cellsFrom (L+1) (ai P 704).scope.names []).lookup x).isSome=true:=by
 intro x hx;simp only[List.mem_cons,List.not_mem_nil,or_false]at hx;rcases hx with rfl|rfl|rfl|rfl<;>kernel_rfl
theorem aam(P:Params):(ai P 704).scope.names.lookup ("self":Str)=none∧(ai P 704).scope.kind=.function∧(ai P 704).globals=mainGlobals∧(ai P 704).builtins=builtinsNs:=⟨by kernel_rfl,by kernel_rfl,by kernel_rfl,by kernel_rfl⟩
section
variable{c:Cx}{P:Params}{A:Around}{s:Shared}
theorem call_cells(H0:bz c)(H9:av c)(HL:gi c)(st:∀h,c.G h→eS P h){a:Addr}{o:Obj}(F:Cn P a o)(hf:o.isFreed=false){args:List Value}{binds:List (Str×Value)}{R:Result→Shared→Prop}(g:c.G s.heap)(Dl:A.frames=some [])
  (rm:A.depth<recursionLimit){l:List Addr}(pV:fC P l=true)(hb:∀Z,peek (aC P l) Z (bindArgs (ai P a) ⟨args,[]⟩)=some binds)(fQ:∀b∈binds,(ai P a).scope.names.lookup b.1=some .local)
  (h:∀env an,env.scope=(ai P a).scope→env.code=(ai P a).code→env.qual=(ai P a).qualname++".<locals>."→env.cells=cellsFrom (s.heap.objs.size+1) (ai P a).scope.names []→s.heap.objs.size≤env.locals→(∀x b,env.cells.lookup x=some b→s.heap.objs.size≤b)→(∀b o,s.heap.get? b=some o→an.heap.get? b=some o)→
   (A.deeper env).frames=some [env]→aq c (A.deeper env) env s an (bindL env.kindOf binds λz=>none)→Cl env s an (bindC env.kindOf binds λz=>none)→
   wpAny c.M (A.deeper env) (execs (bodyOf (ai P a)) env) (λfl s'=>R (.ok (.ret (match fl with|.ret v=>v|_=>.none))) s') (λz z=>False) an):codeAny c.M A (.call (.ref a) ⟨args,[]⟩) R s:=by
 refine codeAny_call_function rm ((st _ g).ok _ _ F.at_ hf) F.data F.co F.gen F.body (F.code _ (st _ g)) (kp_binds (cC (st _ g) pV) hb _ _ _ _ ?_);rw[F.wG];refine xy F.kind (λy hy=>.inl (fQ y hy)) λenv bP an x je=>?_;have ay:env.scope=(ai P a).scope:=by rw[bP];rfl
 have hL:env.locals=s.heap.objs.size:=by rw[bP];rfl
 have hC:env.cells=cellsFrom (s.heap.objs.size+1) (ai P a).scope.names []:=by rw[bP];rfl
 have n1:Nx c s an:=by
  refine eM x.toInCall.same λh₁ lU e=>?_;have k₁:=x.toInCall.keep;rw[e]at k₁⊢;exact Nx.ext H0 g h₁ lU k₁
 have dH:∀b,s.heap.objs.size≤b→s.heap.get? b=none:=λb hb=>cX hb;have bF:=l7 (env:=env) Dl;have ab:∀x' b,env.cells.lookup x'=some b→env.locals<b:=λx' b e=>x.above x' b (mem_of_lookup e);have Pp:∀x' b,env.cells.lookup x'=some b→s.heap.objs.size≤b:=λx' b e=>jC (hL▸ab x' b e);refine⟨HL _ n1.g,codeAny_func (aL (h env an ay (by rw[bP];rfl) (by rw[bP];rfl) hC (Nat.le_of_eq hL.symm) Pp x.toInCall.keep bF
  ⟨⟨_,bF,λen he=>by cases he⟩,by rw[bP];rfl,by rw[ay];exact F.kind,by rw[bP];exact F.bE,by rw[bP];exact F.blt,dH _ (Nat.le_of_eq hL.symm),je,g,n1,x.toInCall.ns⟩
  ⟨λx' b e=>⟨dH _ (Pp x' b e),x.cell x' b e,Nat.ne_of_gt (ab x' b e)⟩,λx' y b h1 h2=>name_of_addr x.apart (mem_of_lookup h1) (mem_of_lookup h2)⟩) (λz z q=>q) λz z q=>q.elim)⟩
end
section
variable{w:PySem.World}{h₁:Heap}{XL:List Addr}{s s':Shared}{xr aY:Addr}{mr:Str→Option Value}{bw:BW}{N G R:List (Str×Value)}{A:Around}{env:Env}{m k:Str→Option Value}{s₀:Shared}
abbrev qZ(s:Shared)(XL:List Addr):Shared:={s with heap:=hideAll s.heap XL}
theorem bu.g2(T:bu w h₁ XL s s' xr aY mr bw N G R)(hx:∀a∈XL,∀o,s'.heap.get? a=some o→∀vs,o.data≠.fields vs):(c2 w s'.heap XL xr bw N R).G (qZ s' XL).heap:=by
 refine⟨λb o e=>?_,λt ht=>Bz (T.g.2 t ht) (λo e=>hideAll_get _ e λq=>?_) λb o e hc hv=>⟨o,hideAll_get _ e λq=>?_,rfl,rfl⟩⟩
 ·refine hideAll_get _ (of_hideAll _ e) λq=>?_;have:=hideAll_none (ci++(bw.dm::XL)) (h:=s'.heap) (b:=b) (List.mem_append_right _ (bH _ q));exact bg this e
 ·have:=T.high _ q;have jk:t∈dM:=ht;unfold dM at jk;simp only[List.mem_cons,List.not_mem_nil,or_false]at jk;rcases jk with rfl|rfl|rfl<;>exact absurd this (by decide)
 ·refine ak hv λvs hv=>?_;exact hx b q o e vs hv
theorem bu.fn0(T:bu w h₁ XL s s' xr aY mr bw N G R){c:Cx}(H:aq c A env s₀ s' m)(hx:∀a∈XL,∀o,s'.heap.get? a=some o→∀vs,o.data≠.fields vs)(hf:A.frames=some [env])(hL:env.locals∈XL):aq (c2 w s'.heap XL xr bw N R) A env (qZ s' XL) s' m:=
 ⟨⟨_,hf,λen he=>by cases he⟩,H.frame,H.kind,H.bE,H.blt,hideAll_none _ hL,H.cls,T.g2 hx,⟨s'.heap,s'.toks,rfl,aE.gb λb o e=>of_hideAll _ e,T.g⟩,H.ns⟩
theorem Vf(C:Cl env s₀ s' k)(hC:∀x a,env.cells.lookup x=some a→a∈XL):Cl env (qZ s' XL) s' k:=
 ⟨λx a e=>⟨hideAll_none _ (hC x a e),(C.at_ x a e).2⟩,C.apart⟩
end
abbrev fk(env:Env):List Addr:=env.locals::env.cells.map (·.2)
section
variable{w:PySem.World}{h₁:Heap}{A:Around}{env:Env}{m k:Str→Option Value}{s₀ s s':Shared}
theorem mem_lookup:∀{l:List (Str×Addr)} {a:Addr},(l.map (·.1)).Nodup→a∈l.map (·.2)→∃x,l.lookup x=some a
 |(z,d)::l,a,hn,h=>by
  rw[List.map_cons,List.nodup_cons]at hn;rcases List.mem_cons.mp h with e|h
  ·exact⟨z,by rw[List.lookup_cons,beq_self_eq_true];exact bp some e.symm⟩
  ·refine ak (mem_lookup hn.2 h) λx hx=>?_;refine⟨x,?_⟩;have:(x==z)=false:=beq_eq_false_iff_ne.mpr λe=>hn.1 (e▸List.mem_map.mpr ⟨(x,a),mem_of_lookup hx,rfl⟩);rw[List.lookup_cons,this];exact hx
theorem CO{c:Cx}(H:aq c A env s₀ s m)(C:Cl env s₀ s k)(hn:(env.cells.map (·.1)).Nodup){a:Addr}(ha:a∈fk env):dU s.heap a∧(∃o,s.heap.get? a=some o)∧∀o,s.heap.get? a=some o→∀vs,o.data≠.fields vs:=by
 rcases List.mem_cons.mp ha with rfl|ha
 ·refine⟨fB H.ns,ua H.ns,λo e vs hv=>?_⟩;refine cF H.ns λo' j j e' hd j=>?_;cases aD e' e;rw[hd]at hv;cases hv
 ·refine ak (mem_lookup hn ha) λx hx=>?_;have:=(C.at_ x a hx).2.1;refine⟨Ig this,?_,λo e vs hv=>?_⟩
  ·refine ah this λo' e' j=>?_;exact⟨o',e'⟩
  ·refine ah this λo' e' hd=>?_;cases aD e' e;rw[hd]at hv;cases hv
theorem Cr{a:Addr}(h:a∈ci):∃t∈dM,t.2.1=a:=by
 simp only[ci,List.mem_cons,List.not_mem_nil,or_false]at h;unfold dM;rcases h with rfl|rfl|rfl
 ·exact⟨_,al 0,rfl⟩
 ·exact⟨_,al 1,rfl⟩
 ·exact⟨_,al 2,rfl⟩
noncomputable def KN(P:Params)(a:Addr):Bool:=match(ib P).get a with
 |some o=>!o.isFreed
 |none=>false
theorem TP(P:Params):KN P 1=true:=by kernel_rfl
theorem KO(P:Params):∃o,(ib P).get 1=some o∧alive o=some o:=by
 have h:=TP P;unfold KN at h;cases e:(ib P).get 1 with
 |none=>rw[e]at h;cases h
 |some o=>
  rw[e]at h;exact⟨o,rfl,IY (by simpa using h)⟩
theorem aan:(Mine.rec bG 6).ev [] GJ=.ok (.tuple [bM,aU]):=by kernel_rfl
theorem Ss{h:Heap}{t:Addr×Addr×Str}(x:qW h t):dU h t.2.1:=λc vs ⟨o,e,a1,_,_,a4⟩=>by
 refine ah x λps e' j=>?_;cases aD e' a1;cases a4
theorem WN(k₁:Kept (H1 w.params) h₁)(hk:Kept h₁ s.heap)(H:aq (c0 w h₁) A env s₀ s m)(C:Cl env s₀ s k)(hf:A.frames=some [env])(hn:(env.cells.map (·.1)).Nodup)(GK:∀a∈fk env,705≤a)(rm:aP A 20)
  (kg:env.kindOf "_law_reader"=some .globalImplicit)(kr:ip env "reader")(klo:env.kindOf "loose"=some .local){lo:Expr}{q0 q1 q2 q3 q4 q5 q6:Pos}(hD:mE aH env.scope [] GJ lo=true)
  (oG:env.kindOf "self"≠some .cell)(ji:swappedStores [.Tuple [.Name "reader" q0,.Name "loose" q1] 0 q2] (.Tuple [.Call (.Name "_law_reader" q3) [] [] q4,lo] 0 q5) env=pure none)
  (a7:starEach [.Call (.Name "_law_reader" q3) [] [] q4,lo] env=[(false,eval (.Call (.Name "_law_reader" q3) [] [] q4) env),(false,eval lo env)]){Q:Flow→Shared→Prop}{E₀:Value→Shared→Prop}
  (hq:∀xr aY mr bw N G R s1 s' vl,bu w h₁ (fk env) s s1 xr aY mr bw N G R→aq (c2 w s1.heap (fk env) xr bw N R) A env (qZ s1 (fk env)) s' (upd m "loose" vl)→Cl env (qZ s1 (fk env)) s' (upd k "reader" (.ref xr))→(∀l vs,s.heap.IsList l vs→s'.heap.IsList l vs)→Q .next s'):
  wpAny (model pw w) A (exec (.Assign [.Tuple [.Name "reader" q0,.Name "loose" q1] 0 q2] (.Tuple [.Call (.Name "_law_reader" q3) [] [] q4,lo] 0 q5) q6) env) Q E₀ s:=by
 refine Assign_Tuple (wpAny_Tuple ?_) rfl ji;rw[a7];have e1:eval (.Call (.Name "_law_reader" q3) [] [] q4) env=(eval (.Name "_law_reader" q3) env>>=λfv=>callWith q4 fv [] (backTo q4 (starEach [] env)) []):=rfl;have S0:aN (c0 w h₁) w.params:=(kB k₁).fY rfl;refine ah (cI (LY w.params)) λof F bF=>?_;refine aV ?_;rw[e1];refine aj (H.glob kg rfl (de (S0.st _ H.nx.g) (n3 w.params)) (wa w.params).2.2.2.1 ?_);refine gm (o:=of) (fd:=ai w.params 615) (evalArgs_kw_nil rfl (wpAny_evalAll_nil ⟨⟨(S0.st _ H.nx.g).ok _ _ F.at_ bF,F.data⟩,dq ?_⟩));have tS:∀a∈ci++fk env,∃o,s.heap.get? a=some o:=by
  intro a ha;rcases List.mem_append.mp ha with ha|ha
  ·refine ah (Cr ha) λt ht aao=>?_;subst aao;refine ah (H.nx.g.2 t ht) λps e j=>?_;exact⟨_,e⟩
  ·exact(CO H C hn ha).2.1
 have ex1:∃o,s.heap.get? 1=some o:=by refine ah (KO w.params) λo e hl=>?_;exact⟨o,hk _ _ (k₁ _ _ ((abs_get (by decide) e).trans hl))⟩
 refine Ry k₁ (X0:=1::(ci++fk env)) (λb hb=>(List.mem_cons.mp hb).elim (λq=>q▸ex1) (tS b)) H.nx.g (H.fr jp) (rm.less (by omega)) λxr aY mr bw N G R s1 RD=>?_;have H1:=H.on RD.nx;have C1:=C.on RD.nx;have T:bu w h₁ (fk env) s s1 xr aY mr bw N G R:=⟨RD,k₁,GK,hk,λa ha=>by
  rcases List.mem_append.mp ha with ha|ha
  ·refine ah (Cr ha) λt ht aap=>?_;subst aap;exact Ss (RD.nx.g.2 t ht)
  ·exact(CO H1 C1 hn ha).1,tS⟩
 have H2:=T.fn0 H1 (λa ha=>(CO H1 C1 hn ha).2.2) hf dW;have C2:=Vf (XL:=fk env) C1 λx a e=>bH _ (List.mem_map.mpr ⟨(x,a),mem_of_lookup e,rfl⟩);have S2:=T.fY;refine aV (cG (c:=c2 w s1.heap (fk env) xr bw N R) (E₀:=E₀) T.ob (n:=6) (vs:=[]) (ρ:=[]) (C2.st jp H2 oG (λi x h=>by cases h) (λi x d h=>by cases h) (rm.less (by omega))) (by rw[S2.nm];exact hD) aan λv2 s2 T2 n2=>?_);refine ce ⟨by rw[sizeLine_eq];exact aX,?_⟩;have H3:=H2.on n2;have C3:=C2.on n2;have bx:=Nx.push (ii.push) H3.nx.g {cls:=.type "tuple",data:=.seq [Value.ref xr,v2].toArray} s2.toks;have H4:=H3.on bx;have C4:=C3.on bx;have hT:aQ (s2.heap.push {cls:=.type "tuple",data:=.seq [Value.ref xr,v2].toArray}) s2.heap.objs.size "tuple" [.ref xr,v2]:=aQ.push;refine oS rm.2.2 hT.tuple rfl rfl λh' wp=>?_;have n4:Nx (c2 w s1.heap (fk env) xr bw N R) {s2 with heap:=s2.heap.push {cls:=.type "tuple",data:=.seq [Value.ref xr,v2].toArray}} {s2 with heap:=h'}:=Nx.ext (s:={s2 with heap:=s2.heap.push {cls:=.type "tuple",data:=.seq [Value.ref xr,v2].toArray}}) ii.push H4.nx.g h' s2.toks λb o e=>wp b o (bL (cA e)) e;have nn:=(n2.trans bx).trans n4;refine jE (assign_Name ((C4.on n4).xW ii jp (H4.on n4) kr.1 kr.2 λs5 H5 C5 ⟨a5,h5,Gw,e5,wZ⟩=>?_));refine jE (assign_Name (C5.qN ii jp H5 klo λs6 H6 C6 ⟨t6,h6,e6,hs6⟩=>?_));refine assignInOrder_nil (hq xr aY mr bw N G R s1 s6 v2 T H6 C6 λl vs I=>?_);have I1:=fA nn.keep (fA RD.nx.keep I);have I5:s5.heap.IsList l vs:=by
  subst e5;refine ah I1 λo e r=>?_;refine⟨o,(wZ.2 l ?_).trans e,r⟩
  rintro rfl
  refine ah (((C4.on n4).at_ _ _ Gw).2.1) λo' e' hd=>?_;cases aD e e';refine oW r λj n a8=>?_;rw[hd]at a8;cases a8
 subst e6;refine ah I5 λo e r=>?_;refine⟨o,(hs6.2 l ?_).trans e,r⟩
 rintro rfl
 refine cF H5.ns λo' j j e' hd j=>?_;cases aD e e';refine oW r λj n a8=>?_;rw[hd]at a8;cases a8
end
structure fR(P:Params)(env:Env):Prop where
 sc:env.scope=(ai P 704).scope
 l:∀y∈(["script","loose","reel","ops","turn"]:List Str),env.kindOf y=some .local
 c:∀y∈(["one","op","other","reader"]:List Str),ip env y
 g:∀y∈(["_law_reader","_law_reel","_law_one","_law_tried","range","_law_size_right"]:List Str),env.kindOf y=some .globalImplicit
 self:env.kindOf "self"≠some .cell
def uN(ρ:List (Option D))(eL eR:E):Prop:=∃o dr d2,(Mine.rec bG 37).ev ρ eL=o∧qM o=some dr∧(Mine.rec bG 40).ev ρ eR=.ok d2∧fG bG .NotEq dr d2=some false
noncomputable def gA(a b d e:Option D):List (Option D):=[some (.obj 0),a,b,d,e]
section
variable{c:Cx}{P:Params}{A:Around}{env:Env}{s₀ s s':Shared}{m k:Str→Option Value}{ra xr:Addr}{E₀:Value→Shared→Prop}
theorem fR.c1(K:fR P env):ip env "one"∧ip env "op"∧ip env "other"∧ip env "reader":=⟨K.c _ (al 0),K.c _ (al 1),K.c _ (al 2),K.c _ (al 3)⟩
theorem fR.ops(K:fR P env):env.kindOf "ops"=some .local:=K.l _ (al 3)
theorem CP(H9:av c)(K:fR P env)(H:aq c A env s₀ s m)(C:Cl env s₀ s k){n:Nat}(rm:aP A n)(hr:k "reader"=some (.ref (c.σ 0))){a b d e:Option D}(h1:∀x,a=some x→∃v,k "op"=some v∧Tells c.σ s.heap v x)(h2:∀x,b=some x→∃v,k "one"=some v∧Tells c.σ s.heap v x)
  (h3:∀x,d=some x→∃v,k "other"=some v∧Tells c.σ s.heap v x)(h4:∀x,e=some x→∃v,m "ops"=some v∧Tells c.σ s.heap v x):St c A n env.scope env s.heap fD (gA a b d e):=by
 refine fc K.c1 λc1 c2 c3 c4=>?_;refine C.st H9 H K.self (λi x h=>?_) (λi x y h hd=>?_) rm
 ·match i,h with
  |0,h=>cases h;exact .inr c4
  |1,h=>cases h;exact .inr c2
  |2,h=>cases h;exact .inr c1
  |3,h=>cases h;exact .inr c3
  |4,h=>cases h;exact .inl K.ops
 ·match i,h,hd with
  |0,h,hd=>cases h;cases hd;exact⟨_,.inr ⟨c4.1,hr⟩,.obj 0⟩
  |1,h,hd=>cases h;refine ah (h1 y (au hd)) λv e1 t=>?_;exact⟨v,.inr ⟨c2.1,e1⟩,t⟩
  |2,h,hd=>cases h;refine ah (h2 y (au hd)) λv e1 t=>?_;exact⟨v,.inr ⟨c1.1,e1⟩,t⟩
  |3,h,hd=>cases h;refine ah (h3 y (au hd)) λv e1 t=>?_;exact⟨v,.inr ⟨c3.1,e1⟩,t⟩
  |4,h,hd=>cases h;refine ah (h4 y (au hd)) λv e1 t=>?_;exact⟨v,.inl ⟨K.ops,e1⟩,t⟩
theorem CQ(H9:av c)(K:fR P env)(H:aq c A env s₀ s m)(C:Cl env s₀ s k){n:Nat}(rm:aP A n):St c A n env.scope env s.heap [] []:=C.st H9 H K.self (λi x h=>by cases h) (λi x d h=>by cases h) rm
theorem WQ(O:Ob c)(S:aN c P)(HM:az c)(H9:av c)(HD:cD c)(K:fR P env)(H:aq c A env s₀ s m)(C:Cl env s₀ s k)(rm:aP A 12){l:Addr}{vs:List Value}(hs:m "script"=some (.ref l))(I:s.heap.IsList l vs.toArray)(hi:∀v∈vs,∃i t,v=.int i t)(hlen:vs.length≤1000)
  {q0 q1 q2 q3 q4:Pos}{Q:Flow→Shared→Prop}(hq:∀ra s',Lw c A env s₀ s' (upd m "reel" (.ref ra)) k ra→Q .next s'):
  wpAny c.M A (exec (.Assign [.Name "reel" q0] (.Call (.Name "_law_reel" q1) [.Name "script" q2] [] q3) q4) env) Q E₀ s:=by
 have e1:eval (.Call (.Name "_law_reel" q1) [.Name "script" q2] [] q3) env=(eval (.Name "_law_reel" q1) env>>=λfv=>callWith q3 fv [] (backTo q3 [(false,eval (.Name "script" q2) env)]) []):=rfl;refine gQ ?_ rfl;rw[e1];refine ah (cI (Me P)) λof F2 jl=>?_;have ks:=K.l "script" (al 0);have kr:=K.l "reel" (al 2);refine aj (H.glob (K.g _ (al 1)) rfl (de (S.st _ H.nx.g) (n3 P)) (wa P).2.1 ?_);refine gm (o:=of) (fd:=ai P 573) (dj (aV (H.load ks hs rfl ?_)));refine ce (show(_∧_)∧_ from⟨⟨(S.st _ H.nx.g).ok _ _ F2.at_ jl,F2.data⟩,dq ?_⟩);refine TN O S HM H9 HD H.nx.g (H.fr H9) (rm.less (by omega)) I hi hlen λra s1 n1 GL I1=>?_;have hL:ra≠env.locals:=by refine bC H.ns λo z z e z=>?_;rintro rfl;exact bg GL e
 have hC:∀x a,env.cells.lookup x=some a→a≠ra:=λx a e=>by refine ah ((C.at_ x a e).2.1) λo e' z=>?_;rintro rfl;exact bg GL e'
 refine(C.on n1).qN HM H9 (H.on n1) kr λs2 H2 C2 ⟨tk,h',e,hs⟩=>hq ra s2 ⟨H2,C2,by subst e;exact I1.but hs hL,cT rfl,cO H.nx GL,hL,hC,kr⟩
end
theorem Vg:(Mine.rec bG 12).ev [] (.call 22 [])=.ok (.list cb):=by kernel_rfl
theorem CR:(Mine.rec bG 12).ev [] (kM gY)=.ok (.list gY)∧(Mine.rec bG 12).ev [] (kM aB)=.ok (.list aB)∧(Mine.rec bG 12).ev [] (kM er)=.ok (.list er):=⟨by kernel_rfl,by kernel_rfl,by kernel_rfl⟩
theorem Vh(d:D):(Mine.rec bG 12).ev (gA none none none (some d)) (.var 4)=.ok d:=by kernel_rfl
theorem ou:dK (.list gY)=true∧dK (.list aB)=true∧dK (.list er)=true∧dK (.list cb)=true:=⟨by kernel_rfl,by kernel_rfl,by kernel_rfl,by kernel_rfl⟩
theorem gH:gY.length=4∧aB.length=15∧er.length=2∧cb.length=15:=⟨by kernel_rfl,by kernel_rfl,by kernel_rfl,by kernel_rfl⟩
theorem aaq:(Mine.rec bG 36).ts (gA none none none none) Po=.ok false:=by kernel_rfl
structure Draws:Prop where
 u:∀(i j:Nat) a b,gY[i]?=some a→cb[j]?=some b→uN (gA (some a) (some b) none none) eU qe
 b:∀(i j n:Nat) a b d,aB[i]?=some a→cb[j]?=some b→cb[n]?=some d→uN (gA (some a) (some b) (some d) none) eB aG
 s:∀(i j n:Nat) a b d,er[i]?=some a→cb[j]?=some b→cb[n]?=some d→uN (gA (some a) (some b) (some d) none) eB hV
section
variable{c:Cx}{P:Params}{A:Around}{env:Env}{s₀ s s':Shared}{m k:Str→Option Value}{ra xr:Addr}{E₀:Value→Shared→Prop}
theorem ub(S:aN c P)(H9:av c)(K:fR P env)(hP:c.P=bG)(rm:aP A 12){J:Shared→Prop}{w:Expr}{q0 q1 q2:Pos}(hw:mE aH (ai P 704).scope [] (.call 22 []) w=true)(a7:∀(a:Pos) (env:Env),starEach [.Name "reel" a,w] env=[(false,eval (.Name "reel" a) env),(false,eval w env)]):
  cV.Ok c P A env s₀ m k ra J ⟨w,cb,q0,q1,q2⟩:=by
 refine⟨a7 _ _,λs W z=>⟨12,[],[],.call 22 [],CQ H9 K W.H W.C rm,by rw[K.sc];exact hw,by rw[hP];exact Vg⟩,ou.2.2.2,?_,?_⟩
 ·show 0<cb.length;rw[gH.2.2.2];omega
 ·show cb.length≤1000;rw[gH.2.2.2];omega
theorem JW(S:aN c P)(H9:av c)(K:fR P env)(hP:c.P=bG)(rm:aP A 12){J:Shared→Prop}{w:Expr}{ds:List D}{q0 q1 q2:Pos}(hw:mE aH (ai P 704).scope [] (kM ds) w=true)(he:(Mine.rec bG 12).ev [] (kM ds)=.ok (.list ds))
  (a7:∀(a:Pos) (env:Env),starEach [.Name "reel" a,w] env=[(false,eval (.Name "reel" a) env),(false,eval w env)])(hn:dK (.list ds)=true)(h0:0<ds.length)(h1:ds.length≤1000):cV.Ok c P A env s₀ m k ra J ⟨w,ds,q0,q1,q2⟩:=
 ⟨a7 _ _,λs W z=>⟨12,[],[],kM ds,CQ H9 K W.H W.C rm,by rw[K.sc];exact hw,by rw[hP];exact he⟩,hn,h0,h1⟩
theorem CS(O:Ob c)(S:aN c P)(HM:az c)(H9:av c)(HD:cD c)(HF:c.Flt=ej c.aT c.σ 76)(LM:lW c)(K:fR P env)(hP:c.P=bG)(cq:c.cd env.code env.qual)(W:Lw c A env s₀ s m k ra)(rm:aP A 40)(hr:k "reader"=some (.ref (c.σ 0)))
  {a b d:Option D}(h1:∀x,a=some x→∃v,k "op"=some v∧Tells c.σ s.heap v x)(h2:∀x,b=some x→∃v,k "one"=some v∧Tells c.σ s.heap v x)(h3:∀x,d=some x→∃v,k "other"=some v∧Tells c.σ s.heap v x)
  {eL eR:E}(hG:uN (gA a b d none) eL eR){body R:Expr}{sl:Scope}{q0 q1 q2 q3 q4:Pos}{ret:List Stmt}(hl:gJ noArgs sl=true∧freeOk (ai P 704).scope sl fD=true)(hm:mE aH sl (gK sl fD) eL body=true)(hR:mE aH (ai P 704).scope fD eR R=true∧behindInMarks .NotEq R=false)
  {Q:Flow→Shared→Prop}(hq:∀s',Nx c s s'→Q .next s'):wpAny c.M A (exec (.If (.Compare (.Call (.Name "_law_tried" q0) [.Lambda noArgs body sl q1] [] q2) [.NotEq] [R] q3) ret [] q4) env) Q E₀ s:=by
 refine eT hG λo dr d2 he hd la hc=>?_;rw[←hP]at he la hc;exact TO (P:=P) O S HM H9 HD HF LM W.H (K.g _ (al 3)) cq (CP H9 K W.H W.C rm hr h1 h2 h3 (e:=none) λx h=>by exact aF h) (by omega) hl.1 (by rw[K.sc];exact hl.2) hm he hd (by rw[K.sc];exact hR.1) la hc hR.2 hq
end
section
variable{c:Cx}{P:Params}{A:Around}{env:Env}{s₀ s s':Shared}{m k:Str→Option Value}{ra xr:Addr}{E₀:Value→Shared→Prop}{x:An}
theorem aar{k:Str→Option Value}{v1 v2:Value}:dw k ["op","one"] [v1,v2] "op"=some v1∧dw k ["op","one"] [v1,v2] "one"=some v2∧dw k ["op","one"] [v1,v2] "reader"=k "reader":=
 ⟨nX (i:=0) (by decide) rfl rfl,nX (i:=1) (by decide) rfl rfl,nU (by decide)⟩
theorem Mm{k:Str→Option Value}{v1 v2 v3:Value}:dw k ["op","one","other"] [v1,v2,v3] "op"=some v1∧dw k ["op","one","other"] [v1,v2,v3] "one"=some v2∧
  dw k ["op","one","other"] [v1,v2,v3] "other"=some v3∧dw k ["op","one","other"] [v1,v2,v3] "reader"=k "reader":=
 ⟨nX (i:=0) (by decide) rfl rfl,nX (i:=1) (by decide) rfl rfl,nX (i:=2) (by decide) rfl rfl,nU (by decide)⟩
theorem Oe(K:fR P env){p1 p2 p3:Pos}:∀y∈[((.ofString "op":Str),p1),(.ofString "one",p2),(.ofString "other",p3)],ip env y.1:=by
 refine fc K.c1 λc1 c2 c3 c4=>?_;intro y hy;simp only[List.mem_cons,List.not_mem_nil,or_false]at hy;rcases hy with rfl|rfl|rfl
 ·exact c2
 ·exact c1
 ·exact c3
theorem aev(K:fR P env){p1 p2:Pos}:∀y∈[((.ofString "op":Str),p1),(.ofString "one",p2)],ip env y.1:=by
 refine fc K.c1 λc1 c2 c3 c4=>?_;intro y hy;simp only[List.mem_cons,List.not_mem_nil,or_false]at hy;rcases hy with rfl|rfl
 ·exact c2
 ·exact c1
theorem got{k:Str→Option Value}{y:Str}{v:Value}{a:D}{h:Heap}{σ:Nat→Addr}(e:k y=some v)(t:Tells σ h v a):∀x,some a=some x→∃v,k y=some v∧Tells σ h v x:=λx q=>by cases au q;exact⟨v,e,t⟩
theorem fK{Z:D→Prop}:∀x,(none:Option D)=some x→Z x:=λx q=>by exact aF q
theorem TQ(O:Ob c)(S:aN c P)(HM:az c)(H9:av c)(HD:cD c)(HF:c.Flt=ej c.aT c.σ 76)(LM:lW c)(K:fR P env)(X:Oc P x)(hP:c.P=bG)(cq:c.cd env.code env.qual)(DR:Draws)(H:aq c A env s₀ s m)(C:Cl env s₀ s k)(rm:aP A 60)(hr:k "reader"=some (.ref (c.σ 0)))
  {l:Addr}{vs:List Value}(hs:m "script"=some (.ref l))(I:s.heap.IsList l vs.toArray)(hi:∀v∈vs,∃i t,v=.int i t)(hlen:vs.length≤1000){R:Flow→Shared→Prop}
  (hS:∀s m k ra,Lw c A env s₀ s m k ra→k "reader"=some (.ref (c.σ 0))→wpAny c.M A (eval (.Call (.Name "_law_size_right" (x.q 76)) [.Name "reel" (x.q 77),.Name "reader" (x.q 78)] [] (x.q 79)) env) (λv s'=>R (.ret v) s') E₀ s):
  wpAny c.M A (execs (ug x).tail env) R E₀ s:=by
 unfold ug;rw[List.tail_cons];have hW:aP A 12:=rm.less (by omega);have GO:aP A 40:=rm.less (by omega);have wc:=K.g "_law_one" (al 2);refine aI (eZ (gf O (n:=36) (CP H9 K H C (rm.less (by omega)) hr (a:=none) (b:=none) (d:=none) (e:=none) fK fK fK fK) (by rw[S.nm,K.sc];exact X.t1) (by rw[hP];exact aaq) λs1 n1=>?_));rw[if_neg (by decide)];refine cz ?_;refine aI (WQ O S HM H9 HD K (H.on n1) (C.on n1) hW hs (fA n1.keep I) hi hlen λra s2 W2=>?_);generalize upd m "reel" (.ref ra)=m2 at W2;refine aI (aac O S HM H9 HD W2 hW wc (J:=λw=>True) trivial (λw w w w=>trivial) (JW S H9 K hP hW X.e1 CR.1 (λa env=>(X.lr a env).1) ou.1 (by rw[gH.1];omega) (by rw[gH.1];omega)) (ub S H9 K hP hW X.w1 (λa env=>X.nG a env _ (by simp))) (aev K) (nW K.sc H.kind X.q1) rfl λi1 i2 d1 d2 v1 v2 s3 W3 t3 g1 g2 w w T1 T2=>?_);refine bY (aar (k:=k) (v1:=v1) (v2:=v2)) λu1 u2 u3=>?_;have GP:=u3.trans hr;generalize dw k _ _=k3 at W3 u1 u2 GP;clear u3;refine aI (CS O S HM H9 HD HF LM K hP cq W3 GO GP (got u1 T1) (got u2 T2) fK (DR.u i1 i2 d1 d2 g1 g2) X.l1 X.b1 X.R1 λs4 n4=>?_);have W4:=W3.on n4;refine aI (gQ (cG O (CQ H9 K W4.H W4.C hW) (by rw[S.nm,K.sc];exact X.eo) (by rw[hP];exact CR.2.1) λvo s5 T5 n5=>?_) (X.so _ _ _));refine(W4.on n5).qN HM H9 K.ops (by decide) λs6 W6 t6=>?_;have T6:=t6.t _ _ ou.2.1 T5;have mo:upd m2 "ops" vo "ops"=some vo:=cT rfl;generalize upd m2 "ops" vo=m6 at W6 mo;refine aI (Sr (N:=2) HM H9 (oH S) W6 rm.2.2 (K.l "turn" (al 4)) (by decide) (K.g "range" (al 4)) (by decide) T6 ou.2.1 (Z:=λm k=>m "ops"=some vo∧k "reader"=some (.ref (c.σ 0))) ⟨mo,GP⟩ (λm k v z=>⟨(bD (by decide)).trans z.1,z.2⟩) (λs m k E' W z T=>?_) λs m k W z T=>?_)
 ·refine aI (Mk O S HM H9 HD W hW wc (J:=λs=>Tells c.σ s.heap vo (.list aB)) T (λs s' t j=>t.t _ _ ou.2.1 j) ?_ (ub S H9 K hP hW X.w2 (λa env=>X.nG a env _ (by simp))) (ub S H9 K hP hW X.w3 (λa env=>X.nG a env _ (by simp))) (Oe K) (nW K.sc H.kind X.q2) rfl λi1 i2 i3 d1 d2 d3 v1 v2 v3 s3 W3 t3 g1 g2 g3 T1 T2 T3=>?_)
  ·refine⟨(X.lr _ _).2.1,λs W j=>⟨12,fD,gA none none none (some (.list aB)),.var 4,CP H9 K W.H W.C hW z.2 fK fK fK (got z.1 j),by rw[K.sc];exact X.e2,by rw[hP];exact Vh _⟩,ou.2.1,?_,?_⟩
   ·show 0<aB.length;rw[gH.2.1];omega
   ·show aB.length≤1000;rw[gH.2.1];omega
  refine fc (Mm (k:=k) (v1:=v1) (v2:=v2) (v3:=v3)) λu1 u2 u3 u4=>?_;have qf:=u4.trans z.2;generalize dw k _ _=k3 at W3 u1 u2 u3 qf;clear u4;refine aI (CS O S HM H9 HD HF LM K hP cq W3 GO qf (got u1 T1) (got u2 T2) (got u3 T3) (DR.b i1 i2 i3 d1 d2 d3 g1 g2 g3) X.l2 X.b2 X.R2 λs4 n4=>?_);exact cz ⟨rfl,k3,W3.on n4,⟨z.1,qf⟩,t3.trans (Tk.nx n4)⟩
 ·refine aI (Mk O S HM H9 HD W hW wc (J:=λs=>True) trivial (λw w w w=>trivial) (JW S H9 K hP hW X.e3 CR.2.2 (λa env=>(X.lr a env).2.2) ou.2.2.1 (by rw[gH.2.2.1];omega) (by rw[gH.2.2.1];omega)) (ub S H9 K hP hW X.w4 (λa env=>X.nG a env _ (by simp))) (ub S H9 K hP hW X.w5 (λa env=>X.nG a env _ (by simp))) (Oe K) (nW K.sc H.kind X.q3) rfl λi1 i2 i3 d1 d2 d3 v1 v2 v3 s3 W3 t3 g1 g2 g3 T1 T2 T3=>?_);refine fc (Mm (k:=k) (v1:=v1) (v2:=v2) (v3:=v3)) λu1 u2 u3 u4=>?_;have qf:=u4.trans z.2;generalize dw k _ _=k3 at W3 u1 u2 u3 qf;clear u4;refine aI (CS O S HM H9 HD HF LM K hP cq W3 GO qf (got u1 T1) (got u2 T2) (got u3 T3) (DR.s i1 i2 i3 d1 d2 d3 g1 g2 g3) X.l3 X.b3 X.R3 λs4 n4=>?_);exact aI (fE (hS s4 m k3 ra (W3.on n4) qf))
end
structure GQ where
 a0:Expr
 t1:Expr
 t2:Expr
 z2:List Stmt
 g3:Expr
 k3:Expr
 t4:Expr
 a5:Expr
 t6:Expr
 a6:Expr
 t7:Expr
 w8:Expr
 r9:Expr
 q:Nat→Pos
noncomputable def xX(x:GQ):List Stmt:=[
 .Assign [.Name "entry" (x.q 0)] x.a0 (x.q 1),
 .If x.t1 [.Return (some (.Constant .none 0 (x.q 2))) (x.q 3)] [] (x.q 4),
 .If x.t2 x.z2 [] (x.q 5),
 .Assign [.Name "told" (x.q 6)] (.Call (.Attribute x.g3 "get" (x.q 7)) [x.k3] [] (x.q 8)) (x.q 9),
 .If x.t4 [.Return (some (.Constant .none 0 (x.q 10))) (x.q 11)] [] (x.q 12),
 .Assign [.Name "base" (x.q 13)] x.a5 (x.q 14),
 .If x.t6 [.Assign [.Name "base" (x.q 15)] x.a6 (x.q 16)] [] (x.q 17),
 .If x.t7 [.Return (some (.Constant .none 0 (x.q 18))) (x.q 19)] [] (x.q 20),
 .Assign [.Subscript (.Attribute x.w8 "measured" (x.q 21)) (.Name "entry" (x.q 22)) (x.q 23)] (.Constant (.bool true) 0 (x.q 24)) (x.q 25),
 .Return (some x.r9) (x.q 26)]
noncomputable def arQ:List Pos:=[aa 364 8 13,aa 364 8 65,aa 366 19 23,aa 366 12 23,⟨365,8,366,23⟩,⟨367,8,368,39⟩,aa 369 8 12,aa 369 15 37,aa 369 15 47,aa 369 8 47,aa 371 19 23,aa 371 12 23,⟨370,8,371,23⟩,aa 372 8 12,aa 372 8 39,aa 374 12 16,aa 374 12 46,⟨373,8,374,46⟩,aa 376 19 23,aa 376 12 23,⟨375,8,376,23⟩,aa 377 8 27,aa 377 28 33,aa 377 8 34,aa 377 37 41,aa 377 8 41,aa 378 8 22]
noncomputable def GR:GQ:=⟨(.IfExp (.Compare (.Subscript (.Name "e" (aa 364 41 42)) (.Constant (.int 0) 0 (aa 364 43 44)) (aa 364 41 45)) [.Eq] [(.Constant (.str "name") 0 (aa 364 49 55))] (aa 364 41 55)) (.Call (.Attribute (.Attribute (.Name "self" (aa 364 16 20)) "scope" (aa 364 16 26)) "find" (aa 364 16 31)) [(.Subscript (.Name "e" (aa 364 32 33)) (.Constant (.int 2) 0 (aa 364 34 35)) (aa 364 32 36))] [] (aa 364 16 37)) (.Constant .none 0 (aa 364 61 65)) (aa 364 16 65)),
 (.BoolOp .Or [(.Compare (.Name "entry" (aa 365 11 16)) [.Is] [(.Constant .none 0 (aa 365 20 24))] (aa 365 11 24)),(.Compare (.Subscript (.Name "entry" (aa 365 28 33)) (.Constant (.int 0) 0 (aa 365 34 35)) (aa 365 28 36)) [.NotEq] [(.Constant (.str "global") 0 (aa 365 40 48))] (aa 365 28 48))] (aa 365 11 48)),
 (.Compare (.Attribute (.Attribute (.Name "self" (aa 367 11 15)) "world" (aa 367 11 21)) "settle" (aa 367 11 28)) [.IsNot] [(.Constant .none 0 (aa 367 36 40))] (aa 367 11 40)),
 [(.Expr (.Call (.Attribute (.Attribute (.Name "self" (aa 368 12 16)) "world" (aa 368 12 22)) "settle" (aa 368 12 29)) [(.Subscript (.Name "entry" (aa 368 30 35)) (.Constant (.int 1) 0 (aa 368 36 37)) (aa 368 30 38))] [] (aa 368 12 39)) (aa 368 12 39))],
 (.Attribute (.Attribute (.Name "self" (aa 369 15 19)) "world" (aa 369 15 25)) "globals" (aa 369 15 33)),
 (.Subscript (.Name "entry" (aa 369 38 43)) (.Constant (.int 1) 0 (aa 369 44 45)) (aa 369 38 46)),
 (.Compare (.Name "told" (aa 370 11 15)) [.Is] [(.Constant .none 0 (aa 370 19 23))] (aa 370 11 23)),
 (.Call (.Attribute (.Attribute (.Name "self" (aa 372 15 19)) "world" (aa 372 15 25)) "base_of" (aa 372 15 33)) [(.Name "told" (aa 372 34 38))] [] (aa 372 15 39)),
 (.Compare (.Subscript (.Name "base" (aa 373 11 15)) (.Constant (.int 0) 0 (aa 373 16 17)) (aa 373 11 18)) [.Eq] [(.Constant (.str "ptr") 0 (aa 373 22 27))] (aa 373 11 27)),
 (.Call (.Attribute (.Attribute (.Name "self" (aa 374 19 23)) "world" (aa 374 19 29)) "base_of" (aa 374 19 37)) [(.Subscript (.Name "base" (aa 374 38 42)) (.Constant (.int 1) 0 (aa 374 43 44)) (aa 374 38 45))] [] (aa 374 19 46)),
 (.Compare (.Subscript (.Name "base" (aa 375 11 15)) (.Constant (.int 0) 0 (aa 375 16 17)) (aa 375 11 18)) [.NotEq] [(.Constant (.str "array") 0 (aa 375 22 29))] (aa 375 11 29)),
 (.Attribute (.Name "self" (aa 377 8 12)) "world" (aa 377 8 18)),
 (.Subscript (.Name "base" (aa 378 15 19)) (.Constant (.int 1) 0 (aa 378 20 21)) (aa 378 15 22)),λi=>arQ.getD i (aa 0 0 0)⟩
theorem aas(P:Params):bodyOf (ai P 364)=xX GR:=by kernel_rfl
noncomputable def KP:E:=(.ite (.cmp .Eq (.sub (.var 1) (.lit (.int 0))) (.lit aK)) (.bc (.attr (.var 0) 2) 2 [(.sub (.var 1) (.lit (.int 2)))]) (.lit .none))
noncomputable def CT:E:=(.bl false [(.cmp .Is (.var 2) (.lit .none)),(.cmp .NotEq (.sub (.var 2) (.lit (.int 0))) (.lit ch))])
noncomputable def KQ:E:=(.cmp .IsNot (.attr (.attr (.var 0) 0) 8) (.lit .none))
noncomputable def KR:E:=(.attr (.attr (.var 0) 0) 9)
noncomputable def KS:E:=(.sub (.var 2) (.lit (.int 1)))
noncomputable def CU:E:=(.cmp .Is (.var 3) (.lit .none))
noncomputable def KU:E:=(.bc (.attr (.var 0) 0) 5 [(.var 3)])
noncomputable def CV:E:=(.cmp .Eq (.sub (.var 4) (.lit (.int 0))) (.lit dF))
noncomputable def KV:E:=(.bc (.attr (.var 0) 0) 5 [(.sub (.var 4) (.lit (.int 1)))])
noncomputable def CW:E:=(.cmp .NotEq (.sub (.var 4) (.lit (.int 0))) (.lit cg))
noncomputable def KW:E:=(.attr (.var 0) 0)
noncomputable def KX:E:=(.sub (.var 4) (.lit (.int 1)))
noncomputable def gZ:List (Option Str):=[some "self",some "e",some "entry",some "told",some "base"]
structure ArF(P:Params)(x:GQ):Prop where
 a0:mE aH (ai P 364).scope gZ KP x.a0=true
 t1:mE aH (ai P 364).scope gZ CT x.t1=true
 t2:mE aH (ai P 364).scope gZ KQ x.t2=true
 g3:mE aH (ai P 364).scope gZ KR x.g3=true
 k3:mE aH (ai P 364).scope gZ KS x.k3=true
 t4:mE aH (ai P 364).scope gZ CU x.t4=true
 a5:mE aH (ai P 364).scope gZ KU x.a5=true
 t6:mE aH (ai P 364).scope gZ CV x.t6=true
 a6:mE aH (ai P 364).scope gZ KV x.a6=true
 t7:mE aH (ai P 364).scope gZ CW x.t7=true
 w8:mE aH (ai P 364).scope gZ KW x.w8=true
 r9:mE aH (ai P 364).scope gZ KX x.r9=true
 aew:∀(t:Option Expr) (line:Nat) (env:Env),swapsWith x.a0 t line env=pure false
 aex:∀(t:Option Expr) (line:Nat) (env:Env),swapsWith x.a5 t line env=pure false
 aey:∀(t:Option Expr) (line:Nat) (env:Env),swapsWith x.a6 t line env=pure false
 st:∀env:Env,starEach [x.k3] env=[(false,eval x.k3 env)]
 li:(x.q 7).endLine=(x.q 8).line
 pb:f0 x.g3=true∧f0 x.w8=true
theorem arF(P:Params):ArF P GR:=⟨by kernel_rfl,by kernel_rfl,by kernel_rfl,by kernel_rfl,by kernel_rfl,by kernel_rfl,by kernel_rfl,by kernel_rfl,by kernel_rfl,by kernel_rfl,by kernel_rfl,by kernel_rfl,λz z z=>rfl,λz z z=>rfl,λz z z=>rfl,λz=>rfl,by kernel_rfl,⟨rfl,rfl⟩⟩
theorem aat(P:Params)(r n:Value)(Z:Setting):peek (aC P []) Z (bindArgs (ai P 364) ⟨[r,n],[]⟩)=some ((["self","e"]:List Str).zip [r,n]):=by kernel_rfl
theorem Mn(P:Params):fj P 364 ["self","e","entry","told","base"]=true:=by kernel_rfl
theorem Mo(P:Params):dY P 364=true:=by kernel_rfl
theorem Mp(P:Params):findIn (aC P kC) (.ref 386) "array_size"=some (some (.ref 364))∧typeIn (aC P kC) (.ref 364)=some (.type "function"):=⟨by kernel_rfl,by kernel_rfl⟩
noncomputable def qg:List D:=[(.tuple [(.tuple [aK,(.int 4),(.str [103,97])]),(.int 3)]),(.tuple [(.tuple [aK,(.int 4),(.str [103,112])]),(.int 4)]),(.tuple [(.tuple [aK,(.int 4),(.str [103,110])]),(.int 5)]),(.tuple [(.tuple [aK,(.int 4),(.str [103,114])]),(.int 5)]),(.tuple [(.tuple [aK,(.int 4),(.str [103,113])]),.none]),(.tuple [(.tuple [aK,(.int 4),(.str [103,115])]),.none]),(.tuple [(.tuple [aK,(.int 4),(.str [103,116])]),.none]),(.tuple [(.tuple [aK,(.int 4),(.str [103,101])]),(.int 0)])]
noncomputable def nM:List D:=[(.tuple [(.tuple [aK,(.int 4),(.str [103,97])]),(.int 3)]),(.tuple [(.tuple [aK,(.int 4),(.str [103,112])]),(.int 4)]),(.tuple [(.tuple [aK,(.int 4),(.str [103,110])]),(.int 5)]),(.tuple [(.tuple [aK,(.int 4),(.str [103,114])]),(.int 5)]),(.tuple [(.tuple [aK,(.int 4),(.str [103,113])]),.none]),(.tuple [(.tuple [aK,(.int 4),(.str [103,115])]),.none]),(.tuple [(.tuple [aK,(.int 4),(.str [103,116])]),.none]),(.tuple [(.tuple [aK,(.int 4),(.str [103,101])]),(.int 0)]),(.tuple [(.tuple [aK,(.int 4),(.str [103,104])]),.none]),(.tuple [(.tuple [aK,(.int 4),(.str [118])]),.none]),(.tuple [(.tuple [aK,(.int 4),(.str [110,111])]),.none]),(.tuple [(.tuple [aU,(.int 4),(.int 3)]),.none])]
structure A4 where
 elt:Expr
 it:Expr
 cs:Scope
 rf:Expr
 gy:Expr
 key:Expr
 wd:Expr
 q:Nat→Pos
noncomputable def xY(x:A4):List Stmt:=[
 .Assign [.Name "rows" (x.q 0)] (.ListComp x.elt [⟨.Tuple [.Name "name" (x.q 1),.Name "T" (x.q 2),.Name "due" (x.q 3)] 0 (x.q 4),x.it,[],0⟩] x.cs (x.q 5)) (x.q 6),
 .Assign [.Tuple [.Name "e" (x.q 7),.Name "due" (x.q 8)] 0 (x.q 9)] (cV.text ⟨x.rf,nM,(x.q 10),(x.q 11),(x.q 12)⟩) (x.q 13),
 .Assign [.Name "noted" (x.q 14)] (.IfExp x.gy (.Dict [some x.key] [.Constant (.bool true) 0 (x.q 15)] (x.q 16)) (.Dict [] [] (x.q 17)) (x.q 18)) (x.q 19),
 .Return (some (.BoolOp .And [.Compare (.Call (.Attribute (.Name "reader" (x.q 20)) "array_size" (x.q 21)) [.Name "e" (x.q 22)] [] (x.q 23)) [.Eq] [.Name "due" (x.q 24)] (x.q 25),.Compare (.Attribute x.wd "measured" (x.q 26)) [.Eq] [.Name "noted" (x.q 27)] (x.q 28)] (x.q 29))) (x.q 30)]
noncomputable def szQ:List Pos:=[aa 649 4 8,aa 649 41 45,aa 649 47 48,aa 649 50 53,aa 649 41 53,aa 649 11 72,aa 649 4 72,aa 650 4 5,aa 650 7 10,aa 650 4 10,aa 650 13 21,aa 650 22 26,aa 650 13 139,aa 650 4 139,aa 651 4 9,aa 651 41 45,aa 651 12 46,aa 651 71 73,aa 651 12 73,aa 651 4 73,aa 652 11 17,aa 652 11 28,aa 652 29 30,aa 652 11 31,aa 652 35 38,aa 652 11 38,aa 652 43 64,aa 652 68 73,aa 652 43 73,aa 652 11 73,aa 652 4 73]
noncomputable def GS:A4:=⟨(.Tuple [(.Tuple [(.Constant (.str "name") 0 (aa 649 14 20)),(.Constant (.int 4) 0 (aa 649 22 23)),(.Name "name" (aa 649 25 29))] 0 (aa 649 13 30)),(.Name "due" (aa 649 32 35))] 0 (aa 649 12 36)),
 (.Call (.Name "_law_globals" (aa 649 57 69)) [] [] (aa 649 57 71)),
 ⟨.function,[(.ofString ".0",.local),(.ofString "name",.local),(.ofString "T",.local),(.ofString "due",.local)],false,false,[]⟩,
 (.BinOp (.Name "rows" (aa 650 28 32)) .Add (.List [(.Tuple [(.Tuple [(.Constant (.str "name") 0 (aa 650 38 44)),(.Constant (.int 4) 0 (aa 650 46 47)),(.Constant (.str "gh") 0 (aa 650 49 53))] 0 (aa 650 37 54)),(.Constant .none 0 (aa 650 56 60))] 0 (aa 650 36 61)),(.Tuple [(.Tuple [(.Constant (.str "name") 0 (aa 650 65 71)),(.Constant (.int 4) 0 (aa 650 73 74)),(.Constant (.str "v") 0 (aa 650 76 79))] 0 (aa 650 64 80)),(.Constant .none 0 (aa 650 82 86))] 0 (aa 650 63 87)),(.Tuple [(.Tuple [(.Constant (.str "name") 0 (aa 650 91 97)),(.Constant (.int 4) 0 (aa 650 99 100)),(.Constant (.str "no") 0 (aa 650 102 106))] 0 (aa 650 90 107)),(.Constant .none 0 (aa 650 109 113))] 0 (aa 650 89 114)),(.Tuple [(.Tuple [(.Constant (.str "int") 0 (aa 650 118 123)),(.Constant (.int 4) 0 (aa 650 125 126)),(.Constant (.int 3) 0 (aa 650 128 129))] 0 (aa 650 117 130)),(.Constant .none 0 (aa 650 132 136))] 0 (aa 650 116 137))] (aa 650 35 138)) (aa 650 28 138)),
 (.Compare (.Name "due" (aa 651 50 53)) [.IsNot] [(.Constant .none 0 (aa 651 61 65))] (aa 651 50 65)),
 (.Tuple [(.Constant (.str "global") 0 (aa 651 14 22)),(.BinOp (.Constant (.str "main.") 0 (aa 651 24 31)) .Add (.Subscript (.Name "e" (aa 651 34 35)) (.Constant (.int 2) 0 (aa 651 36 37)) (aa 651 34 38)) (aa 651 24 38))] 0 (aa 651 13 39)),
 (.Attribute (.Name "reader" (aa 652 43 49)) "world" (aa 652 43 55)),λi=>szQ.getD i (aa 0 0 0)⟩
theorem aau(P:Params):bodyOf (ai P 697)=xY GS:=by kernel_rfl
noncomputable def Cs:E:=(.tup [(.tup [(.lit aK),(.lit (.int 4)),(.var 0)]),(.var 1)])
noncomputable def KY:E:=(.call 34 [])
noncomputable def IF:E:=(.bin .Add (.var 0) (.lst [(.tup [(.tup [(.lit aK),(.lit (.int 4)),(.lit (.str [103,104]))]),(.lit .none)]),(.tup [(.tup [(.lit aK),(.lit (.int 4)),(.lit (.str [118]))]),(.lit .none)]),(.tup [(.tup [(.lit aK),(.lit (.int 4)),(.lit (.str [110,111]))]),(.lit .none)]),(.tup [(.tup [(.lit aU),(.lit (.int 4)),(.lit (.int 3))]),(.lit .none)])]))
noncomputable def Ct:E:=(.cmp .IsNot (.var 1) (.lit .none))
noncomputable def JX:E:=(.tup [(.lit ch),(.bin .Add (.lit (.str [109,97,105,110,46])) (.sub (.var 0) (.lit (.int 2))))])
noncomputable def CX:E:=(.attr (.var 0) 0)
noncomputable def Ao:List (Option Str):=[some "name",some "due"]
noncomputable def Of:List (Option Str):=[some "rows"]
noncomputable def Fd:List (Option Str):=[some "e",some "due"]
noncomputable def aez:List (Option Str):=[some "reader"]
structure Pq(P:Params)(x:A4):Prop where
 elt:mE aH x.cs Ao Cs x.elt=true
 it:mE aH (ai P 697).scope [] KY x.it=true
 rf:mE aH (ai P 697).scope Of IF x.rf=true
 gy:mE aH (ai P 697).scope Fd Ct x.gy=true
 key:mE aH (ai P 697).scope Fd JX x.key=true
 wd:mE aH (ai P 697).scope aez CX x.wd=true
 st:∀(a:Pos) (env:Env),starEach [.Name "reel" a,x.rf] env=[(false,eval (.Name "reel" a) env),(false,eval x.rf env)]
 cs:x.cs=⟨.function,[(.ofString ".0",.local),(.ofString "name",.local),(.ofString "T",.local),(.ofString "due",.local)],false,false,[]⟩
 ln:(x.q 0).line=(x.q 5).line
 li:(x.q 21).endLine=(x.q 23).line
 pb:f0 x.wd=true
 fo:∀v,∀env:Env,foldedSetIterable x.it env v=pure v
theorem szF(P:Params):Pq P GS:=⟨by kernel_rfl,by kernel_rfl,by kernel_rfl,by kernel_rfl,by kernel_rfl,by kernel_rfl,λz z=>rfl,rfl,by kernel_rfl,by kernel_rfl,rfl,λz z=>rfl⟩
theorem aav(P:Params)(r n:Value)(Z:Setting):peek (aC P []) Z (bindArgs (ai P 697) ⟨[r,n],[]⟩)=some ((["reel","reader"]:List Str).zip [r,n]):=by kernel_rfl
theorem Mq(P:Params):fj P 697 ["reel","reader","due","rows","e","noted"]=true:=by kernel_rfl
theorem Mr(P:Params):dY P 697=true:=by kernel_rfl
theorem aaw(P:Params):Od P 697 ["_law_globals","_law_one"]=true:=by kernel_rfl
theorem aax(P:Params):(ai P 697).scope.names.lookup ("self":Str)=none∧(ai P 364).scope.names.lookup ("self":Str)=some .local:=⟨by kernel_rfl,by kernel_rfl⟩
section
variable{prog:Program}{w:PySem.World}{A:Around}{E:Value→Shared→Prop}{s:Shared}
abbrev KT(prog:Program)(w:PySem.World):HeapKind prog w (List Str):=tupleKind (strKind prog w)
theorem eqTrue{Q:Bool→Shared→Prop}(h:Q true s):wpAny (model prog w) A (eqBool (.bool true) (.bool true)) Q E s:=by
 unfold eqBool
 try with_reducible refine eX ?_
 show wpAny _ _ (if(Value.bool true==Value.bool true)=true then _ else _) Q E s;rw[if_pos (by decide)]
 first|exact aj (wpAny_rule (aM h))|exact aM h
theorem aay{nm:String}{a b a1 b1:Addr}{k:List Str}{Q:Bool→Shared→Prop}(hu:A.units<cLine)(ha:(a==sysModules)=false)(hb:(b==sysModules)=false)(da:s.heap.DictOfH (KT prog w) a [(k,a1,.bool true)])(db:s.heap.DictOfH (KT prog w) b [(k,b1,.bool true)])(h:Q true s):
  wpAny (model prog w) A (Builtin.Dict.samePairs nm a b) Q E s:=by
 refine lI da λoa es ep A5 z jY Ps GU hna=>?_;refine lI db λob At Fj wD z GV GW AH hnb=>?_;have iE:es.size=1:=size_of_entries Ps;have aeA:At.size=1:=size_of_entries GW;unfold Builtin.Dict.samePairs Builtin.Dict.showsAll;rw[if_neg (show¬(a==sysModules)=true by rw[ha];exact Bool.false_ne_true),if_neg (show¬(b==sysModules)=true by rw[hb];exact Bool.false_ne_true)];refine aj (aM (aj (aM ?_)));refine aj (wpAny_dictEntries A5 jY ?_);dsimp only;refine aj (wpAny_dictEntries wD GV ?_);rw[iE,aeA,if_neg (by decide)];refine aj (wpAny_dictEpoch A5 jY ?_);refine aj ?_;rw[Std.Legacy.Range.forIn_eq_forIn_range'];simp only[Std.Legacy.Range.size,Nat.sub_zero,Nat.add_sub_cancel,Nat.div_one];refine wpAny_forIn_list _ (λrest q s'=>s'=s∧q=(none,())∧(rest=[0]∨rest=[])) _ ?_ ?_ _ _ ⟨rfl,rfl,.inl rfl⟩
 ·rintro x rest q s' ⟨rfl,rfl,hr⟩
  obtain⟨rfl,rfl⟩:x=0∧rest=[]:=by rcases hr with hr|hr<;>cases hr;exact⟨rfl,rfl⟩
  refine aj (wpAny_dictEntries A5 jY ?_);rw[entry_at Ps 0];show wpAny _ _ (holding [Value.ref a1,Value.bool true] _>>=_) _ _ _;refine aj (eX (aj (wpAny_dictFind_heap (knd:=KT prog w) (k:=k) (a:=a1) hu (GU _ dW) wD GV GW AH hnb (λhno=>absurd rfl (hno 0 (b1,.bool true))) λj p hj=>?_)));have hj0:j=0:=by
   match j,hj with
   |0,_=>rfl
   |j+1,hj=>cases hj
  subst hj0;refine aj (wpAny_dictEntries wD GV ?_);rw[entry_at GW 0];show wpAny _ _ (holding [Value.bool true] (eqBool (.bool true) (.bool true))) _ _ _;refine eX (eqTrue ?_);show wpAny _ _ (if(!true)=true then _ else _) _ _ _;rw[if_neg (by decide)];refine aj (wpAny_dictEpoch A5 jY ?_);rw[if_neg (by simp)];exact aM ⟨rfl,rfl,.inr rfl⟩
 ·rintro q s' ⟨rfl,rfl,hr⟩
  exact aM h
theorem eqH{a b a1 b1:Addr}{k:List Str}{Q:Value→Shared→Prop}(hu:A.units+1<cLine)(ha:(a==sysModules)=false)(hb:(b==sysModules)=false)(da:s.heap.DictOfH (KT prog w) a [(k,a1,.bool true)])(db:s.heap.DictOfH (KT prog w) b [(k,b1,.bool true)])(h:Q (.bool true) s):
  wpAny (model prog w) A (compareOp .Eq (.ref a) (.ref b)) Q E s:=by
 refine wpAny_richCompare_same_room (op:=.Eq) da.typeIs db.typeIs PySem.F.slot_dict_eq (wpAny_call_entry PySem.F.slot_dict_eq da.typeIs PySem.F.entry_dict_eq ?_ (PySem.F.args_dict_eq_2 _ _)) (by omega);show wpAny _ _ (Builtin.Dict.dictSlotArgs "__eq__" ⟨[.ref a,.ref b],[]⟩>>=_) _ _ s;refine aj ?_;unfold Builtin.Dict.dictSlotArgs;refine aj (wpAny_notOrdered_dict da.typeIs ?_);show wpAny _ _ (pure (Value.ref a,Value.ref b)) _ _ s;refine aM ?_;refine aj (wpAny_isInstance (T:="dict") db.typeIs PySem.F.sub_dict_dict ?_);simp only[Bool.not_true,Bool.false_eq_true,if_false];refine aj (aM (aj (aM ?_)));refine aj (aay (by first|exact hu|(show A.units+1<cLine;exact hu)|(simp only[Around.in1];omega)) ha hb da db ?_);refine aM ⟨_,rfl,?_,?_⟩
 ·exact λx=>nomatch x
 ·simpa using h
theorem xh{h h':Heap}{d:Addr}{xs:List (List Str×Addr×Value)}(k:aE h h')(D:h.DictOfH (KT prog w) d xs):h'.DictOfH (KT prog w) d xs:=by
 refine lI D λo es ep e hc hd he GX hn=>?_;refine eV (k.2 _ _ e) λo' e' c' d' f' z s'=>?_;have Aj:=f' λvs q=>by rw[hd]at q;cases q
 have bk:o.cls≠.type "frame":=by rw[hc.1];decide
 refine⟨o',es,ep,e',⟨c'.trans hc.1,d'.trans hc.2.1,(s' bk).trans hc.2.2⟩,Aj.trans hd,he,λx hx=>?_,hn⟩;refine eT (GX x hx) λok items n e1 h1 h2 h3=>?_;refine eV (k.2 _ _ e1) λok' GI c1' z f1' z z=>?_;exact⟨ok',items,n,GI,c1'.trans h1,(f1' λvs q=>by rw[h2]at q;cases q).trans h2,h3⟩
end
noncomputable def fp(e:D)(a b d:Option D):List (Option D):=[some (.obj 0),some e,a,b,d]
def Ar7(P:bJ)(e en to b:D)(d:D)(w0:List Nat×List Nat)(wr:Option (List Nat×List Nat)):Prop:=
 ((Mine.rec P 30).ts (fp e (some en) (some to) (some b)) CW=.ok true∧d=.none∧wr=none)∨((Mine.rec P 30).ts (fp e (some en) (some to) (some b)) CW=.ok false∧(Mine.rec P 30).ev (fp e (some en) (some to) (some b)) KX=.ok d∧wr=some w0)
def Ar6(P:bJ)(e en to b0 b1:D):Prop:=
 ((Mine.rec P 30).ts (fp e (some en) (some to) (some b0)) CV=.ok false∧b1=b0)∨((Mine.rec P 30).ts (fp e (some en) (some to) (some b0)) CV=.ok true∧(Mine.rec P 30).ev (fp e (some en) (some to) (some b0)) KV=.ok b1)
def Ar4(P:bJ)(e en:D)(w0:List Nat×List Nat)(d:D)(wr:Option (List Nat×List Nat))(to:D):Prop:=
 ((Mine.rec P 30).ts (fp e (some en) (some to) none) CU=.ok true∧d=.none∧wr=none)∨
 ((Mine.rec P 30).ts (fp e (some en) (some to) none) CU=.ok false∧∃b0 b1,(Mine.rec P 30).ev (fp e (some en) (some to) none) KU=.ok b0∧Ar6 P e en to b0 b1∧Ar7 P e en to b1 d w0 wr)
def Dq(P:bJ)(l:List (List Nat×D))(e d:D)(wr:Option (List Nat×List Nat)):Prop:=
 ∃en,(Mine.rec P 30).ev (fp e none none none) KP=.ok en∧
  (((Mine.rec P 30).ts (fp e (some en) none none) CT=.ok true∧d=.none∧wr=none)∨
     ((Mine.rec P 30).ts (fp e (some en) none none) CT=.ok false∧(Mine.rec P 30).ts (fp e (some en) none none) KQ=.ok false∧∃g key,en=.tuple [.str g,.str key]∧(Mine.rec P 30).ev (fp e (some en) none none) KR=.ok (.obj 6)∧
   (Mine.rec P 30).ev (fp e (some en) none none) KS=.ok (.str key)∧(Mine.rec P 30).ev (fp e (some en) none none) KW=.ok (.obj 1)∧Ar4 P e en (g,key) d wr ((look key l).getD .none)))
structure py(c:Cx)(dm:Addr)(l:List (List Nat×D)):Prop where
 hJ:c.P.dict 6=some l
 w:∃cw mw,(∀h,c.G h→aJ h (c.σ 1) cw 562 mw)∧mw "measured"=some (.ref dm)
 st:¬c.aT dm
 sys:(dm==sysModules)=false
section
variable{c:Cx}{P:Params}{A:Around}{env:Env}{s₀ s s':Shared}{m:Str→Option Value}{E₀:Value→Shared→Prop}{dm:Addr}{l:List (List Nat×D)}
theorem Hk{o:Expr}{x:Str}{q:Pos}{Q:Value→Shared→Prop}(hp:f0 o=true)(h:wpAny c.M A (eval o env) (λov s1=>wpAny c.M A (getAttr ov x true) Q E₀ s1) E₀ s):wpAny c.M A (eval (.Attribute o x q) env) Q E₀ s:=by
 have e0:eval (.Attribute o x q) env=(attributeBase o x env (eval o env)>>=λov=>(standAt q.atName>>=λz=>(do let r←holding [ov] (getAttr ov x true);letTemporaryGo o ov r;pure r))):=rfl;rw[e0,xg hp];refine aj (aL h (λov s1 h1=>aj (iW ?_)) λz z q=>q);exact aj (eX (aL h1 (λr s2 h2=>aj (wpAny_letTemporaryGo (aM h2))) λz z q=>q))
theorem aq.qO(HM:az c)(H9:av c)(H:aq c A env s₀ s m){x:Str}{v:Value}{Q:Unit→Shared→Prop}(kl:env.kindOf x=some .local)(hd:s.heap.get? dm=some emptyDict)(bk:dm≠env.locals)
  (hq:∀s',aq c A env s₀ s' (upd m x v)→(∀v d,Tells c.σ s.heap v d→Tells c.σ s'.heap v d)→s'.heap.get? dm=some emptyDict→Q () s'):wpAny c.M A (storeName env x v) Q E₀ s:=
 H.store HM H9 kl λs' H' ⟨tk,h',e,hs⟩=>hq s' H' (λv d t=>by subst e;exact t.seq (cJ.sameBut hs (fB H.ns))) (by subst e;exact(hs.2 _ bk).trans hd)
theorem oM(H9:av c)(K:∀y∈(["self","e","entry","told","base"]:List Str),env.kindOf y=some .local)(H:aq c A env s₀ s m){n:Nat}(rm:aP A n){e:D}{a b d:Option D}(h0:m "self"=some (.ref (c.σ 0)))
  (h1:∃v,m "e"=some v∧Tells c.σ s.heap v e)(h2:∀x,a=some x→∃v,m "entry"=some v∧Tells c.σ s.heap v x)(h3:∀x,b=some x→∃v,m "told"=some v∧Tells c.σ s.heap v x)(h4:∀x,d=some x→∃v,m "base"=some v∧Tells c.σ s.heap v x):St c A n env.scope env s.heap gZ (fp e a b d):=by
 have k0:=K _ (al 0);refine H.st H9 (by rw[k0];decide) (λi x h=>K x ?_) (λi x y h hd=>?_) rm
 ·match i,h with
  |0,h=>cases h;exact al 0
  |1,h=>cases h;exact al 1
  |2,h=>cases h;exact al 2
  |3,h=>cases h;exact al 3
  |4,h=>cases h;exact al 4
 ·match i,h,hd with
  |0,h,hd=>cases h;cases hd;exact⟨_,h0,.obj 0⟩
  |1,h,hd=>cases h;cases hd;exact h1
  |2,h,hd=>cases h;exact h2 y (au hd)
  |3,h,hd=>cases h;exact h3 y (au hd)
  |4,h,hd=>cases h;exact h4 y (au hd)
theorem KZ{h:Heap}{v:Value}{g key:List Nat}(T:Tells c.σ h v (.tuple [.str g,.str key])):∃a,v=.ref a∧(KT c.prog c.w).is h [ao g,ao key] a:=by
 cases T with
 |@tuple a us _ x r=>
  refine bW x λo n e h1 z h2=>?_;cases r with
  |cons r1 r=>
   cases r with
   |cons r2 r=>
    cases r;cases r1;cases r2;exact⟨a,rfl,o,_,n,e,h1,h2,.cons (eK _ _ _ _) (.cons (eK _ _ _ _) .nil)⟩
end
section
variable{c:Cx}{P:Params}{A:Around}{env:Env}{s₀ s s':Shared}{m:Str→Option Value}{E₀:Value→Shared→Prop}{dm:Addr}{l:List (List Nat×D)}
theorem WR(O:Ob c)(S:aN c P)(HD:cD c)(AR:py c dm l){n:Nat}{vs:List (Option Str)}{ρ:List (Option D)}(F:St c A n env.scope env s.heap vs ρ){g k:Expr}{eg ek:E}{key:List Nat}{q1 q2:Pos}(hg:mE aH env.scope vs eg g=true)(hk:mE aH env.scope vs ek k=true)
  (eg_:(Mine.rec c.P n).ev ρ eg=.ok (.obj 6))(ek_:(Mine.rec c.P n).ev ρ ek=.ok (.str key))(hp:f0 g=true)(a7:starEach [k] env=[(false,eval k env)])(fV:q1.endLine=q2.line)
  {Q:Value→Shared→Prop}(hq:∀v s',Tells c.σ s'.heap v ((look key l).getD .none)→Nx c s s'→Q v s'):wpAny c.M A (eval (.Call (.Attribute g "get" q1) [k] [] q2) env) Q E₀ s:=by
 refine Jm (HD 6 l AR.hJ) λc6 ks us ds el hlen hG=>?_;refine lG (c:=c) (es:=[]) fV hp aX (by rw[a7];rfl) (cG O F (by rw[S.nm];exact hg) eg_ λv1 s1 T1 n1 pl=>?_);obtain rfl:v1=.ref (c.σ 6):=by cases T1;rfl
 have D1:=(hG _ n1.g).1;refine getMethod_builtin D1.typeIs PySem.F.plainAttrs_dict rj PySem.F.type_dict_get D1.mapOf.noDict ?_;rw[a7];refine jF rfl (dj (aV (cG O (F.nx n1) (by rw[S.nm];exact hk) ek_ λv2 s2 T2 n2=>ce ?_)));obtain⟨t,rfl⟩:∃t,v2=.str (ao key) t:=by cases T2;exact⟨_,rfl⟩
 refine am (λD2 TL=>?_) (hG _ n2.g);refine call_meetsIn rj D2.typeIs PySem.F.entry_dict_get (PySem.F.args_dict_get_2 _ _) (meets_dict_get (strKind c.prog c.w) (c.σ 6) (eK _ _ _ _) c6) ⟨_,D2.mapOf,?_⟩;refine am (λv1 v2=>?_) (qj key TL hlen);rw[←el]at v1 v2;have bx:=(n1.trans n2).trans (Nx.tok n2.g (s2.toks+1));cases hz:look key l with
 |none=>
  rw[v1 hz];rw[hz]at hq;exact hq _ _ .none bx
 |some z=>
  refine ah (v2 z hz) λv hv tv=>?_;rw[hv];rw[hz]at hq;exact hq _ _ tv bx
theorem WS(O:Ob c)(S:aN c P)(HM:az c)(H9:av c)(AR:py c dm l)(H:aq c A env s₀ s m){n:Nat}{vs:List (Option Str)}{ρ:List (Option D)}(F:St c A n env.scope env s.heap vs ρ){w8:Expr}{e8:E}{q1 q2 q3 q4 q5:Pos}(h8:mE aH env.scope vs e8 w8=true)
  (e8_:(Mine.rec c.P n).ev ρ e8=.ok (.obj 1))(hp:f0 w8=true)(ke:env.kindOf "entry"=some .local){v:Value}{g key:List Nat}(me:m "entry"=some v)(T:Tells c.σ s.heap v (.tuple [.str g,.str key]))(hd:s.heap.get? dm=some emptyDict)(h0:s₀.heap.get? dm=none)(bk:dm≠env.locals)
  {Q:Flow→Shared→Prop}(hq:∀a s',aq c A env s₀ s' m→Nl c dm s s'→s'.heap.DictOfH (KT c.prog c.w) dm [([ao g,ao key],a,.bool true)]→Q .next s'):
  wpAny c.M A (exec (.Assign [.Subscript (.Attribute w8 "measured" q1) (.Name "entry" q2) q3] (.Constant (.bool true) 0 q4) q5) env) Q E₀ s:=by
 refine aO AR.w λcw mw hI hm=>?_;have CK:=j1 P;refine rk (rg ?_);refine Hk hp (cG O F (by rw[S.nm];exact h8) e8_ λv1 s1 T1 n1=>?_);obtain rfl:v1=.ref (c.σ 1):=by cases T1;rfl
 refine lE (cC (S.st _ n1.g) (dQ P)) CK.cls (hI _ n1.g) (CK.none_ _ (al 13)) hm rfl ?_;have n2:=n1.trans (Nx.tok n1.g (s1.toks+1));have H2:=H.on n2;refine H2.load ke me rfl ?_;obtain⟨a,rfl,hk⟩:=KZ (T.keep n2.keep);have hd2:({s1 with toks:=s1.toks+1}:Shared).heap.get? dm=some emptyDict:=cx n2.keep hd (λvs q=>by cases q) cy;have D2:({s1 with toks:=s1.toks+1}:Shared).heap.DictOfH (KT c.prog c.w) dm []:=⟨_,#[],0,hd2,⟨rfl,rfl,rfl⟩,rfl,rfl,λj hx=>(by cases hx),List.nodup_nil⟩;refine wpAny_setItem_heap (knd:=KT c.prog c.w) (k:=[ao g,ao key]) (show A.in1.units<cLine by have:=F.r.2.1;show A.units+1<cLine;omega) hk D2 (λh' D' hs=>?_) (by rw[sizeLine_eq];exact gO _);have gx:c.G h':=HM _ _ (λb o st e=>(hs.2 b (by rintro rfl;exact AR.st st)).trans e) (λb o e j hv=>⟨o,(hs.2 b (by rintro rfl;refine ak hv λvs hv=>?_;cases aD hd2 e;cases hv)).trans e,rfl,rfl⟩) n2.g;have bx:Nl c dm {s1 with toks:=s1.toks+1} {s1 with heap:=h',toks:=s1.toks+1+(KT c.prog c.w).draws [ao g,ao key]}:=fM (s:={s1 with toks:=s1.toks+1}) gx λb o q e=>(hs.2 b q).trans e;refine hq a _ (H2.nl bx h0 bk) ?_ D';exact(bx.nx (s₀:=less s dm) (Heap.hide_self _ _) ((j3 H.nx.g).trans n2))
end
section
variable{c:Cx}{P:Params}{A:Around}{s:Shared}{dm:Addr}{l:List (List Nat×D)}
def Left(c:Cx)(dm:Addr)(wr:Option (List Nat×List Nat))(s':Shared):Prop:=match wr with
 |none=>s'.heap.get? dm=some emptyDict
 |some w=>∃a,s'.heap.DictOfH (KT c.prog c.w) dm [([ao w.1,ao w.2],a,.bool true)]
theorem TR(O:Ob c)(S:aN c P)(HM:az c)(H9:av c)(HD:cD c)(AR:py c dm l){ve:Value}{e d:D}{wr:Option (List Nat×List Nat)}{R:Result→Shared→Prop}(g:c.G s.heap)(fr:bI c A s.heap)(rm:aP A 34)(hd:s.heap.get? dm=some emptyDict)(T:Tells c.σ s.heap ve e)(Z:Dq c.P l e d wr)
  (hq:∀v s',Nl c dm s s'→Tells c.σ s'.heap v d→Left c dm wr s'→R (.ok (.ret v)) s'):codeAny c.M A (.call (.ref 364) ⟨[.ref (c.σ 0),ve],[]⟩) R s:=by
 refine ah (cI (Mo P)) λof F bF=>?_;have X:=arF P;have Y:=aas P;generalize GR=x at X Y;have nf:∀o,s.heap.get? dm=some o→∀vs,o.data≠.fields vs:=λo e vs q=>by cases aD hd e;cases q
 have g0:=qK (d:=dm) HM g AR.st nf;refine call_plain HM.push H9 (eI S) S.st F bF (s₀:=less s dm) g0 (j3 g) (qC fr λo e=>by cases aD hd e;exact cy) (by have:=rm.1;omega) (l:=[]) rfl (aat P (.ref (c.σ 0)) ve)
  (λy hy=>bQ (Mn P) (oU (i:=2) (fP (a:=y.1) (b:=y.2) hy).1)) λenv s1 ay hL k1 n1 H1=>?_
 have K:∀y∈(["self","e","entry","told","base"]:List Str),env.kindOf y=some .local:=λy hy=>by show env.scope.names.lookup y=_;rw[ay];exact bQ (Mn P) hy
 have k0:=K _ (al 0);have ke:=K _ (al 1);have kn:=K _ (al 2);have kt:=K _ (al 3);have kb:=K _ (al 4);have m0:=bR (k:=env.kindOf) (ps:=["self","e"]) (us:=[.ref (c.σ 0),ve]) (i:=0) (x:="self") (aR (by kernel_rfl)) rfl rfl k0;have me:=bR (k:=env.kindOf) (ps:=["self","e"]) (us:=[.ref (c.σ 0),ve]) (i:=1) (x:="e") (aR (by kernel_rfl)) rfl rfl ke;generalize bindL env.kindOf _ _=m at H1 m0 me;have dC:aP (A.deeper env) 30:=⟨by rw[depth_deeper];have:=rm.1;omega,by rw[units_deeper];have:=rm.2.1;omega,rm.2.2⟩;have hz:(less s dm).heap.get? dm=none:=Heap.hide_self _ _;have bk:dm≠env.locals:=by rw[hL];exact fresh_ne hd
 have pZ:=cx n1.keep hd (λvs q=>by cases q) cy;have T1:=T.keep n1.keep;rw[Y];unfold xX;refine ah Z λen ev0 Z=>?_;refine aI (gQ (cG O (oM H9 K H1 dC m0 ⟨ve,me,T1⟩ fK fK fK) (by rw[S.nm,ay];exact X.a0) ev0 λv2 s2 T2 n2=>?_) (X.aew _ _ _));refine(H1.on n2).qO HM H9 kn (cx n2.keep pZ (λvs q=>by cases q) cy) bk λs3 H3 t3 Pu=>?_;have A6:upd m "entry" v2 "self"=some (.ref (c.σ 0)):=(bD (by decide)).trans m0;have A7:upd m "entry" v2 "e"=some ve:=(bD (by decide)).trans me;have A8:upd m "entry" v2 "entry"=some v2:=cT rfl;have GY:=t3 _ _ (T1.keep n2.keep);have GZ:=t3 _ _ T2;generalize upd m "entry" v2=m3 at H3 A6 A7 A8;clear T2 t3 T1 n2 H1 m0 me;have F3:=oM H9 K H3 dC A6 ⟨ve,A7,GY⟩ (got A8 GZ) (b:=none) (d:=none) fK fK;rcases Z with⟨z1,rfl,rfl⟩|⟨z1,z2,gk,key,rfl,zg,zk,zw,Z⟩
 ·refine aI (eZ (gf O F3 (by rw[S.nm,ay];exact X.t1) z1 λs4 n4=>?_));rw[if_pos rfl];exact aI (fE (lZ (hq _ _ (H3.on n4).nx .none (cx n4.keep Pu (λvs q=>by cases q) cy))))
 refine aI (eZ (gf O F3 (by rw[S.nm,ay];exact X.t1) z1 λs4 n4=>?_));rw[if_neg (by decide)];refine cz ?_;refine aI (eZ (gf O (F3.nx n4) (by rw[S.nm,ay];exact X.t2) z2 λs5 n5=>?_));rw[if_neg (by decide)];refine cz ?_;have G0:=n4.trans n5;refine aI (gQ (WR O S HD AR (F3.nx G0) (by rw[ay];exact X.g3) (by rw[ay];exact X.k3) zg zk X.pb.1 (X.st env) X.li λv6 s6 T6 n6=>?_) rfl);have xc:=G0.trans n6;refine(H3.on xc).qO HM H9 kt (cx xc.keep Pu (λvs q=>by cases q) cy) bk λs7 H7 t7 Pw=>?_;generalize(look key l).getD .none=to at T6 Z;have A9:upd m3 "told" v6 "self"=some (.ref (c.σ 0)):=(bD (by decide)).trans A6;have nN:upd m3 "told" v6 "e"=some ve:=(bD (by decide)).trans A7;have Ba:upd m3 "told" v6 "entry"=some v2:=(bD (by decide)).trans A8;have Bb:upd m3 "told" v6 "told"=some v6:=cT rfl;have G1:=t7 _ _ (GY.keep xc.keep);have G2:=t7 _ _ (GZ.keep xc.keep);have G3:=t7 _ _ T6;generalize upd m3 "told" v6=m7 at H7 A9 nN Ba Bb;clear T6 t7 GY GZ xc G0 n6 n5 n4 F3 H3 A6 A7 A8;have F7:=oM H9 K H7 dC A9 ⟨ve,nN,G1⟩ (got Ba G2) (got Bb G3) (d:=none) fK;rcases Z with⟨z4,rfl,rfl⟩|⟨z4,b0,b1,z5,z6,z7⟩
 ·refine aI (eZ (gf O F7 (by rw[S.nm,ay];exact X.t4) z4 λs8 n8=>?_));rw[if_pos rfl];exact aI (fE (lZ (hq _ _ (H7.on n8).nx .none (cx n8.keep Pw (λvs q=>by cases q) cy))))
 refine aI (eZ (gf O F7 (by rw[S.nm,ay];exact X.t4) z4 λs8 n8=>?_));rw[if_neg (by decide)];refine cz ?_;refine aI (gQ (cG O (F7.nx n8) (by rw[S.nm,ay];exact X.a5) z5 λv9 s9 T9 n9=>?_) (X.aex _ _ _));have tW:=n8.trans n9;refine(H7.on tW).qO HM H9 kb (cx tW.keep Pw (λvs q=>by cases q) cy) bk λs10 Bc xd Og=>?_;have Be:upd m7 "base" v9 "self"=some (.ref (c.σ 0)):=(bD (by decide)).trans A9;have Bf:upd m7 "base" v9 "e"=some ve:=(bD (by decide)).trans nN;have Bg:upd m7 "base" v9 "entry"=some v2:=(bD (by decide)).trans Ba;have Bh:upd m7 "base" v9 "told"=some v6:=(bD (by decide)).trans Bb;have G4:upd m7 "base" v9 "base"=some v9:=cT rfl;have G5:=xd _ _ (G1.keep tW.keep);have G7:=xd _ _ (G2.keep tW.keep);have G8:=xd _ _ (G3.keep tW.keep);have Tab:=xd _ _ T9;generalize upd m7 "base" v9=ma at Bc Be Bf Bg Bh G4;clear T9 xd G1 G2 G3 tW n9 n8 F7 H7 A9 nN Ba Bb;have FA:=oM H9 K Bc dC Be ⟨ve,Bf,G5⟩ (got Bg G7) (got Bh G8) (got G4 Tab);have last:∀(vb:Value) sx mb,aq c (A.deeper env) env (less s dm) sx mb→mb "self"=some (.ref (c.σ 0))→mb "e"=some ve→mb "entry"=some v2→mb "told"=some v6→mb "base"=some vb→Tells c.σ sx.heap ve e→Tells c.σ sx.heap v2 (.tuple [.str gk,.str key])→Tells c.σ sx.heap v6 to→Tells c.σ sx.heap vb b1→sx.heap.get? dm=some emptyDict→
   wpAny c.M (A.deeper env) (execs ((xX x).drop 7) env) (λfl s'=>R (.ok (.ret (match fl with|.ret v=>v|_=>.none))) s') (λz z=>False) sx:=by
  intro vb sx mb H G9 be bn bt bb Te Tn Tt Tb hd;have F:=oM H9 K H dC G9 ⟨ve,be,Te⟩ (got bn Tn) (got bt Tt) (got bb Tb);unfold xX;rcases z7 with⟨z7,rfl,rfl⟩|⟨z7,z9,rfl⟩
  ·refine aI (eZ (gf O F (by rw[S.nm,ay];exact X.t7) z7 λs4 n4=>?_));rw[if_pos rfl];exact aI (fE (lZ (hq _ _ (H.on n4).nx .none (cx n4.keep hd (λvs q=>by cases q) cy))))
  ·refine aI (eZ (gf O F (by rw[S.nm,ay];exact X.t7) z7 λs4 n4=>?_));rw[if_neg (by decide)];refine cz ?_;have H4:=H.on n4;have Px:=Te.keep n4.keep;have Hb:=Tn.keep n4.keep;have Tt4:=Tt.keep n4.keep;have Tb4:=Tb.keep n4.keep;have Py:=cx n4.keep hd (λvs q=>by cases q) cy;refine aI (WS O S HM H9 AR H4 (oM H9 K H4 dC G9 ⟨ve,be,Px⟩ (got bn Hb) (b:=none) (d:=none) fK fK) (by rw[ay];exact X.w8) zw X.pb.2 kn bn Hb Py hz bk λa s5 H5 n5 D5=>?_);have ns:dU s4.heap dm:=λt vs ⟨o,n,e1,_,_,e4⟩=>by cases aD Py e1;cases e4
   refine aI (fE (cG O (oM H9 K H5 dC G9 ⟨ve,be,n5.tells ns Px⟩ (got bn (n5.tells ns Hb)) (got bt (n5.tells ns Tt4)) (got bb (n5.tells ns Tb4))) (by rw[S.nm,ay];exact X.r9) z9 λv s6 T6 n6=>?_));exact hq v s6 (H5.on n6).nx T6 ⟨a,xh n6.keep D5⟩
 rcases z6 with⟨z6,rfl⟩|⟨z6,z8⟩
 ·refine aI (eZ (gf O FA (by rw[S.nm,ay];exact X.t6) z6 λPz lu=>?_));rw[if_neg (by decide)];refine cz ?_;exact last v9 Pz ma (Bc.on lu) Be Bf Bg Bh G4 (G5.keep lu.keep) (G7.keep lu.keep) (G8.keep lu.keep) (Tab.keep lu.keep) (cx lu.keep Og (λvs q=>by cases q) cy)
 ·refine aI (eZ (gf O FA (by rw[S.nm,ay];exact X.t6) z6 λPz lu=>?_));rw[if_pos rfl];refine aI (gQ (cG O (FA.nx lu) (by rw[S.nm,ay];exact X.a6) z8 λv12 s12 T12 n12=>?_) (X.aey _ _ _));have n:=lu.trans n12;refine(Bc.on n).qO HM H9 kb (cx n.keep Og (λvs q=>by cases q) cy) bk λs13 H13 Bi aeB=>cz ?_;exact last v12 s13 _ H13 ((bD (by decide)).trans Be) ((bD (by decide)).trans Bf) ((bD (by decide)).trans Bg) ((bD (by decide)).trans Bh) (cT rfl) (Bi _ _ (G5.keep n.keep)) (Bi _ _ (G7.keep n.keep)) (Bi _ _ (G8.keep n.keep)) (Bi _ _ T12) aeB
end
noncomputable def fz(d:D):Bool:=@D.rec (λw=>Bool) (λw=>Bool) true (λw=>true) (λw=>true) (λw=>true) (λw=>true) (λw b=>b) (λw w=>false) (λw=>true) true (λw w a b=>a&&b) d
noncomputable def fq(ds:List D):Bool:=fz (.tuple ds)
section
variable{c:Cx}{s s':Shared}{X:Addr}
theorem Tells.fz(n:Nl c X s s')(hX:∀t vs,aQ s.heap X t vs→t="list"){v:Value}{d:D}(T:Tells c.σ s.heap v d):Mine.fz d=true→Tells c.σ s'.heap v d:=
 @Tells.rec c.σ s.heap (λv d w=>Mine.fz d=true→Tells c.σ s'.heap v d) (λv d w=>fq d=true→ax c.σ s'.heap v d) (λw=>.none) (λb w=>.bool b) (λi t w=>.int i t) (λx t w=>.str x t) (λb t w=>.bytes b t)
  (λx w i h=>.tuple (n.keep.seq _ _ _ (x.hide (λe=>absurd (hX _ _ (e▸x)) (by decide)))) (i h)) (λw w w h=>aw h) (λj w=>.obj j) (λw=>.nil) (λw w x y n=>.cons (x (a1 n)) (y (a2 n))) v d T
theorem ax.fz(n:Nl c X s s')(hX:∀t vs,aQ s.heap X t vs→t="list"){ds:List D}:∀{vs:List Value},ax c.σ s.heap vs ds→fq ds=true→ax c.σ s'.heap vs ds:=by
 induction ds with
 |nil=>exact λT w=>kE T .nil
 |cons d ds ih=>exact λT h=>fN T λv vs x r=>.cons (x.fz n hX (a1 h)) (ih r (a2 h))
theorem afV{ds:List D}:∀{i:Nat} {d:D},fq ds=true→ds[i]?=some d→fz d=true:=by
 induction ds with
 |nil=>exact λw e=>aF e
 |cons d ds ih=>
  intro i e h k;cases i with
  |zero=>exact au k▸a1 h
  |succ i=>exact ih (a2 h) k
theorem afT{d:D}{ds:List D}(h:fq ds=true)(h2:fz d=true):fq (ds++[d])=true:=by
 induction ds with
 |nil=>exact Bool.and_eq_true_iff.mpr ⟨h2,rfl⟩
 |cons e ds ih=>exact(Bool.and_eq_true_iff (x:=fz e) (y:=fq (ds++[d]))).mpr ⟨a1 h,ih (a2 h)⟩
theorem Q8{σ:Nat→Addr}{h:Heap}{v:Value}{d:D}{vs:List Value}{ds:List D}(T:ax σ h vs ds)(t:Tells σ h v d):ax σ h (vs++[v]) (ds++[d]):=T.append (.cons t .nil)
end
structure Cm(c:Cx)(A:Around)(env:Env)(s₀:Shared)(m:Str→Option Value)(ra dm ia a D' C:Addr)(us:List Value)(ds:List D)(s:Shared)(i:Nat)(ys:List Value)(rs:List D)(mc:Str→Option Value):Prop where
 H:aq c A env s₀ s m
 I:bX s.heap ra
 d:s.heap.get? dm=some emptyDict
 it:s.heap.IsListIter ia a i
 sq:aQ s.heap a "list" us
 tl:ax c.σ s.heap us ds
 ac:aQ s.heap D' "list" ys
 ta:ax c.σ s.heap ys rs
 ns:s.heap.Ns C mc
structure Ca(env:Env)(s₀:Shared)(ra dm ia a D' C:Addr):Prop where
 h0:s₀.heap.get? ia=none∧s₀.heap.get? D'=none∧s₀.heap.get? C=none
 l:ia≠env.locals∧D'≠env.locals∧C≠env.locals
 r:ra≠ia∧ra≠D'∧ra≠C
 d:dm≠ia∧dm≠D'∧dm≠C
 x:ia≠D'∧ia≠C∧D'≠C
 a:a≠D'
section
variable{c:Cx}{A:Around}{env:Env}{s₀ s s':Shared}{m mc:Str→Option Value}{ra dm ia a D' C X:Addr}{us ys:List Value}{ds rs:List D}{i:Nat}
theorem bX.hide{h:Heap}(hr:ra≠X)(I:bX h ra):bX (h.hide X) ra:=by
 refine jw I λi j u v aaz y=>?_;refine ah aaz λo e z=>?_;exact⟨i,j,u,v,⟨o,(dE _ hr).trans e,z⟩,y⟩
theorem Nl.Bj{mx:Str→Option Value}(n:Nl c X s s')(h:C≠X)(x:s.heap.Ns C mx):s'.heap.Ns C mx:=by
 refine bC x λo es ep e r=>?_;exact n.keep.ns ⟨o,es,ep,(dE _ h).trans e,r⟩
theorem Nl.aeC{t:String}{vs:List Value}(n:Nl c X s s')(h:a≠X)(x:aQ s.heap a t vs):aQ s'.heap a t vs:=by
 refine aO x λo k e z=>?_;exact n.keep.seq _ _ _ ⟨o,k,(dE _ h).trans e,z⟩
theorem Cm.on(W:Cm c A env s₀ m ra dm ia a D' C us ds s i ys rs mc)(n:Nx c s s'):Cm c A env s₀ m ra dm ia a D' C us ds s' i ys rs mc:=
 ⟨W.H.on n,W.I.keep n.keep,cx n.keep W.d (λvs q=>by cases q) cy,Nl.iter (a:=s.heap.objs.size) (im W.H.nx.g n) (by refine ah W.it λo e w=>?_;exact fresh_ne e) W.it,W.sq.keep n.keep,W.tl.keep n.keep,W.ac.keep n.keep,W.ta.keep n.keep,n.keep.ns W.ns⟩
theorem Cm.iter(K:Ca env s₀ ra dm ia a D' C)(W:Cm c A env s₀ m ra dm ia a D' C us ds s i ys rs mc)(n:Nl c ia s s'){j:Nat}(it:s'.heap.IsListIter ia a j):Cm c A env s₀ m ra dm ia a D' C us ds s' j ys rs mc:=
 have ns:=BC W.it
 ⟨W.H.nl n K.h0.1 K.l.1,(W.I.hide K.r.1).keep n.keep,n.empty K.d.1 W.d,it,n.seq ns W.sq,n.ju ns W.tl,n.seq ns W.ac,n.ju ns W.ta,n.Bj K.x.2.1.symm W.ns⟩
theorem Cm.name(K:Ca env s₀ ra dm ia a D' C)(W:Cm c A env s₀ m ra dm ia a D' C us ds s i ys rs mc)(n:Nl c C s s'){PA:Str→Option Value}(hn:s'.heap.Ns C PA):Cm c A env s₀ m ra dm ia a D' C us ds s' i ys rs PA:=
 have ns:=fB W.ns
 ⟨W.H.nl n K.h0.2.2 K.l.2.2,(W.I.hide K.r.2.2).keep n.keep,n.empty K.d.2.2 W.d,n.iter K.x.2.1 W.it,n.seq ns W.sq,n.ju ns W.tl,n.seq ns W.ac,n.ju ns W.ta,hn⟩
theorem Cm.more(K:Ca env s₀ ra dm ia a D' C)(W:Cm c A env s₀ m ra dm ia a D' C us ds s i ys rs mc)(n:Nl c D' s s')(h1:fq ds=true)(h2:fq rs=true){ys':List Value}{r:D}{v:Value}(hr:fz r=true)(T:Tells c.σ s.heap v r)(ac:aQ s'.heap D' "list" (ys++[v])):Cm c A env s₀ m ra dm ia a D' C us ds s' i (ys++[v]) (rs++[r]) mc:=
 have hX:∀t vs,aQ s.heap D' t vs→t="list":=λt vs ⟨o,k,e,hc,_⟩=>by
  refine cK W.ac λo' k' e' jP w=>?_;cases aD e e';exact iv (hc.symm.trans jP)
 ⟨W.H.nl n K.h0.2.1 K.l.2.1,(W.I.hide K.r.2.1).keep n.keep,n.empty K.d.2.1 W.d,n.iter K.x.1 W.it,n.aeC K.a W.sq,ax.fz n hX W.tl h1,ac,Q8 (ax.fz n hX W.ta h2) (Tells.fz n hX T hr),n.Bj K.x.2.2.symm W.ns⟩
end
abbrev eF:Scope:=⟨.function,[(.ofString ".0",.local),(.ofString "name",.local),(.ofString "T",.local),(.ofString "due",.local)],false,false,[]⟩
theorem afY(env:Env):relabel eF env=eF:=rfl
theorem TS(env:Env):closureFor eF env=pure []:=rfl
theorem K0:(∀x∈eF.names,x.2≠.cell)∧(∀x∈eF.names,x.2=.local→eF.names.lookup x.1=some .local):=by
 constructor
 ·intro x hx;simp only[List.mem_cons,List.not_mem_nil,or_false]at hx;rcases hx with rfl|rfl|rfl|rfl<;>decide
 ·intro x hx _;simp only[List.mem_cons,List.not_mem_nil,or_false]at hx;rcases hx with rfl|rfl|rfl|rfl<;>rfl
section
variable{c:Cx}{P:Params}{A:Around}{env:Env}{s₀ s s':Shared}{m mc:Str→Option Value}{ra dm ia a D' C X:Addr}{us ys:List Value}{ds rs:List D}{i:Nat}{E₀:Value→Shared→Prop}
theorem Oh(HM:az c)(H9:av c)(bj:c.G s₀.heap)(g:c.G s.heap){mx:Str→Option Value}{h':Heap}(h0:s₀.heap.get? C=none)(n:s.heap.Ns C mx)(hs:∀b o,b≠C→s.heap.get? b=some o→h'.get? b=some o):c.G h':=by
 refine cF n λoi es ep ei hd z=>?_;refine HM _ _ (λb o st e=>hs b o ?_ e) (λb o e tK hv=>⟨o,hs b o ?_ e,rfl,rfl⟩) g
 ·rintro rfl
  refine ak (H9 _ _ bj st) λo' e'=>?_;exact bg h0 e'
 ·rintro rfl
  refine ak hv λvs hv=>?_;cases aD ei e;rw[hd]at hv;cases hv
theorem Cm.store(HM:az c)(H9:av c)(K:Ca env s₀ ra dm ia a D' C)(W:Cm c A env s₀ m ra dm ia a D' C us ds s i ys rs mc){we:Env}(hL:we.locals=C)(hk:we.scope.kind=.function){x:Str}{v:Value}(kx:we.kindOf x=some .local){Q:Unit→Shared→Prop}
  (hq:∀s',Cm c A env s₀ m ra dm ia a D' C us ds s' i ys rs (upd mc x v)→(∀v d,Tells c.σ s.heap v d→Tells c.σ s'.heap v d)→Q () s'):wpAny c.M A (storeName we x v) Q E₀ s:=by
 subst hL;refine tY kx W.ns (λh' hn hs z=>?_) (by rw[hk];rfl);have n:Nl c we.locals s {s with heap:=h',toks:=s.toks+1}:=fM (Oh HM H9 W.H.bj W.H.nx.g K.h0.2.2 W.ns λb o q e=>(hs.2 b q).trans e) λb o q e=>(hs.2 b q).trans e;exact hq _ (W.name K n hn) λv d t=>n.tells (fB W.ns) t
end
section
variable{c:Cx}{P:Params}{A:Around}{env:Env}{s₀ s s':Shared}{m mc:Str→Option Value}{ra dm:Addr}{ds rs:List D}{E₀:Value→Shared→Prop}
def Each(P:bJ)(ds rs:List D)(e:E):Prop:=∀(i:Nat) d,ds[i]?=some d→∃nm T du r,d=.tuple [nm,T,du]∧rs[i]?=some r∧(Mine.rec P 8).ev [some nm,some du] e=.ok r∧fz r=true
theorem take_snoc{α:Type}{l:List α}{i:Nat}{x:α}(h:l[i]?=some x):l.take (i+1)=l.take i++[x]:=by rw[List.take_add_one,h];rfl
theorem TU{ds:List D}:∀{i:Nat},fq ds=true→fq (ds.take i)=true:=by
 induction ds with
 |nil=>exact λw=>by rw[List.take_nil];rfl
 |cons d ds ih=>
  intro i h;cases i with
  |zero=>rfl
  |succ i=>exact(Bool.and_eq_true_iff (x:=fz d) (y:=fq (ds.take i))).mpr ⟨a1 h,ih (a2 h)⟩
section
variable{ia a D' C:Addr}{us ys:List Value}{i:Nat}{v:Value}
theorem Vi(HM:az c){h₁ lv lw:Heap}{tk:Tok}(Ha:aq c A env s₀ s m)(Ia:bX s.heap ra)(jY:s.heap.get? dm=some emptyDict)(sq:aQ s.heap a "list" us)(tl:ax c.σ s.heap us ds)(tX:s.heap.push {cls:=.type "list_iterator",data:=.fields #[.ref a,.int 0 0]}=lv)
  (qh:lv.push {cls:=.type "list",dict:=none,data:=.seq ([]:List Value).toArray}=lw)(oy:h₁.Ns lw.objs.size mc){ob:Obj}(ka:Heap.SameBut lw.objs.size (lw.push ob) h₁):
  Ca env s₀ ra dm s.heap.objs.size a lv.objs.size lw.objs.size∧Cm c A env s₀ m ra dm s.heap.objs.size a lv.objs.size lw.objs.size us ds {s with heap:=h₁,toks:=tk} 0 [] (rs.take 0) mc:=by
 have z1:lv.objs.size=s.heap.objs.size+1:=by rw[←tX,Heap.size_push]
 have z2:lw.objs.size=s.heap.objs.size+2:=by rw[←qh,Heap.size_push,z1]
 have old:∀b o,s.heap.get? b=some o→h₁.get? b=some o:=λb o e=>ka.extBut b o (bL (by rw[z2];exact Nat.lt_of_lt_of_le (cA e) (lY _ _))) (bA _ (qh▸bA _ (tX▸bA _ e)));have bx:Nx c s {s with heap:=h₁,toks:=tk}:=Nx.ext HM.push Ha.nx.g h₁ _ old;have lt:∀{b o},s.heap.get? b=some o→b<s.heap.objs.size:=λe=>cA e;have aeD:h₁.IsListIter s.heap.objs.size a 0:=⟨_,ka.extBut _ _ (by rw[z2];exact bL (gP (oP _))) (bA _ (qh▸bA _ (tX▸dy _ rfl))),rfl,rfl⟩;have aeE:aQ h₁ lv.objs.size "list" []:=⟨_,0,ka.extBut _ _ (by rw[z1,z2];exact bL (oP _)) (bA _ (qh▸dy _ rfl)),rfl,rfl,rfl⟩;have lL:env.locals<s.heap.objs.size:=bC Ha.ns λoL w w eL w=>lt eL;have lR:ra<s.heap.objs.size:=jw Ia λw w w w z w=>ah z λoR eR w=>lt eR;have lA:a<s.heap.objs.size:=aO sq λoA w eA w=>lt eA;have lD:=lt jY;have fr:∀b,s.heap.objs.size≤b→s₀.heap.get? b=none:=λb hb=>cO Ha.nx (cX hb);refine⟨⟨⟨fr _ (dp _),fr _ (by rw[z1];exact lY _ _),fr _ (by rw[z2];exact lY _ _)⟩,⟨(bL lL).symm,by rw[z1];exact(bL (gP lL)).symm,by rw[z2];exact(bL (gP (gP lL))).symm⟩,
  ⟨bL lR,by rw[z1];exact bL (gP lR),by rw[z2];exact bL (gP (gP lR))⟩,⟨bL lD,by rw[z1];exact bL (gP lD),by rw[z2];exact bL (gP (gP lD))⟩,
  ⟨by rw[z1];exact bL (oP _),by rw[z2];exact bL (gP (oP _)),by rw[z1,z2];exact bL (oP _)⟩,by rw[z1];exact bL (gP lA)⟩,Ha.on bx,Ia.keep bx.keep,old _ _ jY,aeD,sq.keep bx.keep,tl.keep bx.keep,aeE,.nil,oy⟩
theorem TV(HM:az c)(H9:av c)(K:Ca env s₀ ra dm ia a D' C)(W:Cm c A env s₀ m ra dm ia a D' C us ds s i ys rs mc){h1:Heap}(pY:∀b o,b≠ia→s.heap.get? b=some o→h1.get? b=some o){x:Str}{q0:Pos}(kx:env.kindOf x=some .local)
  {Q:Flow→Shared→Prop}(hq:∀s',aq c A env s₀ s' (upd m x (.ref D'))→bX s'.heap ra→s'.heap.get? dm=some emptyDict→Tells c.σ s'.heap (.ref D') (.list rs)→Q .next s'):
  wpAny c.M A (assign (.Name x q0) env (.ref D')) (λw aS=>∃m,aS.heap.Ns C m∧∀h',Heap.SameBut C aS.heap h'→Q .next {aS with heap:=h'}) E₀ {s with heap:=h1}:=by
 have n2:Nl c ia s {s with heap:=h1}:=fM (xV HM H9 W.H.bj W.H.nx.g K.h0.1 W.it pY) pY;have ns:=BC W.it;have H2:=W.H.nl n2 K.h0.1 K.l.1;have I2:=(W.I.hide K.r.1).keep n2.keep;have d2:=n2.empty K.d.1 W.d;have L2:Tells c.σ ({s with heap:=h1}:Shared).heap (.ref D') (.list rs):=.list (n2.seq ns W.ac) (n2.ju ns W.ta);have c2:=n2.Bj K.x.2.1.symm W.ns;generalize({s with heap:=h1}:Shared)=s4 at H2 I2 d2 c2 L2⊢;refine assign_Name (H2.store HM H9 kx λs5 H5 z=>aO z λtk h5 e5 wZ=>?_);have n5:Nl c env.locals s4 s5:=by
  have g5:=H5.nx.g;rw[e5]at g5⊢;exact fM g5 λb o q e=>(wZ.2 b q).trans e
 have c5:=n5.Bj K.l.2.2 c2;have I5:=(I2.hide (X:=env.locals) λe=>jw I2 λw w w w z w=>qD z λo e1 w n hd=>cF H2.ns λo' w w e' a8 w=>by rw[e]at e1;cases aD e1 e';rw[hd]at a8;cases a8).keep n5.keep;have d5:=n5.empty (d:=dm) (λe=>cy (H2.cls _ (e▸d2))) d2;have L5:=n5.tells (fB H2.ns) L2;refine⟨mc,c5,λh' c9=>?_⟩;have n6:Nl c C s5 {s5 with heap:=h'}:=fM (tk:=s5.toks) (Oh HM H9 H5.bj H5.nx.g K.h0.2.2 c5 λb o q e=>(c9.2 b q).trans e) λb o q e=>(c9.2 b q).trans e;exact hq _ (H5.nl n6 K.h0.2.2 K.l.2.2) ((I5.hide K.r.2.2).keep n6.keep) (n6.empty K.d.2.2 d5) (n6.tells (fB c5) L5)
theorem TW(O:Ob c)(S:aN c P)(H9:av c)(rm:aP A 14){elt:Expr}{ee:E}{nm du r:D}{v1 v2 v3:Value}(W6:Cm c A env s₀ m ra dm ia a D' C us ds s i ys rs (upd (upd (upd mc "name" v1) "T" v2) "due" v3))(z1:Tells c.σ s.heap v1 nm)(z3:Tells c.σ s.heap v3 du)
  (Hc:mE aH eF Ao ee elt=true)(lk:(Mine.rec c.P 8).ev [some nm,some du] ee=.ok r){Q:Value→Shared→Prop}(hq:∀v s',Tells c.σ s'.heap v r→Nx c s s'→Q v s'):wpAny c.M A (eval elt (compEnvC eF [] C env)) Q E₀ s:=by
 have FC:St c A 8 eF (compEnvC eF [] C env) s.heap Ao [some nm,some du]:=⟨W6.H.nx.g,⟨rfl,rfl,W6.H.bE,W6.H.blt,λq=>(by cases q),λj x hj hc=>?_,λj x d hj hd=>?_⟩,rm.less (by decide),W6.H.fr H9⟩
 ·exact cG O FC (by rw[S.nm];exact Hc) lk hq
 ·rcases j with _|_|j
  ·cases hj;cases hc
  ·cases hj;cases hc
  ·exact aF hj
 ·rcases j with _|_|j
  ·cases hj;cases hd;exact⟨v1,.inl ⟨rfl,_,W6.ns,rfl⟩,z1⟩
  ·cases hj;cases hd;exact⟨v3,.inl ⟨rfl,_,W6.ns,rfl⟩,z3⟩
  ·exact aF hj
theorem TX(HM:az c)(H9:av c)(K:Ca env s₀ ra dm ia a D' C){r:D}(W7:Cm c A env s₀ m ra dm ia a D' C us ds s (i+1) ys (rs.take i) mc)(He:fq ds=true)(Hf:fq rs=true)(hr:rs[i]?=some r)(Hg:fz r=true)(T7:Tells c.σ s.heap v r){h':Heap}(hp:PlainL h' D' (ys.toArray.push v))(hs:Heap.SameBut D' s.heap h'):
  Cm c A env s₀ m ra dm ia a D' C us ds {s with heap:=h'} (i+1) (ys++[v]) (rs.take (i+1)) mc:=by
 refine bW W7.ac λoa na ea ca da Hh=>?_;have n8:Nl c D' s {s with heap:=h'}:=fM (tk:=s.toks) (HM _ _ (λb o st e=>(hs.2 b λq=>ak (H9 _ _ W7.H.bj st) λo' e'=>bg K.h0.2.1 (q▸e')).trans e) (λb o e w hv=>⟨o,(hs.2 b λq=>ak hv λvs hv=>by rw[q]at e;cases aD ea e;rw[Hh]at hv;cases hv).trans e,rfl,rfl⟩) W7.H.nx.g) λb o q e=>(hs.2 b q).trans e;have ac8:aQ h' D' "list" (ys++[v]):=bW hp λo8 k8 e8 c8 d8 dd8=>⟨o8,k8,e8,c8,d8,by rw[dd8,List.push_toArray]⟩;rw[take_snoc hr];exact W7.more K n8 He (TU Hf) (ys':=ys) Hg T7 ac8
end
theorem Su(O:Ob c)(S:aN c P)(HM:az c)(H9:av c)(H:aq c A env s₀ s m)(I:bX s.heap ra)(hd:s.heap.get? dm=some emptyDict)(rm:aP A 14){elt it:Expr}{q0 q1 q2 q3 q4 q5 q6:Pos}{n:Nat}{vs:List (Option Str)}{ρ:List (Option D)}{ei ee:E}
  (F:St c A n env.scope env s.heap vs ρ)(hit:mE aH env.scope vs ei it=true)(ei_:(Mine.rec c.P n).ev ρ ei=.ok (.list ds))(Hc:mE aH eF Ao ee elt=true)(hE:Each c.P ds rs ee)(He:fq ds=true)(Hf:fq rs=true)(hl:ds.length=rs.length)(hz:ds.length≤1000)
  (hf:∀x,foldedSetIterable it env x=pure x)(ji:swapsWith (.ListComp elt [⟨.Tuple [.Name "name" q1,.Name "T" q2,.Name "due" q3] 0 q4,it,[],0⟩] eF q5) (some (.Name "rows" q0)) q6.line env=pure true)(kx:env.kindOf "rows"=some .local)
  {Q:Flow→Shared→Prop}(hq:∀D' s',aq c A env s₀ s' (upd m "rows" (.ref D'))→bX s'.heap ra→s'.heap.get? dm=some emptyDict→Tells c.σ s'.heap (.ref D') (.list rs)→Q .next s'):
  wpAny c.M A (exec (.Assign [.Name "rows" q0] (.ListComp elt [⟨.Tuple [.Name "name" q1,.Name "T" q2,.Name "due" q3] 0 q4,it,[],0⟩] eF q5) q6) env) Q E₀ s:=by
 rw[exec_Assign_Name_used _ _ _ _ ji];refine aj (iW (aj ?_));show wpAny _ A (do let _←comprehension (.ListComp elt [⟨.Tuple [.Name "name" q1,.Name "T" q2,.Name "due" q3] 0 q4,it,[],0⟩] eF q5) eF env _ (newList []) false (eval it env) (some (assign (.Name "rows" q0) env))) _ _ s
 refine aj (aL (wpAny_comprehension_free (use:=some (assign (.Name "rows" q0) env)) (cl:=[]) (Q:=λw s'=>Q .next s') rfl hf (TS env) rfl K0.2 (cG O F (by rw[S.nm];exact hit) ei_ λv s1 T1 n1=>?_)) (λw s' hq=>aM (aM hq)) λw w e=>e);refine oE T1 λa us sq tl=>?_;have Ha:=H.on n1;have Ia:=I.keep n1.keep;have jY:=cx n1.keep hd (λvs q=>by cases q) cy;refine wpAny_pyIter_list sq.list ?_;refine wpAny_newObj_type (wpAny_newFunctionEnv K0.1 (λy hy=>absurd hy List.not_mem_nil) (λh₁ oy ka=>?_) rfl);dsimp only at oy ka⊢;generalize tX:s1.heap.push {cls:=.type "list_iterator",data:=.fields #[.ref a,.int 0 0]}=lv at oy ka⊢;generalize qh:lv.push {cls:=.type "list",dict:=none,data:=.seq ([]:List Value).toArray}=lw at oy ka⊢;refine am (λK W0=>?_) (Vi (rs:=rs) (s₀:=s₀) (tk:=s1.toks+([]:List (Str×Value)).length) HM Ha Ia jY sq tl tX qh oy ka);have hlen:=tl.length;generalize s1.heap.objs.size=ia at K W0;generalize lv.objs.size=D' at K W0⊢;generalize lw.objs.size=C at K W0⊢;generalize({s1 with heap:=h₁,toks:=s1.toks+([]:List (Str×Value)).length}:Shared)=s3 at W0⊢;clear oy ka tX qh T1 sq tl Ha Ia jY n1
 have loop:codeAny c.M A (.compLoop (.ListComp elt [⟨.Tuple [.Name "name" q1,.Name "T" q2,.Name "due" q3] 0 q4,it,[],0⟩] eF q5) 0 (.ref ia) (.ref D') (compEnvC eF [] C env)) (compPost c.M A E₀ (some (assign (.Name "rows" q0) env)) (λw s'=>Q .next s') (.ref D') C) s3:=by
  refine LCp.codeAny_compLoop_pair (λn s'=>∃i ys mc,i+n=ds.length+1∧i≤ds.length∧Cm c A env s₀ m ra dm ia a D' C us ds s' i ys (rs.take i) mc) (λn s' hI=>?_) (ds.length+1) ⟨0,[],_,by omega,gO _,W0⟩;refine cF hI λi ys mc hn Ak W=>?_;cases hv:us[i]?with
  |none=>
   have hle:i=ds.length:=Nat.le_antisymm Ak (hlen▸List.getElem?_eq_none_iff.mp hv);rw[hle,hl,List.take_length]at W;exact wpAny_pyNext_list_end rm.2.2 W.it W.sq.list ((ri ..).trans (by rw[←hl,←hle];exact hv)) λh1 pY=>TV HM H9 K W pY kx λs'=>hq D' s'
  |some u=>
   have dc:i<ds.length:=hlen▸(List.getElem?_eq_some_iff.mp hv).1;refine ak (⟨_,jA dc⟩:∃d,ds[i]?=some d) λd eQ=>J0 (hE i d eQ) λnm TT du r ed hr lk Hg=>?_;subst ed;refine wpAny_pyNext_list_item W.it W.sq.list ((ri ..).trans hv) λh1 fy fW=>?_;have n2:Nl c ia s' {s' with heap:=h1}:=fM (xV HM H9 W.H.bj W.H.nx.g K.h0.1 W.it λb o q e=>(fW.2 b q).trans e) λb o q e=>(fW.2 b q).trans e;have W2:=W.iter K n2 fy;refine Hn fy ?_;refine ah (W2.tl.get eQ) λu' pO tu=>?_;cases aD hv pO;clear W hI fW n2;refine mf tu λb Bk hx tx=>?_;revert hx;refine fN tx λv1 Bk x1 tx=>fN tx λv2 Bk x2 tx=>fN tx λv3 Bk x3 tx=>kE tx λhx=>?_;refine oS rm.2.2 hx.tuple rfl rfl λh2 hk=>?_;have bx:Nx c {s' with heap:=h1} {s' with heap:=h2}:=Nx.ext HM.push W2.H.nx.g h2 s'.toks λb o e=>hk b o (bL (cA e)) e;refine jE (assign_Name ((W2.on bx).store HM H9 K rfl rfl rfl λs4 W4 t4=>?_));refine jE (assign_Name (W4.store HM H9 K rfl rfl rfl λs5 W5 t5=>?_));refine jE (assign_Name (W5.store HM H9 K rfl rfl rfl λs6 W6 t6=>assignInOrder_nil ?_));refine TW O S H9 rm W6 (t6 _ _ (t5 _ _ (t4 _ _ (x1.keep bx.keep)))) (t6 _ _ (t5 _ _ (t4 _ _ (x3.keep bx.keep)))) Hc lk λv s7 T7 n7=>?_;have W7:=W6.on n7;refine bW W7.ac λoa na ea ca da Hh=>list_append_plainL (its:=ys.toArray) ⟨oa,na,ea,ca,da,Hh⟩ (λh' hp hs=>⟨n-1,(xj hn dc).1,i+1,ys++[v],_,(xj hn dc).2,dc,TX HM H9 K W7 He Hf hr Hg T7 hp hs⟩) ?_;rw[sizeLine_eq,List.size_toArray,W7.ta.length,List.length_take];exact eY (eY (Nat.min_le_left _ _) (eY Ak hz)) (aX:1000≤16777216)
 exact codeAny_compStart_list loop (wpAny_pyIter_listiter W0.it loop)
end
def gr(P:bJ)(l:List (List Nat×D))(d:D):Prop:=∃e du wr,d=.tuple [e,du]∧dK e=true∧dK du=true∧Dq P l e du wr∧fG P .Eq du du=some true∧
 (match wr with
   |none=>(Mine.rec P 8).ts [some e,some du] Ct=.ok false
   |some w=>(Mine.rec P 8).ts [some e,some du] Ct=.ok true∧(Mine.rec P 8).ev [some e,some du] JX=.ok (.tuple [.str w.1,.str w.2]))
section
variable{c:Cx}{P:Params}{A:Around}{env:Env}{s₀ s s':Shared}{m:Str→Option Value}{E₀:Value→Shared→Prop}{dm ra dn:Addr}{l:List (List Nat×D)}
def jz(c:Cx)(dn:Addr)(wr:Option (List Nat×List Nat))(s:Shared):Prop:=match wr with
 |none=>s.heap.get? dn=some emptyDict
 |some w=>∃a,s.heap.DictOfH (KT c.prog c.w) dn [([ao w.1,ao w.2],a,.bool true)]
theorem Jl{xs:List (List Str×Addr×Value)}(n:Nl c dm s s')(h:dn≠dm)(hd:∀t vs,¬aQ s.heap dm t vs)(hn:∃o,s.heap.get? dm=some o∧o.cls≠.type "tuple")(D:s.heap.DictOfH (KT c.prog c.w) dn xs):s'.heap.DictOfH (KT c.prog c.w) dn xs:=by
 refine xh n.keep ?_;refine lI D λo es ep e hc a8 he GX pQ=>?_;refine⟨o,es,ep,(dE _ h).trans e,hc,a8,he,λx hx=>?_,pQ⟩;refine cF (GX x hx) λok items k e1 h1 h2=>?_;refine ah hn λom em hm=>?_;exact⟨ok,items,k,(dE _ (by rintro rfl;cases aD em e1;exact hm h1)).trans e1,h1,h2⟩
theorem jz.nl{wr:Option (List Nat×List Nat)}(n:Nl c dm s s')(h:dn≠dm)(hd:s.heap.get? dm=some emptyDict)(N:jz c dn wr s):jz c dn wr s':=by
 cases wr with
 |none=>exact n.empty h N
 |some w=>
  refine ak N λa D=>?_;exact⟨a,Jl n h (λt vs ⟨o,k,e1,_,_,e4⟩=>by cases aD hd e1;cases e4) ⟨_,hd,by decide⟩ D⟩
theorem jz.on{wr:Option (List Nat×List Nat)}(n:Nx c s s')(N:jz c dn wr s):jz c dn wr s':=by
 cases wr with
 |none=>exact cx n.keep N (λvs q=>by cases q) cy
 |some w=>refine ak N λa D=>?_;exact⟨a,xh n.keep D⟩
theorem TY(H0:bz c)(HM:az c)(O:Ob c)(S:aN c P){n:Nat}{vs:List (Option Str)}{ρ:List (Option D)}{ek:E}{key:Expr}{q1 q2:Pos}{w:List Nat×List Nat}(F:St c A n env.scope env s.heap vs ρ)(hk:mE aH env.scope vs ek key=true)(he:(Mine.rec c.P n).ev ρ ek=.ok (.tuple [.str w.1,.str w.2]))
  (a7:¬c.aT s.heap.objs.size){Q:Value→Shared→Prop}(hq:∀s',Nx c s s'→jz c s.heap.objs.size (some w) s'→Q (.ref s.heap.objs.size) s'):wpAny c.M A (eval (.Dict [some key] [.Constant (.bool true) 0 q1] q2) env) Q E₀ s:=by
 have n0:Nx c s {s with heap:=s.heap.push {cls:=.type "dict",data:=.dict #[]}}:=Nx.ext H0 F.g _ s.toks λb o e=>bA _ e;have e0:(s.heap.push {cls:=.type "dict",data:=.dict #[]}).get? s.heap.objs.size=some emptyDict:=dy _ rfl;refine wpAny_Dict_any rfl rfl (by simp) (by simp) (pairTrees_cons_walk (cG O (F.nx n0) (by rw[S.nm];exact hk) he λv s1 T1 n1=>rg (pairTrees_nil_walk ?_)));obtain⟨a,rfl,GU⟩:=KZ T1;have e1:=cx n1.keep e0 (λvs q=>by cases q) cy;have D1:s1.heap.DictOfH (KT c.prog c.w) s.heap.objs.size []:=⟨_,#[],0,e1,⟨rfl,rfl,rfl⟩,rfl,rfl,λz hx=>(by cases hx),List.nodup_nil⟩;unfold storeAll;rw[List.forIn_cons];refine aj (aj (wpAny_dictSet_heap (knd:=KT c.prog c.w) (show A.units<cLine by have:=F.r.2.1;omega) GU D1 (λh' D' hs=>aM ?_) (by rw[sizeLine_eq];exact gO _)));dsimp only;rw[List.forIn_nil];have gx:c.G h':=HM _ _ (λb o st e=>(hs.2 b (by rintro rfl;exact a7 st)).trans e) (λb o e z hv=>⟨o,(hs.2 b (by rintro rfl;refine ak hv λvs hv=>?_;cases aD e1 e;cases hv)).trans e,rfl,rfl⟩) n1.g;have jX:=n0.trans n1;have hz:s.heap.get? s.heap.objs.size=none:=cX (dp _);have bx:Nl c s.heap.objs.size s1 {s1 with heap:=h',toks:=s1.toks+(KT c.prog c.w).draws [ao w.1,ao w.2]}:=fM (s:=s1) gx λb o q e=>(hs.2 b q).trans e;exact aM (hq _ (bx.nx hz jX) ⟨a,D'⟩)
end
section
variable{c:Cx}{P:Params}{A:Around}{env:Env}{s₀ s s':Shared}{m:Str→Option Value}{E₀:Value→Shared→Prop}{dm ra dn:Addr}{l:List (List Nat×D)}{x:A4}
theorem WT(O:Ob c)(S:aN c P)(HM:az c)(H9:av c)(HD:cD c)(AR:py c dm l)(X:Pq P x)(ay:env.scope=(ai P 697).scope)(H:aq c A env s₀ s m)(rm:aP A 36)(hi:∃aY mr,(∀h,c.G h→aJ h (c.σ 0) aY 386 mr)∧mr "array_size"=none)
  (kd:∀y∈(["reel","reader","due","rows","e","noted"]:List Str),env.kindOf y=some .local)(dZ:env.kindOf "self"≠some .cell){ve vd:Value}{e du:D}{wr:Option (List Nat×List Nat)}
  (mr:m "reader"=some (.ref (c.σ 0)))(me:m "e"=some ve)(md:m "due"=some vd)(mn:m "noted"=some (.ref dn))(Te:Tells c.σ s.heap ve e)(Td:Tells c.σ s.heap vd du)(N:jz c dn wr s)(Z:Dq c.P l e du wr)(hc:fG c.P .Eq du du=some true)(hd:s.heap.get? dm=some emptyDict)(bk:dn≠dm)(h0:s₀.heap.get? dm=none)(hL:dm≠env.locals)
  (c6:(dn==sysModules)=false)(ew:(Mine.rec c.P 8).ev [some (.obj 0)] CX=.ok (.obj 1)){q1 q2 q3 q4 q5 q6 q7 q8 q9 q10 q11:Pos}(fV:q2.endLine=q4.line){R:Flow→Shared→Prop}(hq:∀s' m',aq c A env s₀ s' m'→R (.ret (.bool true)) s'):
  wpAny c.M A (exec (.Return (some (.BoolOp .And [.Compare (.Call (.Attribute (.Name "reader" q1) "array_size" q2) [.Name "e" q3] [] q4) [.Eq] [.Name "due" q5] q6,.Compare (.Attribute x.wd "measured" q7) [.Eq] [.Name "noted" q8] q9] q10)) q11) env) R E₀ s:=by
 have kr:=kd _ (al 1);have Bl:=kd _ (al 2);have ke:=kd _ (al 4);have kn:=kd _ (al 5);refine aO hi λaY mr' hI hm=>?_;refine aO AR.w λcw mw hIw hmw=>?_;have Xf:=λh g=>cC (S.st h g) (dQ P);have lr:starEach [.Name "e" q3] env=[(false,eval (.Name "e" q3) env)]:=rfl;have wX:aP A 0:=rm.less (by omega);refine fE (wpAny_And2 (wpAny_Compare1 ?_));refine lG (c:=c) (es:=[]) fV rfl aX (by rw[lr];rfl) (H.load kr mr rfl λpl=>?_);refine method_inst (Xf _ H.nx.g) (qw P).cls (hI _ H.nx.g) (Mp P).1 (Mp P).2 hm ?_;rw[lr];refine ah (cI (Mo P)) λof F2 jl=>?_;refine gm (o:=of) (fd:=ai P 364) (dj (aV (H.load ke me rfl (ce (show(_∧_)∧_ from⟨⟨(S.st _ H.nx.g).ok _ _ F2.at_ jl,F2.data⟩,dq ?_⟩)))));refine TR O S HM H9 HD AR H.nx.g (H.fr H9) (rm.less (by omega)) hd Te Z λv s1 n1 T1 L1=>?_;have ns:dU s.heap dm:=λt vs ⟨o,n,e1,_,_,e4⟩=>by cases aD hd e1;cases e4
 have H1:=H.nl n1 h0 hL;have N1:=N.nl n1 bk hd;refine H1.load Bl md rfl ?_;refine lz (qJ HD) (qm HD) hc T1 (n1.tells ns Td) H1.nx.g wX λs2 n2=>?_;refine ir ?_;rw[if_pos rfl];have H2:=H1.on n2;have N2:=N1.on n2;refine wpAny_Compare1 (Hk X.pb (cG O (n:=8) (ρ:=[some (.obj 0)]) (H2.st H9 dZ (λi y h=>?_) (λi y d h hd=>?_) (rm.less (by omega))) (by rw[S.nm,ay];exact X.wd) ew λv3 s3 T3 n3=>?_))
 ·match i,h with
  |0,h=>cases h;exact kr
 ·match i,h,hd with
  |0,h,hd=>cases h;cases hd;exact⟨_,mr,.obj 0⟩
 obtain rfl:v3=.ref (c.σ 1):=by cases T3;rfl
 refine lE (Xf _ n3.g) (j1 P).cls (hIw _ n3.g) ((j1 P).none_ _ (al 13)) hmw rfl ?_;have n4:=n3.trans (Nx.tok n3.g (s3.toks+1));have H4:=H2.on n4;have N4:=N2.on n4;have AX:=n2.trans n4;refine H4.load kn mn rfl ?_;cases wr with
 |none=>
  have d4:=cx AX.keep L1 (λvs q=>by cases q) cy;have D1:({s3 with toks:=s3.toks+1}:Shared).heap.DictOf (strKind c.prog c.w) dm []:=⟨_,#[],0,d4,⟨rfl,rfl,rfl⟩,rfl,λe he=>absurd he (by simp),.nil,List.nodup_nil⟩;have D2:({s3 with toks:=s3.toks+1}:Shared).heap.DictOf (strKind c.prog c.w) dn []:=⟨_,#[],0,N4,⟨rfl,rfl,rfl⟩,rfl,λe he=>absurd he (by simp),.nil,List.nodup_nil⟩;exact keq_eq AR.sys c6 D1 D2 (show A.units<cLine by have:=rm.2.1;omega) (r:=true) (λz=>.nil) (hq _ _ H4)
 |some w=>
  refine ak L1 λa1 D1=>?_;refine ak N4 λa2 D2=>?_;exact eqH (show A.units+1<cLine by have:=rm.2.1;omega) AR.sys c6 (xh AX.keep D1) D2 (hq _ _ H4)
end
structure Fe(P:bJ)(l:List (List Nat×D)):Prop where
 it:∃ds,(Mine.rec P 12).ev [] KY=.ok (.list ds)∧Each P ds qg Cs∧fq ds=true∧ds.length=qg.length∧ds.length≤1000
 nr:fq qg=true
 sm:(Mine.rec P 12).ev [some (.list qg)] IF=.ok (.list nM)
 nd:dK (.list nM)=true
 ln:0<nM.length∧nM.length≤1000
 all:∀(i:Nat) d,nM[i]?=some d→gr P l d
 wd:(Mine.rec P 8).ev [some (.obj 0)] CX=.ok (.obj 1)
section
variable{c:Cx}{P:Params}{A:Around}{env:Env}{s₀ s s':Shared}{m:Str→Option Value}{E₀:Value→Shared→Prop}{dm ra dn:Addr}{l:List (List Nat×D)}
theorem Vj{env:Env}{elt it:Expr}{q0 q1 q2 q3 q4 q5:Pos}{line:Nat}(hk:env.scope.kind=.function)(kx:env.kindOf "rows"=some .local)(hl:q0.line=q5.line):
  swapsWith (.ListComp elt [⟨.Tuple [.Name "name" q1,.Name "T" q2,.Name "due" q3] 0 q4,it,[],0⟩] eF q5) (some (.Name "rows" q0)) line env=pure true:=by
 have hb:env.blockKind=.function:=by unfold Env.blockKind;rw[hk];rfl
 show(pure (env.blockKind==.function&&env.kindOf "rows"==some .local&&q0.line==q5.line&&!(eF.names.any fun(n,k)=>n==("rows":Str)&&(k==.local||k==.cell))):Sem Bool)=pure true;have h1:(q5.line==q5.line)=true:=beq_self_eq_true _;rw[hb,kx,hl,h1];rfl
theorem K5(HB:fO c)(g:c.G s.heap):(s.heap.objs.size==sysModules)=false:=by
 refine aO (HB _ g) λmg mb g1 z=>?_;have h3:3<s.heap.objs.size:=g1.lt;rw[beq_eq_false_iff_ne];intro q;rw[q]at h3;exact absurd h3 (by decide)
theorem RB(O:Ob c)(S:aN c P)(HM:az c)(H9:av c)(HD:cD c)(AR:py c dm l)(EV:Fe c.P l)(hi:∃aY mr,(∀h,c.G h→aJ h (c.σ 0) aY 386 mr)∧mr "array_size"=none)(hsr:¬c.aT ra){R:Result→Shared→Prop}(g:c.G s.heap)(fr:bI c A s.heap)(rm:aP A 40)(I:bX s.heap ra)(hd:s.heap.get? dm=some emptyDict)
  (hq:∀s',c.G s'.heap→(∃h tk,s'={s with heap:=h,toks:=tk})→R (.ok (.ret (.bool true))) s'):codeAny c.M A (.call (.ref 697) ⟨[.ref ra,.ref (c.σ 0)],[]⟩) R s:=by
 refine ah (cI (Mr P)) λof F bF=>?_;have X:=szF P;have Y:=aau P;generalize GS=x at X Y;refine jw (id I) λz z z z I0 z=>?_;refine qD (id I0) λoR eR cR z dR=>?_;have Bm:dm≠ra:=by rintro rfl;cases aD eR hd;cases dR
 have g1:c.G (less s ra).heap:=qK HM g hsr λo e=>(nO I0 e).1;have pZ:(less s ra).heap.get? dm=some emptyDict:=(dE _ Bm).trans hd;have g0:c.G (less (less s ra) dm).heap:=qK (s:=less s ra) HM g1 AR.st λo e vs q=>by cases aD pZ e;cases q
 have wC:=qC (d:=ra) fr λo e=>by rw[(nO I0 e).2];intro q;exact absurd (iv q) (by decide)
 have Fw:=qC (s:=less s ra) (d:=dm) wC λo e=>by cases aD pZ e;exact cy
 refine call_plain HM.push H9 (eI S) S.st F bF (s₀:=less (less s ra) dm) g0 ((j3 g1).trans (j3 g)) Fw (by have:=rm.1;omega) (l:=[]) rfl (aav P (.ref ra) (.ref (c.σ 0)))
  (λy hy=>bQ (Mq P) (oU (i:=2) (fP (a:=y.1) (b:=y.2) hy).1)) λenv s1 ay hL k1 n1 H1=>?_
 have kd:∀y∈(["reel","reader","due","rows","e","noted"]:List Str),env.kindOf y=some .local:=λy hy=>by show env.scope.names.lookup y=_;rw[ay];exact bQ (Mq P) hy
 have PB:=kd _ (al 0);have krd:=kd _ (al 1);have Bl:=kd _ (al 2);have Hi:=kd _ (al 3);have ke:=kd _ (al 4);have kn:=kd _ (al 5);have dZ:env.kindOf "self"≠some .cell:=by show env.scope.names.lookup _≠_;rw[ay,(aax P).1];intro q;exact aF q
 have wc:env.kindOf "_law_one"=some .globalImplicit:=by
  show env.scope.names.lookup _=_;rw[ay];simpa using List.all_eq_true.mp (aaw P) _ (al 1)
 have PC:=bR (k:=env.kindOf) (ps:=["reel","reader"]) (us:=[.ref ra,.ref (c.σ 0)]) (i:=0) (x:="reel") (aR (by kernel_rfl)) rfl rfl PB;have PD:=bR (k:=env.kindOf) (ps:=["reel","reader"]) (us:=[.ref ra,.ref (c.σ 0)]) (i:=1) (x:="reader") (aR (by kernel_rfl)) rfl rfl krd;generalize bindL env.kindOf _ _=m at H1 PC PD;have dC:aP (A.deeper env) 36:=⟨by rw[depth_deeper];have:=rm.1;omega,by rw[units_deeper];have:=rm.2.1;omega,rm.2.2⟩;have I1:=I.keep n1.keep;have e1:=cx n1.keep hd (λvs q=>by cases q) cy;have zd:(less (less s ra) dm).heap.get? dm=none:=Heap.hide_self _ _;have zr:(less (less s ra) dm).heap.get? ra=none:=(dE _ Bm.symm).trans (Heap.hide_self _ _);have lD:dm≠env.locals:=by rw[hL];exact fresh_ne hd
 have lR:ra≠env.locals:=by rw[hL];exact fresh_ne eR
 have PF:∀s',Nx c (less (less s ra) dm) s'→∃h tk,s'={s with heap:=h,toks:=tk}:=λs' ⟨h,tk,e,_⟩=>⟨h,tk,e⟩;generalize less (less s ra) dm=s₀ at H1 zd zr PF;clear g0 Fw wC g1 pZ n1 k1 eR cR dR oR I0;rw[Y];unfold xY;rw[X.cs];refine lM EV.it λds i1 i2 i3 i4 i5=>?_;refine aI (Su O S HM H9 H1 I1 e1 (dC.less (by omega)) (n:=12) (vs:=[]) (ρ:=[]) (H1.st H9 dZ (λi y h=>by cases h) (λi y d h=>by cases h) (dC.less (by omega))) (by rw[ay];exact X.it) i1 (by have:=X.elt;rw[X.cs]at this;exact this) i2 i3 EV.nr i4 i5 (λv=>X.fo v env) (Vj H1.kind Hi X.ln) Hi λD' s2 H2 I2 e2 T2=>?_);have PG:upd m "rows" (.ref D') "reel"=some (.ref ra):=(bD (by decide)).trans PC;have PH:upd m "rows" (.ref D') "reader"=some (.ref (c.σ 0)):=(bD (by decide)).trans PD;have PI:upd m "rows" (.ref D') "rows"=some (.ref D'):=cT rfl;generalize upd m "rows" (.ref D')=m2 at H2 PG PH PI;have F2:St c (A.deeper env) 12 env.scope env s2.heap Of [some (.list qg)]:=H2.st H9 dZ (λi y h=>(by
  match i,h with
  |0,h=>cases h;exact Hi)) (λi y d h hd=>by
  match i,h,hd with
  |0,h,hd=>cases h;cases hd;exact⟨_,PI,T2⟩) (dC.less (by omega))
 refine aI (Assign_Tuple (Jk (P:=P) O S HM H9 HD H2 (dC.less (by omega)) PG PB wc zr I2 F2 (by rw[ay];exact X.rf) EV.sm (X.st _ _) EV.nd EV.ln.1 EV.ln.2 (fits_of (by omega) (by have:=EV.ln.2;omega)) λi d v s3 s4 n3 n4 z hdi T4 I4=>?_) rfl rfl);refine bC (EV.all i d hdi) λe du wr aaA aaB=>?_;subst aaA;refine oX aaB λr1 r2 Z hc hw=>?_;have H4:=(H2.on n3).nl n4 zr lR;have e4:=n4.empty Bm (cx n3.keep e2 (λvs q=>by cases q) cy);cases T4 with
 |@tuple b Bk _ hx tx=>
 cases tx with|@cons ve _ _ _ x1 tx=>
 cases tx with|@cons vd _ _ _ x2 tx=>
 cases tx;refine oS dC.2.2 hx.tuple rfl rfl λh2 hk=>?_;have n5:Nx c s4 {s4 with heap:=h2}:=Nx.ext HM.push H4.nx.g h2 s4.toks λb o e=>hk b o (bL (cA e)) e;have H5:=H4.on n5;have e5:=cx n5.keep e4 (λvs q=>by cases q) cy;have y1:=x1.keep n5.keep;have y2:=x2.keep n5.keep;generalize({s4 with heap:=h2}:Shared)=s5 at H5 e5 y1 y2 n5⊢;refine jE (assign_Name (H5.qO HM H9 ke e5 lD λs6 H6 t6 e6=>?_));refine jE (assign_Name (H6.qO HM H9 Bl e6 lD λs7 H7 t7 e7=>assignInOrder_nil ?_));have w1:=t7 _ _ (t6 _ _ y1);have w2:=t7 _ _ (t6 _ _ y2);have PJ:upd (upd m2 "e" ve) "due" vd "reader"=some (.ref (c.σ 0)):=(bD (by decide)).trans ((bD (by decide)).trans PH);have nN:upd (upd m2 "e" ve) "due" vd "e"=some ve:=(bD (by decide)).trans (cT rfl);have Hj:upd (upd m2 "e" ve) "due" vd "due"=some vd:=cT rfl;generalize upd (upd m2 "e" ve) "due" vd=m7 at H7 PJ nN Hj;clear t6 t7 y1 y2 x1 x2 hx hk H6 H5 H4 H2 e6 e5 e4 n5 n4 n3 F2 T2;have F7:St c (A.deeper env) 8 env.scope env s7.heap Fd [some e,some du]:=H7.st H9 dZ (λi y h=>(by
  match i,h with
  |0,h=>cases h;exact ke
  |1,h=>cases h;exact Bl)) (λi y d h hd=>by
  match i,h,hd with
  |0,h,hd=>cases h;cases hd;exact⟨_,nN,w1⟩
  |1,h,hd=>cases h;cases hd;exact⟨_,Hj,w2⟩) (dC.less (by omega))
 have fin:∀dn s8,Nx c s7 s8→jz c dn wr s8→s7.heap.get? dn=none→(dn==sysModules)=false→wpAny c.M (A.deeper env) (storeName env "noted" (.ref dn)) (λz s'=>wpAny c.M (A.deeper env) (execs ((xY x).drop 3) env) (λfl s'=>R (.ok (.ret (match fl with|.ret v=>v|_=>.none))) s') (λz z=>False) s') (λz z=>False) s8:=by
  intro dn s8 n8 N8 hle c6;have e8:=cx n8.keep e7 (λvs q=>by cases q) cy;have bk:dn≠dm:=by rintro rfl;exact bg hle e7
  have tJ:dn≠env.locals:=by refine bC H7.ns λo z z e z=>?_;rintro rfl;exact bg hle e
  have H8:=H7.on n8;refine H8.store HM H9 kn λs9 AL ⟨tk,h9,e9,hs9⟩=>?_;have nL:=fB H8.ns;have n9:Nl c env.locals s8 s9:=by
   have g9:=AL.nx.g;rw[e9]at g9⊢;exact fM g9 λb o q e=>(hs9.2 b q).trans e
  have e9':s9.heap.get? dm=some emptyDict:=n9.empty lD e8;have N9:jz c dn wr s9:=by
   cases wr with
   |none=>exact n9.empty tJ N8
   |some w=>
    refine ak N8 λa D=>?_;refine cF H8.ns λoL z z eL jh z=>?_;exact⟨a,Jl n9 tJ nL ⟨oL,eL,by rw[H8.cls _ eL];intro q;exact absurd (iv q) (by decide)⟩ D⟩
  unfold xY;exact aI (WT O S HM H9 HD AR X ay AL dC hi kd dZ ((bD (by decide)).trans PJ) ((bD (by decide)).trans nN) ((bD (by decide)).trans Hj) (cT rfl) (n9.tells nL (w1.keep n8.keep)) (n9.tells nL (w2.keep n8.keep)) N9 Z hc e9' bk zd lD c6 EV.wd X.li λs' m' H'=>hq s' H'.nx.g (PF _ H'.nx))
 cases wr with
 |none=>
  refine aI (gQ (wpAny_IfExp (gf O F7 (by rw[S.nm,ay];exact X.gy) hw λs8 n8=>?_)) rfl);rw[if_neg (by decide)];refine wpAny_Dict_empty ?_;have n9:=Nx.push HM.push n8.g {cls:=.type "dict",data:=.dict #[]} s8.toks;exact fin _ _ (n8.trans n9) (dy _ rfl) (cO n8 (cX (dp _))) (K5 (oH S) n8.g)
 |some w=>
  refine aI (gQ (wpAny_IfExp (gf O F7 (by rw[S.nm,ay];exact X.gy) hw.1 λs8 n8=>?_)) rfl);rw[if_pos rfl];refine TY HM.push HM O S (F7.nx n8) (by rw[ay];exact X.key) hw.2 (λst=>?_) λs9 n9 N9=>fin _ _ (n8.trans n9) N9 (cO n8 (cX (dp _))) (K5 (oH S) n8.g);refine ak (H9 _ _ n8.g st) λo e=>?_;exact absurd (cA e) (Nat.lt_irrefl _)
end
noncomputable def l6:List (List Nat×D):=(p0.map (·.1)).zip (p0.map (·.2))
theorem aaC:bG.dict 6=some l6:=by kernel_rfl
theorem K6:nM.length=12∧qg.length=8∧uI.length=8:=⟨by kernel_rfl,by kernel_rfl,by kernel_rfl⟩
theorem aeF:gr bG l6 (.tuple [(.tuple [aK,(.int 4),(.str [103,97])]),(.int 3)]):=⟨(.tuple [aK,(.int 4),(.str [103,97])]),(.int 3),(some ([103,108,111,98,97,108],[109,97,105,110,46,103,97])),rfl,by kernel_rfl,by kernel_rfl,⟨(.tuple [ch,(.str [109,97,105,110,46,103,97])]),by kernel_rfl,.inr ⟨by kernel_rfl,by kernel_rfl,[103,108,111,98,97,108],[109,97,105,110,46,103,97],rfl,by kernel_rfl,by kernel_rfl,by kernel_rfl,.inr ⟨by kernel_rfl,(.tuple [cg,(.int 3),(.tuple [bf])]),(.tuple [cg,(.int 3),(.tuple [bf])]),by kernel_rfl,.inl ⟨by kernel_rfl,rfl⟩,.inr ⟨by kernel_rfl,by kernel_rfl,rfl⟩⟩⟩⟩,by kernel_rfl,⟨by kernel_rfl,by kernel_rfl⟩⟩
theorem aeG:gr bG l6 (.tuple [(.tuple [aK,(.int 4),(.str [103,112])]),(.int 4)]):=⟨(.tuple [aK,(.int 4),(.str [103,112])]),(.int 4),(some ([103,108,111,98,97,108],[109,97,105,110,46,103,112])),rfl,by kernel_rfl,by kernel_rfl,⟨(.tuple [ch,(.str [109,97,105,110,46,103,112])]),by kernel_rfl,.inr ⟨by kernel_rfl,by kernel_rfl,[103,108,111,98,97,108],[109,97,105,110,46,103,112],rfl,by kernel_rfl,by kernel_rfl,by kernel_rfl,.inr ⟨by kernel_rfl,(.tuple [dF,(.tuple [cg,(.int 4),(.tuple [bf])])]),(.tuple [cg,(.int 4),(.tuple [bf])]),by kernel_rfl,.inr ⟨by kernel_rfl,by kernel_rfl⟩,.inr ⟨by kernel_rfl,by kernel_rfl,rfl⟩⟩⟩⟩,by kernel_rfl,⟨by kernel_rfl,by kernel_rfl⟩⟩
theorem aeH:gr bG l6 (.tuple [(.tuple [aK,(.int 4),(.str [103,110])]),(.int 5)]):=⟨(.tuple [aK,(.int 4),(.str [103,110])]),(.int 5),(some ([103,108,111,98,97,108],[109,97,105,110,46,103,110])),rfl,by kernel_rfl,by kernel_rfl,⟨(.tuple [ch,(.str [109,97,105,110,46,103,110])]),by kernel_rfl,.inr ⟨by kernel_rfl,by kernel_rfl,[103,108,111,98,97,108],[109,97,105,110,46,103,110],rfl,by kernel_rfl,by kernel_rfl,by kernel_rfl,.inr ⟨by kernel_rfl,(.tuple [cg,(.int 5),(.tuple [bf])]),(.tuple [cg,(.int 5),(.tuple [bf])]),by kernel_rfl,.inl ⟨by kernel_rfl,rfl⟩,.inr ⟨by kernel_rfl,by kernel_rfl,rfl⟩⟩⟩⟩,by kernel_rfl,⟨by kernel_rfl,by kernel_rfl⟩⟩
theorem aeI:gr bG l6 (.tuple [(.tuple [aK,(.int 4),(.str [103,114])]),(.int 5)]):=⟨(.tuple [aK,(.int 4),(.str [103,114])]),(.int 5),(some ([103,108,111,98,97,108],[109,97,105,110,46,103,114])),rfl,by kernel_rfl,by kernel_rfl,⟨(.tuple [ch,(.str [109,97,105,110,46,103,114])]),by kernel_rfl,.inr ⟨by kernel_rfl,by kernel_rfl,[103,108,111,98,97,108],[109,97,105,110,46,103,114],rfl,by kernel_rfl,by kernel_rfl,by kernel_rfl,.inr ⟨by kernel_rfl,(.tuple [dF,(.tuple [fF,lO])]),(.tuple [cg,(.int 5),(.tuple [bf])]),by kernel_rfl,.inr ⟨by kernel_rfl,by kernel_rfl⟩,.inr ⟨by kernel_rfl,by kernel_rfl,rfl⟩⟩⟩⟩,by kernel_rfl,⟨by kernel_rfl,by kernel_rfl⟩⟩
theorem aeJ:gr bG l6 (.tuple [(.tuple [aK,(.int 4),(.str [103,113])]),.none]):=⟨(.tuple [aK,(.int 4),(.str [103,113])]),.none,none,rfl,by kernel_rfl,by kernel_rfl,⟨(.tuple [ch,(.str [109,97,105,110,46,103,113])]),by kernel_rfl,.inr ⟨by kernel_rfl,by kernel_rfl,[103,108,111,98,97,108],[109,97,105,110,46,103,113],rfl,by kernel_rfl,by kernel_rfl,by kernel_rfl,.inr ⟨by kernel_rfl,(.tuple [aU,aU]),(.tuple [aU,aU]),by kernel_rfl,.inl ⟨by kernel_rfl,rfl⟩,.inl ⟨by kernel_rfl,rfl,rfl⟩⟩⟩⟩,by kernel_rfl,by kernel_rfl⟩
theorem aeK:gr bG l6 (.tuple [(.tuple [aK,(.int 4),(.str [103,115])]),.none]):=⟨(.tuple [aK,(.int 4),(.str [103,115])]),.none,none,rfl,by kernel_rfl,by kernel_rfl,⟨(.tuple [ch,(.str [109,97,105,110,46,103,115])]),by kernel_rfl,.inr ⟨by kernel_rfl,by kernel_rfl,[103,108,111,98,97,108],[109,97,105,110,46,103,115],rfl,by kernel_rfl,by kernel_rfl,by kernel_rfl,.inr ⟨by kernel_rfl,(.tuple [qQ,(.tuple [bf])]),(.tuple [qQ,(.tuple [bf])]),by kernel_rfl,.inl ⟨by kernel_rfl,rfl⟩,.inl ⟨by kernel_rfl,rfl,rfl⟩⟩⟩⟩,by kernel_rfl,by kernel_rfl⟩
theorem aeL:gr bG l6 (.tuple [(.tuple [aK,(.int 4),(.str [103,116])]),.none]):=⟨(.tuple [aK,(.int 4),(.str [103,116])]),.none,none,rfl,by kernel_rfl,by kernel_rfl,⟨(.tuple [ch,(.str [109,97,105,110,46,103,116])]),by kernel_rfl,.inr ⟨by kernel_rfl,by kernel_rfl,[103,108,111,98,97,108],[109,97,105,110,46,103,116],rfl,by kernel_rfl,by kernel_rfl,by kernel_rfl,.inr ⟨by kernel_rfl,(.tuple [dF,(.tuple [dF,(.tuple [cg,(.int 4),(.tuple [bf])])])]),(.tuple [dF,(.tuple [cg,(.int 4),(.tuple [bf])])]),by kernel_rfl,.inr ⟨by kernel_rfl,by kernel_rfl⟩,.inl ⟨by kernel_rfl,rfl,rfl⟩⟩⟩⟩,by kernel_rfl,by kernel_rfl⟩
theorem aeM:gr bG l6 (.tuple [(.tuple [aK,(.int 4),(.str [103,101])]),(.int 0)]):=⟨(.tuple [aK,(.int 4),(.str [103,101])]),(.int 0),(some ([103,108,111,98,97,108],[109,97,105,110,46,103,101])),rfl,by kernel_rfl,by kernel_rfl,⟨(.tuple [ch,(.str [109,97,105,110,46,103,101])]),by kernel_rfl,.inr ⟨by kernel_rfl,by kernel_rfl,[103,108,111,98,97,108],[109,97,105,110,46,103,101],rfl,by kernel_rfl,by kernel_rfl,by kernel_rfl,.inr ⟨by kernel_rfl,(.tuple [cg,(.int 0),(.tuple [bf])]),(.tuple [cg,(.int 0),(.tuple [bf])]),by kernel_rfl,.inl ⟨by kernel_rfl,rfl⟩,.inr ⟨by kernel_rfl,by kernel_rfl,rfl⟩⟩⟩⟩,by kernel_rfl,⟨by kernel_rfl,by kernel_rfl⟩⟩
theorem aeN:gr bG l6 (.tuple [(.tuple [aK,(.int 4),(.str [103,104])]),.none]):=⟨(.tuple [aK,(.int 4),(.str [103,104])]),.none,none,rfl,by kernel_rfl,by kernel_rfl,⟨(.tuple [ch,(.str [109,97,105,110,46,103,104])]),by kernel_rfl,.inr ⟨by kernel_rfl,by kernel_rfl,[103,108,111,98,97,108],[109,97,105,110,46,103,104],rfl,by kernel_rfl,by kernel_rfl,by kernel_rfl,.inl ⟨by kernel_rfl,rfl,rfl⟩⟩⟩,by kernel_rfl,by kernel_rfl⟩
theorem aeO:gr bG l6 (.tuple [(.tuple [aK,(.int 4),(.str [118])]),.none]):=⟨(.tuple [aK,(.int 4),(.str [118])]),.none,none,rfl,by kernel_rfl,by kernel_rfl,⟨(.tuple [(.str [108,111,99,97,108]),(.int 0)]),by kernel_rfl,.inl ⟨by kernel_rfl,rfl,rfl⟩⟩,by kernel_rfl,by kernel_rfl⟩
theorem aaD:gr bG l6 (.tuple [(.tuple [aK,(.int 4),(.str [110,111])]),.none]):=⟨(.tuple [aK,(.int 4),(.str [110,111])]),.none,none,rfl,by kernel_rfl,by kernel_rfl,⟨.none,by kernel_rfl,.inl ⟨by kernel_rfl,rfl,rfl⟩⟩,by kernel_rfl,by kernel_rfl⟩
theorem aaE:gr bG l6 (.tuple [(.tuple [aU,(.int 4),(.int 3)]),.none]):=⟨(.tuple [aU,(.int 4),(.int 3)]),.none,none,rfl,by kernel_rfl,by kernel_rfl,⟨.none,by kernel_rfl,.inl ⟨by kernel_rfl,rfl,rfl⟩⟩,by kernel_rfl,by kernel_rfl⟩
theorem WU{α}{Q:α→Prop}:∀(i:Nat) d,([]:List α)[i]?=some d→Q d:=λ_ _ e=>aF e
theorem ie{α}{a:α}{l:List α}{Q:α→Prop}(h0:Q a)(h:∀(i:Nat) d,l[i]?=some d→Q d):∀(i:Nat) d,(a::l)[i]?=some d→Q d:=λi=>by
 cases i with|zero=>exact λd e=>au e▸h0|succ i=>exact h i
theorem WV:∀(i:Nat) d,nM[i]?=some d→gr bG l6 d:=ie aeF<|ie aeG<|ie aeH<|ie aeI<|ie aeJ<|ie aeK<|ie aeL<|ie aeM<|ie aeN<|ie aeO<|ie aaD<|ie aaE<|WU
theorem each_nil{P:bJ}{e:E}{rs:List D}:Each P [] rs e:=λi d h=>aF h
theorem lF{P:bJ}{e:E}{nm T du r:D}{ds rs:List D}(h1:(Mine.rec P 8).ev [some nm,some du] e=.ok r)(h2:fz r=true)(h:Each P ds rs e):Each P (.tuple [nm,T,du]::ds) (r::rs) e:=λi=>by
 cases i with|zero=>exact λd h=>⟨nm,T,du,r,(au h).symm,rfl,h1,h2⟩|succ i=>exact h i
theorem aaF:Each bG uI qg Cs:=lF (by kernel_rfl) (by kernel_rfl)<|lF (by kernel_rfl) (by kernel_rfl)<|lF (by kernel_rfl) (by kernel_rfl)<|lF (by kernel_rfl) (by kernel_rfl)<|lF (by kernel_rfl) (by kernel_rfl)<|lF (by kernel_rfl) (by kernel_rfl)<|lF (by kernel_rfl) (by kernel_rfl)<|lF (by kernel_rfl) (by kernel_rfl)<|each_nil
theorem aeP:Fe bG l6:=⟨⟨uI,by kernel_rfl,aaF,by kernel_rfl,by kernel_rfl,by rw[K6.2.2];omega⟩,by kernel_rfl,by kernel_rfl,by kernel_rfl,by rw[K6.1];omega,WV,by kernel_rfl⟩
section
variable{w:PySem.World}{h₁:Heap}{XL:List Addr}{s s':Shared}{xr aY:Addr}{mr:Str→Option Value}{bw:BW}{N G R:List (Str×Value)}
theorem bu.Vk(T:bu w h₁ XL s s' xr aY mr bw N G R):¬(c2 w s'.heap XL xr bw N R).aT bw.dm:=by
 rintro(⟨o,e⟩|⟨t,ht,e⟩)
 ·have:=hideAll_none (ci++(bw.dm::XL)) (h:=s'.heap) (b:=bw.dm) (List.mem_append_right _ dW);have e':(hideAll s'.heap (ci++(bw.dm::XL))).get? bw.dm=some o:=e;exact bg this e'
 ·have jk:t∈dM:=ht;have hm:t.2.1∈ci:=by
   unfold dM at jk;simp only[List.mem_cons,List.not_mem_nil,or_false]at jk;rcases jk with rfl|rfl|rfl<;>simp[ci]
  refine ak (T.ex _ (List.mem_append_left _ hm)) λo e'=>?_;rw[e,T.rd.wU]at e';exact aF e'
theorem bu.ar(T:bu w h₁ XL s s' xr aY mr bw N G R):py (c2 w s'.heap XL xr bw N R) bw.dm l6 where
 hJ:=aaC
 w:=by
  have W:=T.rd.ow;have ow:∀a,a∈[bw.xw,bw.cw,bw.xs,bw.cN,bw.dm]→a∉ci++XL:=λa h=>px (W.off a h);exact⟨bw.cw,bw.mw,λh g=>T.cu g (ow bw.xw (by simp)) (ow bw.cw (by simp)) W.wn W.iw,W.wm⟩
 st:=T.Vk
 sys:=by
  rw[beq_eq_false_iff_ne];intro q;refine ah (KO w.params) λo e hl=>?_;have e1:=T.hs _ _ (T.kept _ _ ((abs_get (by decide) e).trans hl));have:=T.rd.wU;rw[show bw.dm=1 from q,e1]at this;exact oV this
theorem bu.hi(T:bu w h₁ XL s s' xr aY mr bw N G R):∃aY mr,(∀h,(c2 w s'.heap XL xr bw N R).G h→aJ h ((c2 w s'.heap XL xr bw N R).σ 0) aY 386 mr)∧mr "array_size"=none:=
 ⟨aY,mr,λh g=>T.cu g (T.new T.rd.x0) (T.new T.rd.d0) T.rd.oK T.rd.inst,iU T.rd.within (by kernel_rfl)⟩
end
section
variable{c:Cx}{P:Params}{A:Around}{env:Env}{s₀ s s':Shared}{m k:Str→Option Value}{ra dm:Addr}{E₀:Value→Shared→Prop}{l:List (List Nat×D)}
theorem Sv(O:Ob c)(S:aN c P)(HM:az c)(H9:av c)(HD:cD c)(AR:py c dm l)(EV:Fe c.P l)(hi:∃aY mr,(∀h,c.G h→aJ h (c.σ 0) aY 386 mr)∧mr "array_size"=none)(K:fR P env)(W:Lw c A env s₀ s m k ra)(rm:aP A 44)(hr:k "reader"=some (.ref (c.σ 0)))(hd:s₀.heap.get? dm=some emptyDict)
  {q0 q1 q2 q3:Pos}{Q:Value→Shared→Prop}(hq:∀s',c.G s'.heap→(∃h tk,s'={s₀ with heap:=h,toks:=tk})→Q (.bool true) s'):wpAny c.M A (eval (.Call (.Name "_law_size_right" q0) [.Name "reel" q1,.Name "reader" q2] [] q3) env) Q E₀ s:=by
 have e1:eval (.Call (.Name "_law_size_right" q0) [.Name "reel" q1,.Name "reader" q2] [] q3) env=(eval (.Name "_law_size_right" q0) env>>=λfv=>callWith q3 fv [] (backTo q3 [(false,eval (.Name "reel" q1) env),(false,eval (.Name "reader" q2) env)]) []):=rfl;rw[e1];refine ah (cI (Mr P)) λof F2 jl=>?_;have c4:=K.c1.2.2.2;refine aj (W.H.glob (K.g _ (al 5)) rfl (de (S.st _ W.H.nx.g) (n3 P)) (wa P).2.2.2.2 ?_);refine gm (o:=of) (fd:=ai P 697) (dj (aV (W.H.load W.kr W.r rfl (aV (W.C.Z9 W.H c4.1 c4.2 hr rfl ?_)))));refine ce (show(_∧_)∧_ from⟨⟨(S.st _ W.H.nx.g).ok _ _ F2.at_ jl,F2.data⟩,dq ?_⟩);have pr:¬c.aT ra:=λz=>by refine ak (H9 _ _ W.H.bj z) λo e=>?_;exact bg W.r0 e
 refine RB O S HM H9 HD AR EV hi pr W.H.nx.g (W.H.fr H9) (rm.less (by omega)) W.I (cx W.H.nx.keep hd (λvs q=>by cases q) cy) λs' g ⟨h,tk,e⟩=>hq s' g ?_;refine aO W.H.nx λh0 t0 e0 j=>?_;exact⟨h,tk,by rw[e,e0]⟩
end
theorem aaG(P:Params):dY P 704=true:=by kernel_rfl
theorem Ms(P:Params):(ai P 704).code=.ref 703∧(ai P 704).qualname++".<locals>."="law.<locals>.":=⟨by kernel_rfl,by kernel_rfl⟩
theorem aaH(P:Params)(L:Addr):(cellsFrom (L+1) (ai P 704).scope.names []).map (·.1)=(["reader","other","op","one"]:List Str):=by kernel_rfl
section
variable{w:PySem.World}{an:Shared}
def Mt(w:PySem.World)(an s':Shared):Prop:=(∃h tk,s'={an with heap:=h,toks:=tk})∧(∀b o,an.heap.get? b=some o→b∉ci→s'.heap.get? b=some o)∧∀t∈dM,qW s'.heap t
theorem TZ(DR:Draws)(k₁:Kept (H1 w.params) an.heap){l:Addr}{vs:List Value}(I:an.heap.IsList l vs.toArray)(hi:∀v∈vs,∃i t,v=.int i t)(hlen:vs.length≤1000){R:Result→Shared→Prop}(hq:∀s',Mt w an s'→R (.ok (.ret (.bool true))) s'):
  codeAny (model pw w) callerA (.call (.ref 704) ⟨[.ref l],[]⟩) R an:=by
 refine ah (cI (aaG w.params)) λof F bF=>?_;have X:=aet w.params;have Y:=aah w.params;generalize Fc=x at X Y;have S0:aN (c0 w an.heap) w.params:=(kB k₁).fY rfl;have i7:(c0 w an.heap).G an.heap:=LZ k₁ λb o e=>e;refine call_cells (c:=c0 w an.heap) (P:=w.params) ii.push jp (eI S0) S0.st F bF i7 rfl (by decide) (l:=[]) rfl (aai w.params (.ref l))
  (λy hy=>bQ (Ml w.params) (oU (i:=1) (fP (a:=y.1) (b:=y.2) hy).1)) λenv s1 ay yn aaI xS hL hC k1 jL H C=>?_
 have kl:∀y∈(["script","loose","reel","ops","turn"]:List Str),env.kindOf y=some .local:=λy hy=>by show env.scope.names.lookup y=_;rw[ay];exact bQ (Ml w.params) hy
 have K:fR w.params env:=⟨ay,kl,λy hy=>⟨by show env.scope.names.lookup y=_;rw[ay];simpa using List.all_eq_true.mp (aaj w.params) y hy,by rw[xS];exact aal w.params _ y hy⟩,
  λy hy=>by show env.scope.names.lookup y=_;rw[ay];simpa using List.all_eq_true.mp (aak w.params) y hy,by show env.scope.names.lookup _≠_;rw[ay,(aam w.params).1];intro q;exact aF q⟩
 have hn:(env.cells.map (·.1)).Nodup:=by rw[xS,aaH];decide
 have Oi:704<an.heap.objs.size:=cA ((S0.st _ i7).ok _ _ F.at_ bF);have GK:∀a∈fk env,705≤a:=by
  intro a ha;rcases List.mem_cons.mp ha with rfl|ha
  ·exact eY Oi hL
  ·refine ak (mem_lookup hn ha) λy hy=>?_;exact eY Oi (hC y a hy)
 have dH:∀a∈fk env,an.heap.get? a=none:=by
  intro a ha;rcases List.mem_cons.mp ha with rfl|ha
  ·exact cX hL
  ·refine ak (mem_lookup hn ha) λy hy=>?_;exact cX (hC y a hy)
 have ms:=bR (k:=env.kindOf) (ps:=["script"]) (us:=[.ref l]) (i:=0) (x:="script") (aR (by kernel_rfl)) rfl rfl (kl _ (al 0));generalize bindL env.kindOf _ _=m at H ms;generalize bindC env.kindOf _ _=k at C;have rm:aP (callerA.deeper env) 60:=⟨by rw[depth_deeper];decide,by rw[units_deeper];decide,rfl⟩;generalize callerA.deeper env=A at jL H rm⊢;rw[Y];have e0:ug x=.Assign [.Tuple [.Name "reader" (x.q 0),.Name "loose" (x.q 1)] 0 (x.q 2)] (.Tuple [.Call (.Name "_law_reader" (x.q 3)) [] [] (x.q 4),x.lo] 0 (x.q 5)) (x.q 6)::(ug x).tail:=rfl;rw[e0];refine aI (WN k₁ k1 H C jL hn GK (rm.less (by omega)) (K.g _ (al 0)) (K.c _ (al 3)) (kl _ (al 1)) (by rw[ay];exact X.lo) K.self (nW ay H.kind X.q0) (X.st0 _ _ _) λxr aY mr bw N G R' s2 s3 vl T H3 C3 kp=>?_);have I3:=kp _ _ (fA (aE.gb k1) I);have hdm:(qZ s2 (fk env)).heap.get? bw.dm=some emptyDict:=hideAll_get _ T.rd.ow.dm λq=>T.new T.rd.wU (List.mem_append_right _ q);have cq:(c2 w s2.heap (fk env) xr bw N R').cd env.code env.qual:=by
  rw[yn,aaI,(Ms w.params).1,(Ms w.params).2];exact T.fY.cd (703,699,"law.<locals>.") (al 2)
 refine TQ T.ob T.fY ii jp T.Dp rfl (CJ T.base.ok) K X rfl cq DR H3 C3 rm (cT rfl) ((bD (by decide)).trans ms) I3 hi hlen λs4 m4 k4 ra W4 hr=>?_;refine Sv T.ob T.fY ii jp T.Dp T.ar aeP T.hi K W4 (rm.less (by omega)) hr hdm λs5 g5 ⟨h5,t5,e5⟩=>hq s5 ⟨?_,λb o e hb=>?_,g5.2⟩
 ·refine aO T.rd.nx λha ta ea z=>?_;refine aO H.nx λhb tb eb z=>?_;exact⟨h5,t5,by rw[e5,ea,eb]⟩
 ·have e1:=k1 b o e;have wk:b∉ci++fk env:=λq=>(List.mem_append.mp q).elim hb λq=>by exact bg (dH b q) e
  have e2:s2.heap.get? b=some o:=T.rd.nx.g.1 b o (hideAll_get _ e λq=>hb (by simpa using q));exact T.keep g5 e2 wk λq=>by rw[q,T.rd.wU]at e1;exact aF e1
end
theorem T0{P:Params}{h:Heap}{v:Value}{i:Int}(x:Well P h v (.int i)):∃t,v=.int i t:=by cases x;exact⟨_,rfl⟩
theorem Sw{P:Params}{h:Heap}{xs:List WData}:∀{vs:List Value},WellAll P h vs xs→WShape.hasItems [] xs .int=true→(∀v∈vs,∃i t,v=.int i t)∧vs.length=xs.length:=by
 induction xs with
 |nil=>exact λW h=>by cases W;exact⟨λv hv=>(by cases hv),rfl⟩
 |cons d ds ih=>
  intro vs W h;cases W with
  |cons x r=>
   rw[WShape.hasItems]at h;refine am (λa b=>?_) (ih r (a2 h));refine ak (hasW_int (a1 h)) λi aaJ=>?_;subst aaJ;exact⟨λu hu=>(List.mem_cons.mp hu).elim (λe=>e▸⟨i,T0 x⟩) (a u),bp Nat.succ b⟩
theorem T8{args:List WData}(h:rw.row.toRowW.claim.pre args=true):∃xs,args=[.list xs]∧WShape.hasItems [] xs .int=true∧xs.length≤63:=by
 refine am (λh1 h2=>?_) (pre_splitW h);refine aO (hasAllW_cons (R:=[]) (e:=.list .int) (es:=[]) h1) λd r aaK aaL=>?_;subst aaK;refine am (λh3 h4=>?_) aaL;obtain rfl:=hasAllW_nil (R:=[]) h4;obtain⟨xs,rfl,h5⟩:=hasW_list h3;refine⟨xs,rfl,h5,?_⟩;have wu:WTm.holds [] (.and (.not (.lt (.lit (.int 63)) (.len (.arg 0)))) (.lit (.bool true))) {args:=[.list xs]}=true:=h2;by_cases hl:xs.length≤63
 ·exact hl
 ·have e1:less? (.int 63) (.int xs.length)=some true:=by
   show some (decide ((63:Int)<xs.length))=some true;rw[decide_eq_true (by omega)]
  simp[WTm.holds,WTm.value,e1]at wu
theorem aaM{h:Heap}{a:Addr}{m m':Str→Option Value}(x:h.Ns a m)(y:h.Ns a m'):m=m':=by
 refine eT x λo es ep e hd z hf=>?_;refine eT y λo' At Fj e' a8 z FD=>?_;cases aD e e';rw[hd]at a8;cases a8;exact funext λk=>(hf k).symm.trans (FD k)
theorem WW(P:Params):bT P mainGlobals "law"=some (.ref 704):=by kernel_rfl
theorem Vl{w:PySem.World}{an s':Shared}(k₁:Kept (H1 w.params) an.heap)(En:Mt w an s'):OldK an.heap s'.heap:=by
 have B:=kB k₁;have at_:∀t∈dM,an.heap.get? t.2.1=some (tabObj #[]):=by
  intro t ht;refine bY (KC w.params) λt1 t2 t3=>?_;unfold dM at ht;simp only[List.mem_cons,List.not_mem_nil,or_false]at ht;rcases ht with rfl|rfl|rfl
  ·exact k₁ _ _ (abs_get (by decide) t1)
  ·exact k₁ _ _ (abs_get (by decide) t2)
  ·exact k₁ _ _ (abs_get (by decide) t3)
 have key:∀b o,an.heap.get? b=some o→asItWas an.heap s'.heap b o∧∃o',s'.heap.get? b=some o':=by
  intro b o e;by_cases hb:b∈ci
  ·refine ah (Cr hb) λt ht aaN=>?_;subst aaN;refine ah (En.2.2 t ht) λps e' z=>?_;cases aD (at_ t ht) e;refine am (λaaO z=>?_) (B.ok.hd t (B.tabs▸ht));refine Vo aaO λoc vs z z z z z z z c1 c2 c3 c4 z=>?_;exact⟨.inr (.inl ⟨⟨t.1,oc,vs,of_hideAll _ c1,c2,c3,c4⟩,rfl,#[],ps,rfl,by rw[e'];simp⟩),_,e'⟩
  ·have e':=En.2.1 b o e hb;exact⟨.inl e',_,e'⟩
 exact⟨λb o e=>(key b o e).1,λb o e=>(key b o e).2⟩
theorem Ua(xs:List WData):rw.row.claim.post [.list xs] (.bool true) [.list xs]=true:=by kernel_rfl
theorem walk(DR:Draws):WalkO qv loose (XL qv []) (λw h=>Kept (H1 w.params) h) rw.row.toRowW mF [] λf vs=>PySem.call f vs:=by
 intro w s₀ an mg mb G hY a o pm cd doc dV kV ho hod yn hdf FR aaP args vals as aeQ agc Bm aaQ c6;have S0:aN (c0 w an.heap) w.params:=(kB hY).fY rfl;have i7:(c0 w an.heap).G an.heap:=LZ hY λb o e=>e;have em:=aaM G.T.g (de (S0.st _ i7) (n3 w.params));have ha:some (Value.ref a)=some (.ref 704):=FR.symm.trans ((congrFun em _).trans (WW w.params));obtain rfl:a=704:=by cases ha;rfl
 refine ah (T8 aeQ) λxs aaR aaS=>?_;subst aaR;refine am (λhx hl=>?_) aaS;cases aaQ with
 |@cons v _ _ _ hv hr=>
 cases hr;cases hv with
 |@list l vs _ e hvs=>
 refine am (λh1 h2=>?_) (Sw hvs hx);refine dq (TZ DR hY (l:=l) (vs:=vs) ⟨_,e,rfl,0,rfl⟩ h1 (by omega) λs' En=>?_);refine eM En.1 λh tk es=>?_;exact⟨.inl ⟨.bool true,.bool true,[],rfl,λz=>rfl,.bool true,Ua xs,λz=>⟨List.nodup_nil,λa h=>by cases h⟩⟩,Vl hY En,by rw[es],.of_eq (by rw[es];exact aaP)⟩
theorem holds(DR:Draws):rw.Holds:=head (walk DR) hw_
noncomputable def PL(x:Option Bool):Bool:=match x with|some b=>ap b false true|none=>false
noncomputable def lX(ρ:List (Option D))(eL eR:E):Bool:=match qM ((Mine.rec bG 37).ev ρ eL)with
 |some dr=>(match(Mine.rec bG 40).ev ρ eR with
  |.ok d2=>PL (fG bG .NotEq dr d2)
  |.exc _=>false
  |.stuck=>false)
 |none=>false
theorem Cc{ρ:List (Option D)}{eL eR:E}(h:lX ρ eL eR=true):uN ρ eL eR:=by
 unfold lX at h;cases h1:qM ((Mine.rec bG 37).ev ρ eL)with
 |none=>rw[h1]at h;cases h
 |some dr=>
  rw[h1]at h;cases h2:(Mine.rec bG 40).ev ρ eR with
  |stuck=>rw[h2]at h;cases h
  |exc d=>rw[h2]at h;cases h
  |ok d2=>
   rw[h2]at h;have h:PL (fG bG .NotEq dr d2)=true:=h;refine⟨_,dr,d2,rfl,h1,h2,?_⟩;cases h3:fG bG .NotEq dr d2 with
   |none=>rw[h3]at h;cases h
   |some b=>
    rw[h3]at h;cases b with
    |true=>cases h
    |false=>rfl
noncomputable def pz(f:D→Bool)(l:List D):Bool:=@List.rec D (λz=>Bool) true (λd z ih=>ap (f d) ih false) l
theorem xE{a b:Bool}(h:ap a b false=true):a=true∧b=true:=by
 cases a with
 |true=>exact⟨rfl,h⟩
 |false=>cases h
theorem xF{f:D→Bool}:∀{l:List D} {i:Nat} {d:D},pz f l=true→l[i]?=some d→f d=true
 |e::l,0,d,h,hd=>by cases hd;exact(xE h).1
 |e::l,i+1,d,h,hd=>xF (i:=i) (xE h).2 hd
noncomputable def opt(o:Option D)(f:D→Bool):Bool:=@Option.rec D (λz=>Bool) false f o
theorem uq{o:Option D}{f:D→Bool}{d:D}(h:opt o f=true)(e:o=some d):f d=true:=by subst e;exact h
noncomputable def Ap(l:List D)(eR:E)(i j:Nat):Bool:=opt l[i]? λa=>opt cb[j]? λb=>pz (λd=>lX (gA (some a) (some b) (some d) none) eB eR) cb
noncomputable def aA(l:List D)(eR:E)(i k:Nat):Bool:=ap (Ap l eR i (3*k)) (ap (Ap l eR i (3*k+1)) (Ap l eR i (3*k+2)) false) false
theorem K7{l:List D}{eR:E}{i j:Nat}(h:∀k,k<5→aA l eR i k=true)(hj:j<15):Ap l eR i j=true:=by
 have hp:=h (j/3) (by omega);unfold aA at hp;refine am (λa b=>?_) (xE hp);refine am (λb d=>?_) (xE b);have hm:j%3<3:=Nat.mod_lt _ (by omega);have hd:j=3*(j/3)+j%3:=(Nat.div_add_mod j 3).symm;rcases(by omega:j%3=0∨j%3=1∨j%3=2)with e|e|e<;>rw[e]at hd
 ·rw[hd];exact a
 ·rw[hd];exact b
 ·rw[hd];exact d
theorem ec{Z:Nat→Prop}(h0:Z 0)(h1:Z 1)(h2:Z 2)(h3:Z 3)(h4:Z 4):∀k,k<5→Z k
 |0,_=>h0
 |1,_=>h1
 |2,_=>h2
 |3,_=>h3
 |4,_=>h4
 |n+5,h=>absurd h (by omega)
theorem aeR{Z:Nat→Prop}(a:∀k,k<5→Z k)(b:∀k,k<5→Z (k+5))(d:∀k,k<5→Z (k+10))(i:Nat)(hi:i<15):Z i:=by
 by_cases h1:i<5
 ·exact a i h1
 ·by_cases h2:i<10
  ·have:=b (i-5) (by omega);rwa[show i-5+5=i from by omega]at this
  ·have:=d (i-10) (by omega);rwa[show i-10+10=i from by omega]at this
set_option tactic.hygienic true
theorem aeS:aA aB aG 0 0=true:=by kernel_rfl
theorem aeT:aA aB aG 0 1=true:=by kernel_rfl
theorem aeU:aA aB aG 0 2=true:=by kernel_rfl
theorem aeV:aA aB aG 0 3=true:=by kernel_rfl
theorem aeW:aA aB aG 0 4=true:=by kernel_rfl
theorem aeX:aA aB aG 1 0=true:=by kernel_rfl
theorem aeY:aA aB aG 1 1=true:=by kernel_rfl
theorem aeZ:aA aB aG 1 2=true:=by kernel_rfl
theorem ae0:aA aB aG 1 3=true:=by kernel_rfl
theorem ae1:aA aB aG 1 4=true:=by kernel_rfl
theorem ae2:aA aB aG 2 0=true:=by kernel_rfl
theorem ae3:aA aB aG 2 1=true:=by kernel_rfl
theorem ae4:aA aB aG 2 2=true:=by kernel_rfl
theorem ae5:aA aB aG 2 3=true:=by kernel_rfl
theorem ae6:aA aB aG 2 4=true:=by kernel_rfl
theorem ae7:aA aB aG 3 0=true:=by kernel_rfl
theorem ae8:aA aB aG 3 1=true:=by kernel_rfl
theorem ae9:aA aB aG 3 2=true:=by kernel_rfl
theorem afa:aA aB aG 3 3=true:=by kernel_rfl
theorem afb:aA aB aG 3 4=true:=by kernel_rfl
theorem afc:aA aB aG 4 0=true:=by kernel_rfl
theorem afd:aA aB aG 4 1=true:=by kernel_rfl
theorem afe:aA aB aG 4 2=true:=by kernel_rfl
theorem aff:aA aB aG 4 3=true:=by kernel_rfl
theorem afg:aA aB aG 4 4=true:=by kernel_rfl
theorem afh:aA aB aG 5 0=true:=by kernel_rfl
theorem afi:aA aB aG 5 1=true:=by kernel_rfl
theorem afj:aA aB aG 5 2=true:=by kernel_rfl
theorem afk:aA aB aG 5 3=true:=by kernel_rfl
theorem afl:aA aB aG 5 4=true:=by kernel_rfl
theorem afm:aA aB aG 6 0=true:=by kernel_rfl
theorem afn:aA aB aG 6 1=true:=by kernel_rfl
theorem afo:aA aB aG 6 2=true:=by kernel_rfl
theorem afp:aA aB aG 6 3=true:=by kernel_rfl
theorem afq:aA aB aG 6 4=true:=by kernel_rfl
theorem afr:aA aB aG 7 0=true:=by kernel_rfl
theorem afs:aA aB aG 7 1=true:=by kernel_rfl
theorem aft:aA aB aG 7 2=true:=by kernel_rfl
theorem afu:aA aB aG 7 3=true:=by kernel_rfl
theorem afv:aA aB aG 7 4=true:=by kernel_rfl
theorem afw:aA aB aG 8 0=true:=by kernel_rfl
theorem afx:aA aB aG 8 1=true:=by kernel_rfl
theorem afy:aA aB aG 8 2=true:=by kernel_rfl
theorem afz:aA aB aG 8 3=true:=by kernel_rfl
theorem afA:aA aB aG 8 4=true:=by kernel_rfl
theorem afB:aA aB aG 9 0=true:=by kernel_rfl
theorem afC:aA aB aG 9 1=true:=by kernel_rfl
theorem afD:aA aB aG 9 2=true:=by kernel_rfl
theorem afE:aA aB aG 9 3=true:=by kernel_rfl
theorem afF:aA aB aG 9 4=true:=by kernel_rfl
theorem aaT:aA aB aG 10 0=true:=by kernel_rfl
theorem aaU:aA aB aG 10 1=true:=by kernel_rfl
theorem aaV:aA aB aG 10 2=true:=by kernel_rfl
theorem aaW:aA aB aG 10 3=true:=by kernel_rfl
theorem aaX:aA aB aG 10 4=true:=by kernel_rfl
theorem aaY:aA aB aG 11 0=true:=by kernel_rfl
theorem aaZ:aA aB aG 11 1=true:=by kernel_rfl
theorem aa0:aA aB aG 11 2=true:=by kernel_rfl
theorem aa1:aA aB aG 11 3=true:=by kernel_rfl
theorem aa2:aA aB aG 11 4=true:=by kernel_rfl
theorem aa3:aA aB aG 12 0=true:=by kernel_rfl
theorem aa4:aA aB aG 12 1=true:=by kernel_rfl
theorem aa5:aA aB aG 12 2=true:=by kernel_rfl
theorem aa6:aA aB aG 12 3=true:=by kernel_rfl
theorem aa7:aA aB aG 12 4=true:=by kernel_rfl
theorem aa8:aA aB aG 13 0=true:=by kernel_rfl
theorem aa9:aA aB aG 13 1=true:=by kernel_rfl
theorem aba:aA aB aG 13 2=true:=by kernel_rfl
theorem abb:aA aB aG 13 3=true:=by kernel_rfl
theorem abc:aA aB aG 13 4=true:=by kernel_rfl
theorem abd:aA aB aG 14 0=true:=by kernel_rfl
theorem abe:aA aB aG 14 1=true:=by kernel_rfl
theorem abf:aA aB aG 14 2=true:=by kernel_rfl
theorem abg:aA aB aG 14 3=true:=by kernel_rfl
theorem abh:aA aB aG 14 4=true:=by kernel_rfl
theorem afG:aA er hV 0 0=true:=by kernel_rfl
theorem afH:aA er hV 0 1=true:=by kernel_rfl
theorem afI:aA er hV 0 2=true:=by kernel_rfl
theorem afJ:aA er hV 0 3=true:=by kernel_rfl
theorem afK:aA er hV 0 4=true:=by kernel_rfl
theorem afL:aA er hV 1 0=true:=by kernel_rfl
theorem afM:aA er hV 1 1=true:=by kernel_rfl
theorem afN:aA er hV 1 2=true:=by kernel_rfl
theorem afO:aA er hV 1 3=true:=by kernel_rfl
theorem afP:aA er hV 1 4=true:=by kernel_rfl
theorem u_0:opt gY[0]? (λa=>pz (λb=>lX (gA (some a) (some b) none none) eU qe) cb)=true:=by kernel_rfl
theorem u_1:opt gY[1]? (λa=>pz (λb=>lX (gA (some a) (some b) none none) eU qe) cb)=true:=by kernel_rfl
theorem u_2:opt gY[2]? (λa=>pz (λb=>lX (gA (some a) (some b) none none) eU qe) cb)=true:=by kernel_rfl
theorem u_3:opt gY[3]? (λa=>pz (λb=>lX (gA (some a) (some b) none none) eU qe) cb)=true:=by kernel_rfl
set_option tactic.hygienic false
theorem abi:∀i,i<15→∀k,k<5→aA aB aG i k=true:=
 aeR (ec (ec aeS aeT aeU aeV aeW) (ec aeX aeY aeZ ae0 ae1) (ec ae2 ae3 ae4 ae5 ae6) (ec ae7 ae8 ae9 afa afb) (ec afc afd afe aff afg))
  (ec (ec afh afi afj afk afl) (ec afm afn afo afp afq) (ec afr afs aft afu afv) (ec afw afx afy afz afA) (ec afB afC afD afE afF))
  (ec (ec aaT aaU aaV aaW aaX) (ec aaY aaZ aa0 aa1 aa2) (ec aa3 aa4 aa5 aa6 aa7) (ec aa8 aa9 aba abb abc) (ec abd abe abf abg abh))
theorem ur{l:List D}{i:Nat}{d:D}{n:Nat}(h:l[i]?=some d)(hn:l.length=n):i<n:=hn▸(List.getElem?_eq_some_iff.mp h).1
theorem draws:Draws where
 u i j a b ha hb:=by
  have hu:opt gY[i]? (λa=>pz (λb=>lX (gA (some a) (some b) none none) eU qe) cb)=true:=by
   have hi:=ur ha gH.1
   match i,hi with
   |0,_=>exact u_0
   |1,_=>exact u_1
   |2,_=>exact u_2
   |3,_=>exact u_3
  exact Cc (xF (uq hu ha) hb)
 b i j n a b d ha hb hd:=by
  have h:=K7 (abi i (ur ha gH.2.1)) (ur hb gH.2.2.2);exact Cc (xF (uq (uq h ha) hb) hd)
 s i j n a b d ha hb hd:=by
  have hp:∀k,k<5→aA er hV i k=true:=by
   have hi:=ur ha gH.2.2.1
   match i,hi with
   |0,_=>exact ec afG afH afI afJ afK
   |1,_=>exact ec afL afM afN afO afP
  have h:=K7 hp (ur hb gH.2.2.2);exact Cc (xF (uq (uq h ha) hb) hd)
theorem whole:rw.Holds:=holds draws
end Mine
theorem PySem.Challenge.cw_xw0050_01_holds : PySem.Challenge.rw_xw0050_01.Holds :=
  Mine.whole
