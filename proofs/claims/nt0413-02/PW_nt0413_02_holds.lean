import PyProof.Rows.All
import OpenK.AllK
import OpenK.KLine
import PyProof.TableCode
import PyProof.EqAt
import PyProof.StrBlock2
import PyProof.ExcInit
import PyProof.InstStoreFacts
import PySem.Eval
import OpenK.KOwn
import PySem.Challenge.RW_nt0413_02
set_option maxRecDepth 100000
set_option maxHeartbeats 4000000
set_option linter.all false
set_option Elab.async false
set_option backward.match.sparseCases false
set_option tactic.hygienic false
set_option genSizeOf false
set_option genInjectivity false
set_option genCtorIdx false
namespace Mn
section
variable{A B C D E F:Sort _} {G:Prop}
variable{p0 q0 r0 s0 t0 u0 v0:Prop}
variable{p1 q1 r1 s1 t1:A→Prop}
variable{p2 q2 r2 s2 t2 u2 v2:A→B→Prop}
variable{p3 q3 r3 s3 t3 u3:A→B→C→Prop}
variable{p4 q4 r4 s4 t4:A→B→C→D→Prop}
variable{p5 q5 r5 s5 t5:A→B→C→D→E→Prop}
variable{p6 q6:A→B→C→D→E→F→Prop}
theorem xA(h:p0∧q0)(H:p0→q0→G):G:=H h.1 h.2
theorem xE(h:∃a,p1 a)(H:∀a,p1 a→G):G:=h.elim fun a i0=>H a i0
theorem Es(h:p0∧q0∧r0)(H:p0→q0→r0→G):G:=H h.1 h.2.1 h.2.2
theorem AZ(h:∃a,p1 a∧q1 a)(H:∀a,p1 a→q1 a→G):G:=h.elim fun a i0=>H a i0.1 i0.2
theorem gB(h:∃a b,p2 a b)(H:∀a b,p2 a b→G):G:=h.elim fun a i0=>i0.elim fun b i1=>H a b i1
theorem OI(h:p0∧q0∧r0∧s0)(H:p0→q0→r0→s0→G):G:=H h.1 h.2.1 h.2.2.1 h.2.2.2
theorem UM(h:p0∧∃a,q1 a∧r1 a)(H:p0→∀a,q1 a→r1 a→G):G:=h.2.elim fun a i0=>H h.1 a i0.1 i0.2
theorem BU(h:∃a,p1 a∧q1 a∧r1 a)(H:∀a,p1 a→q1 a→r1 a→G):G:=h.elim fun a i0=>H a i0.1 i0.2.1 i0.2.2
theorem xEEA(h:∃a b,p2 a b∧q2 a b)(H:∀a b,p2 a b→q2 a b→G):G:=h.elim fun a i0=>i0.elim fun b i1=>H a b i1.1 i1.2
theorem V_(h:p0∧q0∧∃a,r1 a∧s1 a)(H:p0→q0→∀a,r1 a→s1 a→G):G:=h.2.2.elim fun a i0=>H h.1 h.2.1 a i0.1 i0.2
theorem DL(h:∃a,p1 a∧q1 a∧r1 a∧s1 a)(H:∀a,p1 a→q1 a→r1 a→s1 a→G):G:=h.elim fun a i0=>H a i0.1 i0.2.1 i0.2.2.1 i0.2.2.2
theorem BE(h:∃a b,p2 a b∧q2 a b∧r2 a b)(H:∀a b,p2 a b→q2 a b→r2 a b→G):G:=h.elim fun a i0=>i0.elim fun b i1=>H a b i1.1 i1.2.1 i1.2.2
theorem Fi(h:∃a b c,p3 a b c∧q3 a b c)(H:∀a b c,p3 a b c→q3 a b c→G):G:=h.elim fun a i0=>i0.elim fun b i1=>i1.elim fun c i2=>H a b c i2.1 i2.2
theorem aW(h:∃a b c d,p4 a b c d)(H:∀a b c d,p4 a b c d→G):G:=h.elim fun a i0=>i0.elim fun b i1=>i1.elim fun c i2=>i2.elim fun d i3=>H a b c d i3
theorem V9(h:p0∧∃a,q1 a∧r1 a∧s1 a∧t1 a)(H:p0→∀a,q1 a→r1 a→s1 a→t1 a→G):G:=h.2.elim fun a i0=>H h.1 a i0.1 i0.2.1 i0.2.2.1 i0.2.2.2
theorem V8(h:p0∧∃a b,q2 a b∧r2 a b∧s2 a b)(H:p0→∀a b,q2 a b→r2 a b→s2 a b→G):G:=h.2.elim fun a i0=>i0.elim fun b i1=>H h.1 a b i1.1 i1.2.1 i1.2.2
theorem V7(h:∃a,p1 a∧q1 a∧r1 a∧s1 a∧t1 a)(H:∀a,p1 a→q1 a→r1 a→s1 a→t1 a→G):G:=h.elim fun a i0=>H a i0.1 i0.2.1 i0.2.2.1 i0.2.2.2.1 i0.2.2.2.2
theorem Hl(h:∃a,p1 a∧∃b c,q3 a b c∧r3 a b c)(H:∀a,p1 a→∀b c,q3 a b c→r3 a b c→G):G:=h.elim fun a i0=>i0.2.elim fun b i1=>i1.elim fun c i2=>H a i0.1 b c i2.1 i2.2
theorem A_(h:∃a b c,p3 a b c∧q3 a b c∧r3 a b c)(H:∀a b c,p3 a b c→q3 a b c→r3 a b c→G):G:=h.elim fun a i0=>i0.elim fun b i1=>i1.elim fun c i2=>H a b c i2.1 i2.2.1 i2.2.2
theorem LK(h:∃a b c d,p4 a b c d∧q4 a b c d)(H:∀a b c d,p4 a b c d→q4 a b c d→G):G:=h.elim fun a i0=>i0.elim fun b i1=>i1.elim fun c i2=>i2.elim fun d i3=>H a b c d i3.1 i3.2
theorem S6(h:p0∧q0∧r0∧s0∧t0∧u0∧v0)(H:p0→q0→r0→s0→t0→u0→v0→G):G:=H h.1 h.2.1 h.2.2.1 h.2.2.2.1 h.2.2.2.2.1 h.2.2.2.2.2.1 h.2.2.2.2.2.2
theorem K6(h:p0∧q0∧∃a b,r2 a b∧s2 a b∧t2 a b)(H:p0→q0→∀a b,r2 a b→s2 a b→t2 a b→G):G:=h.2.2.elim fun a i0=>i0.elim fun b i1=>H h.1 h.2.1 a b i1.1 i1.2.1 i1.2.2
theorem Sz(h:p0∧∃a b c,q3 a b c∧r3 a b c∧s3 a b c)(H:p0→∀a b c,q3 a b c→r3 a b c→s3 a b c→G):G:=h.2.elim fun a i0=>i0.elim fun b i1=>i1.elim fun c i2=>H h.1 a b c i2.1 i2.2.1 i2.2.2
theorem OH(h:∃a b,p2 a b∧q2 a b∧r2 a b∧s2 a b∧t2 a b)(H:∀a b,p2 a b→q2 a b→r2 a b→s2 a b→t2 a b→G):G:=h.elim fun a i0=>i0.elim fun b i1=>H a b i1.1 i1.2.1 i1.2.2.1 i1.2.2.2.1 i1.2.2.2.2
theorem FN(h:∃a b c,p3 a b c∧q3 a b c∧r3 a b c∧s3 a b c)(H:∀a b c,p3 a b c→q3 a b c→r3 a b c→s3 a b c→G):G:=h.elim fun a i0=>i0.elim fun b i1=>i1.elim fun c i2=>H a b c i2.1 i2.2.1 i2.2.2.1 i2.2.2.2
theorem OG(h:∃a b c d e,p5 a b c d e∧q5 a b c d e)(H:∀a b c d e,p5 a b c d e→q5 a b c d e→G):G:=h.elim fun a i0=>i0.elim fun b i1=>i1.elim fun c i2=>i2.elim fun d i3=>i3.elim fun e i4=>H a b c d e i4.1 i4.2
theorem GF(h:p0∧∃a b,q2 a b∧r2 a b∧s2 a b∧t2 a b∧u2 a b)(H:p0→∀a b,q2 a b→r2 a b→s2 a b→t2 a b→u2 a b→G):G:=h.2.elim fun a i0=>i0.elim fun b i1=>H h.1 a b i1.1 i1.2.1 i1.2.2.1 i1.2.2.2.1 i1.2.2.2.2
theorem Pw(h:p0∧∃a b c d,q4 a b c d∧r4 a b c d∧s4 a b c d)(H:p0→∀a b c d,q4 a b c d→r4 a b c d→s4 a b c d→G):G:=h.2.elim fun a i0=>i0.elim fun b i1=>i1.elim fun c i2=>i2.elim fun d i3=>H h.1 a b c d i3.1 i3.2.1 i3.2.2
theorem CV(h:∃a b c,p3 a b c∧q3 a b c∧r3 a b c∧s3 a b c∧t3 a b c)(H:∀a b c,p3 a b c→q3 a b c→r3 a b c→s3 a b c→t3 a b c→G):G:=h.elim fun a i0=>i0.elim fun b i1=>i1.elim fun c i2=>H a b c i2.1 i2.2.1 i2.2.2.1 i2.2.2.2.1 i2.2.2.2.2
theorem GD(h:∃a b c d,p4 a b c d∧q4 a b c d∧r4 a b c d∧s4 a b c d)(H:∀a b c d,p4 a b c d→q4 a b c d→r4 a b c d→s4 a b c d→G):G:=h.elim fun a i0=>i0.elim fun b i1=>i1.elim fun c i2=>i2.elim fun d i3=>H a b c d i3.1 i3.2.1 i3.2.2.1 i3.2.2.2
theorem xEEEEEEA(h:∃a b c d e f,p6 a b c d e f∧q6 a b c d e f)(H:∀a b c d e f,p6 a b c d e f→q6 a b c d e f→G):G:=h.elim fun a i0=>i0.elim fun b i1=>i1.elim fun c i2=>i2.elim fun d i3=>i3.elim fun e i4=>i4.elim fun f i5=>H a b c d e f i5.1 i5.2
theorem NI(h:∃a b,p2 a b∧q2 a b∧r2 a b∧s2 a b∧t2 a b∧u2 a b∧v2 a b)(H:∀a b,p2 a b→q2 a b→r2 a b→s2 a b→t2 a b→u2 a b→v2 a b→G):G:=h.elim fun a i0=>i0.elim fun b i1=>H a b i1.1 i1.2.1 i1.2.2.1 i1.2.2.2.1 i1.2.2.2.2.1 i1.2.2.2.2.2.1 i1.2.2.2.2.2.2
theorem xEEEAAAAA(h:∃a b c,p3 a b c∧q3 a b c∧r3 a b c∧s3 a b c∧t3 a b c∧u3 a b c)(H:∀a b c,p3 a b c→q3 a b c→r3 a b c→s3 a b c→t3 a b c→u3 a b c→G):G:=h.elim fun a i0=>i0.elim fun b i1=>i1.elim fun c i2=>H a b c i2.1 i2.2.1 i2.2.2.1 i2.2.2.2.1 i2.2.2.2.2.1 i2.2.2.2.2.2
theorem Cc(h:∃a b c d,p4 a b c d∧q4 a b c d∧r4 a b c d∧s4 a b c d∧t4 a b c d)(H:∀a b c d,p4 a b c d→q4 a b c d→r4 a b c d→s4 a b c d→t4 a b c d→G):G:=h.elim fun a i0=>i0.elim fun b i1=>i1.elim fun c i2=>i2.elim fun d i3=>H a b c d i3.1 i3.2.1 i3.2.2.1 i3.2.2.2.1 i3.2.2.2.2
theorem Bq(h:∃a b c d e,p5 a b c d e∧q5 a b c d e∧r5 a b c d e∧s5 a b c d e∧t5 a b c d e)(H:∀a b c d e,p5 a b c d e→q5 a b c d e→r5 a b c d e→s5 a b c d e→t5 a b c d e→G):G:=h.elim fun a i0=>i0.elim fun b i1=>i1.elim fun c i2=>i2.elim fun d i3=>i3.elim fun e i4=>H a b c d e i4.1 i4.2.1 i4.2.2.1 i4.2.2.2.1 i4.2.2.2.2
end
theorem AD{α:Type _} {a:α} {G:Prop}(h:none=some a):G:=nomatch h
theorem Cq{α:Type _} {a:α} {G:Prop}(h:some a=none):G:=nomatch h
theorem Ak{G:Prop}(h:false=true):G:=nomatch h
theorem Di{G:Prop}(h:true=false):G:=nomatch h
end Mn
namespace Mn
open PySem
noncomputable def dk:List Nat→Nat→Nat
 | [],a=>a
 |c::r,a=>match Nat.blt c 127 with
  |true=>dk r (Nat.add (Nat.mul a 128) (Nat.add c 1))
  |false=>0
noncomputable def nk(s:Str):Nat:=dk s.cps.toList 0
set_option genCtorIdx true in
inductive V where
 |none|bool (b:Bool)|int (i:Int)|str (s:List Nat)
 |tup (l:List V)|lst (l:List V)|dct (l:List (List Nat×V))
 |inst (c:Nat) (fs:List (Nat×V))
 |ref (i:Nat)|par|lex|tmp
 |gl (i:Nat)|lv (l:List V)|tx|ps (k:Nat)|ln
inductive Ob where
 |inst (c:Nat) (fs:List (Nat×V))
 |list (l:List V)
 |dict (l:List (List Nat×V))
 |dead
section
variable{α β:Type} {G:Prop}
noncomputable abbrev cI(v:V)(d:α)(f:Int→α):α:=match v with|.int i=>f i|_=>d
noncomputable abbrev cS(v:V)(d:α)(f:List Nat→α):α:=match v with|.str i=>f i|_=>d
noncomputable abbrev cB(v:V)(d:α)(f:Bool→α):α:=match v with|.bool i=>f i|_=>d
noncomputable abbrev cT(v:V)(d:α)(f:List V→α):α:=match v with|.tup i=>f i|_=>d
noncomputable abbrev cP(v:V)(d:α)(f:Nat→α):α:=match v with|.ps i=>f i|_=>d
noncomputable abbrev cR(v:V)(d:α)(f:Nat→α):α:=match v with|.ref i=>f i|_=>d
noncomputable abbrev cG(v:V)(d:α)(f:Nat→α):α:=match v with|.gl i=>f i|_=>d
noncomputable abbrev cX(v:V)(d:α)(f:α):α:=match v with|.tx=>f|_=>d
noncomputable abbrev cM(v:V)(d:α)(f:α):α:=match v with|.tmp=>f|_=>d
noncomputable abbrev T9(i:Int)(d:α)(f:Nat→α):α:=match i with|.ofNat n=>f n|.negSucc _=>d
noncomputable abbrev cO(o:Option β)(d:α)(f:β→α):α:=match o with|some b=>f b|none=>d
noncomputable abbrev cC(b:Bool)(d:α)(f:α):α:=match b with|true=>f|false=>d
noncomputable abbrev c1(l:List β)(d:α)(f:β→α):α:=match l with| []=>d|b::r=>(match r with| []=>f b|_::_=>d)
noncomputable abbrev cL(o:Ob)(d:α)(f:List V→α):α:=match o with|.list l=>f l|_=>d
noncomputable abbrev cD(o:Ob)(d:α)(f:List (List Nat×V)→α):α:=match o with|.dict l=>f l|_=>d
noncomputable abbrev cF(o:Ob)(d:α)(f:Nat→List (Nat×V)→α):α:=match o with|.inst c fs=>f c fs|_=>d
variable{v:V} {d r:α}
theorem DK{f:Int→α}(e:cI v d f=r)(h:∀i,v=.int i→f i=r→G)(h':d=r→G):G:=by cases v<;>first|exact h _ rfl e|exact h' e
theorem EZ{f:List Nat→α}(e:cS v d f=r)(h:∀i,v=.str i→f i=r→G)(h':d=r→G):G:=by cases v<;>first|exact h _ rfl e|exact h' e
theorem NA{f:Bool→α}(e:cB v d f=r)(h:∀i,v=.bool i→f i=r→G)(h':d=r→G):G:=by cases v<;>first|exact h _ rfl e|exact h' e
theorem Sk{f:List V→α}(e:cT v d f=r)(h:∀i,v=.tup i→f i=r→G)(h':d=r→G):G:=by cases v<;>first|exact h _ rfl e|exact h' e
theorem Ky{f:Nat→α}(e:cP v d f=r)(h:∀i,v=.ps i→f i=r→G)(h':d=r→G):G:=by cases v<;>first|exact h _ rfl e|exact h' e
theorem rJ{f:Nat→α}(e:cR v d f=r)(h:∀i,v=.ref i→f i=r→G)(h':d=r→G):G:=by cases v<;>first|exact h _ rfl e|exact h' e
theorem rK{f:Nat→α}(e:cG v d f=r)(h:∀i,v=.gl i→f i=r→G)(h':d=r→G):G:=by cases v<;>first|exact h _ rfl e|exact h' e
theorem YI{f:α}(e:cX v d f=r)(h:v=.tx→f=r→G)(h':d=r→G):G:=by cases v<;>first|exact h rfl e|exact h' e
theorem aG{f:α}(e:cM v d f=r)(h:v=.tmp→f=r→G)(h':d=r→G):G:=by cases v<;>first|exact h rfl e|exact h' e
theorem Ji{i:Int} {f:Nat→α}(e:T9 i d f=r)(h:∀n,i=.ofNat n→f n=r→G)(h':d=r→G):G:=by cases i<;>first|exact h _ rfl e|exact h' e
theorem BQ{o:Option β} {f:β→α}(e:cO o d f=r)(h:∀b,o=some b→f b=r→G)(h':o=none→d=r→G):G:=by cases o<;>first|exact h _ rfl e|exact h' rfl e
theorem B3{b:Bool} {f:α}(e:cC b d f=r)(h:b=true→f=r→G)(h':b=false→d=r→G):G:=by cases b<;>first|exact h rfl e|exact h' rfl e
theorem rL{l:List β} {f:β→α}(e:c1 l d f=r)(h:∀b,l= [b]→f b=r→G)(h':d=r→G):G:=by
 match l,e with
 | [],e=>exact h' e
 | [b],e=>exact h b rfl e
 |_::_::_,e=>exact h' e
theorem aH{o:Ob} {f:List V→α}(e:cL o d f=r)(h:∀l,o=.list l→f l=r→G)(h':d=r→G):G:=by cases o<;>first|exact h _ rfl e|exact h' e
theorem kN{o:Ob} {f:List (List Nat×V)→α}(e:cD o d f=r)(h:∀l,o=.dict l→f l=r→G)(h':d=r→G):G:=by cases o<;>first|exact h _ rfl e|exact h' e
theorem aI{o:Ob} {f:Nat→List (Nat×V)→α}(e:cF o d f=r)(h:∀c l,o=.inst c l→f c l=r→G)(h':d=r→G):G:=by cases o<;>first|exact h _ _ rfl e|exact h' e
end
abbrev Af:=List (Nat×V)
set_option genCtorIdx true in
inductive Fl where|next|brk|cont|ret(v:V)
structure Fn where
 ps:List Nat
 body:List Stmt
 sc:Scope
structure Cl where
 ms:List (Nat×Fn)
 exc:Bool
 kind:Nat
structure G where
 fns:List (Nat×Fn)
 cls:List (Nat×Cl)
 cons:List (Nat×V)
 attrs:List Nat
 top:Nat
noncomputable def AK{α:Type}(k:Nat):List (Nat×α)→Option α
 | []=>none
 |(j,a)::r=>match Nat.beq j k with
  |true=>some a
  |false=>AK k r
noncomputable def E6(k:Nat):List Nat→Bool
 | []=>false
 |j::r=>match Nat.beq j k with
  |true=>true
  |false=>E6 k r
noncomputable def IK(k:Nat)(v:V):List (Nat×V)→List (Nat×V)
 | []=> [(k,v)]
 |(j,a)::r=>match Nat.beq j k with
  |true=>(j,v)::r
  |false=>(j,a)::IK k v r
noncomputable def DT(a:List Nat):List Nat→Bool:=List.rec (fun b=>List.rec true (fun J J J=>false) b) (fun x J ih b=>List.rec false (fun y q J=>Bool.rec false (ih q) (Nat.beq x y)) b) a
noncomputable def GY{α:Type}(k:List Nat):List (List Nat×α)→Option α
 | []=>none
 |(j,a)::r=>match DT j k with
  |true=>some a
  |false=>GY k r
noncomputable def UY(k:List Nat)(v:V):List (List Nat×V)→List (List Nat×V)
 | []=> [(k,v)]
 |(j,a)::r=>match DT j k with
  |true=>(j,v)::r
  |false=>(j,a)::UY k v r
noncomputable def B9(sc:List (Str×NameKind))(k:Nat):Option NameKind:=match sc with
 | []=>none
 |(x,q)::r=>match Nat.beq (nk x) k with
  |true=>some q
  |false=>B9 r k
noncomputable def DE(q:Option NameKind):Bool:=match q with|some .globalImplicit=>true|_=>false
noncomputable def DR(g:G)(c m:Nat):Option Fn:=match AK c g.cls with
 |none=>none
 |some cl=>AK m cl.ms
noncomputable def IG(v:V):Option (List V):=cT v none some
inductive Sc where|n|b(x:Bool)|i(x:Int)|s(x:List Nat)
noncomputable def gX:V→Option Sc
 |.none=>some .n
 |.bool b=>some (.b b)
 |.int i=>some (.i i)
 |.str s=>some (.s s)
 |_=>none
noncomputable def lb:Sc→Sc→Option Bool
 |.n,.n=>some true
 |.n,_=>some false
 |.b _,.n=>some false
 |.b x,.b y=>some (x==y)
 |.b _,.i _=>none
 |.b _,.s _=>some false
 |.i _,.n=>some false
 |.i _,.b _=>none
 |.i x,.i y=>some (decide (x=y))
 |.i _,.s _=>some false
 |.s _,.n=>some false
 |.s _,.b _=>some false
 |.s _,.i _=>some false
 |.s x,.s y=>some (DT x y)
noncomputable def q9(a b:V):Option Bool:=cO (gX a) none fun x=>cO (gX b) none (lb x)
noncomputable def eqI(a b:V):Option Bool:=cI a (cS a none fun x=>cS b none fun y=>some (DT x y)) fun x=>cI b none fun y=>some (decide (x=y))
noncomputable def ju(x:V):List V→Option Bool
 | []=>some false
 |y::r=>cO (eqI y x) none fun a=>cO (ju x r) none fun b=>some (a||b)
noncomputable def Zg:List Nat→List Nat→Bool
 | [],[]=>false
 | [],_::_=>true
 |_::_,[]=>false
 |a::r,b::q=>match Nat.blt a b with
  |true=>true
  |false=>match Nat.beq a b with
   |true=>Zg r q
   |false=>false
noncomputable def Zq:V→Bool
 |.none=>true
 |_=>false
noncomputable def e8(op:CmpOp)(a b:V):Option Bool:=match op with
 |.Eq=>q9 a b
 |.NotEq=>(q9 a b).map (!·)
 |.Lt=>cI a (cS a none fun x=>cS b none fun y=>some (Zg x y)) fun x=>cI b none fun y=>some (decide (x<y))
 |.LtE=>cI a (cS a none fun x=>cS b none fun y=>some (!Zg y x)) fun x=>cI b none fun y=>some (decide (x≤y))
 |.Gt=>cI a none fun x=>cI b none fun y=>some (decide (y<x))
 |.GtE=>cI a none fun x=>cI b none fun y=>some (decide (y≤x))
 |.Is=>cC (Zq b) none (some (Zq a))
 |.IsNot=>cC (Zq b) none (some !(Zq a))
 |_=>none
noncomputable def Fj(i:Int):Bool:=Nat.blt i.natAbs (Nat.pow 2 4096)
noncomputable def BV:Nat:=1048576
noncomputable def ao(l:List Nat):Nat→List Nat
 |0=> []
 |n+1=>l++ao l n
noncomputable def nn(x y:Int)(f:Nat→Nat→Option Int):Option Int:=T9 x none fun x=>T9 y none (f x)
noncomputable def Qe(op:Operator)(x y:Int):Option Int:=match op with
 |.Add=>some (x+y)
 |.Sub=>some (x-y)
 |.Mult=>cC (Fj x&&Fj y) none (some (x*y))
 |.FloorDiv=>cC (!decide (y=0)&&Fj y) none (some (x.fdiv y))
 |.Mod=>cC (!decide (y=0)) none (some (x.fmod y))
 |.Pow=>nn x y fun x y=>cC (Nat.blt x 16&&Nat.blt y 1024) none (some (.ofNat (Nat.pow x y)))
 |.LShift=>nn x y fun x y=>cC (Fj (.ofNat x)&&Nat.blt y 2048) none (some (.ofNat (Nat.shiftLeft x y)))
 |.RShift=>nn x y fun x y=>cC (Nat.blt y 2048) none (some (.ofNat (Nat.shiftRight x y)))
 |.BitAnd=>nn x y fun x y=>some (.ofNat (Nat.land x y))
 |.BitOr=>nn x y fun x y=>some (.ofNat (Nat.lor x y))
 |_=>none
noncomputable def UU(op:Operator)(x:List Nat)(b:V):Option V:=match op with
 |.Add=>cS b none fun y=>cC (Nat.ble (Nat.add x.length y.length) BV) none (some (.str (x++y)))
 |.Mult=>cI b none fun y=>T9 y none fun y=>cC (Nat.ble (Nat.mul x.length y) BV&&Nat.ble y BV) none (some (.str (ao x y)))
 |_=>none
noncomputable def rN(op:Operator)(a b:V):Option V:=cI a none fun x=>cI b none fun y=>match op with
 |.Add=>some (.int (x+y))
 |.Sub=>some (.int (x-y))
 |_=>none
noncomputable def Kx(i:Option V)(d n:Nat):Option Nat:=cO i (some d) fun v=>cC (Zq v) (cI v none fun i=>T9 i none fun k=>some (cC (Nat.ble k n) n k)) (some d)
noncomputable def cut{α:Type}(l:List α)(a b:Nat):List α:=(l.drop a).take (Nat.sub b a)
noncomputable def Yv:V→Bool
 |.tmp=>false
 |_=>true
noncomputable def SD:List V→Bool
 | []=>true
 |v::r=>Yv v&&SD r
noncomputable def Bu:List Expr→Bool
 | []=>true
 |.Starred .. ::_=>false
 |_::r=>Bu r
noncomputable def I0:Nat:=nk "super"
noncomputable def EE:Expr→Bool
 |.Call (.Name x _) [] [] _=>Nat.beq (nk x) I0
 |_=>false
noncomputable def JW:Expr→Bool
 |.ListComp .. =>true
 |.SetComp .. =>true
 |.DictComp .. =>true
 |_=>false
noncomputable def FX(as:List Expr):Bool:=Bu as&&Nat.blt as.length 30
noncomputable def Rn(ts:List Expr)(v:Expr):Bool:=match v with
 |.Tuple vs _ _=>!vs.all (constantsAlone 8)||vs.all (foldedForSure 8)
 |_=>true
noncomputable def G9:List Expr→Bool
 | []=>true
 |.Name .. ::r=>G9 r
 |_=>false
noncomputable def PU(sc:Scope):Bool:=sc.kind==.function&&sc.names.all fun x=>x.2 !=.free&&x.2 !=.cell&&(x.2 !=.local||sc.names.lookup x.1==some .local)
noncomputable def OY:Expr→Bool
 |.Name .. =>true
 |.Attribute .. =>true
 |.Subscript .. =>true
 |_=>false
noncomputable def kP:Nat:=nk "StmtParser"
noncomputable def kL:Nat:=nk "Lexer"
noncomputable def jS{α:Type}(l:List α)(i:Int):Option α:=T9 i none fun k=>cC (Nat.blt k BV) none l[k]?
noncomputable def NN(i:Int):List Nat:=match i with
 |.ofNat k=>(Nat.toDigits 10 k).map Char.toNat
 |.negSucc k=>45::(Nat.toDigits 10 (Nat.succ k)).map Char.toNat
noncomputable def Xc:List V→Option (List Nat)
 | []=>some []
 |v::r=>cS v none fun s=>cO (Xc r) none fun q=>some (s++q)
noncomputable def JG(cs:List Nat):List Nat→List Nat
 | []=> []
 |c::r=>match E6 c cs with
  |true=>JG cs r
  |false=>c::r
noncomputable def HY:List Nat→List Nat→Bool
 | [],_=>true
 |a::r,b::q=>match Nat.beq a b with
  |true=>HY r q
  |false=>false
 |_::_,[]=>false
noncomputable def br:Nat:=nk "len"
noncomputable def k9:Nat:=nk "ord"
noncomputable def lD:Nat:=nk "chr"
noncomputable def ky:Nat:=nk "str"
noncomputable def lA:Nat:=nk "int"
noncomputable def lE:Nat:=nk "abs"
noncomputable def k_:Nat:=nk "max"
noncomputable def Yg:Nat:=nk "list"
noncomputable def Pg:Nat:=nk "range"
set_option genCtorIdx true in
inductive BF where|len|ord|chr|str|list|int|abs|max
noncomputable def bfs:List (Nat×BF):= [(br,.len),(k9,.ord),(lD,.chr),(ky,.str),(Yg,.list),(lA,.int),(lE,.abs),(k_,.max)]
noncomputable def Sj(f:BF)(vs:List V):Option V:=match f with
 |.ord=>c1 vs none fun v=>cS v none fun s=>c1 s none fun c=>some (.int (.ofNat c))
 |.chr=>c1 vs none fun v=>cI v none fun i=>T9 i none fun c=>cC (Nat.blt c 1114112) none (some (.str [c]))
 |.str=>c1 vs none fun v=>cS v (cI v none fun i=>cC (Nat.blt i.natAbs (Nat.pow 2 1900)) none (some (.str (NN i)))) fun s=>some (.str s)
 |.int=>c1 vs none fun v=>cB v none fun b=>some (.int (cC b 0 1))
 |.abs=>c1 vs none fun v=>cI v none fun i=>some (.int (.ofNat i.natAbs))
 |.max=>match vs with
  |a::r=>c1 r none fun b=>cI a none fun a=>cI b none fun b=>some (.int (cC (decide (b>a)) a b))
  | []=>none
 |_=>none
noncomputable def Yh:Nat:=nk "append"
noncomputable def kz:Nat:=nk "pop"
noncomputable def lC:Nat:=nk "get"
noncomputable def fV:Nat:=nk "join"
noncomputable def Pf:Nat:=nk "startswith"
noncomputable def Yf:Nat:=nk "lstrip"
set_option genCtorIdx true in
inductive BM where|startswith|join|lstrip|append|pop|get
noncomputable def lj:List (Nat×BM):= [(Pf,.startswith),(fV,.join),(Yf,.lstrip),(Yh,.append),(kz,.pop),(lC,.get)]
noncomputable def PS:Const→Option V
 |.none=>some .none
 |.bool b=>some (.bool b)
 |.int i=>some (.int i)
 |.str s=>some (.str s.cps.toList)
 |_=>none
noncomputable def dG(a b:Nat):Option (Int×Int):=cC (Nat.blt a (Nat.pow 2 61)&&Nat.blt b (Nat.pow 2 61)) none (some (.ofNat a,.ofNat b))
noncomputable def Ze(v:V)(f:Nat→Option (Int×Int)):Option (Int×Int):=cI v none fun i=>T9 i none f
noncomputable def TK(vs:List V):Option (Int×Int):=match vs with
 |a::r=>(match r with
  | []=>Ze a (dG 0)
  |b::r=>(match r with
   | []=>Ze a fun x=>Ze b (dG x)
   |_::_=>none))
 | []=>none
noncomputable def BJ:List Expr→Option (List Nat)
 | []=>some []
 |.Name x _::r=>(BJ r).map (nk x::·)
 |_=>none
noncomputable def Dg:Nat:=nk "__debug__"
noncomputable def Uk(sc:Scope)(k:Nat)(v:V)(ρ:Af):Option Af:=match Nat.beq k 0||Nat.beq k Dg,B9 sc.names k with
 |false,some .local=>some ((k,v)::ρ)
 |_,_=>none
noncomputable def An(sc:Scope):List Nat→List V→Af→Option Af
 | [],[],ρ=>some ρ
 |k::ks,v::vs,ρ=>match Uk sc k v ρ with
  |some ρ=>An sc ks vs ρ
  |none=>none
 |_,_,_=>none
noncomputable def Jk(sc:Scope)(tgt:Expr)(v:V)(ρ:Af):Option Af:=match tgt with
 |.Name x _=>Uk sc (nk x) v ρ
 |.Tuple es _ _=>match BJ es,IG v with
  |some ks,some vs=>An sc ks vs ρ
  |_,_=>none
 |_=>none
noncomputable def JX:List Stmt→Bool
 | []=>true
 |.Assign [.Attribute (.Name s _) _ _] (.Name _ _) _::r=>Nat.beq (nk s) (nk "self")&&JX r
 |_=>false
abbrev X:=Fl×Af
noncomputable def Ib(a:Arguments):List Nat:=a.args.map fun x=>nk x.arg
noncomputable def Xj(g:G)(f:Nat):Bool:=match AK f g.fns with
 |some _=>true
 |none=>match AK f g.cls with
  |some c=>!c.exc
  |none=>(AK f bfs).isSome
noncomputable abbrev AL:Nat:=167523046
noncomputable abbrev DB:Nat:=30540626676
noncomputable abbrev Bh:Nat:=23053677423
noncomputable abbrev Ab:Nat:=783617282984585508205
noncomputable abbrev DD:Nat:=20381939956
noncomputable abbrev Im:Nat:=30540626534
noncomputable abbrev AV:Nat:=6979325730307487334
noncomputable abbrev HV:Nat:=114349272765222568407924
noncomputable abbrev Gd:Nat:=14636706913948800686813550
noncomputable abbrev HW:Nat:=114349272764984722158453
noncomputable abbrev Cz:Nat:=54469080146341984
noncomputable abbrev Dq:Nat:=234470645
noncomputable abbrev Xb:Nat:=217625965
noncomputable abbrev EK:Nat:=209466106
noncomputable abbrev Cy:Nat:=61795982705914725
noncomputable abbrev Aj:Nat:=27885680613
noncomputable abbrev HD:Nat:=30563414630
noncomputable abbrev EJ:Nat:=247215845
noncomputable abbrev BG:Nat:=247053557
noncomputable abbrev CS:Nat:=12661
noncomputable abbrev AG:Nat:=32151141222
noncomputable abbrev Dt:Nat:=1685477
noncomputable abbrev GZ:Nat:=253508069
noncomputable abbrev Em:Nat:=234403686
noncomputable abbrev Ad:Nat:=7703833392461820533
noncomputable abbrev AJ:Nat:=228243429
noncomputable abbrev Ao:Nat:=60186197269246317
noncomputable abbrev DC:Nat:=29225663599
noncomputable abbrev Dp:Nat:=245119477
noncomputable abbrev Nn:Nat:=1782650
noncomputable abbrev HC:Nat:=31375293172
noncomputable abbrev CX:Nat:=3978957517683
noncomputable abbrev k_box:Nat:=1636473
noncomputable abbrev FV:Nat:=30557188710
noncomputable abbrev By:Nat:=4012816120053
noncomputable abbrev CO:Nat:=244953957
noncomputable abbrev Qd:Nat:=1849318
noncomputable abbrev Ga:Nat:=247314927
noncomputable abbrev k_self:Nat:=244954855
noncomputable abbrev AI:Nat:=230340582
noncomputable abbrev K8:Nat:=31350077670
noncomputable abbrev Ip:Nat:=27873049205
noncomputable abbrev AW:Nat:=264701679586521356108413188070
noncomputable abbrev CR:Nat:=31385500149
noncomputable abbrev BK:Nat:=60186197556245871
noncomputable abbrev Am:Nat:=31643612015
noncomputable abbrev K9:Nat:=30850956006
noncomputable abbrev Ez:Nat:=3771727460084
noncomputable abbrev DZ:Nat:=29496195316
noncomputable abbrev DU:Nat:=65833633928868724
noncomputable abbrev Bz:Nat:=29475369843
noncomputable abbrev Dc:Nat:=29466915699
noncomputable abbrev De:Nat:=27327757033
noncomputable abbrev Dd:Nat:=28971874548
noncomputable abbrev Cf:Nat:=500513958967272
noncomputable abbrev Cr:Nat:=3462514881903
noncomputable abbrev L7:Nat:=230274037
noncomputable abbrev El:Nat:=234631910
noncomputable abbrev Io:Nat:=29474994805
noncomputable abbrev E4:Nat:=3673473791973
noncomputable abbrev DV:Nat:=60186193521389925
noncomputable abbrev DA:Nat:=3911320154996
noncomputable abbrev C2:Nat:=7621729971624309101
noncomputable def DO:List Stmt:=PySem.Challenge.pw_nt0413_02.main.body
noncomputable def Yz:Option Stmt→Fn
 |some (.FunctionDef _ args body _ _ _ sc _ _ _)=>⟨Ib args,body,sc⟩
 |_=>⟨[],[],⟨.function,[],false,false,[]⟩⟩
noncomputable def fA(i:Nat):Fn:=Yz DO[i]?
noncomputable def mA(i j:Nat):Fn:=match DO[i]? with
 |some (.ClassDef _ _ _ body _ _ _ _ _ _ _)=>Yz body[j]?
 |_=>Yz none
noncomputable def X7:List (Nat×V):= [
 (47615746839209301,.int (9223372036854775808)),
 (1385960888863894749253380820,.int (52)),
 (1385960888863894749276318284,.int (4503599627370495)),
 (2984855519289150336127008385972980,.int (4503599627370496)),
 (1367542589234945301859576396,.int (2047)),
 (175045451422072998639650907093,.int (1075)),
 (402667521319265923668367133374069492,.int (-1074)),
 (191998416,.int (0)),
 (1222599,.int (9218868437227405312)),
 (6597304669294852893382527157835126175864,.int (-1074)),
 (48903872828033439107104950030152923256,.int (4503599627370496)),
 (2322911716948,.lst [.int (9),.int (11),.int (12),.int (32),.int (160),.int (5760),.int (6158),.int (8239),.int (8287),.int (12288),.int (65279)]),
 (5590442914247598804,.lst [.int (10),.int (13),.int (8232),.int (8233)]),
 (341077759470036,.lst [.tup [.int (170),.int (170)],.tup [.int (181),.int (181)],.tup [.int (186),.int (186)],.tup [.int (192),.int (214)],.tup [.int (216),.int (246)],.tup [.int (248),.int (705)],.tup [.int (880),.int (883)],.tup [.int (886),.int (887)],.tup [.int (891),.int (893)],.tup [.int (902),.int (902)],.tup [.int (904),.int (906)],.tup [.int (908),.int (908)],.tup [.int (910),.int (929)],.tup [.int (931),.int (1013)],.tup [.int (1015),.int (1153)],.tup [.int (1162),.int (1315)],.tup [.int (1329),.int (1366)],.tup [.int (1377),.int (1415)],.tup [.int (1488),.int (1514)],.tup [.int (1569),.int (1594)],.tup [.int (1601),.int (1610)],.tup [.int (2308),.int (2361)],.tup [.int (4256),.int (4293)],.tup [.int (4304),.int (4346)],.tup [.int (7680),.int (7835)],.tup [.int (7840),.int (7929)],.tup [.int (8544),.int (8578)],.tup [.int (12353),.int (12438)],.tup [.int (12449),.int (12538)],.tup [.int (12549),.int (12588)],.tup [.int (19968),.int (40891)],.tup [.int (44032),.int (55203)]]),
 (21883054804,.lst [.tup [.int (768),.int (879)],.tup [.int (1632),.int (1641)],.tup [.int (2406),.int (2415)],.tup [.int (8204),.int (8205)],.tup [.int (8255),.int (8256)],.tup [.int (8276),.int (8276)]]),
 (2906249111238,.dct [([98],.int (8)),([116],.int (9)),([110],.int (10)),([118],.int (11)),([102],.int (12)),([114],.int (13))]),
 (40262592592194133,.int (400)),
 (43095175883711188,.lst [.str [98,114,101,97,107],.str [99,97,115,101],.str [99,97,116,99,104],.str [99,111,110,116,105,110,117,101],.str [100,101,98,117,103,103,101,114],.str [100,101,102,97,117,108,116],.str [100,101,108,101,116,101],.str [100,111],.str [101,108,115,101],.str [102,105,110,97,108,108,121],.str [102,111,114],.str [102,117,110,99,116,105,111,110],.str [105,102],.str [105,110],.str [105,110,115,116,97,110,99,101,111,102],.str [110,101,119],.str [114,101,116,117,114,110],.str [115,119,105,116,99,104],.str [116,104,105,115],.str [116,104,114,111,119],.str [116,114,121],.str [116,121,112,101,111,102],.str [118,97,114],.str [118,111,105,100],.str [119,104,105,108,101],.str [119,105,116,104],.str [99,108,97,115,115],.str [99,111,110,115,116],.str [101,110,117,109],.str [101,120,112,111,114,116],.str [101,120,116,101,110,100,115],.str [105,109,112,111,114,116],.str [115,117,112,101,114],.str [110,117,108,108],.str [116,114,117,101],.str [102,97,108,115,101]]),
 (2806391057108,.lst [.str [62,62,62,61],.str [61,61,61],.str [33,61,61],.str [62,62,62],.str [60,60,61],.str [62,62,61],.str [60,61],.str [62,61],.str [61,61],.str [33,61],.str [43,43],.str [45,45],.str [60,60],.str [62,62],.str [38,38],.str [124,124],.str [43,61],.str [45,61],.str [42,61],.str [37,61],.str [38,61],.str [124,61],.str [94,61],.str [47,61],.str [123],.str [125],.str [40],.str [41],.str [91],.str [93],.str [46],.str [59],.str [44],.str [60],.str [62],.str [43],.str [45],.str [42],.str [37],.str [38],.str [124],.str [94],.str [33],.str [126],.str [63],.str [58],.str [61],.str [47]]),
 (12794842304513357160702676,.tup [.str [105,109,112,108,101,109,101,110,116,115],.str [105,110,116,101,114,102,97,99,101],.str [108,101,116],.str [112,97,99,107,97,103,101],.str [112,114,105,118,97,116,101],.str [112,114,111,116,101,99,116,101,100],.str [112,117,98,108,105,99],.str [115,116,97,116,105,99],.str [121,105,101,108,100]]),
 (770631575143508697925,.tup [.str [97,114,103,117,109,101,110,116,115],.str [101,118,97,108]]),
 (376124128471764,.tup [.str [78,97,109,101],.str [77,101,109,98,101,114],.str [73,110,100,101,120]]),
 (45966548358310618,.dct [([124,124],.int (1)),([38,38],.int (2)),([124],.int (3)),([94],.int (4)),([38],.int (5)),([61,61],.int (6)),([33,61],.int (6)),([61,61,61],.int (6)),([33,61,61],.int (6)),([60],.int (7)),([62],.int (7)),([60,61],.int (7)),([62,61],.int (7)),([105,110,115,116,97,110,99,101,111,102],.int (7)),([105,110],.int (7)),([60,60],.int (8)),([62,62],.int (8)),([62,62,62],.int (8)),([43],.int (9)),([45],.int (9)),([42],.int (10)),([47],.int (10)),([37],.int (10))]),
 (4803461000612456392,.tup [.str [61],.str [43,61],.str [45,61],.str [42,61],.str [47,61],.str [37,61],.str [60,60,61],.str [62,62,61],.str [62,62,62,61],.str [38,61],.str [94,61],.str [124,61]]),
 (102264328697806962436052,.tup [.str [45],.str [43],.str [33],.str [126]]),
 (102264328697808048939732,.tup [.str [116,121,112,101,111,102],.str [118,111,105,100],.str [100,101,108,101,116,101]]),
 (22727993556,.tup [.str [43,43],.str [45,45]]),
 (716009649921219420884,.tup [.str [100,111],.str [119,104,105,108,101],.str [102,111,114]])
]
noncomputable def ka:List Nat:= [228243429,230340582,30540626676,31350077670,32151141222,264701679586521356108413188070,31385500149,1685477,60186197269246317,60186197556245871,247053557,12661,3771727460084,29496195316,65833633928868724,29475369843,31643612015,29466915699,7703833392461820533,27327757033,28971874548,500513958967272]
noncomputable def eX:List (Nat×Fn):= [
 (32436222697,fA 12),
 (238596716,fA 13),
 (126219603420993933720550,fA 14),
 (3673473937775,fA 15),
 (3673473857511,fA 16),
 (470204689267184,fA 17),
 (4014403744613,fA 18),
 (30540626676,fA 19),
 (64699144099969013,fA 20),
 (136809619781703650080112,fA 21),
 (7127460118139728741,fA 22),
 (58493498572847093,fA 23),
 (4012780516197,fA 27),
 (1969156973518822071814632038,fA 28),
 (122586966813209469170278,fA 29),
 (65767868888365685,fA 30),
 (129596802089642742364646,fA 31),
 (37026339242715620532507270297589,fA 32),
 (2337294945419155658342250485,fA 33),
 (61796222928436085,fA 34),
 (38294240404784188350068663579508,fA 35),
 (245004408,fA 36),
 (60186193532041192,fA 42),
 (60186199427037926,fA 43),
 (126219602312927760725989,fA 44),
 (60186194328827253,fA 45),
 (264701694916625859923322484085,fA 46),
 (7624003763545275238,fA 47),
 (126219600601576073902581,fA 48),
 (986090629699806476789,fA 49),
 (443680269283701,fA 52),
 (3635408286069,fA 53),
 (2124516889947096111495429606,fA 54),
 (17044106894636370733086950,fA 55),
 (136715939258171007744230,fA 56),
 (7482066363341092967,fA 59),
 (32449034985,fA 60),
 (15701728962415254818238829,fA 61),
 (986090638537253468645,fA 66),
 (64136155246375285,fA 67),
 (1030918316728608732917,fA 76),
 (1931088750310994940364961525,fA 77),
 (122586966813210566111846,fA 78),
 (17192842992753392079451893,fA 79),
 (17797306330407069313513205,fA 80),
 (15384121581691550008456949,fA 81),
 (133157085114346877335285,fA 82),
 (121452635626901979641589,fA 83),
 (244585762082741833280471807733,fA 84),
 (30540626534,fA 99),
 (6979325730307487334,fA 101),
 (114349272765222568407924,fA 102),
 (14636706913948800686813550,fA 103),
 (114349272764984722158453,fA 104),
 (1798520,fA 105)
]
noncomputable def Q0:List (Nat×Cl):= [
 (167523046,⟨[(54469080146341984,mA 1 0)],false,1⟩),
 (23053677423,⟨[(54469080146341984,mA 65 0)],false,4⟩),
 (783617282984585508205,⟨[(54469080146341984,mA 69 0)],true,0⟩),
 (20885435251,⟨[(54469080146341984,mA 71 0),(234470645,mA 71 1),(217625965,mA 71 2),(57912574745425894,mA 71 3),(137952454327156329936500,mA 71 4),(17657914153880514576627701,mA 71 5),(8054049349469647983,mA 71 6),(8344478714506557286,mA 71 7),(137952454327224256609012,mA 71 8),(136715939258480803246963,mA 71 9),(65191239956984697,mA 71 10),(1068093275457112076653,mA 71 11),(17499640225041009925140845,mA 71 12),(2239953948805896231544535029,mA 71 13),(31085704057,mA 71 14),(1068096658409575428858,mA 71 15),(8344478714519207157,mA 71 16),(452613524714341,mA 71 17),(1068093275457418162805,mA 71 18)],false,3⟩),
 (20381939956,⟨[(54469080146341984,mA 85 0),(129595568723228064855797,mA 85 1),(117946663757264736597749,mA 85 2),(249771315886534956244275148533,mA 85 3)],false,0⟩),
 (792118324697572782963,⟨[(54469080146341984,mA 87 0),(246986342,mA 87 1),(238662508,mA 87 2),(470204674651247,mA 87 3),(470204683139557,mA 87 4),(1683829,mA 87 5),(234468197,mA 87 6),(8056265930559994341,mA 87 7),(217625965,mA 87 8),(58418525355243635,mA 87 9),(1096414250256192861029,mA 87 10),(8056265930540889958,mA 87 11),(16895214208713187045062632,mA 87 12),(2203249466437902982757005158,mA 87 13),(443201904818149,mA 87 14),(1989860916980616898729850869,mA 87 15)],false,0⟩),
 (654419133388197540723,⟨[(58506655712327791,mA 94 0),(949567039293938645103,mA 94 1),(912314912511136217077,mA 94 2),(131993861006188110033781,mA 94 3),(119100235460994081223021,mA 94 4),(64122792525347578,mA 94 5),(3430302661114,mA 94 6),(31909788154,mA 94 7),(500858932032889,mA 94 8),(7912155690254776293,mA 94 9),(18260116761121684285143540,mA 94 10),(56804301938014319,mA 94 11),(7126844941390314228,mA 94 12),(500959312132602,mA 94 13),(18267181575880710827849701,mA 94 14),(26549743994,mA 94 15),(3875091886709,mA 94 16),(27615132154,mA 94 17),(7412880592462361466,mA 94 18),(54469080146341984,mA 87 0),(246986342,mA 87 1),(238662508,mA 87 2),(470204674651247,mA 87 3),(470204683139557,mA 87 4),(1683829,mA 87 5),(234468197,mA 87 6),(8056265930559994341,mA 87 7),(217625965,mA 87 8),(58418525355243635,mA 87 9),(1096414250256192861029,mA 87 10),(8056265930540889958,mA 87 11),(16895214208713187045062632,mA 87 12),(2203249466437902982757005158,mA 87 13),(443201904818149,mA 87 14),(1989860916980616898729850869,mA 87 15)],false,0⟩),
 (783256431474245448563,⟨[(209466106,mA 97 0),(3398864320485,mA 97 1),(452373568403445,mA 97 2),(58506655712327791,mA 97 3),(2010273383062235597019592550,mA 97 4),(1049367858440706832884,mA 97 5),(8424981109210200053,mA 97 6),(4618612752755518877728969705830511,mA 97 7),(299289502939520030857060005877,mA 97 8),(26805547628,mA 97 9),(8630532229945848692,mA 97 10),(7269301480773564527,mA 97 11),(3464396190310,mA 97 12),(230439025,mA 97 13),(7917824634756281082,mA 97 14),(58480403781793905,mA 97 15),(61251413601958001,mA 97 16),(61795982705914725,mA 97 17),(226342769,mA 97 18),(482918321010664,mA 97 19),(4018166133353,mA 97 20),(7261442203295953658,mA 97 21),(435060270151925,mA 97 22),(949567039293938645103,mA 94 1),(912314912511136217077,mA 94 2),(131993861006188110033781,mA 94 3),(119100235460994081223021,mA 94 4),(64122792525347578,mA 94 5),(3430302661114,mA 94 6),(31909788154,mA 94 7),(500858932032889,mA 94 8),(7912155690254776293,mA 94 9),(18260116761121684285143540,mA 94 10),(56804301938014319,mA 94 11),(7126844941390314228,mA 94 12),(500959312132602,mA 94 13),(18267181575880710827849701,mA 94 14),(26549743994,mA 94 15),(3875091886709,mA 94 16),(27615132154,mA 94 17),(7412880592462361466,mA 94 18),(54469080146341984,mA 87 0),(246986342,mA 87 1),(238662508,mA 87 2),(470204674651247,mA 87 3),(470204683139557,mA 87 4),(1683829,mA 87 5),(234468197,mA 87 6),(8056265930559994341,mA 87 7),(217625965,mA 87 8),(58418525355243635,mA 87 9),(1096414250256192861029,mA 87 10),(8056265930540889958,mA 87 11),(16895214208713187045062632,mA 87 12),(2203249466437902982757005158,mA 87 13),(443201904818149,mA 87 14),(1989860916980616898729850869,mA 87 15)],false,2⟩)
]
noncomputable def gT:G:=⟨eX,Q0,X7,ka,Im⟩
end Mn
namespace Mn
noncomputable abbrev BA:Fn:=mA 1 0
noncomputable abbrev MW:Fn:=fA 23
noncomputable abbrev H0:Fn:=fA 30
noncomputable abbrev Yk:Fn:=fA 36
noncomputable abbrev Sw:Fn:=fA 42
noncomputable abbrev MT:Fn:=fA 43
noncomputable abbrev Hd:Fn:=fA 44
noncomputable abbrev MU:Fn:=fA 45
noncomputable abbrev FE:Fn:=fA 46
noncomputable abbrev KZ:Fn:=fA 47
noncomputable abbrev He:Fn:=fA 48
noncomputable abbrev JA:Fn:=fA 49
noncomputable abbrev OC:Fn:=fA 52
noncomputable abbrev RC:Fn:=fA 53
noncomputable abbrev F1:Fn:=fA 54
noncomputable abbrev Gw:Fn:=fA 55
noncomputable abbrev Ha:Fn:=fA 56
noncomputable abbrev G0:Fn:=fA 61
noncomputable abbrev AN:Fn:=mA 65 0
noncomputable abbrev I_:Fn:=fA 66
noncomputable abbrev MO:Fn:=fA 67
noncomputable abbrev Jn:Fn:=mA 71 1
noncomputable abbrev JC:Fn:=mA 71 2
noncomputable abbrev Ma:Fn:=mA 71 3
noncomputable abbrev Ep:Fn:=mA 71 4
noncomputable abbrev KX:Fn:=mA 71 6
noncomputable abbrev Gq:Fn:=mA 71 7
noncomputable abbrev Eo:Fn:=mA 71 8
noncomputable abbrev HZ:Fn:=mA 71 9
noncomputable abbrev Fd:Fn:=mA 71 11
noncomputable abbrev Gr:Fn:=mA 71 12
noncomputable abbrev Fz:Fn:=mA 71 13
noncomputable abbrev Gp:Fn:=mA 71 16
noncomputable abbrev OA:Fn:=mA 71 17
noncomputable abbrev I7:Fn:=mA 71 18
noncomputable abbrev I9:Fn:=fA 76
noncomputable abbrev F5:Fn:=fA 77
noncomputable abbrev Gs:Fn:=fA 79
noncomputable abbrev Gn:Fn:=fA 80
noncomputable abbrev G1:Fn:=fA 81
noncomputable abbrev Hb:Fn:=fA 82
noncomputable abbrev FG:Fn:=fA 84
noncomputable abbrev Ag:Fn:=mA 87 0
noncomputable abbrev Yj:Fn:=mA 87 1
noncomputable abbrev Yl:Fn:=mA 87 2
noncomputable abbrev N_:Fn:=mA 87 3
noncomputable abbrev N9:Fn:=mA 87 4
noncomputable abbrev bw:Fn:=mA 87 5
noncomputable abbrev Ym:Fn:=mA 87 6
noncomputable abbrev KS:Fn:=mA 87 7
noncomputable abbrev Yp:Fn:=mA 87 8
noncomputable abbrev MZ:Fn:=mA 87 9
noncomputable abbrev I6:Fn:=mA 87 10
noncomputable abbrev KU:Fn:=mA 87 11
noncomputable abbrev Gy:Fn:=mA 87 12
noncomputable abbrev F0:Fn:=mA 87 13
noncomputable abbrev OD:Fn:=mA 87 14
noncomputable abbrev F4:Fn:=mA 87 15
noncomputable abbrev Fe:Fn:=mA 94 1
noncomputable abbrev JB:Fn:=mA 94 2
noncomputable abbrev Hc:Fn:=mA 94 3
noncomputable abbrev Hf:Fn:=mA 94 4
noncomputable abbrev MP:Fn:=mA 94 5
noncomputable abbrev Mb:Fn:=mA 94 6
noncomputable abbrev UJ:Fn:=mA 94 7
noncomputable abbrev N7:Fn:=mA 94 8
noncomputable abbrev Gz:Fn:=mA 94 9
noncomputable abbrev EP:Fn:=mA 94 10
noncomputable abbrev G2:Fn:=mA 94 12
noncomputable abbrev Ny:Fn:=mA 94 13
noncomputable abbrev Gk:Fn:=mA 94 14
noncomputable abbrev MQ:Fn:=mA 94 16
noncomputable abbrev UK:Fn:=mA 94 17
noncomputable abbrev Ka:Fn:=mA 94 18
noncomputable abbrev Ff:Fn:=mA 97 0
noncomputable abbrev RE:Fn:=mA 97 1
noncomputable abbrev OB:Fn:=mA 97 2
noncomputable abbrev MV:Fn:=mA 97 3
noncomputable abbrev F3:Fn:=mA 97 4
noncomputable abbrev I8:Fn:=mA 97 5
noncomputable abbrev KR:Fn:=mA 97 6
noncomputable abbrev ER:Fn:=mA 97 7
noncomputable abbrev FD:Fn:=mA 97 8
noncomputable abbrev Pj:Fn:=mA 97 9
noncomputable abbrev Gm:Fn:=mA 97 10
noncomputable abbrev Kb:Fn:=mA 97 11
noncomputable abbrev RD:Fn:=mA 97 12
noncomputable abbrev Yn:Fn:=mA 97 13
noncomputable abbrev KY:Fn:=mA 97 14
noncomputable abbrev MY:Fn:=mA 97 15
noncomputable abbrev MS:Fn:=mA 97 16
noncomputable abbrev MR:Fn:=mA 97 17
noncomputable abbrev Yo:Fn:=mA 97 18
noncomputable abbrev N8:Fn:=mA 97 19
noncomputable abbrev RB:Fn:=mA 97 20
noncomputable abbrev Kc:Fn:=mA 97 21
noncomputable abbrev OE:Fn:=mA 97 22
noncomputable abbrev BW:Fn:=fA 99
noncomputable abbrev Hg:Fn:=fA 102
noncomputable abbrev G3:Fn:=fA 103
noncomputable abbrev B4:Fn:=fA 104
noncomputable abbrev AU:Fn:=fA 105
end Mn
namespace Mn
open PySem
structure HA where
 tok:V
 later:V
 strict:V
 depth:V
 jumps:V
 pend:V
 rest:List V
 chs:List Nat
 base:Nat
 at_:Nat
 line:V
 tmp:Option (Nat×List (Nat×V))
 gl:List Ob
 lo:List Ob
set_option genCtorIdx true in
inductive RA(α:Type) where
 |ok (a:α) (h:HA)
 |ex (c:Nat)
 |no
abbrev RV:=RA V
abbrev PF:=List V→HA→RA X
noncomputable abbrev gr(i:Nat):V:=.gl i
noncomputable abbrev lv(l:List V):V:=.lv l
noncomputable abbrev ps(k:Nat):V:=.ps k
noncomputable abbrev ln:V:=.ln
structure Pl where
 fn:List (Nat×PF)
 mt:List (Nat×PF)
 lk:List Nat
 ci:List (Nat×(List V→Option (List (Nat×V))))
structure CA where
 md:Nat
 A:Pl
 g:G
 i:Nat
 li:Nat
 sc:Scope
 lk:Bool
 nl:Bool
noncomputable def oA{α β:Type}(o:Option α)(K:α→RA β):RA β:=cO o .no K
noncomputable abbrev bA{α β:Type}(r:RA α)(K:α→HA→RA β):RA β:=match r with
 |.ok a h=>K a h
 |.ex c=>.ex c
 |.no=>.no
noncomputable abbrev tB(b:Bool)(r:RA X):RA X:=cC b .no r
noncomputable def KN(h:HA)(v:V):Option Ob:=match v with
 |.ref i=>h.lo[i]?
 |.gl i=>h.gl[i]?
 |_=>none
noncomputable def GJ(h:HA)(v:V)(o:Ob):HA:=match v with
 |.ref i=>{h with lo:=h.lo.set i o}
 |.gl i=>{h with gl:=h.gl.set i o}
 |_=>h
noncomputable def FU(lk:Bool)(h:HA)(o:Ob)(K:V→HA→RA X):RA X:=match lk with
 |false=>K (.ref h.lo.length) {h with lo:=h.lo++ [o]}
 |true=>K (gr h.gl.length) {h with gl:=h.gl++ [o]}
noncomputable def C_(h:HA)(v:V):Option (List V):=cO (KN h v) none fun o=>cL o none some
noncomputable def itV:V→Option (List V)
 |.lst l=>some l
 |.lv l=>some l
 |_=>none
noncomputable def CP(h:HA)(v:V):Option (List V):=cO (itV v) (C_ h v) some
noncomputable def dcV:V→Option (List (List Nat×V))
 |.dct l=>some l
 |_=>none
noncomputable def Qy(h:HA)(v:V):Option (List (List Nat×V)):=cO (dcV v) (cO (KN h v) none fun o=>cD o none some) some
noncomputable def cA:V→Bool
 |.none=>true
 |.bool _=>true
 |.int _=>true
 |.str _=>true
 |.lst _=>true
 |.dct _=>true
 |.inst _ _=>true
 |_=>false
noncomputable def sN:V→Bool
 |.dct _=>true
 |_=>false
noncomputable def cN(v:V):Bool:=cA v&&!sN v
noncomputable def jL(v:V):Bool:=!sN v
noncomputable def Oq:V→Bool
 |.ref _=>false
 |.tup _=>false
 |.tmp=>false
 |_=>true
noncomputable def f5:V→Bool
 |.gl _=>true
 |_=>false
noncomputable def gA(v:V):Bool:=f5 v||cA v
noncomputable def PZ:V→Bool
 |.ref _=>false
 |.tup _=>false
 |_=>true
noncomputable def gS(o v:V):Bool:=cC (f5 o) (Yv v) (Oq v)
noncomputable def lnV:V→Option Nat
 |.str s=>some s.length
 |.tup l=>some l.length
 |_=>none
noncomputable def jh(h:HA)(v:V):Option Nat:=cO (lnV v) ((CP h v).map (·.length)) some
noncomputable def GK(h:HA)(v:V):V:=cP v v fun k=>.int (.ofNat (Nat.add h.base k))
noncomputable def rg(v:V):Bool:=cP v (cN v) fun J=>true
noncomputable def JK(v:V):Bool:=cT v (cP v false fun J=>true) fun l=>l.all rg
noncomputable def bN:Operator→Bool
 |.Add=>true
 |_=>false
noncomputable def fO(op:Operator)(k:Nat)(b:V):Option V:=cC (bN op) none (cI b none fun i=>T9 i none fun n=>some (ps (Nat.add k n)))
noncomputable def D7(op:Operator)(a b:V):Option V:=cP a (rN op a b) fun k=>fO op k b
noncomputable def TC(l:List Nat):Bool:=match l with
 | []=>false
 |_=>true
noncomputable def qo:V→Bool
 |.ln=>true
 |_=>false
noncomputable def e_(h:HA)(op:CmpOp)(p q:V):Option Bool:=cP p none fun i=>match op with
 |.Gt=>cP q none fun j=>some (Nat.blt j i)
 |.Lt=>cC (qo q) none (some (TC (h.chs.drop i)))
 |_=>none
noncomputable def Dn(h:HA)(n:Nat):List (Nat×V):= [(Bz,.lex),(Am,h.tok),(Dc,h.later),(Ad,h.strict),(De,h.depth),(Dd,h.jumps),(Cf,h.pend)].take n
noncomputable def C5(h:HA)(x:Option (List Nat×Nat×V)):List (Nat×V):=match x with
 |none=> [(BG,.tx),(CS,.ps h.at_),(AI,h.line)]
 |some x=> [(BG,.str x.1),(CS,.int (.ofNat x.2.1)),(AI,x.2.2)]
noncomputable def gZ(md:Nat)(h:HA)(o:V):Option (List (Nat×V)):=match o with
 |.par=>cC (Nat.beq md 1) none (some (Dn h 7))
 |.lex=>cC (Nat.beq md 2) none (some (C5 h none))
 |.tmp=>h.tmp.map (·.2)
 |.inst _ fs=>some fs
 |.gl i=>cO h.gl[i]? none fun o=>cF o none fun J fs=>some fs
 |_=>none
noncomputable def gv(md:Nat)(h:HA)(o:V)(x:Nat):Option V:=cO (gZ md h o) none (AK x)
noncomputable def Xk(cx:CA)(h:HA)(o:V)(x:Nat):Option V:=cC (E6 x cx.g.attrs) none (gv cx.md h o x)
noncomputable def Xh(h:HA)(v:V):Option (V×HA):=cR v (cC (Oq v) none (some (v,h))) fun i=>cO h.lo[i]? none fun o=>cL o none fun l=>cC (l.all gA) none (some (lv l,{h with lo:=h.lo.set i .dead}))
noncomputable def bq{α:Type}(x k:Nat)(a b:α):α:=cC (Nat.beq x k) b a
noncomputable def ai(h:HA)(x:Nat)(v:V):Option HA:=bq x Am (some {h with tok:=v}) (bq x Dc (some {h with later:=v}) (bq x Ad (some {h with strict:=v}) (bq x De (some {h with depth:=v}) (bq x Dd (some {h with jumps:=v}) (bq x Cf (some {h with pend:=v}) none)))))
noncomputable def aj(h:HA)(x:Nat)(v:V):Option HA:=bq x CS (cP v none fun a=>some {h with at_:=a}) (bq x AI (cI v none fun i=>some {h with line:=.int i}) none)
noncomputable def sv(md:Nat)(h:HA)(o:V)(x:Nat)(v:V):Option HA:=match o with
 |.par=>cC (Nat.beq md 1) none (cO (Xh h v) none fun p=>ai p.2 x p.1)
 |.lex=>cC (Nat.beq md 2) none (aj h x v)
 |.tmp=>cO h.tmp none fun p=>cC (cN (GK h v)&&Nat.blt p.2.length 900) none (some {h with tmp:=some (p.1,IK x (GK h v) p.2)})
 |.gl i=>cO (Xh h v) none fun p=>cO p.2.gl[i]? none fun o=>cF o none fun c fs=>cC (Nat.blt fs.length 900) none (some {p.2 with gl:=p.2.gl.set i (.inst c (IK x p.1 fs))})
 |_=>none
noncomputable def UW(cx:CA)(h:HA)(o:V)(x:Nat)(v:V):Option HA:=cC (E6 x cx.g.attrs) none (sv cx.md h o x v)
noncomputable def ez(h:HA)(a b:V):Option Bool:=cO (Qy h b) (cT b (cO (CP h b) none (ju a)) (ju a)) fun l=>cS a none fun k=>some (GY k l).isSome
noncomputable def AF(h:HA)(op:CmpOp)(a b:V):Option Bool:=match op with
 |.In=>ez h a b
 |.NotIn=>(ez h a b).map (!·)
 |op=>cO (e8 op a b) (e_ h op a b) some
noncomputable def rG(lk:Bool)(h:HA)(a b:V)(K:V→HA→RA X):RA X:=oA (CP h a) fun l=>oA (CP h b) fun q=>tB (Nat.ble (Nat.add l.length q.length) BV&&(!lk||(l++q).all Oq)) (FU lk h (.list (l++q)) K)
noncomputable def A2(lk:Bool)(h:HA)(op:Operator)(a b:V)(K:V→HA→RA X):RA X:=cI a (cS a (cP a (tB (bN op) (rG lk h a b K)) fun k=>oA (fO op k b) fun v=>K v h) fun x=>oA (UU op x b) fun v=>K v h) fun x=>cI b .no fun y=>oA (Qe op x y) fun i=>K (.int i) h
noncomputable def Ap(h:HA)(o i:V):Option V:=cI i (cP i (cS i none fun k=>cO (Qy h o) none (GY k)) fun k=>cX o none ((h.chs[k]?).map fun c=>.str [c])) fun k=>cS o (cT o (cO (CP h o) none fun l=>jS l k) fun l=>jS l k) fun s=>(jS s k).map fun c=>.str [c]
noncomputable def Vo(lk:Bool)(h:HA)(o:V)(a b:Option V)(K:V→HA→RA X):RA X:=cS o (cX o (oA (CP h o) fun l=>oA (Kx a 0 l.length) fun x=>oA (Kx b l.length l.length) fun y=>tB (Nat.ble l.length BV&&!lk) (FU false h (.list (cut l x y)) K)) (oA a fun x=>oA b fun y=>cP x .no fun i=>cP y .no fun j=>K (.str (cut h.chs i j)) h)) fun s=>oA (Kx a 0 s.length) fun x=>oA (Kx b s.length s.length) fun y=>tB (Nat.ble s.length BV) (K (.str (cut s x y)) h)
noncomputable def WU(h:HA)(o i v:V):Option HA:=cC (gS o v) none (cO (KN h o) none fun c=>cL c (cD c none fun l=>cS i none fun k=>cC (Nat.blt l.length 1000) none (some (GJ h o (.dict (UY k v l))))) fun l=>cI i none fun j=>T9 j none fun k=>cC (Nat.blt k l.length&&Nat.blt k BV) none (some (GJ h o (.list (l.set k v)))))
noncomputable def Aq(lk:Bool)(f:BF)(vs:List V)(h:HA)(K:V→HA→RA X):RA X:=match f with
 |.len=>c1 vs .no fun v=>cX v (oA (jh h v) fun n=>tB (Nat.ble n BV) (K (.int (.ofNat n)) h)) (K ln h)
 |.list=>c1 vs .no fun v=>oA (CP h v) fun l=>tB (Nat.ble l.length BV&&!lk) (FU false h (.list l) K)
 |f=>oA (Sj f vs) fun v=>K v h
noncomputable def l9{α:Type}(vs:List V)(d:α)(f:V→V→α):α:=match vs with
 |a::r=>c1 r d (f a)
 | []=>d
noncomputable def mI(s:List Nat)(p a:V):Option V:=cS p none fun p=>cI a none fun i=>T9 i none fun a=>some (.bool (match Nat.ble a s.length with|true=>HY p (s.drop a)|false=>false))
noncomputable def mH(h:HA)(p a:V):Option V:=cS p none fun p=>cC (TC p) none (cP a none fun a=>some (.bool (HY p (h.chs.drop a))))
noncomputable def jj(l:List V):Option V:=l[Nat.pred l.length]?
noncomputable def f6(v:V):Bool:=cI v false fun i=>T9 i false fun n=>Nat.beq n 0
noncomputable def AH(f:BM)(o:V)(vs:List V)(h:HA)(K:V→HA→RA X):RA X:=match f with
 |.startswith=>l9 vs .no fun p a=>cX o (cS o .no fun s=>oA (mI s p a) fun v=>K v h) (oA (mH h p a) fun v=>K v h)
 |.join=>cS o .no fun s=>tB (!TC s) (c1 vs .no fun v=>oA (CP h v) fun l=>oA (Xc l) fun r=>tB (Nat.ble r.length BV) (K (.str r) h))
 |.lstrip=>cS o .no fun s=>c1 vs .no fun v=>cS v .no fun cs=>tB (Nat.ble s.length BV) (K (.str (JG cs s)) h)
 |.append=>oA (C_ h o) fun l=>c1 vs .no fun v=>tB (Nat.blt l.length BV&&gS o v) (K .none (GJ h o (.list (l++ [v]))))
 |.pop=>oA (C_ h o) fun l=>tB (Nat.ble l.length BV) (match vs with
  | []=>oA (jj l) fun v=>K v (GJ h o (.list (l.take (Nat.pred l.length))))
  |i::r=>(match r with
   | []=>tB (f6 i) (match l with
    |v::r=>K v (GJ h o (.list r))
    | []=>.no)
   |_::_=>.no))
 |.get=>oA (Qy h o) fun l=>l9 vs .no fun k d=>cS k .no fun k=>K (cO (GY k l) d id) h
noncomputable def KJ(f:V→HA→Option (V×HA)):List V→HA→Option (List V×HA)
 | [],h=>some ([],h)
 |v::r,h=>cO (f v h) none fun p=>cC (jL p.1) none (cO (KJ f r p.2) none fun q=>some (p.1::q.1,q.2))
noncomputable def CQ(v:V):Bool:=cT v (cA v) fun l=>l.all cN
noncomputable def Jb:Nat→V→HA→Option (V×HA)
 |0,v,h=>cC (CQ v) none (some (v,h))
 |n+1,v,h=>cO (C_ h v) (cC (CQ v) none (some (v,h))) fun l=>cO (KJ (Jb n) l h) none fun p=>cO (C_ p.2 v) none fun J=>some (.lst p.1,GJ p.2 v .dead)
noncomputable def SK(v:V)(h:HA):Option (V×HA):=cC (JK v) (Jb 4 v h) (some (v,h))
noncomputable def M6(b:Bool)(v:V)(h:HA):Option (V×HA):=match b with
 |true=>cO h.tmp none fun J=>cM v (SK v h) none
 |false=>cO h.tmp (SK v h) fun p=>cM v none (some (.inst p.1 p.2,{h with tmp:=none}))
noncomputable def Jc(b:Bool)(r:RA X):RV:=match r with
 |.ok x h=>(match x.1 with
  |.next=>cO (M6 b .none h) .no fun p=>.ok p.1 p.2
  |.ret v=>cO (M6 b v h) .no fun p=>.ok p.1 p.2
  |_=>.no)
 |.ex c=>.ex c
 |.no=>.no
noncomputable def As(lk:Bool)(h:HA)(vs:List V)(K:V→HA→RA X):RA X:=tB (SD vs&&Nat.ble vs.length BV&&(!lk||vs.all Oq)) (FU lk h (.list vs) K)
noncomputable abbrev Wb(x:X)(K:V→RA X):RA X:=match x.1 with
 |.ret v=>K v
 |_=>.no
noncomputable def AB(P:PF)(vs:List V)(h:HA)(K:V→HA→RA X):RA X:=tB (vs.all PZ) (bA (P vs {h with lo:= []}) fun x h'=>Wb x fun v=>tB (CQ v||JK v) (K v {h' with lo:=h.lo}))
noncomputable def BN(f:Nat)(bld:List V→Option (List (Nat×V)))(vs:List V)(h:HA)(K:V→HA→RA X):RA X:=tB (!h.tmp.isSome) (oA (KJ (Jb 4) vs h) fun p=>tB (!p.2.tmp.isSome&&p.1.all cN) (oA (bld p.1) fun fs=>K (.inst f fs) p.2))
noncomputable def du(f:Nat)(bld:List V→Option (List (Nat×V)))(vs:List V)(h:HA)(K:V→HA→RA X):RA X:=tB (!h.tmp.isSome&&(vs.map (GK h)).all cN) (oA (bld (vs.map (GK h))) fun fs=>K .tmp {h with tmp:=some (f,fs)})
noncomputable def Wz(md:Nat)(b:Bool)(v:V)(h:HA):RA X:=oA (cC (Nat.beq md 1) (M6 b v h) (SK v h)) fun p=>.ok (.ret p.1,[]) p.2
noncomputable def ES(md:Nat)(b:Bool)(x:Fl)(_:Af)(h:HA):RA X:=match x with
 |.next=>Wz md b .none h
 |.ret v=>Wz md b v h
 |_=>.no
noncomputable def rd:V→Bool
 |.tup _=>false
 |.tmp=>false
 |_=>true
noncomputable def BX(vs:List V):Bool:=vs.all rd&&Nat.ble vs.length BV
noncomputable def AE(v:V)(K:Bool→RA X):RA X:=cB v .no K
noncomputable def Ro(cx:CA)(f:Nat)(sc:Scope):CA:={cx with i:=cx.i+1,sc:=sc,lk:=E6 f cx.A.lk}
noncomputable def QV(vs:List V):Bool:=SD vs&&Nat.ble vs.length BV
noncomputable def Ey(v:V)(K:V→RA X):RA X:=cI v .no fun i=>K (.int (-i))
noncomputable def QX(h:HA)(K:V→HA→RA X):RA X:=match h.rest with
 |v::r=>K v {h with rest:=r}
 | []=>.no
inductive MX where
 |pf (P:PF)
 |nx
 |bm (b:BM)
 |fn (f:Fn)
noncomputable def ZG(v:V):Bool:=cX v (cS v false fun J=>true) true
noncomputable def B7(h:HA)(b:BM)(v:V):Bool:=match b with
 |.startswith=>ZG v
 |.join=>ZG v
 |.lstrip=>ZG v
 |.append=>(C_ h v).isSome
 |.pop=>(C_ h v).isSome
 |.get=>(Qy h v).isSome
noncomputable def bc(v:V)(a b c:RA X):RA X:=match v with
 |.par=>a
 |.lex=>b
 |_=>c
noncomputable def Nc(v:V)(k:RA X):RA X:=tB (Zq v) k
noncomputable def gM(md:Nat)(mt:List (Nat×PF))(c m:Nat):Option PF:=cC (Nat.beq md 0&&(Nat.beq c kP||Nat.beq c kL)) none (AK m mt)
noncomputable def qf(cx:CA)(h:HA)(ov:V)(m:Nat)(K:MX→RA X):RA X:=bc ov (tB (Nat.beq cx.md 1) (oA (AK m cx.A.mt) fun P=>K (.pf P))) (cC (Nat.beq cx.md 1) (tB (Nat.beq cx.md 2) (oA (AK m cx.A.mt) fun P=>K (.pf P))) (tB (Nat.beq m Dq) (K .nx))) (cO (AK m lj) (oA (KN h ov) fun o=>cF o .no fun c fs=>tB (!(AK m fs).isSome) (oA (DR cx.g c m) fun f=>cO (gM cx.md cx.A.mt c m) (K (.fn f)) fun P=>K (.pf P))) fun b=>tB (B7 h b ov) (K (.bm b)))
noncomputable def tS(h:HA):Bool:=h.tmp.isSome
noncomputable def Dz(cx:CA)(ρ:Af)(f:Str):Bool:=!(AK (nk f) ρ).isSome&&DE (B9 cx.sc.names (nk f))
noncomputable def Tg(cx:CA)(ρ:Af)(f:Str)(as:List Expr):Bool:=Nat.beq (nk f) Pg&&(Dz cx ρ f&&(FX as&&!(AK (nk f) cx.g.fns).isSome))
inductive ItX where
 |rng (f:Str) (as:List Expr)
 |no
 |it
noncomputable def itX:Expr→ItX
 |.Call f as ks _=>match f with
  |.Name f _=>match ks with
   | []=>.rng f as
   |_::_=>.it
  |_=>.it
 |_=>.it
noncomputable def bK:UnaryOp→Bool
 |.Not=>true
 |_=>false
noncomputable def Lk:Nat→Expr→Bool
 |0,_=>false
 |n+1,e=>match e with
  |.Constant _ _ _=>true
  |.Name _ _=>true
  |.Attribute o _ _=>!EE o&&Lk n o
  |.UnaryOp op x _=>bK op&&Lk n x
  |.Compare l ops cs _=>c1 ops false fun J=>c1 cs false fun c=>Lk n l&&Lk n c
  |.BoolOp _ vs _=>vs.all (Lk n)
  |_=>false
noncomputable def EU(o:Option V)(f:V→Option V):Option V:=cO o none f
noncomputable def BY(o:Option Bool):Option V:=cO o none fun b=>some (.bool b)
noncomputable def Kk(o:Option V):Option V:=cO o none fun v=>cB v none fun b=>some (.bool !b)
noncomputable def CD(a b:Option V):Option V:=cO a none fun v=>cB v none fun x=>cO b (cC x (some (.bool false)) none) fun w=>cB w (cC x (some (.bool false)) (some w)) fun y=>cC y (some (.bool false)) (some (.bool x))
noncomputable def TS(a b:Option V):Option V:=cO a none fun v=>cB v none fun x=>cO b (cC x none (some (.bool true))) fun w=>cB w (cC x (some w) (some (.bool true))) fun y=>cC y (some (.bool x)) (some (.bool true))
noncomputable def Sp(op:BoolOp)(f:Expr→Option V):List Expr→Option V
 | []=>none
 |e::r=>match r with
  | []=>f e
  |r=>match op with
   |.And=>CD (f e) (Sp .And f r)
   |.Or=>TS (f e) (Sp .Or f r)
noncomputable def SV(cx:CA)(ρ:Af)(h:HA):Nat→Expr→Option V
 |0,_=>none
 |n+1,e=>match e with
  |.Constant c _ _=>PS c
  |.Name x _=>cO (AK (nk x) ρ) (cC (DE (B9 cx.sc.names (nk x))) none (AK (nk x) cx.g.cons)) some
  |.Attribute o x _=>cC (EE o) (EU (SV cx ρ h n o) fun ov=>Xk cx h ov (nk x)) none
  |.UnaryOp op x _=>cC (bK op) none (Kk (SV cx ρ h n x))
  |.Compare l ops cs _=>c1 ops none fun op=>c1 cs none fun c=>EU (SV cx ρ h n l) fun a=>EU (SV cx ρ h n c) fun b=>BY (AF h op a b)
  |.BoolOp op vs _=>cC (Nat.ble vs.length 9) none (Sp op (SV cx ρ h n) vs)
  |_=>none
inductive IxX where
 |cut (a b:Option Expr)
 |no
 |ix
noncomputable def ixX:Expr→IxX
 |.Slice a b s _=>cO s (.cut a b) fun J=>.no
 |_=>.ix
noncomputable def ZZ:Expr→Bool
 |.Starred .. =>false
 |_=>true
noncomputable def jr(i:Int):Bool:=T9 i false fun n=>Nat.beq n 0
noncomputable def jz(g:Comprehension)(K:Str→Pos→RA X):RA X:=match g.target with
 |.Name x p=>tB (jr g.is_async) (K x p)
 |_=>.no
noncomputable def da{α β:Type}(r:RA α)(K:α→HA→RA β):RA β:=match r with
 |.ok a h=>K a h
 |_=>.no
mutual
noncomputable def DM:Nat→CA→Af→Expr→HA→(V→HA→RA X)→RA X
 |0,_,_,_,_,_=>.no
 |n+1,cx,ρ,e,h,K=>match e with
  |.Constant c _ _=>oA (PS c) fun v=>K v h
  |.Name x _=>cO (AK (nk x) ρ) (tB (DE (B9 cx.sc.names (nk x))) (oA (AK (nk x) cx.g.cons) fun v=>K v h)) fun v=>K v h
  |.Attribute o x _=>tB (!EE o) (DM n cx ρ o h fun ov h=>oA (Xk cx h ov (nk x)) fun v=>K v h)
  |.BinOp l op r _=>DM n cx ρ l h fun a h=>DM n cx ρ r h fun b h=>A2 cx.lk h op a b K
  |.UnaryOp op x _=>match op with
   |.USub=>DM n cx ρ x h fun a h=>Ey a fun v=>K v h
   |.Not=>DM n cx ρ x h fun a h=>AE a fun b=>K (.bool (!b)) h
   |_=>.no
  |.BoolOp op vs p=>cC (vs.all (Lk 8)) (kW n cx ρ op vs h K) (oA (SV cx ρ h 9 (.BoolOp op vs p)) fun v=>K v h)
  |.IfExp t a b _=>IH n cx ρ t h fun c h=>cC c (DM n cx ρ b h K) (DM n cx ρ a h K)
  |.Compare l ops cs _=>DM n cx ρ l h fun a h=>aF n cx ρ a ops cs h K
  |.Tuple es _ _=>Hu n cx ρ es h fun vs h=>tB (BX vs) (K (.tup vs) h)
  |.List es _=>Hu n cx ρ es h fun vs h=>As cx.lk h vs K
  |.Dict ks vs _=>match ks with
   | []=>match vs with
    | []=>FU cx.lk h (.dict []) K
    |_::_=>.no
   |_::_=>.no
  |.Subscript o i _=>match ixX i with
   |.cut a b=>DM n cx ρ o h fun ov h=>Xu n cx ρ a h fun av h=>Xu n cx ρ b h fun bv h=>Vo cx.lk h ov av bv K
   |.ix=>DM n cx ρ o h fun ov h=>DM n cx ρ i h fun iv h=>oA (Ap h ov iv) fun v=>K v h
   |.no=>.no
  |.Call f as ks p=>match ks with
   | []=>match f with
    |.Attribute o m ap=>tB (!EE o&&(FX as&&Nat.beq ap.endLine p.line)) (DM n cx ρ o h fun ov h=>qf cx h ov (nk m) fun x=>Hu n cx ρ as h fun vs h=>XE n cx x ov vs h K)
    |.Name f _=>tB (Dz cx ρ f&&(FX as&&Xj cx.g (nk f))) (Hu n cx ρ as h fun vs h=>KH n cx (nk f) vs h K)
    |_=>.no
   |_::_=>.no
  |.ListComp e gs sc _=>c1 gs .no fun g=>jz g fun x p=>tB (!cx.lk&&PU sc) (DM n cx ρ g.iter h fun src h=>Zm n cx sc (.Name x p) e g.ifs src 0 [] h fun l h=>As false h l K)
  |_=>.no
 termination_by structural n=>n
noncomputable def XE:Nat→CA→MX→V→List V→HA→(V→HA→RA X)→RA X
 |0,_,_,_,_,_,_=>.no
 |n+1,cx,x,ov,vs,h,K=>match x with
  |.pf P=>AB P (ov::vs) h K
  |.nx=>match vs with
   | []=>QX h K
   |_::_=>.no
  |.bm b=>AH b ov vs h K
  |.fn f=>bQ n (Ro cx 0 f.sc) f (ov::vs) h K
 termination_by structural n=>n
noncomputable def KH:Nat→CA→Nat→List V→HA→(V→HA→RA X)→RA X
 |0,_,_,_,_,_=>.no
 |n+1,cx,f,vs,h,K=>cO (AK f cx.A.fn) (cO (AK f cx.g.fns) (cO (AK f cx.g.cls) (oA (AK f bfs) fun b=>Aq cx.lk b vs h K) fun c=>kJ n cx f c vs h K) fun fn=>tB (!Nat.beq f cx.g.top) (bQ n (Ro cx f fn.sc) fn vs h K)) fun P=>AB P vs h K
 termination_by structural n=>n
noncomputable def kJ:Nat→CA→Nat→Cl→List V→HA→(V→HA→RA X)→RA X
 |0,_,_,_,_,_,_=>.no
 |n+1,cx,f,c,vs,h,K=>tB (!c.exc) (match c.kind with
   |1=>oA (AK f cx.A.ci) fun bld=>BN f bld vs h K
   |4=>oA (AK f cx.A.ci) fun bld=>tB (Nat.beq cx.md 2) (du f bld vs h K)
   |_=>oA (DR cx.g f Cz) fun fi=>tB (Nat.blt cx.i cx.li) (FU true h (.inst f []) fun v h=>bQ n (Ro {cx with i:=cx.i+1} f fi.sc) fi (v::vs) h fun r h=>Nc r (K v h)))
 termination_by structural n=>n
noncomputable def bQ:Nat→CA→Fn→List V→HA→(V→HA→RA X)→RA X
 |0,_,_,_,_,_=>.no
 |n+1,cx,f,vs,h,K=>tB (Nat.ble cx.i cx.li) (oA (An f.sc f.ps vs []) fun ρ=>Q6 n cx ρ f.body h fun x ρ' h'=>bA (Jc (tS h) (.ok (x,ρ') h')) K)
 termination_by structural n=>n
noncomputable def Q6:Nat→CA→Af→List Stmt→HA→(Fl→Af→HA→RA X)→RA X
 |0,_,_,_,_,_=>.no
 |n+1,cx,ρ,ss,h,K=>match ss with
  | []=>K .next ρ h
  |s::r=>match s with
   |.Raise e c _=>match r with
    | []=>oA e fun e=>tB (!c.isSome) (nN n cx ρ e h)
    |_::_=>.no
   |s=>BS n cx ρ (s::r) h K
 termination_by structural n=>n
noncomputable def nN:Nat→CA→Af→Expr→HA→RA X
 |0,_,_,_,_=>.no
 |n+1,cx,ρ,e,h=>match e with
  |.Call f as ks _=>match f with
   |.Name c _=>match ks with
    | []=>tB (Dz cx ρ c&&(FX as&&!(AK (nk c) cx.g.fns).isSome)) (oA (AK (nk c) cx.g.cls) fun k=>tB k.exc (oA (AK Cz k.ms) fun fi=>Hu n cx ρ as h fun vs J=>tB (JX fi.body&&Nat.beq fi.ps.length (Nat.succ vs.length)) (.ex (nk c))))
    |_::_=>.no
   |_=>.no
  |_=>.no
 termination_by structural n=>n
noncomputable def Xu:Nat→CA→Af→Option Expr→HA→(Option V→HA→RA X)→RA X
 |0,_,_,_,_,_=>.no
 |n+1,cx,ρ,e,h,K=>cO e (K none h) fun e=>DM n cx ρ e h fun v h=>K (some v) h
 termination_by structural n=>n
noncomputable def Hu:Nat→CA→Af→List Expr→HA→(List V→HA→RA X)→RA X
 |0,_,_,_,_,_=>.no
 |n+1,cx,ρ,es,h,K=>match es with
  | []=>K [] h
  |e::r=>tB (ZZ e) (DM n cx ρ e h fun v h=>Hu n cx ρ r h fun vs h=>K (v::vs) h)
 termination_by structural n=>n
noncomputable def cY:Nat→CA→Af→Expr→HA→(List V→HA→RA X)→RA X
 |0,_,_,_,_,_=>.no
 |n+1,cx,ρ,e,h,K=>match e with
  |.Tuple es _ _=>Hu n cx ρ es h fun vs h=>tB (QV vs) (K vs h)
  |e=>DM n cx ρ e h fun v h=>oA (IG v) fun vs=>K vs h
 termination_by structural n=>n
noncomputable def kW:Nat→CA→Af→BoolOp→List Expr→HA→(V→HA→RA X)→RA X
 |0,_,_,_,_,_,_=>.no
 |n+1,cx,ρ,op,es,h,K=>match es with
  | []=>.no
  |e::r=>match r with
   | []=>DM n cx ρ e h K
   |_::_=>DM n cx ρ e h fun v h=>AE v fun b=>match op with
    |.And=>cC b (K (.bool false) h) (kW n cx ρ .And r h K)
    |.Or=>cC b (kW n cx ρ .Or r h K) (K (.bool true) h)
 termination_by structural n=>n
noncomputable def aF:Nat→CA→Af→V→List CmpOp→List Expr→HA→(V→HA→RA X)→RA X
 |0,_,_,_,_,_,_,_=>.no
 |n+1,cx,ρ,a,ops,es,h,K=>match ops with
  |op::ops=>match es with
   |e::es=>DM n cx ρ e h fun b h=>oA (AF h op a b) fun t=>match ops with
    | []=>match es with
     | []=>K (.bool t) h
     |_::_=>.no
    |_::_=>match es with
     | []=>.no
     |_::_=>cC t (K (.bool false) h) (aF n cx ρ b ops es h K)
   | []=>.no
  | []=>.no
 termination_by structural n=>n
noncomputable def IH:Nat→CA→Af→Expr→HA→(Bool→HA→RA X)→RA X
 |0,_,_,_,_,_=>.no
 |n+1,cx,ρ,e,h,K=>match e with
  |.UnaryOp op x p=>match op with
   |.Not=>IH n cx ρ x h fun b h=>K (!b) h
   |op=>DM n cx ρ (.UnaryOp op x p) h fun v h=>AE v fun b=>K b h
  |.BoolOp op es p=>cC (es.all (Lk 8)) (ll n cx ρ op es h K) (oA (SV cx ρ h 9 (.BoolOp op es p)) fun v=>AE v fun b=>K b h)
  |.IfExp t a b _=>IH n cx ρ t h fun c h=>cC c (IH n cx ρ b h K) (IH n cx ρ a h K)
  |e=>DM n cx ρ e h fun v h=>AE v fun b=>K b h
 termination_by structural n=>n
noncomputable def ll:Nat→CA→Af→BoolOp→List Expr→HA→(Bool→HA→RA X)→RA X
 |0,_,_,_,_,_,_=>.no
 |n+1,cx,ρ,op,es,h,K=>match es with
  | []=>match op with
   |.And=>K true h
   |.Or=>K false h
  |e::r=>IH n cx ρ e h fun b h=>match op with
   |.And=>cC b (K false h) (ll n cx ρ .And r h K)
   |.Or=>cC b (ll n cx ρ .Or r h K) (K true h)
 termination_by structural n=>n
noncomputable def Fx:Nat→CA→Af→Stmt→HA→(Fl→Af→HA→RA X)→RA X
 |0,_,_,_,_,_=>.no
 |n+1,cx,ρ,s,h,K=>match s with
  |.Expr v _=>tB (!JW v) (DM n cx ρ v h fun J h=>K .next ρ h)
  |.Pass _=>K .next ρ h
  |.Break _=>K .brk ρ h
  |.Continue _=>K .cont ρ h
  |.Return e _=>cO e (K (.ret .none) ρ h) fun e=>DM n cx ρ e h fun v h=>K (.ret v) ρ h
  |.Assign ts v _=>c1 ts .no fun t=>tB (!JW v) (match t with
   |.Tuple ts _ _=>tB (Rn ts v) (cY n cx ρ v h fun vs h=>cC (G9 ts) (tB (Bu ts&&Nat.beq ts.length vs.length) (UB n cx ρ ts vs h fun ρ h=>K .next ρ h)) (oA (BJ ts) fun ks=>oA (An cx.sc ks vs ρ) fun ρ=>K .next ρ h))
   |t=>tB (OY t) (DM n cx ρ v h fun v h=>YY n cx ρ t v h fun ρ h=>K .next ρ h))
  |.AugAssign t op v _=>match t with
   |.Name x _=>oA (AK (nk x) ρ) fun a=>DM n cx ρ v h fun b h=>oA (D7 op a b) fun w=>oA (Uk cx.sc (nk x) w ρ) fun ρ=>K .next ρ h
   |.Attribute o x _=>DM n cx ρ o h fun ov h=>oA (Xk cx h ov (nk x)) fun a=>DM n cx ρ v h fun b h=>oA (D7 op a b) fun w=>oA (UW cx h ov (nk x) w) fun h=>K .next ρ h
   |_=>.no
  |.If t a b _=>IH n cx ρ t h fun c h=>cC c (BS n cx ρ b h K) (BS n cx ρ a h K)
  |.While t b e _=>match e with
   | []=>tB (!cx.nl) (cH n cx ρ t b h K)
   |_::_=>.no
  |.For tgt it b e _=>match e with
   | []=>match itX it with
    |.rng f as=>tB (Tg cx ρ f as) (Hu n cx ρ as h fun vs h=>oA (TK vs) fun ij=>RP n cx ρ tgt b ij.1 ij.2 h K)
    |.it=>DM n cx ρ it h fun src h=>SM n cx ρ tgt b src 0 h K
    |.no=>.no
   |_::_=>.no
  |_=>.no
 termination_by structural n=>n
noncomputable def YY:Nat→CA→Af→Expr→V→HA→(Af→HA→RA X)→RA X
 |0,_,_,_,_,_,_=>.no
 |n+1,cx,ρ,t,v,h,K=>match t with
  |.Name x _=>oA (Uk cx.sc (nk x) v ρ) fun ρ=>K ρ h
  |.Attribute o x _=>DM n cx ρ o h fun ov h=>oA (UW cx h ov (nk x) v) fun h=>K ρ h
  |.Subscript o i _=>DM n cx ρ o h fun ov h=>DM n cx ρ i h fun iv h=>oA (WU h ov iv v) fun h=>K ρ h
  |_=>.no
 termination_by structural n=>n
noncomputable def UB:Nat→CA→Af→List Expr→List V→HA→(Af→HA→RA X)→RA X
 |0,_,_,_,_,_,_=>.no
 |n+1,cx,ρ,ts,vs,h,K=>match ts with
  | []=>match vs with
   | []=>K ρ h
   |_::_=>.no
  |t::ts=>match vs with
   |v::vs=>YY n cx ρ t v h fun ρ h=>UB n cx ρ ts vs h K
   | []=>.no
 termination_by structural n=>n
noncomputable def BS:Nat→CA→Af→List Stmt→HA→(Fl→Af→HA→RA X)→RA X
 |0,_,_,_,_,_=>.no
 |n+1,cx,ρ,ss,h,K=>match ss with
  | []=>K .next ρ h
  |s::r=>Fx n cx ρ s h fun x ρ h=>match x with
   |.next=>BS n cx ρ r h K
   |x=>K x ρ h
 termination_by structural n=>n
noncomputable def Zm:Nat→CA→Scope→Expr→Expr→List Expr→V→Nat→List V→HA→(List V→HA→RA X)→RA X
 |0,_,_,_,_,_,_,_,_,_,_=>.no
 |n+1,cx,sc,tgt,e,ifs,src,k,acc,h,K=>oA (CP h src) fun l=>cO l[k]? (K acc.reverse h) fun v=>oA (Jk sc tgt v []) fun ρ'=>da (S8 n {cx with sc:=sc} ρ' ifs h) fun c h=>cC c (Zm n cx sc tgt e ifs src (k+1) acc h K) (da (DM n {cx with sc:=sc} ρ' e h fun w h=>.ok (.ret w,[]) h) fun x h=>Wb x fun w=>tB (Nat.blt acc.length BV&&Yv w) (Zm n cx sc tgt e ifs src (k+1) (w::acc) h K))
 termination_by structural n=>n
noncomputable def S8:Nat→CA→Af→List Expr→HA→RA Bool
 |0,_,_,_,_=>.no
 |n+1,cx,ρ,es,h=>match es with
  | []=>.ok true h
  |e::r=>da (IH n cx ρ e h fun b h=>.ok (.ret (.bool b),[]) h) fun x h=>match x.1 with
   |.ret v=>cB v .no fun b=>cC b (.ok false h) (S8 n cx ρ r h)
   |_=>.no
 termination_by structural n=>n
noncomputable def cH:Nat→CA→Af→Expr→List Stmt→HA→(Fl→Af→HA→RA X)→RA X
 |0,_,_,_,_,_,_=>.no
 |n+1,cx,ρ,t,b,h,K=>IH n cx ρ t h fun c h=>cC c (K .next ρ h) (BS n cx ρ b h fun x ρ h=>match x with
   |.next=>cH n cx ρ t b h K
   |.cont=>cH n cx ρ t b h K
   |.brk=>K .next ρ h
   |.ret v=>K (.ret v) ρ h)
 termination_by structural n=>n
noncomputable def SM:Nat→CA→Af→Expr→List Stmt→V→Nat→HA→(Fl→Af→HA→RA X)→RA X
 |0,_,_,_,_,_,_,_,_=>.no
 |n+1,cx,ρ,tgt,b,src,k,h,K=>oA (CP h src) fun l=>cO l[k]? (K .next ρ h) fun v=>oA (Jk cx.sc tgt v ρ) fun ρ=>BS n cx ρ b h fun x ρ h=>match x with
   |.next=>SM n cx ρ tgt b src (k+1) h K
   |.cont=>SM n cx ρ tgt b src (k+1) h K
   |.brk=>K .next ρ h
   |.ret v=>K (.ret v) ρ h
 termination_by structural n=>n
noncomputable def RP:Nat→CA→Af→Expr→List Stmt→Int→Int→HA→(Fl→Af→HA→RA X)→RA X
 |0,_,_,_,_,_,_,_,_=>.no
 |n+1,cx,ρ,tgt,b,i,j,h,K=>cC (decide (i<j)) (K .next ρ h) (oA (Jk cx.sc tgt (.int i) ρ) fun ρ=>BS n cx ρ b h fun x ρ h=>match x with
   |.next=>RP n cx ρ tgt b (i+1) j h K
   |.cont=>RP n cx ρ tgt b (i+1) j h K
   |.brk=>K .next ρ h
   |.ret v=>K (.ret v) ρ h)
 termination_by structural n=>n
end
end Mn
namespace Mn
open PySem PySem.W PySem.Calls PyProof.Rows
noncomputable def V0:List Nat→Nat
 | []=>0
 |c::r=>V0 r*128+(c+1)
theorem Ou:∀(l:List Nat) (p:List Nat),(∀c∈l,c<127)→dk l (V0 p)=V0 (l.reverse++p)
 | [],p,_=>rfl
 |c::r,p,h=>by
  unfold dk;have hc:Nat.blt c 127=true:=Nat.ble_eq_true_of_le (h c (.head _));rw[hc];show dk r (V0 (c::p))=_;rw[Ou r (c::p) fun d hd=>h d (.tail _ hd)];simp
theorem Ov:∀(l:List Nat) (a:Nat),dk l a≠0→∀c∈l,c<127
 | [],_,_,_,hc=>nomatch hc
 |c::r,a,h,d,hd=>by
  unfold dk at h;cases hc:Nat.blt c 127 with
  |false=>rw[hc] at h;exact absurd rfl h
  |true=>
   rw[hc] at h;rcases List.mem_cons.mp hd with rfl|hd
   ·exact Nat.le_of_ble_eq_true hc
   ·exact Ov r _ h d hd
theorem TV:∀(l q:List Nat),(∀c∈l,c<127)→(∀c∈q,c<127)→V0 l=V0 q→l=q
 | [],[],_,_,_=>rfl
 | [],c::r,_,_,h=>by simp[V0] at h
 |c::r,[],_,_,h=>by simp[V0] at h
 |c::r,d::q,h1,h2,h=>by
  have a:=h1 c (.head _);have b:=h2 d (.head _);simp only[V0] at h;obtain⟨e1,e2⟩:c=d∧V0 r=V0 q:=by omega
  rw[e1,TV r q (fun x hx=>h1 x (.tail _ hx)) (fun x hx=>h2 x (.tail _ hx)) e2]
theorem EI{x y:Str}(h:nk x=nk y)(h0:nk x≠0):x=y:=by
 unfold nk at h h0;have b1:=Ov _ _ h0;have b2:=Ov _ _ (h▸h0);have e1:=Ou x.cps.toList [] b1;have e2:=Ou y.cps.toList [] b2;rw[show V0 []=0 from rfl,List.append_nil] at e1 e2;have:=TV _ _ (fun c hc=>b1 c (List.mem_reverse.mp hc)) (fun c hc=>b2 c (List.mem_reverse.mp hc)) (e1.symm.trans (h.trans e2));have:=List.reverse_inj.mp this;cases x;cases y;simp only[Str.mk.injEq];exact Array.toList_inj.mp this
theorem A7{α:Type}(k j:Nat)(a:α)(r:List (Nat×α)):AK k ((j,a)::r)=if j=k then some a else AK k r:=by
 show(match Nat.beq j k with|true=>some a|false=>AK k r)=_
 by_cases h:j=k
 ·subst h;simp
 ·rw[if_neg h]
  cases q:Nat.beq j k with
  |true=>exact absurd (Nat.eq_of_beq_eq_true q) h
  |false=>rfl
noncomputable abbrev Hp:=Addr→Option Obj
abbrev AS:=Addr→Prop
open Classical in
noncomputable def VX(g:Hp)(Y:AS):Hp:=fun b=>if Y b then none else g b
theorem AR{g:Hp} {Y:AS} {b:Addr} {o:Obj}(h:VX g Y b=some o):g b=some o∧¬Y b:=by
 unfold VX at h
 by_cases q:Y b
 ·rw[if_pos q] at h;exact AD h
 ·rw[if_neg q] at h;exact⟨h,q⟩
theorem Ac{g:Hp} {Y:AS} {b:Addr} {o:Obj}(h:g b=some o)(q:¬Y b):VX g Y b=some o:=by
 unfold VX;rw[if_neg q];exact h
def NF(o:Obj):Prop:=o.cls≠ .type "frame"∨∃vs,o.data=.fields vs
def Le(g g':Hp):Prop:=∀b o,g b=some o→NF o→g' b=some o
theorem Le.refl(g:Hp):Le g g:=fun J J e J=>e
theorem Le.trans{a b c:Hp}(x:Le a b)(y:Le b c):Le a c:=fun p o e n=>y p o (x p o e n) n
noncomputable abbrev AA:=Addr×Addr
structure Mu where
 par:Option AA
 lex:Option AA
 tm:Option AA
 lo:List AA
 gl:List AA
 lx:Option (List Nat×Nat×V)
 tx:Option (List Nat×Nat)
 np:Nat
noncomputable def μ0:Mu:=⟨none,none,none,[],[],none,none,0⟩
noncomputable def Mu.nt(μ:Mu):Mu:={μ with tm:=none}
noncomputable def Mu.nlo(μ:Mu):Mu:={μ with tm:=none,lo:= []}
structure Bk(μ μ':Mu):Prop where
 par:∀p,μ.par=some p→μ'.par=some p
 lex:∀p,μ.lex=some p→μ'.lex=some p
 tm:∀p,μ.tm=some p→μ'.tm=some p
 lo:∀(i:Nat) p,μ.lo[i]? =some p→μ'.lo[i]? =some p
 gl:∀(i:Nat) p,μ.gl[i]? =some p→μ'.gl[i]? =some p
 tx:∀p,μ.tx=some p→μ'.tx=some p
theorem Bk.refl(μ:Mu):Bk μ μ:=⟨fun J h=>h,fun J h=>h,fun J h=>h,fun J J h=>h,fun J J h=>h,fun J h=>h⟩
theorem Bk.trans{a b c:Mu}(x:Bk a b)(y:Bk b c):Bk a c:=⟨fun p h=>y.par p (x.par p h),fun p h=>y.lex p (x.lex p h),fun p h=>y.tm p (x.tm p h),fun i p h=>y.lo i p (x.lo i p h),fun i p h=>y.gl i p (x.gl i p h),fun p h=>y.tx p (x.tx p h)⟩
theorem Bk.zero(μ:Mu):Bk μ0 μ:=⟨(fun J=>AD),(fun J=>AD),(fun J=>AD),fun J J h=>by simp[μ0] at h,fun J J h=>by simp[μ0] at h,(fun J=>AD)⟩
theorem Bk.nt{μ μ':Mu}(x:Bk μ μ'):Bk μ.nt μ'.nt:=⟨x.par,x.lex,(fun J=>AD),x.lo,x.gl,x.tx⟩
theorem Bk.nlo{μ μ':Mu}(x:Bk μ μ'):Bk μ.nlo μ'.nlo:=⟨x.par,x.lex,(fun J=>AD),fun J J h=>by simp[Mu.nlo] at h,x.gl,x.tx⟩
theorem Bk.of_nt(μ:Mu):Bk μ.nt μ:=⟨fun J h=>h,fun J h=>h,(fun J=>AD),fun J J h=>h,fun J J h=>h,fun J h=>h⟩
theorem Bk.of_nlo(μ:Mu):Bk μ.nlo μ.nt:=⟨fun J h=>h,fun J h=>h,(fun J=>AD),fun J J h=>by simp[Mu.nlo] at h,fun J J h=>h,fun J h=>h⟩
noncomputable abbrev Ca:=Nat→Option Addr
noncomputable def Ei:Nat:=1000000
mutual
noncomputable def VR(P:Params)(ca:Ca)(g:Hp):Mu→V→Value→Prop
 |_,.none,a=>a=.none
 |_,.bool b,a=>a=.bool b
 |_,.int i,a=>∃t,a=.int i t
 |_,.str s,a=>∃x t,a=.str x t∧x.cps.toList=s
 |μ,.tup l,a=>∃b o xs n,a=.ref b∧g b=some o∧o.cls=.type "tuple"∧o.data=.seq xs n∧BC P ca g μ.nt l xs.toList
 |_,.lst l,a=>∃b xs n,a=.ref b∧g b=some (listOf xs n)∧BC P ca g μ0 l xs.toList
 |_,.dct l,a=>∃b es n,a=.ref b∧((b==sysModules)=false∧(l.map (·.1)).Nodup)∧g b=some (dictOf es n)∧Jl P ca g μ0 l es
 |_,.inst c fs,a=>∃b C d es n,a=.ref b∧ca c=some C∧g b=some (instObj C d)∧g d=some (dictOf es n)∧Cs P ca g μ0 fs es
 |μ,.ref i,a=>∃p,μ.lo[i]? =some p∧a=.ref p.1
 |μ,.gl i,a=>∃p,μ.gl[i]? =some p∧a=.ref p.1
 |μ,.lv l,a=>∃b xs n,a=.ref b∧g b=some (listOf xs n)∧BC P ca g μ.nlo l xs.toList
 |μ,.par,a=>∃p,μ.par=some p∧a=.ref p.1
 |μ,.lex,a=>∃p,μ.lex=some p∧a=.ref p.1
 |μ,.tx,a=>∃s x t,μ.tx=some s∧a=.str x t∧x.cps.toList=s.1
 |μ,.ps k,a=>∃s t,μ.tx=some s∧a=.int (.ofNat (Nat.add s.2 k)) t
 |μ,.ln,a=>∃s t,μ.tx=some s∧a=.int (.ofNat s.1.length) t
 |μ,.tmp,a=>∃p,μ.tm=some p∧a=.ref p.1
noncomputable def BC(P:Params)(ca:Ca)(g:Hp):Mu→List V→List Value→Prop
 |_,[],l=>l= []
 |μ,v::r,l=>∃a q,l=a::q∧VR P ca g μ v a∧BC P ca g μ r q
noncomputable def Cs(P:Params)(ca:Ca)(g:Hp):Mu→List (Nat×V)→List DictEntry→Prop
 |_,[],l=>l= []
 |μ,(k,v)::r,l=>∃h x t a q,l=⟨h,.str x t,a⟩::q∧nk x=k∧k≠0∧VR P ca g μ v a∧Cs P ca g μ r q
noncomputable def Jl(P:Params)(ca:Ca)(g:Hp):Mu→List (List Nat×V)→List DictEntry→Prop
 |_,[],l=>l= []
 |μ,(k,v)::r,l=>∃x t a q,l=⟨PyData.keyHash P x,.str x t,a⟩::q∧x.cps.toList=k∧VR P ca g μ v a∧Jl P ca g μ r q
end
section
variable{P:Params} {ca:Ca} {g g':Hp} {μ μ':Mu}
theorem dq{o:Obj}(h:o.cls=.type "tuple"):NF o:=.inl fun q=>by rw[h] at q;revert q;decide
theorem FT{xs:Array Value} {n:Nat}:NF (listOf xs n):=.inl fun q=>by revert q;show Value.type "list"=_→_;decide
theorem Ii{es:List DictEntry} {n:Nat}:NF (dictOf es n):=.inl fun q=>by revert q;show Value.type "dict"=_→_;decide
theorem TX{C d:Addr}:NF (instObj C d):=.inl fun q=>by cases q
theorem Lw{o:Obj}(h:o.cls=.type "frame")(d:∀vs,o.data≠ .fields vs):¬NF o:=fun n=>n.elim (fun z=>z h) fun⟨vs,e⟩=>d vs e
theorem TU{o:Obj}(h:¬NF o):o.cls=.type "frame"∧∀vs,o.data≠ .fields vs:=⟨Classical.byContradiction fun z=>h (.inl z),fun vs e=>h (.inr ⟨vs,e⟩)⟩
mutual
theorem VR.mono(hg:Le g g'):∀{μ μ':Mu} (_:Bk μ μ') (v:V) (a:Value),VR P ca g μ v a→VR P ca g' μ' v a
 |_,_,hm,v,a,h=>by
  cases v<;>unfold VR at h⊢
  case tup l=>refine Cc h fun b o xs n e h1 h2 h3 h4=>?_;exact⟨b,o,xs,n,e,hg b o h1 (dq h2),h2,h3,BC.mono hg hm.nt l _ h4⟩
  case lst l=>refine A_ h fun b xs n e h1 h4=>?_;exact⟨b,xs,n,e,hg b _ h1 FT,BC.mono hg (.refl _) l _ h4⟩
  case dct l=>refine FN h fun b es n e h0 h1 h4=>?_;exact⟨b,es,n,e,h0,hg b _ h1 Ii,Jl.mono hg (.refl _) l _ h4⟩
  case inst c fs=>refine Bq h fun b C d es n e h0 h1 h2 h4=>?_;exact⟨b,C,d,es,n,e,h0,hg b _ h1 TX,hg d _ h2 Ii,Cs.mono hg (.refl _) fs _ h4⟩
  case ref i=>refine AZ h fun p e h=>?_;exact⟨p,hm.lo i p e,h⟩
  case gl i=>refine AZ h fun p e h=>?_;exact⟨p,hm.gl i p e,h⟩
  case lv l=>refine A_ h fun b xs n e h1 h4=>?_;exact⟨b,xs,n,e,hg b _ h1 FT,BC.mono hg hm.nlo l _ h4⟩
  case par=>refine AZ h fun p e h=>?_;exact⟨p,hm.par p e,h⟩
  case lex=>refine AZ h fun p e h=>?_;exact⟨p,hm.lex p e,h⟩
  case tx=>refine Fi h fun s x t e h=>?_;exact⟨s,x,t,hm.tx s e,h⟩
  case ps k=>refine xEEA h fun s t e h=>?_;exact⟨s,t,hm.tx s e,h⟩
  case ln=>refine xEEA h fun s t e h=>?_;exact⟨s,t,hm.tx s e,h⟩
  case tmp=>refine AZ h fun p e h=>?_;exact⟨p,hm.tm p e,h⟩
  all_goals exact h
theorem BC.mono(hg:Le g g'):∀{μ μ':Mu} (_:Bk μ μ') (l:List V) (q:List Value),BC P ca g μ l q→BC P ca g' μ' l q
 |_,_,_,[],q,h=>by unfold BC at h⊢;exact h
 |_,_,hm,v::r,q,h=>by
  unfold BC at h⊢;refine BE h fun a q' e h1 h2=>?_;exact⟨a,q',e,VR.mono hg hm v a h1,BC.mono hg hm r q' h2⟩
theorem Cs.mono(hg:Le g g'):∀{μ μ':Mu} (_:Bk μ μ') (l:List (Nat×V)) (q:List DictEntry),Cs P ca g μ l q→Cs P ca g' μ' l q
 |_,_,_,[],q,h=>by unfold Cs at h⊢;exact h
 |_,_,hm,(k,v)::r,q,h=>by
  unfold Cs at h⊢;refine Bq h fun hs x t a q' e h0 h0' h1 h2=>?_;exact⟨hs,x,t,a,q',e,h0,h0',VR.mono hg hm v a h1,Cs.mono hg hm r q' h2⟩
theorem Jl.mono(hg:Le g g'):∀{μ μ':Mu} (_:Bk μ μ') (l:List (List Nat×V)) (q:List DictEntry),Jl P ca g μ l q→Jl P ca g' μ' l q
 |_,_,_,[],q,h=>by unfold Jl at h⊢;exact h
 |_,_,hm,(k,v)::r,q,h=>by
  unfold Jl at h⊢;refine GD h fun x t a q' e h0 h1 h2=>?_;exact⟨x,t,a,q',e,h0,VR.mono hg hm v a h1,Jl.mono hg hm r q' h2⟩
end
theorem BC.iff:∀{l:List V} {q:List Value},BC P ca g μ l q↔q.length=l.length∧∀(i:Nat) v a,l[i]? =some v→q[i]? =some a→VR P ca g μ v a
 | [],q=>by
  unfold BC;refine⟨fun h=>⟨by rw[h];rfl,fun i v a e=>by simp at e⟩,fun h=>List.length_eq_zero_iff.mp h.1⟩
 |v::r,q=>by
  unfold BC;refine⟨fun h=>?_,fun⟨h1,h2⟩=>?_⟩
  ·refine BE h fun a q z2q h1 h2=>?_;clear h;subst z2q
   refine xA (BC.iff.mp h2) fun h2 h3=>?_;refine⟨congrArg (·+1) h2,fun i=>?_⟩;cases i with
   |zero=>intro v a e1 e2;cases e1;cases e2;exact h1
   |succ i=>exact fun v a e1 e2=>h3 i v a e1 e2
  ·cases q with
   |nil=>cases h1
   |cons a q=>exact⟨a,q,rfl,h2 0 v a rfl rfl,BC.iff.mpr ⟨Nat.succ.inj h1,fun i v a e1 e2=>h2 (i+1) v a e1 e2⟩⟩
theorem BC.nil:BC P ca g μ [] []:=by unfold BC;rfl
theorem BC.cons{v:V} {a:Value} {l:List V} {q:List Value}(h:VR P ca g μ v a)(h':BC P ca g μ l q):BC P ca g μ (v::l) (a::q):=by unfold BC;exact⟨a,q,rfl,h,h'⟩
theorem BC.of_cons{v:V} {l:List V} {q:List Value}(h:BC P ca g μ (v::l) q):∃a r,q=a::r∧VR P ca g μ v a∧BC P ca g μ l r:=by unfold BC at h;exact h
theorem BC.length{l:List V} {q:List Value}(h:BC P ca g μ l q):q.length=l.length:=(BC.iff.mp h).1
theorem BC.nth{l:List V} {q:List Value} {i:Nat} {v:V}(h:BC P ca g μ l q)(e:l[i]? =some v):∃a,q[i]? =some a∧VR P ca g μ v a:=by
 refine xA (BC.iff.mp h) fun h1 h2=>?_;have hi:i<q.length:=by rw[h1];exact(List.getElem?_eq_some_iff.mp e).1
 exact⟨q[i],List.getElem?_eq_getElem hi,h2 i v _ e (List.getElem?_eq_getElem hi)⟩
theorem BC.set{l:List V} {q:List Value} {k:Nat} {v:V} {a:Value}(h:BC P ca g μ l q)(hv:VR P ca g μ v a):BC P ca g μ (l.set k v) (q.set k a):=by
 refine xA (BC.iff.mp h) fun h1 h2=>?_;refine BC.iff.mpr ⟨by rw[List.length_set,List.length_set,h1],fun i w b e1 e2=>?_⟩;rw[List.getElem?_set] at e1 e2
 by_cases c:k=i
 ·rw[if_pos c] at e1 e2
  by_cases d:k<l.length
  ·rw[if_pos d] at e1;rw[h1,if_pos d] at e2;cases e1;cases e2;exact hv
  ·rw[if_neg d] at e1;exact AD e1
 ·rw[if_neg c] at e1 e2;exact h2 i w b e1 e2
theorem BC.append{l l':List V} {q q':List Value}(h:BC P ca g μ l q)(h':BC P ca g μ l' q'):BC P ca g μ (l++l') (q++q'):=by
 refine xA (BC.iff.mp h) fun h1 h2=>?_;refine xA (BC.iff.mp h') fun h3 h4=>?_;refine BC.iff.mpr ⟨by simp[h1,h3],fun i v a e1 e2=>?_⟩;rw[List.getElem?_append] at e1 e2;rw[h1] at e2
 by_cases c:i<l.length
 ·rw[if_pos c] at e1 e2;exact h2 i v a e1 e2
 ·rw[if_neg c] at e1 e2;exact h4 _ v a e1 e2
theorem BC.drop{l:List V} {q:List Value}(n:Nat)(h:BC P ca g μ l q):BC P ca g μ (l.drop n) (q.drop n):=by
 refine xA (BC.iff.mp h) fun h1 h2=>?_;refine BC.iff.mpr ⟨by simp[h1],fun i v a e1 e2=>?_⟩;rw[List.getElem?_drop] at e1 e2;exact h2 _ v a e1 e2
theorem BC.take{l:List V} {q:List Value}(n:Nat)(h:BC P ca g μ l q):BC P ca g μ (l.take n) (q.take n):=by
 refine xA (BC.iff.mp h) fun h1 h2=>?_;refine BC.iff.mpr ⟨by simp[h1],fun i v a e1 e2=>?_⟩;rw[List.getElem?_take] at e1 e2
 by_cases c:i<n
 ·rw[if_pos c] at e1 e2;exact h2 i v a e1 e2
 ·rw[if_neg c] at e1;exact AD e1
theorem E5(x y:Str)(t:Tok):(Value.str x t).isStr y=decide (x=y):=by
 show(x==y)=_
 by_cases h:x=y
 ·subst h;simp
 ·simp[h]
theorem Cs.noRef:∀{fs:List (Nat×V)} {es:List DictEntry},Cs P ca g μ fs es→es.any (·.refKey)=false
 | [],es,h=>by unfold Cs at h;subst h;rfl
 |(k,v)::r,es,h=>by
  unfold Cs at h;refine Bq h fun hs x t a q e J J J h2=>?_;clear h;subst e;simp only[List.any_cons,Cs.noRef h2,Bool.or_false];rfl
theorem Cs.get:∀{fs:List (Nat×V)} {es:List DictEntry} {x:Str} {v:V},Cs P ca g μ fs es→AK (nk x) fs=some v→∃a,getL x es=some (some a)∧VR P ca g μ v a
 | [],es,x,v,h,e=>by exact AD e
 |(k,w)::r,es,x,v,h,e=>by
  unfold Cs at h;refine Bq h fun hs y t a q e' h1 h0 h3 h2=>?_;clear h;subst e';rw[A7] at e
  by_cases hk:k=nk x
  ·rw[if_pos hk] at e
   cases e;have:y=x:=EI (h1.trans hk) (h1▸h0);subst this;refine⟨a,?_,h3⟩;unfold getL;simp[E5]
  ·rw[if_neg hk] at e
   refine AZ (Cs.get h2 e) fun b hb hv=>?_;refine⟨b,?_,hv⟩;have hne:y≠x:=fun q=>hk (by rw[←h1,q]);unfold getL at hb⊢;rw[List.find?_cons];simp only[E5,hne,decide_false]
   revert hb
   have:List.any (⟨hs,.str y t,a⟩::q) (·.refKey)=List.any q (·.refKey):=by
    simp only[List.any_cons];rfl
   rw[this];exact id
theorem Cs.getNone:∀{fs:List (Nat×V)} {es:List DictEntry} {x:Str},Cs P ca g μ fs es→AK (nk x) fs=none→getL x es=some none
 | [],es,x,h,e=>by unfold Cs at h;subst h;rfl
 |(k,w)::r,es,x,h,e=>by
  have hr:=h.noRef;unfold Cs at h;refine Bq h fun hs y t a q e' h1 h0 h3 h2=>?_;clear h;subst e';rw[A7] at e
  by_cases hk:k=nk x
  ·rw[if_pos hk] at e;exact Cq e
  ·rw[if_neg hk] at e
   have hb:=Cs.getNone h2 e;have hne:y≠x:=fun q=>hk (by rw[←h1,q]);have hr2:=h2.noRef;unfold getL at hb⊢;rw[List.find?_cons];simp only[E5,hne,decide_false];rw[hr];rw[hr2] at hb;exact hb
theorem UZ(k j:Nat)(v a:V)(r:List (Nat×V)):IK k v ((j,a)::r)=if j=k then(j,v)::r else(j,a)::IK k v r:=by
 show(match Nat.beq j k with|true=>(j,v)::r|false=>(j,a)::IK k v r)=_
 by_cases h:j=k
 ·subst h;simp
 ·rw[if_neg h]
  cases q:Nat.beq j k with
  |true=>exact absurd (Nat.eq_of_beq_eq_true q) h
  |false=>rfl
theorem Cs.put:∀{fs:List (Nat×V)} {es:List DictEntry} {x:Str} {v:V} {a:Value} {hs:Int} {t:Tok},Cs P ca g μ fs es→nk x≠0→VR P ca g μ v a→Cs P ca g μ (IK (nk x) v fs) (putL x hs (.str x t) a es)
 | [],es,x,v,a,hs,t,h,h0,hv=>by
  unfold Cs at h;subst h;show Cs P ca g μ [(nk x,v)] [⟨hs,.str x t,a⟩];unfold Cs;exact⟨hs,x,t,a,[],rfl,rfl,h0,hv,by unfold Cs;rfl⟩
 |(k,w)::r,es,x,v,a,hs,t,h,h0,hv=>by
  unfold Cs at h;refine Bq h fun hs' y t' b q e' h1 h0' h3 h2=>?_;clear h;subst e';rw[UZ];unfold putL
  by_cases hk:k=nk x
  ·have:y=x:=EI (h1.trans hk) (h1▸h0')
   subst this;rw[if_pos hk];simp only[E5,decide_true,if_true];unfold Cs;exact⟨hs',y,t',a,q,rfl,h1,h0',hv,h2⟩
  ·rw[if_neg hk]
   have hne:y≠x:=fun q=>hk (by rw[←h1,q]);simp only[E5,hne,decide_false,Bool.false_eq_true,if_false];unfold Cs;exact⟨hs',y,t',b,_,rfl,h1,h0',h3,Cs.put h2 h0 hv⟩
end
structure Wd where
 ce:Ca
 w:World
 ca:Ca
 B:Heap
 os:OsState
 LX:List Nat→Nat→V→List V→Prop
 K:Frag
 as:List Str
structure St where
 h:HA
 μ:Mu
 s:Shared
set_option genInjectivity true in
set_option genCtorIdx true in
inductive Sl where
 |par|lex|tmp
 |lo (i:Nat)
 |gl (i:Nat)
structure B5 where
 o:Ob
 p:AA
 m:Mu
noncomputable def Ob.has:Ob→AA→AS
 |.inst ..,p,a=>a=p.1∨a=p.2
 |.list _,p,a=>a=p.1
 |.dict _,p,a=>a=p.1
 |.dead,_,_=>False
noncomputable abbrev B5.has(c:B5):AS:=c.o.has c.p
noncomputable def B0(o:Option Ob)(p:Option AA)(m:Mu):Option B5:=match o with
 |some o=>(match p with
  |some p=>some ⟨o,p,m⟩
  |none=>none)
 |none=>none
theorem Ai{o:Option Ob} {p:Option AA} {m:Mu} {c:B5}(e:B0 o p m=some c):o=some c.o∧p=some c.p∧m=c.m:=by
 cases o with
 |none=>exact AD e
 |some o=>cases p with
  |none=>exact AD e
  |some p=>cases e;exact⟨rfl,rfl,rfl⟩
noncomputable def cel(h:HA)(μ:Mu):Sl→Option B5
 |.par=>B0 (some (.inst kP (Dn h μ.np))) μ.par μ.nlo
 |.lex=>B0 (some (.inst kL (C5 h μ.lx))) μ.lex μ.nlo
 |.tmp=>B0 (h.tmp.map fun x=>.inst x.1 x.2) μ.tm μ0
 |.lo i=>B0 h.lo[i]? μ.lo[i]? μ.nt
 |.gl i=>B0 h.gl[i]? μ.gl[i]? μ.nlo
noncomputable abbrev St.cel(σ:St):Sl→Option B5:=Mn.cel σ.h σ.μ
noncomputable def St.Y(σ:St):AS:=fun a=>∃s c,σ.cel s=some c∧c.has a
noncomputable abbrev St.hx(σ:St)(X:AS):Hp:=VX σ.s.heap.get? X
noncomputable abbrev St.reg(σ:St)(X:AS):Hp:=VX (σ.hx X) σ.Y
def DI(P:Params)(ca:Ca)(gf g:Hp)(c:B5):Prop:=match c.o with
 |.inst k fs=>∃C es n,ca k=some C∧g c.p.1=some (instObj C c.p.2)∧g c.p.2=some (dictOf es n)∧Cs P ca gf c.m fs es∧c.p.1≠c.p.2
 |.list l=>∃xs n,g c.p.1=some (listOf xs n)∧BC P ca gf c.m l xs.toList
 |.dict l=>∃es n,g c.p.1=some (dictOf es n)∧Jl P ca gf c.m l es∧(l.map (·.1)).Nodup
 |.dead=>True
section
variable{P:Params} {ca:Ca} {g g' gf gf':Hp}
theorem DI.mono{c:B5} {m':Mu}(h:DI P ca gf g c)(hk:∀b x,c.has b→g b=some x→g' b=some x)(hg:Le gf gf')(hm:Bk c.m m'):DI P ca gf' g' ⟨c.o,c.p,m'⟩:=by
 obtain⟨o,p,m⟩:=c;cases o with
 |inst c fs=>refine CV h fun C es n e h1 h2 h3 h4=>?_;exact⟨C,es,n,e,hk _ _ (.inl rfl) h1,hk _ _ (.inr rfl) h2,Cs.mono hg hm _ _ h3,h4⟩
 |list l=>refine xEEA h fun xs n h1 h2=>?_;exact⟨xs,n,hk _ _ rfl h1,BC.mono hg hm _ _ h2⟩
 |dict l=>refine BE h fun es n h1 h2 h3=>?_;exact⟨es,n,hk _ _ rfl h1,Jl.mono hg hm _ _ h2,h3⟩
 |dead=>trivial
theorem DI.there{c:B5}(h:DI P ca gf g c){a:Addr}(ha:c.has a):∃x,g a=some x∧NF x:=by
 obtain⟨o,p,m⟩:=c;cases o with
 |inst c fs=>
  refine FN h fun C es n e h1 h2 J=>?_;rcases ha with rfl|rfl
  ·exact⟨_,h1,TX⟩
  ·exact⟨_,h2,Ii⟩
 |list l=>refine xEEA h fun xs n h1 J=>?_;cases ha;exact⟨_,h1,FT⟩
 |dict l=>refine xEEA h fun es n h1 J=>?_;cases ha;exact⟨_,h1,Ii⟩
 |dead=>exact ha.elim
end
def FF(h B:Heap)(l:List Env):Prop:=∀env∈l,env.scope.kind≠ .module∧∃L o,env.frame=some L∧B.get? L=none∧h.get? L=some o∧o.cls=.type "frame"∧∀vs,o.data≠ .fields vs
theorem FF.fun{h B:Heap}:∀{l:List Env},FF h B l→h.FunFrames B l
 | [],_=>trivial
 |env::r,x=>by
  refine GF (x env (.head _)) fun hk L o h1 h2 h3 J h4=>?_;exact⟨hk,⟨L,o,h1,h2,h3,h4⟩,FF.fun fun e he=>x e (.tail _ he)⟩
structure SR(W:Wd)(l:List Env)(X:AS)(σ:St):Prop where
 cell:∀s c,σ.cel s=some c→DI W.w.params W.ca (σ.reg X) (σ.hx X) c
 inj:∀s s' c c' a,σ.cel s=some c→σ.cel s'=some c'→c.has a→c'.has a→s=s'
 low:∀a,σ.Y a→W.B.get? a=none
 nt:σ.h.tmp.isSome=σ.μ.tm.isSome
 nlo:σ.h.lo.length=σ.μ.lo.length
 ngl:σ.h.gl.length=σ.μ.gl.length
 tx:∀s,σ.μ.tx=some s→σ.h.base=s.2∧σ.h.chs=s.1.drop s.2∧s.1.length≤Ei
 lx:∀x,σ.μ.lx=some x→W.LX x.1 x.2.1 x.2.2 σ.h.rest
 base:W.B.StaysIn σ.s.heap
 xs:∀a,X a→∃o,σ.s.heap.get? a=some o∧NF o∧W.B.get? a=none
 fr:FF σ.s.heap W.B l
 os:σ.s.os=W.os
 gens:σ.s.gens= #[]
structure Nz(W:Wd)(l:List Env)(X Z:AS)(σ σ':St):Prop where
 sr:SR W l X σ'
 lo:∀(i:Nat) p,σ.μ.lo[i]? =some p→σ'.μ.lo[i]? =some p
 gl:∀(i:Nat) p,σ.μ.gl[i]? =some p→σ'.μ.gl[i]? =some p
 tm:∀p,σ.μ.tm=some p→σ'.μ.tm=some p
 par:σ'.μ.par=σ.μ.par
 lex:σ'.μ.lex=σ.μ.lex
 tx:σ'.μ.tx=σ.μ.tx
 np:σ'.μ.np=σ.μ.np
 lx:σ'.μ.lx.isSome=σ.μ.lx.isSome
 kp:∀p o,σ.s.heap.get? p=some o→¬Z p→¬σ.Y p→(NF o→σ'.s.heap.get? p=some o)∧(¬NF o→∃sl,σ'.s.heap.get? p=some {o with slots:=sl})
 al:∀p o,σ.s.heap.get? p=some o→σ'.s.heap.get? p≠none
 nw:∀p,σ'.Y p→σ.Y p∨σ.s.heap.get? p=none
noncomputable abbrev Z0:AS:=fun J=>False
theorem Lz{o:Obj} {sl:Array (Option Value)}:NF {o with slots:=sl}→NF o:=fun z=>z.elim .inl fun⟨vs,h⟩=>.inr ⟨vs,h⟩
section
variable{W:Wd} {l:List Env} {X Z:AS} {σ σ' σ'':St}
theorem Nz.mu(x:Nz W l X Z σ σ'):Bk σ.μ σ'.μ:=⟨fun p h=>x.par.trans h,fun p h=>x.lex.trans h,x.tm,x.lo,x.gl,fun p h=>x.tx.trans h⟩
theorem Nz.refl(S:SR W l X σ):Nz W l X Z σ σ:=⟨S,fun J J h=>h,fun J J h=>h,fun J h=>h,rfl,rfl,rfl,rfl,rfl,fun J o e J J=>⟨fun J=>e,fun J=>⟨o.slots,e⟩⟩,fun J J e=>by rw[e];nofun,fun J h=>.inl h⟩
theorem Nz.trans(x:Nz W l X Z σ σ')(y:Nz W l X Z σ' σ''):Nz W l X Z σ σ'' where
 sr:=y.sr
 lo i p h:=y.lo i p (x.lo i p h)
 gl i p h:=y.gl i p (x.gl i p h)
 tm p h:=y.tm p (x.tm p h)
 par:=y.par.trans x.par
 lex:=y.lex.trans x.lex
 tx:=y.tx.trans x.tx
 np:=y.np.trans x.np
 lx:=y.lx.trans x.lx
 kp p o e hz hy:=by
  have off:¬σ'.Y p:=fun q=>(x.nw p q).elim hy fun z=>by rw[e] at z;exact Cq z
  refine⟨fun n=>(y.kp p o ((x.kp p o e hz hy).1 n) hz off).1 n,fun n=>?_⟩;refine xE ((x.kp p o e hz hy).2 n) fun sl e1=>?_;refine xE ((y.kp p _ e1 hz off).2 fun z=>n (Lz z)) fun sl' e2=>?_;exact⟨sl',e2⟩
 al p o e:=by
  cases c:σ'.s.heap.get? p with
  |none=>exact absurd c (x.al p o e)
  |some o'=>exact y.al p o' c
 nw p hp:=by
  rcases y.nw p hp with q|q
  ·exact x.nw p q
  ·by_cases h:σ.Y p
   ·exact .inl h
   ·right
    cases e:σ.s.heap.get? p with
    |none=>rfl
    |some o=>exact absurd q (x.al p o e)
theorem Nz.wide{Z':AS}(h:∀p,Z p→Z' p)(x:Nz W l X Z σ σ'):Nz W l X Z' σ σ':={x with kp:=fun p o e hz hy=>x.kp p o e (fun q=>hz (h p q)) hy}
theorem SR.at(S:SR W l X σ){p:Addr}(hp:σ.Y p):∃o,σ.s.heap.get? p=some o∧NF o∧¬X p:=by
 refine xEEA hp fun s c e h=>?_;refine AZ ((S.cell s c e).there h) fun o ho hn=>?_;refine xA (AR ho) fun ho hx=>?_;exact⟨o,ho,hn,hx⟩
theorem SR.notY(S:SR W l X σ){p:Addr} {o:Obj}(ho:σ.s.heap.get? p=some o)(hc:¬NF o):¬σ.Y p:=fun hp=>by
 refine BU (S.at hp) fun o' ho' hn J=>?_;rw[ho] at ho';cases ho';exact hc hn
def f_(σ:St)(Z:AS):Prop:=∀p,Z p→∀o,σ.s.heap.get? p=some o→¬NF o
theorem f_.zero:f_ σ Z0:=fun J h=>h.elim
theorem Nz.reg(f:f_ σ Z)(x:Nz W l X Z σ σ'):Le (σ.reg X) (σ'.reg X):=fun b o e hn=>by
 refine xA (AR e) fun e hb=>?_;refine xA (AR e) fun e hx=>?_;have e1:=(x.kp b o e (fun z=>f b z o e hn) hb).1 hn;refine Ac (Ac e1 hx) fun q=>?_;rcases x.nw b q with q|q
 ·exact hb q
 ·rw[e] at q;exact Cq q
abbrev VT(W:Wd)(X:AS)(σ:St)(v:V)(a:Value):Prop:=VR W.w.params W.ca (σ.reg X) σ.μ v a
abbrev Q8(W:Wd)(X:AS)(σ:St)(v:List V)(a:List Value):Prop:=BC W.w.params W.ca (σ.reg X) σ.μ v a
theorem VR.nz(f:f_ σ Z)(x:Nz W l X Z σ σ'){v:V} {a:Value}(h:VT W X σ v a):VT W X σ' v a:=VR.mono (x.reg f) x.mu v a h
theorem BC.nz(f:f_ σ Z)(x:Nz W l X Z σ σ'){v:List V} {a:List Value}(h:Q8 W X σ v a):Q8 W X σ' v a:=BC.mono (x.reg f) x.mu v a h
theorem FF.nz{h h' B:Heap} {l:List Env}(k:∀p o,h.get? p=some o→¬NF o→∃sl,h'.get? p=some {o with slots:=sl})(f:FF h B l):FF h' B l:=fun env he=>by
 refine GF (f env he) fun hk L o h1 h2 h3 h4 h5=>?_;refine xE (k L o h3 (Lw h4 h5)) fun sl e=>?_;exact⟨hk,L,_,h1,h2,e,h4,h5⟩
structure Go(W:Wd)(X:AS)(s0:Sl)(σ σ':St):Prop where
 old:∀s,s≠s0→∀c',σ'.cel s=some c'→∃c,σ.cel s=some c∧c'.o=c.o∧c'.p=c.p∧Bk c.m c'.m
 has:∀c',σ'.cel s0=some c'→∀a,c'.has a→(∃c,σ.cel s0=some c∧c.has a)∨σ.s.heap.get? a=none
 kp:∀a o,σ.s.heap.get? a=some o→(∀c,σ.cel s0=some c→¬c.has a)→σ'.s.heap.get? a=some o
 al:∀a o,σ.s.heap.get? a=some o→σ'.s.heap.get? a≠none
 nt:σ'.h.tmp.isSome=σ'.μ.tm.isSome
 nlo:σ'.h.lo.length=σ'.μ.lo.length
 ngl:σ'.h.gl.length=σ'.μ.gl.length
 tx:∀s,σ'.μ.tx=some s→σ'.h.base=s.2∧σ'.h.chs=s.1.drop s.2∧s.1.length≤Ei
 lx:∀x,σ'.μ.lx=some x→W.LX x.1 x.2.1 x.2.2 σ'.h.rest
 os:σ'.s.os=σ.s.os
 gens:σ'.s.gens=σ.s.gens
variable{s0:Sl}
theorem Go.nw(G:Go W X s0 σ σ'):∀p,σ'.Y p→σ.Y p∨σ.s.heap.get? p=none:=fun p ⟨s,c',e,h⟩=>by
 by_cases q:s=s0
 ·subst q;exact(G.has c' e p h).imp (fun⟨c,e,h⟩=>⟨_,c,e,h⟩) id
 ·refine DL (G.old s q c' e) fun c e1 e2 e3 J=>?_
  exact .inl ⟨s,c,e1,by unfold B5.has at h⊢;rw[←e2,←e3];exact h⟩
theorem Go.le(G:Go W X s0 σ σ'):Le (σ.reg X) (σ'.reg X):=fun b o e J=>by
 refine xA (AR e) fun e hb=>?_;refine xA (AR e) fun e hx=>?_;refine Ac (Ac (G.kp b o e fun c q z=>hb ⟨_,c,q,z⟩) hx) fun q=>?_;rcases G.nw b q with q|q
 ·exact hb q
 ·rw[e] at q;exact Cq q
theorem Go.sr(G:Go W X s0 σ σ')(S:SR W l X σ)(hn:∀c',σ'.cel s0=some c'→Le (σ.reg X) (σ'.reg X)→DI W.w.params W.ca (σ'.reg X) (σ'.hx X) c'):SR W l X σ':=by
 have dis:∀{s c a},s≠s0→σ.cel s=some c→c.has a→∀c0,σ.cel s0=some c0→¬c0.has a:=fun n e h c0 e0 h0=>n (S.inj _ _ _ _ _ e e0 h h0);have half:∀{s c c0 a},s≠s0→σ'.cel s=some c→σ'.cel s0=some c0→c.has a→¬c0.has a:=fun{s c c0 a} n e e0 h h0=>by
  refine DL (G.old s n c e) fun c1 e1 e2 e3 J=>?_;have h1:c1.has a:=by unfold B5.has at h⊢;rw[←e2,←e3];exact h
  rcases G.has c0 e0 a h0 with⟨c2,z1,z2⟩|z
  ·exact dis n e1 h1 c2 z1 z2
  ·refine AZ (S.at ⟨s,c1,e1,h1⟩) fun o ho J=>?_
   rw[z] at ho;exact AD ho
 refine⟨fun s c' e=>?_,fun s s' c c' a e1 e2 h1 h2=>?_,fun a ha=>?_,G.nt,G.nlo,G.ngl,G.tx,G.lx,fun b o e=>G.kp b o (S.base b o e) fun c z q=>?_,fun a ha=>?_,S.fr.nz fun p o e n=>⟨o.slots,G.kp p o e fun c z q=>?_⟩,G.os.trans S.os,G.gens.trans S.gens⟩
 ·by_cases q:s=s0
  ·clear dis half;subst q;exact hn c' e G.le
  ·refine DL (G.old s q c' e) fun c e1 e2 e3 e4=>?_
   have:=(S.cell s c e1).mono (g':=σ'.hx X) (fun b x hb e=>by
    refine xA (AR e) fun e hx=>?_;exact Ac (G.kp b x e (dis q e1 hb)) hx) G.le e4
   rw[←e2,←e3] at this;exact this
 ·by_cases q:s=s0
  ·by_cases q':s'=s0
   ·rw[q,q']
   ·clear G dis hn;subst q;exact absurd h1 (half q' e2 e1 h2)
  ·by_cases q':s'=s0
   ·clear G dis hn;subst q';exact absurd h2 (half q e1 e2 h1)
   ·refine DL (G.old s q c e1) fun c1 a1 a2 a3 J=>?_
    refine DL (G.old s' q' c' e2) fun c2 b1 b2 b3 J=>?_;refine S.inj s s' c1 c2 a a1 b1 ?_ ?_
    ·unfold B5.has at h1⊢;rw[←a2,←a3];exact h1
    ·unfold B5.has at h2⊢;rw[←b2,←b3];exact h2
 ·rcases G.nw a ha with q|q
  ·exact S.low a q
  ·cases c:W.B.get? a with
   |none=>rfl
   |some o=>have:=S.base a o c;rw[q] at this;exact AD this
 ·have:=S.low b ⟨_,c,z,q⟩
  rw[e] at this;exact Cq this
 ·refine BU (S.xs a ha) fun o e n nb=>?_
  exact⟨o,G.kp a o e fun c z q=>by refine BU (S.at ⟨_,c,z,q⟩) fun J J J hx=>?_;exact hx ha,n,nb⟩
 ·exact S.notY e n ⟨_,c,z,q⟩
theorem Go.nz(G:Go W X s0 σ σ')(S:SR W l X σ)(hn:∀c',σ'.cel s0=some c'→Le (σ.reg X) (σ'.reg X)→DI W.w.params W.ca (σ'.reg X) (σ'.hx X) c')(m:Bk σ.μ σ'.μ)(e1:σ'.μ.par=σ.μ.par)(e2:σ'.μ.lex=σ.μ.lex)(e3:σ'.μ.tx=σ.μ.tx)(e4:σ'.μ.np=σ.μ.np)(e5:σ'.μ.lx.isSome=σ.μ.lx.isSome):Nz W l X Z σ σ':=
 ⟨G.sr S hn,m.lo,m.gl,m.tm,e1,e2,e3,e4,e5,fun p o e J hy=>let z:=G.kp p o e fun c z q=>hy ⟨_,c,z,q⟩; ⟨fun J=>z,fun J=>⟨o.slots,z⟩⟩,G.al,G.nw⟩
end
section
variable{W:Wd} {l:List Env} {X Z:AS} {σ σ1 σ2 σ3:St} {LX:List Nat→Nat→V→List V→Prop} {f:Sl→Sl} {fq:Sl→Option Sl}
noncomputable def Kl(X:AS)(σ σ1:St):AS:=fun a=>X a∨(σ.Y a∧¬σ1.Y a)
theorem Og(hs:∀a,σ1.Y a→σ.Y a)(e:σ1.s=σ.s):Le (σ.reg X) (σ1.reg (Kl X σ σ1)):=fun b o h J=>by
 refine xA (AR h) fun h hb=>?_;refine xA (AR h) fun h hx=>?_;exact Ac (Ac (e▸h) fun q=>q.elim hx fun q=>hb q.1) fun q=>hb (hs b q)
structure Pd(W:Wd)(f:Sl→Sl)(σ σ1:St):Prop where
 sh:σ1.s=σ.s
 cel:∀s c1,σ1.cel s=some c1→∃c,σ.cel (f s)=some c∧(∀a,c1.has a→c.has a)∧∀gf g,DI W.w.params W.ca gf g c→DI W.w.params W.ca gf g c1
 inj:∀s s' c c',σ1.cel s=some c→σ1.cel s'=some c'→f s=f s'→s=s'
theorem Pd.sub(w:Pd W f σ σ1){a:Addr}:σ1.Y a→σ.Y a:=fun⟨s,c1,e,h⟩=>by
 refine BU (w.cel s c1 e) fun c e2 h2 J=>?_;exact⟨_,c,e2,h2 a h⟩
theorem DI.local{P:Params} {ca:Ca} {gf g g':Hp} {c:B5}(h:DI P ca gf g c)(k:∀b x,c.has b→g b=some x→g' b=some x):DI P ca gf g' c:=h.mono k (Le.refl gf) (.refl _)
theorem SR.view(S:SR W l X σ)(w:Pd W f σ σ1)(nt:σ1.h.tmp.isSome=σ1.μ.tm.isSome)(nlo:σ1.h.lo.length=σ1.μ.lo.length)(ngl:σ1.h.gl.length=σ1.μ.gl.length)(tx:∀s,σ1.μ.tx=some s→σ1.h.base=s.2∧σ1.h.chs=s.1.drop s.2∧s.1.length≤Ei)(lx:∀x,σ1.μ.lx=some x→LX x.1 x.2.1 x.2.2 σ1.h.rest):SR {W with LX:=LX} l (Kl X σ σ1) σ1:=by
 have le:=Og (X:=X) (fun a=>w.sub) w.sh;refine⟨fun s c1 e=>?_,fun s s' c c' a e1 e2 h1 h2=>?_,fun a h=>S.low a (w.sub h),nt,nlo,ngl,tx,lx,w.sh▸S.base,fun a h=>?_,w.sh▸S.fr,w.sh▸S.os,w.sh▸S.gens⟩
 ·refine BU (w.cel s c1 e) fun c e2 h2 k=>?_
  refine DI.local (k _ _ ((S.cell _ c e2).mono (fun J J J h=>h) le (.refl _))) fun b x hb h=>?_;refine xA (AR h) fun h hx=>?_;refine Ac (w.sh▸h) fun q=>q.elim hx fun q=>q.2 ⟨s,c1,e,hb⟩
 ·refine BU (w.cel s c e1) fun d e3 h3 J=>?_
  refine BU (w.cel s' c' e2) fun d' e4 h4 J=>?_;exact w.inj s s' c c' e1 e2 (S.inj _ _ d d' a e3 e4 (h3 a h1) (h4 a h2))
 ·rcases h with h|⟨h,_⟩
  ·rw[w.sh];exact S.xs a h
  ·refine BU (S.at h) fun o e n J=>?_
   exact⟨o,by rw[w.sh];exact e,n,S.low a h⟩
structure K5(W:Wd)(q:Sl→Option Sl)(σ σ1 σ2 σ3:St):Prop where
 s1:σ1.s=σ.s
 s3:σ3.s=σ2.s
 sub:∀a,σ1.Y a→σ.Y a
 cel:∀s c3,σ3.cel s=some c3→(∃c,σ.cel s=some c∧c3.o=c.o∧c3.p=c.p∧Bk c.m c3.m∧∀a,c.has a→¬σ1.Y a)∨∃s2 c2,q s=some s2∧σ2.cel s2=some c2∧(∀a,c3.has a→c2.has a)∧∀gf g,DI W.w.params W.ca gf g c2→DI W.w.params W.ca gf g c3
 inj:∀s s' t,q s=some t→q s'=some t→s=s'
 mu:Bk σ.μ σ3.μ
 par:σ3.μ.par=σ.μ.par
 lex:σ3.μ.lex=σ.μ.lex
 tmx:σ3.μ.tx=σ.μ.tx
 np:σ3.μ.np=σ.μ.np
 mlx:σ3.μ.lx.isSome=σ.μ.lx.isSome
 nt:σ3.h.tmp.isSome=σ3.μ.tm.isSome
 nlo:σ3.h.lo.length=σ3.μ.lo.length
 ngl:σ3.h.gl.length=σ3.μ.gl.length
 tx:∀s,σ3.μ.tx=some s→σ3.h.base=s.2∧σ3.h.chs=s.1.drop s.2∧s.1.length≤Ei
 lx:∀x,σ3.μ.lx=some x→W.LX x.1 x.2.1 x.2.2 σ3.h.rest
theorem K5.nw(b:K5 W fq σ σ1 σ2 σ3)(N:Nz {W with LX:=LX} l (Kl X σ σ1) Z0 σ1 σ2):∀p,σ3.Y p→σ.Y p∨σ.s.heap.get? p=none:=fun p ⟨s,c3,e,h⟩=>by
 rcases b.cel s c3 e with⟨c,e1,e2,e3,_⟩|⟨_,c2,_,e2,h2,_⟩
 ·exact .inl ⟨s,c,e1,by unfold B5.has at h⊢;rw[←e2,←e3];exact h⟩
 ·rcases N.nw p ⟨_,c2,e2,h2 p h⟩ with q|q
  ·exact .inl (b.sub p q)
  ·exact .inr (by rw[←b.s1];exact q)
theorem K5.hid(b:K5 W fq σ σ1 σ2 σ3)(N:Nz {W with LX:=LX} l (Kl X σ σ1) Z0 σ1 σ2):Le (σ2.reg (Kl X σ σ1)) (σ3.reg X):=fun p o e J=>by
 refine xA (AR e) fun e hb=>?_;refine xA (AR e) fun e hx=>?_;refine Ac (Ac (by rw[b.s3];exact e) fun q=>hx (.inl q)) fun⟨s,c3,e3,h⟩=>?_;rcases b.cel s c3 e3 with⟨c,e1,e2,e3,_,k⟩|⟨_,c2,_,e2,h2,_⟩
 ·have h:c.has p:=by unfold B5.has at h⊢;rw[←e2,←e3];exact h
  exact hx (.inr ⟨⟨s,c,e1,h⟩,k p h⟩)
 ·exact hb ⟨_,c2,e2,h2 p h⟩
theorem K5.nz(b:K5 W fq σ σ1 σ2 σ3)(S:SR W l X σ)(N:Nz {W with LX:=LX} l (Kl X σ σ1) Z0 σ1 σ2):Nz W l X Z σ σ3:=by
 have nw:=b.nw N;have le2:=b.hid N;have kp:∀p o,σ.s.heap.get? p=some o→¬σ1.Y p→(NF o→σ3.s.heap.get? p=some o)∧(¬NF o→∃sl,σ3.s.heap.get? p=some {o with slots:=sl}):=fun p o e hy=>by
  rw[b.s3];exact N.kp p o (by rw[b.s1];exact e) (fun h=>h) hy
 have le:Le (σ.reg X) (σ3.reg X):=fun p o e n=>by
  refine xA (AR e) fun e hb=>?_;refine xA (AR e) fun e hx=>?_;refine Ac (Ac ((kp p o e fun q=>hb (b.sub p q)).1 n) hx) fun q=>?_;rcases nw p q with q|q
  ·exact hb q
  ·rw[e] at q;exact Cq q
 have kept:∀{c a},(∀a,c.has a→¬σ1.Y a)→(∃s,σ.cel s=some c)→c.has a→Kl X σ σ1 a:=fun k ⟨s,e⟩ h=>.inr ⟨⟨s,_,e,h⟩,k _ h⟩;refine⟨⟨fun s c3 e=>?_,fun s s' c c' a e1 e2 h1 h2=>?_,fun a h=>?_,b.nt,b.nlo,b.ngl,b.tx,b.lx,by rw[b.s3];exact N.sr.base,fun a h=>?_,by rw[b.s3];exact N.sr.fr,by rw[b.s3];exact N.sr.os,by rw[b.s3];exact N.sr.gens⟩,b.mu.lo,b.mu.gl,b.mu.tm,b.par,b.lex,b.tmx,b.np,b.mlx,fun p o e J hy=>kp p o e fun q=>hy (b.sub p q),fun p o e=>?_,nw⟩
 ·rcases b.cel s c3 e with⟨c,e1,e2,e3,m,k⟩|⟨_,c2,_,e2,h2,k⟩
  ·have:=(S.cell s c e1).mono (g':=σ3.hx X) (fun a x ha h=>by
    refine AZ ((S.cell s c e1).there ha) fun y hy n=>?_;rw[h] at hy;cases hy;refine xA (AR h) fun h hx=>?_;exact Ac ((kp a x h (k a ha)).1 n) hx) le m
   rw[←e2,←e3] at this;exact this
  ·refine k _ _ ((N.sr.cell _ c2 e2).mono (m':=c2.m) (fun a x ha h=>?_) le2 (.refl _))
   refine xA (AR h) fun h hx=>?_;exact Ac (by rw[b.s3];exact h) fun q=>hx (.inl q)
 ·have tr:∀{c d:B5} {a:Addr},c.o=d.o→c.p=d.p→c.has a→d.has a:=fun e1 e2 h=>by unfold B5.has at h⊢;rw[←e1,←e2];exact h
  have no:∀{s c2},σ2.cel s=some c2→c2.has a→¬Kl X σ σ1 a:=fun e h=>by
   refine BU (N.sr.at ⟨_,_,e,h⟩) fun J J J hx=>?_;exact hx
  rcases b.cel s c e1 with⟨d,z1,z2,z3,_,k⟩|⟨s2,d,w1,z1,z2,_⟩
  ·rcases b.cel s' c' e2 with⟨d',y1,y2,y3,_,k'⟩|⟨s3,d',w2,y1,y2,_⟩
   ·exact S.inj s s' d d' a z1 y1 (tr z2 z3 h1) (tr y2 y3 h2)
   ·exact absurd (kept k ⟨s,z1⟩ (tr z2 z3 h1)) (no y1 (y2 a h2))
  ·rcases b.cel s' c' e2 with⟨d',y1,y2,y3,_,k'⟩|⟨s3,d',w2,y1,y2,_⟩
   ·exact absurd (kept k' ⟨s',y1⟩ (tr y2 y3 h2)) (no z1 (z2 a h1))
   ·exact b.inj s s' s2 w1 (w2.trans (congrArg some (N.sr.inj _ _ d d' a z1 y1 (z2 a h1) (y2 a h2)).symm))
 ·rcases nw a h with q|q
  ·exact S.low a q
  ·cases c:W.B.get? a with
   |none=>rfl
   |some o=>have:=S.base a o c;rw[q] at this;exact AD this
 ·rw[b.s3];exact N.sr.xs a (.inl h)
 ·rw[b.s3];exact N.al p o (by rw[b.s1];exact e)
end
end Mn
namespace Mn
open PySem PySem.W PySem.Calls PyProof.Rows PySem.SeqAt PySem.MeetsSeq
noncomputable def pg:Program:=(PySem.Challenge.rw_nt0413_02).row.prog
noncomputable abbrev mo(W:Wd):Model:=model pg W.w
theorem Ht{k:Nat}:∀{l:List Nat},E6 k l=l.contains k
 | []=>rfl
 |j::r=>by
  show(match Nat.beq j k with|true=>true|false=>E6 k r)=_
  by_cases h:j=k
  ·subst h
   rw[show Nat.beq j j=true from Nat.beq_refl j];simp
  ·rw[show Nat.beq j k=false from by cases c:Nat.beq j k with|false=>rfl|true=>exact absurd (Nat.eq_of_beq_eq_true c) h]
   show E6 k r=_;rw[Ht,List.contains_cons];have:(k==j)=false:=by simpa using fun z=>h z.symm
   rw[this];rfl
noncomputable def Sh(K:Frag)(C:Addr)(as:List Str):Bool:=
 findIn K (.ref C) "__getattribute__"==some (some (.builtin "object.__getattribute__"))&&findIn K (.ref C) "__getattr__"==some none&&
 findIn K (.ref C) "__setattr__"==some (some (.builtin "object.__setattr__"))&&plainOver K C&&(clsIn K C).any (·.hasDict)&&makesIn K C&&
 as.all fun a=>findIn K (.ref C) a==some none&&takerIn K C a==some none
structure aT(K:Frag)(C:Addr)(as:List Str):Prop where
 ga:findIn K (.ref C) "__getattribute__"=some (some (.builtin "object.__getattribute__"))
 gr:findIn K (.ref C) "__getattr__"=some none
 sa:findIn K (.ref C) "__setattr__"=some (some (.builtin "object.__setattr__"))
 over:plainOver K C=true
 dict:(clsIn K C).any (·.hasDict)=true
 makes:makesIn K C=true
 attr:∀a∈as,findIn K (.ref C) a=some none∧takerIn K C a=some none
theorem aC{K:Frag} {C:Addr} {as:List Str}(h:Sh K C as=true):aT K C as:=by
 unfold Sh at h;simp only[Bool.and_eq_true,beq_iff_eq,List.all_eq_true] at h;obtain⟨⟨⟨⟨⟨⟨h1,h2⟩,h3⟩,h4⟩,h5⟩,h6⟩,h7⟩:=h;exact⟨h1,h2,h3,h4,h5,h6,h7⟩
structure b_(g:G)(as:List Str):Prop where
 all:∀x,E6 (nk x) g.attrs=true→x∈as
noncomputable def LC(g:G)(as:List Str):Bool:=g.attrs==as.map nk&&as.all fun a=>nk a !=0
theorem YW{g:G} {as:List Str}(h:LC g as=true):b_ g as:=by
 unfold LC at h;simp only[Bool.and_eq_true,beq_iff_eq,List.all_eq_true,bne_iff_ne] at h;refine⟨fun x hx=>?_⟩;rw[Ht,h.1] at hx;refine AZ (List.mem_map.mp (List.contains_iff_mem.mp hx)) fun y hy e=>?_;have:y=x:=EI e (h.2 y hy);exact this▸hy
theorem Ij:∀{ns:List (Str×NameKind)} {x:Str} {q:NameKind},nk x≠0→B9 ns (nk x)=some q→ns.lookup x=some q
 | [],_,_,_,e=>by exact AD e
 |(y,k)::r,x,q,h0,e=>by
  have e:(match Nat.beq (nk y) (nk x) with|true=>some k|false=>B9 r (nk x))=some q:=e
  by_cases h:nk y=nk x
  ·have:y=x:=EI h (h▸h0)
   subst this;rw[show Nat.beq (nk y) (nk y)=true from Nat.beq_refl _] at e;rw[List.lookup_cons,show(y==y)=true from by simp];exact e
  ·rw[show Nat.beq (nk y) (nk x)=false from by cases c:Nat.beq (nk y) (nk x) with|false=>rfl|true=>exact absurd (Nat.eq_of_beq_eq_true c) h] at e
   have:(x==y)=false:=by simpa using fun z:x=y=>h (by rw[z])
   rw[List.lookup_cons,this];exact Ij h0 e
def GN(W:Wd)(x:Str)(a:Value):Prop:=∀(A:Around) (E:Value→Shared→Prop) (Q:Value→Shared→Prop) (s:Shared) (env:Env),W.B.StaysIn s.heap→env.globals=mainGlobals→env.builtins=builtinsNs→
 env.scope.kind=.function→env.scope.names.lookup x=some .globalImplicit→Q a s→wpAny (mo W) A (loadName env x) Q E s
noncomputable def Xi(K:Frag)(x:Str)(a:Value):Bool:=nsIn K mainGlobals x==some (some a)||(nsIn K mainGlobals x==some none&&nsIn K builtinsNs x==some (some a))
theorem jw{K:Frag} {W:Wd} {x:Str} {a:Value}(KI:K.In W.B)(h:Xi K x a=true):GN W x a:=by
 intro A E Q s env hB hg hb hk hx q;have XI:K.In s.heap:=KI.keeps hB;have e:loadName env x=loadGlobal env x:=by
  unfold loadName;simp only[Env.blockKind,hk,Env.kindOf,hx,ScopeKind.isAnnotationScope,Bool.false_and,Bool.false_eq_true,if_false]
 rw[e];unfold loadGlobal;rw[hg,hb];unfold Xi at h;rcases Bool.or_eq_true_iff.mp h with h|h
 ·exact wpAny_bind ((looks_nsIn XI (beq_iff_eq.mp h)).here (wpAny_pure q))
 ·refine xA (Bool.and_eq_true_iff.mp h) fun h1 h2=>?_
  exact wpAny_bind ((looks_nsIn XI (beq_iff_eq.mp h1)).here (wpAny_bind ((looks_nsIn XI (beq_iff_eq.mp h2)).here (wpAny_pure q))))
structure fW(sc:Scope)(L:Addr)(env:Env):Prop where
 scope:env.scope=sc
 kind:sc.kind=.function
 locals:env.locals=L
 globals:env.globals=mainGlobals
 builtins:env.builtins=builtinsNs
noncomputable def QP(p:Arguments):Bool:=p.posonlyargs.isEmpty&&p.vararg.isNone&&p.kwonlyargs.isEmpty&&p.kwarg.isNone&&decide (p.args.map (·.arg)).Nodup
noncomputable def WV(sc:Scope):Bool:=sc.kind==.function&&!sc.isCoroutine&&!sc.isGenerator&&sc.names.all fun x=>x.2 !=.cell
structure rW where
 od:Option Addr
 sl:Array (Option Value)
 nm:Str
 q:Str
 ps:Arguments
 doc:Value
 pm:Value
 an:Option Addr
 cd:Value
 ct:Value
noncomputable abbrev rW.d(x:rW)(fn:Fn):FuncData:=PySem.W.fnOf x.nm x.q x.ps fn.body fn.sc .none .none x.doc x.pm x.an x.cd x.ct
structure FnC(K:Frag)(f:Addr)(fn:Fn)(x:rW):Prop where
 o:K.lookup f=some ⟨.type "function",x.od,.func (x.d fn),x.sl⟩
 c:codeIn K x.cd x.q=true
 p:fn.ps=Ib x.ps
 k:QP x.ps=true
structure Jm(K:Frag)(f:Addr)(fn:Fn):Prop where
 obj:∃x,FnC K f fn x
 sc:WV fn.sc=true
theorem G_:∀{a b:List Nat},DT a b=decide (a=b)
 | [],[]=>rfl
 | [],_::_=>rfl
 |_::_,[]=>rfl
 |x::a,y::b=>by
  show(Bool.rec (motive:=fun J=>Bool) false (DT a b) (Nat.beq x y))=_
  by_cases h:x=y
  ·subst h
   rw[show Nat.beq x x=true from Nat.beq_refl x];show DT a b=_;rw[G_];simp
  ·cases q:Nat.beq x y with
   |true=>exact absurd (Nat.eq_of_beq_eq_true q) h
   |false=>simp[h]
theorem G7{x y:Str}(h:x.cps.toList=y.cps.toList):x=y:=by
 cases x;cases y;simp only[Str.mk.injEq];exact Array.toList_inj.mp h
theorem SG{α:Type}(k j:List Nat)(a:α)(r:List (List Nat×α)):GY k ((j,a)::r)=if j=k then some a else GY k r:=by
 show(match DT j k with|true=>some a|false=>GY k r)=_;rw[G_]
 by_cases h:j=k<;>simp[h]
theorem UX(k j:List Nat)(v a:V)(r:List (List Nat×V)):UY k v ((j,a)::r)=if j=k then(j,v)::r else(j,a)::UY k v r:=by
 show(match DT j k with|true=>(j,v)::r|false=>(j,a)::UY k v r)=_;rw[G_]
 by_cases h:j=k<;>simp[h]
section
variable{P:Params} {ca:Ca} {g:Hp} {μ:Mu}
inductive VK(P:Params)(ca:Ca)(g:Hp)(μ:Mu):List (List Nat×V)→List (Str×Value)→Prop
 |nil:VK P ca g μ [] []
 |cons {x:Str} {v:V} {a:Value} {l:List (List Nat×V)} {kvs:List (Str×Value)}:VR P ca g μ v a→VK P ca g μ l kvs→VK P ca g μ ((x.cps.toList,v)::l) ((x,a)::kvs)
theorem VK.keys{l:List (List Nat×V)} {kvs:List (Str×Value)}(h:VK P ca g μ l kvs):l.map (·.1)=kvs.map (·.1.cps.toList):=by
 induction h with
 |nil=>rfl
 |cons _ _ ih=>simp[ih]
theorem Ih{α β:Type} {f:α→β}:∀{l:List α},(l.map f).Nodup→l.Nodup
 | [],_=>List.nodup_nil
 |a::l,h=>by
  rw[List.map_cons,List.nodup_cons] at h;rw[List.nodup_cons];exact⟨fun q=>h.1 (List.mem_map_of_mem q),Ih h.2⟩
theorem VK.nodup{l:List (List Nat×V)} {kvs:List (Str×Value)}(h:VK P ca g μ l kvs)(n:(l.map (·.1)).Nodup):(kvs.map (·.1)).Nodup:=by
 rw[h.keys] at n;have:(kvs.map (·.1)).map (fun x=>x.cps.toList)=kvs.map (·.1.cps.toList):=by simp[List.map_map]
 rw[←this] at n;exact Ih n
theorem Lx{α β:Type} {f:α→β}(hf:∀a b,f a=f b→a=b):∀{l:List α},l.Nodup→(l.map f).Nodup
 | [],_=>List.nodup_nil
 |a::l,h=>by
  rw[List.nodup_cons] at h;rw[List.map_cons,List.nodup_cons];refine⟨fun q=>?_,Lx hf h.2⟩;refine AZ (List.mem_map.mp q) fun b hb e=>?_;exact h.1 (hf _ _ e▸hb)
theorem QZ{α:Type} {f:α→α}:∀{l:List α},(∀a∈l,f a=a)→l.map f=l
 | [],_=>rfl
 |a::l,h=>by rw[List.map_cons,h a (.head _),QZ fun b hb=>h b (.tail _ hb)]
theorem VK.nodup'{l:List (List Nat×V)} {kvs:List (Str×Value)}(h:VK P ca g μ l kvs)(n:(kvs.map (·.1)).Nodup):(l.map (·.1)).Nodup:=by
 rw[h.keys];have:kvs.map (·.1.cps.toList)=(kvs.map (·.1)).map (fun x=>x.cps.toList):=by simp[List.map_map]
 rw[this];exact Lx (fun a b e=>G7 e) n
theorem VK.get{l:List (List Nat×V)} {kvs:List (Str×Value)}(h:VK P ca g μ l kvs)(x:Str):match GY x.cps.toList l with
  |some v=>∃a,valueAt kvs x=some a∧VR P ca g μ v a
  |none=>valueAt kvs x=none:=by
 induction h with
 |nil=>rfl
 | @cons y v a l kvs hv _ ih=>
  rw[SG]
  by_cases q:y=x
  ·clear ih;subst q
   rw[if_pos rfl];exact⟨a,by unfold valueAt;simp,hv⟩
  ·rw[if_neg fun z=>q (G7 z)]
   have:valueAt ((y,a)::kvs) x=valueAt kvs x:=by unfold valueAt;simp[q]
   rw[this];exact ih
theorem VK.put{l:List (List Nat×V)} {kvs:List (Str×Value)}(h:VK P ca g μ l kvs)(n:(kvs.map (·.1)).Nodup){x:Str} {v:V} {a:Value}(hv:VR P ca g μ v a):VK P ca g μ (UY x.cps.toList v l) (stored kvs x a):=by
 unfold stored
 induction h with
 |nil=>exact .cons hv .nil
 | @cons y w b l kvs hw hr ih=>
  rw[List.map_cons,List.nodup_cons] at n;rw[UX]
  by_cases q:y=x
  ·clear ih;subst q
   rw[if_pos rfl];have e1:((y,b)::kvs).any (fun kv=>kv.1=y)=true:=by simp
   rw[if_pos (by simpa using e1)];have e2:kvs.map (fun kv=>if kv.1=y then(kv.1,a) else kv)=kvs:=QZ fun kv hkv=>by
    rw[if_neg fun z=>n.1 (List.mem_map.mpr ⟨kv,hkv,z⟩)]
   rw[List.map_cons,if_pos rfl,e2];exact .cons hv hr
  ·rw[if_neg fun z=>q (G7 z)]
   have e1:((y,b)::kvs).any (fun kv=>decide (kv.1=x))=kvs.any (fun kv=>decide (kv.1=x)):=by simp[q]
   rw[e1];have:=ih n.2
   by_cases c:kvs.any (fun kv=>decide (kv.1=x))=true
   ·rw[if_pos c] at this⊢
    rw[List.map_cons,if_neg q];exact .cons hw this
   ·rw[if_neg c] at this⊢
    exact .cons hw this
end
section
variable{W:Wd} {ca:Ca} {g:Hp} {μ:Mu}
theorem Jl.pairs:∀{l:List (List Nat×V)} {es:List DictEntry},Jl W.w.params ca g μ l es→∃kvs,VK W.w.params ca g μ l kvs∧Pairs (strKind pg W.w) es kvs∧∀e∈es,∃k,(strKind pg W.w).is k e.key=true∧e.hash=(strKind pg W.w).hash k
 | [],es,h=>by unfold Jl at h;subst h;exact⟨[],.nil,.nil,fun J h=>nomatch h⟩
 |(k,v)::r,es,h=>by
  unfold Jl at h;refine GD h fun x t a q e h0 h1 h2=>?_;refine BU (Jl.pairs h2) fun kvs k1 k2 k3=>?_;clear h;subst e h0;refine⟨(x,a)::kvs,.cons h1 k1,.cons (strKind_is pg W.w x t) rfl k2,fun e he=>?_⟩;rcases List.mem_cons.mp he with rfl|he
  ·exact⟨x,strKind_is pg W.w x t,rfl⟩
  ·exact k3 e he
theorem Jl.dictOf{h:Heap} {b:Addr} {l:List (List Nat×V)} {es:List DictEntry} {n:Nat}(x:Jl W.w.params ca g μ l es)(nd:(l.map (·.1)).Nodup)(ho:h.get? b=some (dictOf es n)):
  ∃kvs,VK W.w.params ca g μ l kvs∧h.DictOf (strKind pg W.w) b kvs:=by
 refine BU x.pairs fun kvs k1 k2 k3=>?_;exact⟨kvs,k1,_,es.toArray,n,ho,⟨rfl,rfl,rfl⟩,rfl,fun e he=>k3 e (by simpa using he),by simpa using k2,k1.nodup nd⟩
theorem VK.back:∀{l:List (List Nat×V)} {kvs:List (Str×Value)} {es:List DictEntry},VK W.w.params ca g μ l kvs→Pairs (strKind pg W.w) es kvs→(∀e∈es,∃k,(strKind pg W.w).is k e.key=true∧e.hash=(strKind pg W.w).hash k)→Jl W.w.params ca g μ l es
 | [],_,es,.nil,p,_=>by cases p;unfold Jl;rfl
 |_::_,_,es,.cons (x:=x) (a:=a) hv r,p,k=>by
  cases p with
  | @cons e _ es _ p1 p2 p3=>
   refine xE (Value.isStrOf_shape (show Value.isStrOf x e.key=true from p1)) fun t ht=>?_;refine AZ (k e (.head _)) fun y hy hh=>?_;obtain⟨c,d,v⟩:=e;simp only at ht hh p2;subst ht p2;have:y=x:=by
    have:=Value.isStrOf_shape (show Value.isStrOf y (Value.str x t)=true from hy);refine xE this fun u hu=>?_;clear hy hh this;cases hu;rfl
   clear hy p1;subst this;unfold Jl;exact⟨y,t,v,es,by rw[hh];rfl,rfl,hv,VK.back r p3 fun e he=>k e (.tail _ he)⟩
theorem Qx{h:Heap} {b:Addr} {l:List (List Nat×V)} {kvs:List (Str×Value)}(x:VK W.w.params ca g μ l kvs)(d:h.DictOf (strKind pg W.w) b kvs):
  ∃es n,h.get? b=some (dictOf es n)∧Jl W.w.params ca g μ l es∧(l.map (·.1)).Nodup:=by
 obtain⟨⟨c,dd,dt,sl⟩,es,ep,ho,⟨h1,h2,h3⟩,hd,hk,hp,hn⟩:=d;simp only at h1 h2 h3 hd;subst h1 h2 h3 hd;exact⟨es.toList,ep,by simpa using ho,x.back hp (fun e he=>hk e (by simpa using he)),x.nodup' hn⟩
end
theorem B_{h:Heap} {b:Addr} {xs:Array Value} {n:Nat}(e:h.get? b=some (listOf xs n)):h.IsList b xs:=⟨_,e,rfl,n,rfl⟩
theorem Hs{h:Heap} {b:Addr} {o:Obj} {xs:Array Value} {n:Nat}(e:h.get? b=some o)(c:o.cls=.type "tuple")(d:o.data=.seq xs n):h.IsTuple b xs:=⟨o,e,c,n,d⟩
theorem aM{xs:Array Value} {f:Value→Bool}:xs.any f=xs.toList.any f:=by simp
theorem XR:∀{a b:List Nat},Zg a b=decide (a<b)
 | [],[]=>by simp[Zg]
 | [],_::_=>by simp[Zg]
 |_::_,[]=>by simp[Zg]
 |x::a,y::b=>by
  show(match Nat.blt x y with|true=>true|false=>match Nat.beq x y with|true=>Zg a b|false=>false)=_
  by_cases h:x<y
  ·rw[show Nat.blt x y=true from Nat.ble_eq_true_of_le h]
   simp[List.cons_lt_cons_iff,h]
  ·rw[show Nat.blt x y=false from by cases q:Nat.blt x y with|false=>rfl|true=>exact absurd (Nat.le_of_ble_eq_true q) h]
   by_cases h2:x=y
   ·subst h2
    rw[show Nat.beq x x=true from Nat.beq_refl x];show Zg a b=_;rw[XR];simp[List.cons_lt_cons_iff]
   ·rw[show Nat.beq x y=false from by cases q:Nat.beq x y with|false=>rfl|true=>exact absurd (Nat.eq_of_beq_eq_true q) h2]
    simp[List.cons_lt_cons_iff,h,h2]
theorem Y6{P:Params} {ca:Ca} {g:Hp} {μ:Mu} {l0:List (List Nat×V)} {kvs:List (Str×Value)}(h:VK P ca g μ l0 kvs)(x:Str):(valueAt kvs x).isSome=(GY x.cps.toList l0).isSome:=by
 have:=h.get x;cases q:GY x.cps.toList l0 with
 |none=>rw[q] at this;have this:valueAt kvs x=none:=this;rw[this];rfl
 |some v=>rw[q] at this;refine AZ this fun a ha J=>?_;rw[ha];rfl
theorem OW{x y:Str}:(x==y)=DT x.cps.toList y.cps.toList:=by
 rw[G_]
 by_cases h:x=y
 ·subst h;simp
 ·rw[show(x==y)=false from by simpa using h]
  exact(decide_eq_false fun e=>h (G7 e)).symm
noncomputable def fZ:Value→Value→Bool
 |.int a _,.int b _=>a==b
 |.str a _,.str b _=>a==b
 |_,_=>false
theorem Cd{n:Nat}(h:n≤BV):n≤sizeLine:=Nat.le_trans h (by unfold BV sizeLine;decide)
theorem Bx{x:Str}:x.length=x.cps.toList.length:=by show x.cps.size=_;simp
theorem FQ{i:Int}(h:Fj i=true):i.natAbs<2^4096:=by
 have:Nat.blt i.natAbs (Nat.pow 2 4096)=true:=h;exact Nat.le_of_ble_eq_true this
theorem PY{i:Int} {k:Nat}(h:i.natAbs<2^k):Builtin.Int.intBits i≤k:=by
 unfold Builtin.Int.intBits
 split
 ·exact Nat.zero_le _
 ·rename_i hz
  have:i.natAbs≠0:=by
   intro q;apply hz;simpa using q
  exact(Nat.log2_lt this).mpr h
theorem jX{a b:Int}(ha:Fj a=true)(hb:Fj b=true):IntMulOk a b:=by
 have h1:=PY (FQ ha);have h2:=PY (FQ hb);unfold IntMulOk Builtin.Int.intTooBig;intro h;simp only[Bool.and_eq_true,decide_eq_true_eq] at h;have:=h.2;have e:(2:Nat) ^27=134217728:=by decide
 revert this
 try unfold bitsLine
 intro this;omega
theorem and_nat(x y:Nat):Builtin.bitAnd (.ofNat x) (.ofNat y)=.ofNat (Nat.land x y):=by
 unfold Builtin.bitAnd;have h1:decide (0≤Int.ofNat x)=true:=decide_eq_true (Int.natCast_nonneg x);have h2:decide (0≤Int.ofNat y)=true:=decide_eq_true (Int.natCast_nonneg y);rw[h1,h2];rfl
theorem dX(x y:Nat):Builtin.bitOr (.ofNat x) (.ofNat y)=.ofNat (Nat.lor x y):=by
 unfold Builtin.bitOr Builtin.bitAnd Builtin.bitNot;have h1:decide (0≤-(Int.ofNat x)-1)=false:=decide_eq_false (by have:=Int.natCast_nonneg x;show¬(0≤-(x:Int)-1);omega);have h2:decide (0≤-(Int.ofNat y)-1)=false:=decide_eq_false (by have:=Int.natCast_nonneg y;show¬(0≤-(y:Int)-1);omega);rw[h1,h2];have e:∀z:Nat,(-(-(Int.ofNat z)-1)-1)=Int.ofNat z:=fun z=>by show-(-(z:Int)-1)-1=(z:Int);omega
 simp only[e];show-(-((Nat.lor x y:Nat):Int)-1)-1=((Nat.lor x y:Nat):Int);omega
theorem PR(x y:Str):(x++y).cps.toList=x.cps.toList++y.cps.toList:=by
 show(x.cps++y.cps).toList=_;simp
theorem ak(x:Str):∀(n:Nat) (a:Array Nat),((List.replicate n x.cps).foldl (·++·) a).toList=a.toList++ao x.cps.toList n
 |0,a=>by simp[ao]
 |n+1,a=>by
  rw[List.replicate_succ,List.foldl_cons,ak x n];simp[ao]
theorem TH:∀n:Nat,ao [] n= []
 |0=>rfl
 |n+1=>by show []++ao [] n= [];rw[TH n];rfl
theorem G8{n:Nat}(h:n≤1048576):n≤sizeLine:=by rw[sizeLine_eq];omega
theorem SW{xs:Array Value} {k:Nat}(h:k<xs.size):¬(xs.eraseIdxIfInBounds k).size=xs.size:=by
 rw[←Array.length_toList,Array.toList_eraseIdxIfInBounds,List.length_eraseIdx,Array.length_toList,if_pos h];omega
theorem CE{h:Heap} {a b:Addr} {o:Obj}(f:Obj→Obj)(hne:b≠a)(e:h.get? b=some o):(h.update a f).get? b=some o:=(Heap.get?_update_other h f (Ne.symm hne)).trans e
structure Ex(W:Wd)(Z:AS)(σ:St)(s':Shared)(B:Heap):Prop where
 base:W.B.StaysIn B
 kn:∀p o,σ.s.heap.get? p=some o→¬Z p→¬σ.Y p→NF o→B.get? p=some o
 kf:∀p o,σ.s.heap.get? p=some o→¬Z p→¬NF o→∃sl,s'.heap.get? p=some {o with slots:=sl}
 os:s'.os=W.os
 gens:s'.gens= #[]
def Ci(W:Wd)(l:List Env)(Z:AS)(σ:St)(s':Shared)(C e:Addr):Prop:=∃B a0,Ex W Z σ s' B∧Heap.FlyingW B l e (.ref C) a0 s'.heap
def Eg(W:Wd)(l:List Env)(Z:AS)(L:Addr)(σ:St)(s':Shared)(C e:Addr):Prop:=∃B a0,Ex W Z σ s' B∧Heap.HeldW B l e (.ref C) a0 L s'.heap
section
variable{W:Wd} {l:List Env} {X Z Z':AS} {A:Around} {E:Value→Shared→Prop} {σ σ':St} {L:Addr} {env:Env} {outer:List Env} {C e:Addr} {B:Heap} {s':Shared}
def fS(σ:St):Prop:=∀p o,σ.s.heap.get? p=some o→¬NF o→¬σ.Y p
theorem Ex.after(S:fS σ)(x:Nz W l X Z σ σ')(y:Ex W Z σ' s' B):Ex W Z σ s' B:=by
 refine⟨y.base,fun p o e hz hp n=>y.kn p o ((x.kp p o e hz hp).1 n) hz (fun q=>(x.nw p q).elim hp fun z=>by rw[e] at z;exact Cq z) n,fun p o e hz n=>?_,y.os,y.gens⟩;refine xE ((x.kp p o e hz (S p o e n)).2 n) fun sl e1=>?_;refine xE (y.kf p _ e1 hz fun z=>n (Lz z)) fun sl' e2=>?_;exact⟨sl',e2⟩
theorem Ex.wide(h:∀p,Z p→Z' p)(y:Ex W Z σ s' B):Ex W Z' σ s' B:=⟨y.base,fun p o e hz=>y.kn p o e fun q=>hz (h p q),fun p o e hz=>y.kf p o e fun q=>hz (h p q),y.os,y.gens⟩
theorem Ci.after(S:fS σ)(x:Nz W l X Z σ σ')(y:Ci W outer Z σ' s' C e):Ci W outer Z σ s' C e:=let⟨B,a,y1,y2⟩:=y; ⟨B,a,y1.after S x,y2⟩
theorem Ci.wide(h:∀p,Z p→Z' p)(y:Ci W l Z σ s' C e):Ci W l Z' σ s' C e:=let⟨B,a,y1,y2⟩:=y; ⟨B,a,y1.wide h,y2⟩
theorem Ex.slots{s'':Shared}(y:Ex W Z σ s' B)(u:s'.heap.UpToSlots s''.heap)(ho:s''.os=s'.os)(hg:s''.gens=s'.gens):Ex W Z σ s'' B:=by
 refine⟨y.base,y.kn,fun p o e hz n=>?_,ho.trans y.os,hg.trans y.gens⟩;refine xE (y.kf p o e hz n) fun sl e1=>?_;refine xE (u p _ e1 (TU n).2) fun sl' e2=>?_;exact⟨sl',e2⟩
theorem Ci.leave{Q:Unit→Shared→Prop}(hA:A.frames=some (env::outer))(hf:env.frame=some L)(y:Ci W (env::outer) Z σ s' C e)(q:∀s'',Ci W outer Z σ s'' C e→Q () s''):
  wpAny (mo W) A (leaving env (.ref e)) Q E s':=by
 refine xEEA y fun B a y1 y2=>?_;exact wpAny_leaves_onW hA hf y2 fun h' f u=>q _ ⟨B,a,y1.slots (s'':={s' with heap:=h'}) u rfl rfl,f⟩
theorem Eg.leave{Q:Unit→Shared→Prop}(hf:env.frame=some L)(y:Eg W (env::outer) Z L σ s' C e)(q:∀s'',Ci W outer Z σ s'' C e→Q () s''):
  wpAny (mo W) A (leaving env (.ref e)) Q E s':=by
 refine xEEA y fun B a y1 y2=>?_;unfold leaving;refine wpAny_bind (wpAny_noteFrame_againW hf y2.2.2.2 (wpAny_landsW y2 fun h' f u=>q _ ⟨B,a,y1.slots (s'':={s' with heap:=h'}) u rfl rfl,?_⟩));obtain⟨k1,k2,⟨_,_,k3⟩,k4⟩:=f;exact⟨k1,k2,k3,k4⟩
theorem Ci.note{Q:Unit→Shared→Prop}(hl:l=env::outer)(hA:A.frames=some l)(hf:env.frame=some L)(y:Ci W l Z σ s' C e)(q:∀s'',Eg W l Z L σ s'' C e→Q () s''):
  wpAny (mo W) A (noteFrame (.ref e) env) Q E s':=by
 subst hl;refine xEEA y fun B a y1 y2=>?_;exact wpAny_looks_onW hA hf y2 fun h' f u=>q _ ⟨B,a,y1.slots (s'':={s' with heap:=h'}) u rfl rfl,f⟩
theorem Eg.note{Q:Unit→Shared→Prop}(hf:env.frame=some L)(y:Eg W l Z L σ s' C e)(q:Q () s'):wpAny (mo W) A (noteFrame (.ref e) env) Q E s':=by
 refine xEEA y fun B a y1 y2=>?_;exact wpAny_noteFrame_againW hf y2.2.2.2 q
theorem Eg.back{E':Value→Shared→Prop}(hf:env.frame=some L)(y:Eg W l Z L σ s' C e)(q:∀s'',Eg W l Z L σ s'' C e→E' (.ref e) s''):
  cameBackBy (mo W) A env E' (.ref e) s':=by
 refine xEEA y fun B a y1 y2=>?_;obtain⟨k1,k2,k3,oe,vs,T,oT,ts,he,hcls,hd,h1,hnT,hTe,hT,hdT,h3⟩:=y2;have hsz3:3<ts.size:=(Array.getElem?_eq_some_iff.mp h3).1;unfold cameBackBy;refine wpAny_bind (wpAny_field he hd h1 ?_);rw[if_neg (by simp)];unfold setFlight;refine wpAny_bind (wpAny_field he hd h1 ?_);rw[if_pos (show(Value.ref T !=Value.none)=true from by simp)];have other:∀b,b≠T→(s'.heap.update T (Obj.mapFields (·.setIfInBounds 3 (env.frame.elim Value.none fun f=>rawInt f)))).get? b=s'.heap.get? b:=fun b hb=>Heap.get?_update_other _ _ (Ne.symm hb);have noRecord:∀b o,s'.heap.get? b=some o→(∀vs,o.data≠ .fields vs)→b≠T:=fun b o hb hnf q=>by
  rw[q,hT] at hb;injection hb with hb;subst hb;exact hnf ts hdT
 refine wpAny_setField hT hdT hsz3 (q _ ⟨B,a,y1.slots (s'':={s' with heap:=_}) (fun b o hb hn=>⟨o.slots,(other b (noRecord b o hb hn)).trans hb⟩) rfl rfl,?_⟩);refine⟨fun b o hbo=>(other b fun z=>by rw[z,hnT] at hbo;exact AD hbo).trans (k1 b o hbo),k2,k3.of_keeps fun b o hb hnf=>⟨o,(other b (noRecord b o hb hnf)).trans hb,rfl⟩,oe,vs,T,_,_,(other e (Ne.symm hTe)).trans he,hcls,hd,h1,hnT,hTe,
  Heap.get?_update_self _ hT (Obj.isFreed_of_fields (Obj.data_mapFields hdT _)),Obj.data_mapFields hdT _,?_⟩
 rw[hf];simp[hsz3]
end
structure Tb where
 K:Frag
 as:List Str
noncomputable abbrev PG:List Value:= [.type "Exception",.type "BaseException",.type "object"]
structure lH where
 nm:Str
 q:Str
 N:Addr
 bs:List Value
 sn:List Str
 sub:List Value
 ab:Bool
 col:Option Bool
 dd:Option Addr
 k0:Option Value
 k1:Option Value
 k2:Option Value
 k3:Option Value
 k5:Option Value
noncomputable abbrev lH.o(x:lH)(C:Addr):Obj:=excClassObj x.nm x.q C x.N x.bs PG true x.sn x.sub x.ab x.col x.dd x.k0 x.k1 x.k2 x.k3 x.k5 "Exception.__new__"
structure ExC(K:Frag)(C fI:Addr)(x:lH):Prop where
 o:K.lookup C=some (x.o C)
 ns:nsOkIn K x.N=true
 i:nsIn K x.N "__init__"=some (some (.ref fI))
 sa:nsIn K x.N "__setattr__"=some none
 t:nsIn K x.N "text"=some none
 l:nsIn K x.N "line"=some none
structure aR(K:Frag)(C fI:Addr)(fi:Fn):Prop where
 cls:∃x,ExC K C fI x
 keep:keepIn K (.ref C)=true
 fn:Jm K fI fi
 ps:fi.ps= [nk "self",nk "text",nk "line"]
 body:∃p q:Pos×Pos×Pos×Pos,fi.body= [.Assign [.Attribute (.Name "self" p.1) "text" p.2.1] (.Name "text" p.2.2.1) p.2.2.2,.Assign [.Attribute (.Name "self" q.1) "line" q.2.1] (.Name "line" q.2.2.1) q.2.2.2]
 sc:fi.sc.names.lookup ("self":Str)=some .local∧fi.sc.names.lookup ("text":Str)=some .local∧fi.sc.names.lookup ("line":Str)=some .local
noncomputable def Q2:BF→Value
 |.len=>.builtin "len"
 |.ord=>.builtin "ord"
 |.chr=>.builtin "chr"
 |.str=>.type "str"
 |.list=>.type "list"
 |.int=>.type "int"
 |.abs=>.builtin "abs"
 |.max=>.builtin "max"
structure WF(W:Wd):Prop where
 kin:W.K.In W.B
 sys:∃o,W.B.get? sysModules=some o
 lim:W.B.NoLimit
 af:b_ gT W.as
 nz:∀a∈W.as,nk a≠0
 cf:∀c C,W.ca c=some C→aT W.K C W.as
 cons:∀x v,AK (nk x) gT.cons=some v→nk x≠0∧x≠"__debug__"∧∃a,GN W x a∧VR W.w.params W.ca W.B.get? μ0 v a
 fns:∀x fn,AK (nk x) gT.fns=some fn→nk x≠0∧x≠"__debug__"∧∃f,GN W x (.ref f)∧Jm W.K f fn
 cls:∀x cl,AK (nk x) gT.cls=some cl→nk x≠0∧x≠"__debug__"∧∃C,GN W x (.ref C)∧(cl.exc=false→W.ca (nk x)=some C)∧(cl.exc=true→W.ce (nk x)=some C)
 meths:∀c C m fn,W.ca c=some C→DR gT c (nk m)=some fn→∃f,findIn W.K (.ref C) m=some (some (.ref f))∧Jm W.K f fn
 bfs:∀x b,AK (nk x) bfs=some b→AK (nk x) gT.fns=none→AK (nk x) gT.cls=none→nk x≠0∧x≠"__debug__"∧GN W x (Q2 b)
 rng:GN W "range" (.type "range")
 excs:∀x C,W.ce (nk x)=some C→nk x≠0∧x≠"__debug__"∧GN W x (.ref C)∧∃fI fi,aR W.K C fI fi
 exci:∀x cl fi,AK (nk x) gT.cls=some cl→cl.exc=true→AK (nk "__init__") cl.ms=some fi→∃C fI,W.ce (nk x)=some C∧aR W.K C fI fi
structure Fa(A:Around)(l:List Env)(d:Nat):Prop where
 frames:A.frames=some l
 handled:A.handled=none
 guards:A.guards=some []
 depth:A.depth≤301+d
 units:A.units≤4+10*d
structure Md(md:Nat)(σ:St):Prop where
 m0:md=0→σ.μ.par=none∧σ.μ.lex=none
 m1:md=1→σ.μ.par≠none∧σ.μ.lex≠none∧σ.μ.lx≠none∧σ.μ.np=7
 m2:md=2→σ.μ.par=none∧σ.μ.lex≠none∧σ.μ.lx=none∧σ.μ.tx≠none
def Np(r:RA Mn.X):Prop:=(∃v ρ h,r=.ok (.ret v,ρ) h)∨∃c,r=.ex c
noncomputable abbrev JQ(h:HA):HA:={h with lo:= []}
structure UL(W:Wd)(l:List Env)(X:AS)(σ:St)(r:RA Mn.X)(R:Result→Shared→Prop):Prop where
 ok:∀v ρ σ' a,r=.ok (.ret v,ρ) σ'.h→Nz W l X Z0 σ σ'→VT W X σ' v a→R (.ok (.ret a)) σ'.s
 ex:∀c s' e C,r=.ex c→W.ce c=some C→Ci W l Z0 σ s' C e→R (.error (.ref e)) s'
noncomputable def Dj(r:RA Mn.X):RA Mn.X:=match r with
 |.ok x h=>.ok x (JQ h)
 |.ex c=>.ex c
 |.no=>.no
def Fc(W:Wd)(md δ:Nat)(fn:Fn)(P:PF):Prop:=∀d A l X σ f vs as R,Fa A l d→d+δ≤599→Jm W.K f fn→SR W l X σ→Md md σ→σ.h.lo= []→Q8 W X σ vs as→Np (P vs σ.h)→UL W l X σ (Dj (P vs σ.h)) R→codeAny (mo W) A (.call (.ref f) ⟨as,[]⟩) R σ.s
noncomputable abbrev Wd.lx0(W:Wd):Wd:={W with LX:=fun J J J J=>True}
structure sj(σ:St)(s:List Nat)(a:Nat)(l:V):Prop where
 par:σ.μ.par=none
 lex:σ.μ.lex≠none
 tm:σ.μ.tm=none
 lo:σ.μ.lo= []
 gl:σ.μ.gl= []
 lx:σ.μ.lx=some (s,a,l)
 tx:σ.μ.tx=none
def Nx(W:Wd)(δ:Nat)(s:List Nat)(a:Nat)(l:V)(t:V)(a':Nat)(l':V):Prop:=∀d A le X σ f fn p R,Fa A le d→d+δ≤599→DR gT kL Dq=some fn→Jm W.K f fn→SR W.lx0 le X σ→sj σ s a l→σ.μ.lex=some p→(∀σ' b,Nz W.lx0 le X Z0 σ σ'→sj σ' s a' l'→VT W X σ' t b→R (.ok (.ret b)) σ'.s)→codeAny (mo W) A (.call (.ref f) ⟨[.ref p.1],[]⟩) R σ.s
def lI(W:Wd)(f:Nat)(bld:List V→Option (List (Nat×V))):Prop:=∀A l d X σ C vs ws fs R,W.ca f=some C→Fa A l d→d+2≤599→SR W l X σ→σ.h.tmp=none→bld vs=some fs→vs.all cN=true→Q8 W X σ vs ws→(∀p μ' s',μ'.tm=some p→Nz W l X Z0 σ ⟨{σ.h with tmp:=some (f,fs)},μ',s'⟩→R (.ok (.ret (.ref p.1))) s')→codeAny (mo W) A (.call (.ref C) ⟨ws,[]⟩) R σ.s
noncomputable def jG:List Nat:= [Bz,Am,Dc,Ad,De,Dd,Cf]
noncomputable def jf:List Nat:= [BG,CS,AI]
structure Fg(W:Wd)(md δ:Nat)(T:Pl):Prop where
 fn:∀f P,AK f T.fn=some P→∃fn,AK f gT.fns=some fn∧Fc W md δ fn P
 mt:∀f P,AK f T.mt=some P→∃fn,(md=1→DR gT kP f=some fn∧E6 f jG=false)∧(md=2→DR gT kL f=some fn∧E6 f jf=false)∧(md=0→∀c g,(c=kP∨c=kL)→DR gT c f=some g→g=fn)∧Fc W md δ fn P
 ci:∀f bld,AK f T.ci=some bld→2≤δ∧lI W f bld
 nxt:md=1→∀s a l t r,W.LX s a l (t::r)→cA l=true∧cA t=true∧∃a' l',cA l'=true∧W.LX s a' l' r∧Nx W δ s a l t a' l'
def Yi(σ:St)(L:Addr):Prop:=∃o,σ.s.heap.get? L=some o∧¬NF o
structure Nm(W:Wd)(X:AS)(σ:St)(sc:Scope)(ρ:Af)(m:Str→Option Value):Prop where
 val:∀x v,AK (nk x) ρ=some v→sc.names.lookup x=some .local∧∃a,m x=some a∧VT W X σ v a
 nz:AK 0 ρ=none
 dbg:AK Dg ρ=none
structure Fr where
 W:Wd
 A:Around
 o:List Env
 X:AS
 env:Env
 L:Addr
 cx:CA
 d:Nat
 δ:Nat
 σ0:St
 res:RA Mn.X
 E:Value→Shared→Prop
 cp:Bool
noncomputable abbrev Fr.l(Γ:Fr):List Env:=match Γ.cp with
 |false=>Γ.env::Γ.o
 |true=>Γ.o
noncomputable abbrev Fr.Z(Γ:Fr):AS:=match Γ.cp with
 |false=>fun a=>a=Γ.L
 |true=>Z0
noncomputable abbrev Fr.M(Γ:Fr):Model:=mo Γ.W
structure Fr.Ok(Γ:Fr):Prop where
 wf:WF Γ.W
 hn:RA.no≠Γ.res
 fa:Fa Γ.A Γ.l Γ.d
 fits:fW Γ.cx.sc Γ.L Γ.env
 frame:Γ.cp=false→Γ.env.frame=some Γ.L
 hg:Γ.cx.g=gT
 il:Γ.cx.i≤Γ.cx.li
 room:Γ.d+Γ.δ+(Γ.cx.li-Γ.cx.i)≤599
 tab:Fg Γ.W Γ.cx.md Γ.δ Γ.cx.A
 x:∀s' e c C,Γ.res=.ex c→Γ.W.ce c=some C→(Ci Γ.W Γ.l Γ.Z Γ.σ0 s' C e∨Eg Γ.W Γ.l Γ.Z Γ.L Γ.σ0 s' C e)→Γ.E (.ref e) s'
 s0:fS Γ.σ0
noncomputable abbrev Fr.N(Γ:Fr):St→St→Prop:=Nz Γ.W Γ.l Γ.X Γ.Z
noncomputable abbrev Fr.V(Γ:Fr):St→Mn.V→Value→Prop:=VT Γ.W Γ.X
noncomputable abbrev Fr.Vs(Γ:Fr):St→List Mn.V→List Value→Prop:=Q8 Γ.W Γ.X
structure D(Γ:Fr)(ρ:Af)(σ:St):Prop where
 ok:Γ.Ok
 n0:Γ.N Γ.σ0 σ
 md:Md Γ.cx.md σ
 fr:match Γ.cp with|false=>Yi σ Γ.L|true=>Γ.X Γ.L
 nm:∃m,σ.s.heap.Ns Γ.L m∧¬σ.Y Γ.L∧Nm Γ.W Γ.X σ Γ.cx.sc ρ m
def Gv(Γ:Fr)(ρ:Af)(σ:St)(K:V→HA→RA Mn.X)(Q:Value→Shared→Prop):Prop:=∀v a σ',K v σ'.h=Γ.res→Γ.N σ σ'→D Γ ρ σ'→Γ.V σ' v a→Q a σ'.s
def si(Γ:Fr)(ρ:Af)(σ:St)(K:List V→HA→RA Mn.X)(Q:List Value→Shared→Prop):Prop:=∀v a σ',K v σ'.h=Γ.res→Γ.N σ σ'→D Γ ρ σ'→Γ.Vs σ' v a→Q a σ'.s
def Gb(Γ:Fr)(ρ:Af)(σ:St)(K:Bool→HA→RA Mn.X)(Q:Bool→Shared→Prop):Prop:=∀b σ',K b σ'.h=Γ.res→Γ.N σ σ'→D Γ ρ σ'→Q b σ'.s
noncomputable def rX(W:Wd)(X:AS)(σ:St):Fl→Flow→Prop
 |.next,w=>w=.next
 |.brk,w=>w=.brk
 |.cont,w=>w=.cont
 |.ret v,w=>∃a,w=.ret a∧VT W X σ v a
def Gx(Γ:Fr)(σ:St)(K:Fl→Af→HA→RA Mn.X)(Q:Flow→Shared→Prop):Prop:=∀fl w ρ' σ',K fl ρ' σ'.h=Γ.res→Γ.N σ σ'→D Γ ρ' σ'→rX Γ.W Γ.X σ' fl w→Q w σ'.s
def Gu(Γ:Fr)(σ:St)(K:Af→HA→RA Mn.X)(Q:Unit→Shared→Prop):Prop:=∀ρ' σ',K ρ' σ'.h=Γ.res→Γ.N σ σ'→D Γ ρ' σ'→Q () σ'.s
abbrev wA{α:Type}(Γ:Fr)(t:Sem α)(Q:α→Shared→Prop)(σ:St):Prop:=wpAny Γ.M Γ.A t Q Γ.E σ.s
section
variable{Γ:Fr} {ρ ρ':Af} {σ σ':St} {K:V→HA→RA X} {Q:Value→Shared→Prop} {v:V} {a:Value}
theorem D.S(F:D Γ ρ σ):SR Γ.W Γ.l Γ.X σ:=F.n0.sr
theorem Tc(T:Γ.cp=false):Γ.l=Γ.env::Γ.o:=by unfold Fr.l;rw[T]
theorem V3(T:Γ.cp=false):Γ.Z=fun a=>a=Γ.L:=by unfold Fr.Z;rw[T]
theorem aV{p:Addr}(T:Γ.cp=false)(h:Γ.Z p):p=Γ.L:=by rw[V3 T] at h;exact h
theorem D.is(F:D Γ ρ σ)(T:Γ.cp=false):Yi σ Γ.L:=by have:=F.fr;rw[T] at this;exact this
theorem D.frz(F:D Γ ρ σ):f_ σ Γ.Z:=fun p z o e=>by
 cases c:Γ.cp with
 |true=>unfold Fr.Z at z;rw[c] at z;exact z.elim
 |false=>
  rw[V3 c] at z;subst z;refine AZ (F.is c) fun o' e' n=>?_;rw[e] at e';cases e';exact n
theorem D.at(F:D Γ ρ σ)(x:Nz Γ.W Γ.l Γ.X Z0 σ σ'):(match Γ.cp with|false=>Yi σ' Γ.L|true=>Γ.X Γ.L)∧∀o,σ.s.heap.get? Γ.L=some o→∃sl,σ'.s.heap.get? Γ.L=some {o with slots:=sl}:=by
 have hf:=F.fr;cases c:Γ.cp with
 |false=>
  refine AZ (F.is c) fun o e n=>?_;refine xE ((x.kp _ o e (fun h=>h) (F.S.notY e n)).2 n) fun sl e'=>?_;exact⟨⟨_,e',fun z=>n (Lz z)⟩,fun o2 e2=>by rw[e] at e2;cases e2;exact⟨sl,e'⟩⟩
 |true=>
  rw[c] at hf;refine⟨hf,fun o e=>⟨o.slots,?_⟩⟩;refine BU (F.S.xs _ hf) fun o2 e2 n J=>?_;rw[e] at e2;cases e2;exact(x.kp _ o e (fun h=>h) fun hy=>by refine BU (F.S.at hy) fun J J J hz=>?_;exact hz hf).1 n
theorem Md.nz{W:Wd} {l:List Env} {X Z:AS} {md:Nat}(m:Md md σ)(x:Nz W l X Z σ σ'):Md md σ':=by
 refine⟨fun e=>?_,fun e=>?_,fun e=>?_⟩
 ·refine xA (m.m0 e) fun a b=>?_;exact⟨x.par.trans a,x.lex.trans b⟩
 ·refine OI (m.m1 e) fun a b c d=>?_
  refine⟨by rw[x.par];exact a,by rw[x.lex];exact b,fun z=>?_,x.np.trans d⟩;have:=x.lx;rw[z] at this;cases y:σ.μ.lx with
  |none=>exact c y
  |some _=>rw[y] at this;exact Ak this
 ·refine OI (m.m2 e) fun a b c d=>?_
  refine⟨x.par.trans a,by rw[x.lex];exact b,?_,by rw[x.tx];exact d⟩;have:=x.lx;rw[c] at this;cases y:σ'.μ.lx with
  |none=>rfl
  |some _=>rw[y] at this;exact Di this
theorem D.step(F:D Γ ρ σ)(x:Nz Γ.W Γ.l Γ.X Z0 σ σ'):D Γ ρ σ':=by
 have x':Γ.N σ σ':=x.wide fun J h=>h.elim;refine⟨F.ok,F.n0.trans x',F.md.nz x,?_,?_⟩
 ·exact(F.at x).1
 ·refine BU F.nm fun m h1 h2 h3=>?_
  refine A_ h1 fun o es ep e hd r=>?_;refine xE ((F.at x).2 o e) fun sl e'=>?_;refine⟨m,⟨_,es,ep,e',hd,r⟩,fun q=>(x.nw _ q).elim h2 fun z=>(by rw[e] at z;cases z),fun y v h=>?_,h3.nz,h3.dbg⟩;refine UM (h3.val y v h) fun a1 b c d=>?_;exact⟨a1,b,c,d.nz .zero x⟩
theorem Nz.up(x:Nz Γ.W Γ.l Γ.X Z0 σ σ'):Γ.N σ σ':=x.wide fun J h=>h.elim
theorem D.val(F:D Γ ρ σ)(x:Γ.N σ σ')(h:Γ.V σ v a):Γ.V σ' v a:=h.nz F.frz x
theorem D.vals{vs:List V} {as:List Value}(F:D Γ ρ σ)(x:Γ.N σ σ')(h:Γ.Vs σ vs as):Γ.Vs σ' vs as:=h.nz F.frz x
theorem Gv.nx(x:Γ.N σ σ')(q:Gv Γ ρ σ K Q):Gv Γ ρ σ' K Q:=fun v a σ'' h1 h2 h3 h4=>q v a σ'' h1 (x.trans h2) h3 h4
theorem Gv.go(F:D Γ ρ σ)(q:Gv Γ ρ σ K Q)(x:Nz Γ.W Γ.l Γ.X Z0 σ σ')(e:K v σ'.h=Γ.res)(h:Γ.V σ' v a):Q a σ'.s:=q v a σ' e x.up (F.step x) h
theorem SR.keep{W:Wd} {l:List Env} {X Z:AS}(S:SR W l X σ){s':Shared}(k:∀b o,σ.s.heap.get? b=some o→s'.heap.get? b=some o)(ho:s'.os=σ.s.os)(hg:s'.gens=σ.s.gens):Nz W l X Z σ {σ with s:=s'}:=by
 have le:Le (σ.reg X) (St.reg {σ with s:=s'} X):=fun b o e J=>by
  refine xA (AR e) fun e h2=>?_;refine xA (AR e) fun e h1=>?_;exact Ac (Ac (k b o e) h1) h2
 refine⟨⟨fun s c e=>(S.cell s c e).mono (m':=c.m) (fun b x J h=>?_) le (.refl _),S.inj,S.low,S.nt,S.nlo,S.ngl,S.tx,S.lx,fun b o e=>k b o (S.base b o e),fun a h=>?_,S.fr.nz fun p o e J=>⟨o.slots,k p o e⟩,ho.trans S.os,hg.trans S.gens⟩,fun J J h=>h,fun J J h=>h,fun J h=>h,rfl,rfl,rfl,rfl,rfl,fun p o e J J=>⟨fun J=>k p o e,fun J=>⟨o.slots,k p o e⟩⟩,fun p o e=>by rw[k p o e];nofun,fun J h=>.inl h⟩
 ·refine xA (AR h) fun h hx=>?_
  exact Ac (k b x h) hx
 ·refine AZ (S.xs a h) fun o e n=>?_
  exact⟨o,k a o e,n⟩
theorem Gv.keep(F:D Γ ρ σ)(q:Gv Γ ρ σ K Q){s':Shared}(k:∀b o,σ.s.heap.get? b=some o→s'.heap.get? b=some o)(ho:s'.os=σ.s.os)(hg:s'.gens=σ.s.gens)(e:K v σ.h=Γ.res)(h:Γ.V {σ with s:=s'} v a):Q a s':=q.go F (σ':={σ with s:=s'}) (F.S.keep k ho hg) e h
theorem Gv.tok(F:D Γ ρ σ)(q:Gv Γ ρ σ K Q){n:Nat}(e:K v σ.h=Γ.res)(h:Γ.V σ v a):Q a {σ.s with toks:=n}:=q.keep F (s':={σ.s with toks:=n}) (fun J J e=>e) rfl rfl e h
theorem Gv.same(F:D Γ ρ σ)(q:Gv Γ ρ σ K Q)(e:K v σ.h=Γ.res)(h:Γ.V σ v a):Q a σ.s:=q v a σ e (.refl F.S) F h
end
section
variable{P:Params} {ca:Ca} {g:Hp} {μ:Mu} {a:Value}
theorem VR.i{i:Int}(h:VR P ca g μ (.int i) a):∃t,a=.int i t:=by unfold VR at h;exact h
theorem VR.b{i:Bool}(h:VR P ca g μ (.bool i) a):a=.bool i:=by unfold VR at h;exact h
theorem VR.no(h:VR P ca g μ .none a):a=.none:=by unfold VR at h;exact h
theorem VR.st{s:List Nat}(h:VR P ca g μ (.str s) a):∃x t,a=.str x t∧x.cps.toList=s:=by unfold VR at h;exact h
theorem VR.of_i{i:Int} {t:Tok}:VR P ca g μ (.int i) (.int i t):=by unfold VR;exact⟨t,rfl⟩
theorem VR.of_b{b:Bool}:VR P ca g μ (.bool b) (.bool b):=by unfold VR;rfl
theorem VR.of_no:VR P ca g μ .none .none:=by unfold VR;rfl
theorem VR.of_s{x:Str} {s:List Nat} {t:Tok}(e:x.cps.toList=s):VR P ca g μ (.str s) (.str x t):=by unfold VR;exact⟨x,t,rfl,e⟩
theorem VR.nt{v:V}(h:VR P ca g μ v a)(n:Yv v=true):VR P ca g μ.nt v a:=by
 cases v<;>first|(exact Ak n;done)|(unfold VR at h⊢;exact h)
theorem VR.nlo{v:V}(h:VR P ca g μ v a)(n:Oq v=true):VR P ca g μ.nlo v a:=by
 cases v<;>first|(exact Ak n;done)|(unfold VR at h⊢;exact h)
theorem VR.cl{v:V} {μ':Mu}(h:VR P ca g μ v a)(n:cA v=true):VR P ca g μ' v a:=by
 cases v<;>first|(cases n;done)|(unfold VR at h⊢;exact h)
theorem BC.all{μ':Mu} {p:V→Bool}(f:∀{v a},VR P ca g μ v a→p v=true→VR P ca g μ' v a):∀{l:List V} {q:List Value},BC P ca g μ l q→l.all p=true→BC P ca g μ' l q
 | [],_,h,_=>by unfold BC at h⊢;exact h
 |v::r,_,h,n=>by
  refine xA (Bool.and_eq_true_iff.mp (show(p v&&r.all p)=true from n)) fun n1 n2=>?_;unfold BC at h⊢;refine BE h fun a q e h1 h2=>?_;exact⟨a,q,e,f h1 n1,BC.all f h2 n2⟩
theorem BC.nt:∀{l:List V} {q:List Value},BC P ca g μ l q→SD l=true→BC P ca g μ.nt l q
 | [],_,h,_=>by unfold BC at h⊢;exact h
 |v::r,_,h,n=>by
  refine xA (Bool.and_eq_true_iff.mp (show(Yv v&&SD r)=true from n)) fun n1 n2=>?_;unfold BC at h⊢;refine BE h fun a q e h1 h2=>?_;exact⟨a,q,e,h1.nt n1,BC.nt h2 n2⟩
end
section
variable{W:Wd} {l:List Env} {X Z:AS} {σ:St} {v:V} {a:Value}
structure Q9(h h':HA):Prop where
 tmp:h'.tmp.isSome=h.tmp.isSome
 lo:h'.lo.length=h.lo.length
 gl:h'.gl.length=h.gl.length
 base:h'.base=h.base
 chs:h'.chs=h.chs
 rest:h'.rest=h.rest
theorem SR.turn(S:SR W l X σ){s0:Sl} {c:B5} {o':Ob} {h':HA} {s':Shared}(hc:σ.cel s0=some c)(h1:cel h' σ.μ s0=some ⟨o',c.p,c.m⟩)(h2:∀s,s≠s0→cel h' σ.μ s=σ.cel s)(hs:∀a,o'.has c.p a→c.has a)(hk:∀b y,¬c.has b→σ.s.heap.get? b=some y→s'.heap.get? b=some y)(ha:∀b,c.has b→s'.heap.get? b≠none)(q:Q9 σ.h h')(ho:s'.os=σ.s.os)(hg:s'.gens=σ.s.gens)
  (hn:∀gf',Le (σ.reg X) gf'→DI W.w.params W.ca gf' (VX s'.heap.get? X) ⟨o',c.p,c.m⟩):Nz W l X Z σ ⟨h',σ.μ,s'⟩:=by
 have G:Go W X s0 σ ⟨h',σ.μ,s'⟩:=⟨fun s n c' e=>⟨c',(h2 s n).symm.trans e,rfl,rfl,.refl _⟩,fun c' e a h=>.inl ⟨c,hc,by cases h1.symm.trans e;exact hs a h⟩,fun a o e n=>hk a o (n c hc) e,fun a o e=>by
  by_cases z:c.has a
  ·exact ha a z
  ·rw[hk a o z e];nofun,q.tmp.trans S.nt,q.lo.trans S.nlo,q.gl.trans S.ngl,fun s e=>by rw[q.base,q.chs];exact S.tx s e,fun x e=>by rw[q.rest];exact S.lx x e,ho,hg⟩
 exact G.nz S (fun c' e le=>by cases h1.symm.trans e;exact hn _ le) (.refl _) rfl rfl rfl rfl rfl
theorem LU{i:Nat} {o:Ob} {l:List Ob} {q:List AA} {m:Mu} {c:B5}(e:B0 l[i]? q[i]? m=some c):B0 (l.set i o)[i]? q[i]? m=some ⟨o,c.p,c.m⟩:=by
 refine Es (Ai e) fun e1 e2 z2q=>?_;clear e;subst z2q;rw[List.getElem?_set_self (List.getElem?_eq_some_iff.mp e1).1,e2];rfl
theorem JI{i j:Nat} {o:Ob} {l:List Ob}(n:i≠j):(l.set i o)[j]? =l[j]? :=List.getElem?_set_ne n
theorem Jh(S:SR W l X σ){o:Ob}(e:KN σ.h v=some o)(h:VT W X σ v a):∃s c,σ.cel s=some c∧c.o=o∧a=.ref c.p.1∧c.m=cond (f5 v) σ.μ.nlo σ.μ.nt∧(∀o',cel (GJ σ.h v o') σ.μ s=some ⟨o',c.p,c.m⟩)∧(∀o' s',s'≠s→cel (GJ σ.h v o') σ.μ s'=σ.cel s')∧∀o',Q9 σ.h (GJ σ.h v o'):=by
 cases v with
 |ref i=>
  obtain⟨p,e2,rfl⟩:∃p,σ.μ.lo[i]? =some p∧a=.ref p.1:=by unfold VR at h;exact h
  have k:σ.cel (.lo i)=some ⟨o,p,σ.μ.nt⟩:=by show B0 σ.h.lo[i]? σ.μ.lo[i]? _=_;rw[show σ.h.lo[i]? =some o from e,e2];rfl
  refine⟨.lo i,_,k,rfl,rfl,rfl,fun o'=>LU (l:=σ.h.lo) k,fun o' s' n=>?_,fun o'=>⟨rfl,List.length_set ..,rfl,rfl,rfl,rfl⟩⟩;cases s' with
  |lo j=>exact congrArg (B0 · _ _) (JI fun z=>n (by rw[z]))
  |_=>rfl
 |gl i=>
  obtain⟨p,e2,rfl⟩:∃p,σ.μ.gl[i]? =some p∧a=.ref p.1:=by unfold VR at h;exact h
  have k:σ.cel (.gl i)=some ⟨o,p,σ.μ.nlo⟩:=by show B0 σ.h.gl[i]? σ.μ.gl[i]? _=_;rw[show σ.h.gl[i]? =some o from e,e2];rfl
  refine⟨.gl i,_,k,rfl,rfl,rfl,fun o'=>LU (l:=σ.h.gl) k,fun o' s' n=>?_,fun o'=>⟨rfl,rfl,List.length_set ..,rfl,rfl,rfl⟩⟩;cases s' with
  |gl j=>exact congrArg (B0 · _ _) (JI fun z=>n (by rw[z]))
  |_=>rfl
 |_=>exact AD e
theorem XM{b:Bool} {μ:Mu}:Bk (cond b μ.nlo μ.nt) μ.nt:=by cases b;exact .refl _;exact .of_nlo μ
theorem Zi{h:HA} {l0:List V}(e:C_ h v=some l0):KN h v=some (.list l0):=BQ e (fun o e1 e2=>aH e2 (fun q e3 e4=>by cases e4;rw[e1,e3]) AD) (fun J=>AD)
theorem JU(S:SR W l X σ){l0:List V}(e:C_ σ.h v=some l0)(h:VT W X σ v a):∃s c xs n,σ.cel s=some c∧c.o=.list l0∧a=.ref c.p.1∧c.m=cond (f5 v) σ.μ.nlo σ.μ.nt∧σ.s.heap.get? c.p.1=some (listOf xs n)∧¬X c.p.1∧BC W.w.params W.ca (σ.reg X) c.m l0 xs.toList∧(∀o',cel (GJ σ.h v o') σ.μ s=some ⟨o',c.p,c.m⟩)∧(∀o' s',s'≠s→cel (GJ σ.h v o') σ.μ s'=σ.cel s')∧∀o',Q9 σ.h (GJ σ.h v o'):=by
 refine OH (Jh S (Zi e) h) fun s c h1 h2 h3 h4 h5=>?_;have k:=S.cell s c h1;unfold DI at k;rw[h2] at k;refine xEEA k fun xs n k1 k2=>?_;refine xA (AR k1) fun k1 kx=>?_;exact⟨s,c,xs,n,h1,h2,h3,h4,k1,kx,k2,h5⟩
theorem Cw(S:SR W l X σ){l0:List V}(e:CP σ.h v=some l0)(h:VT W X σ v a):∃b xs n,a=.ref b∧σ.s.heap.get? b=some (listOf xs n)∧BC W.w.params W.ca (σ.reg X) σ.μ.nt l0 xs.toList:=by
 refine BQ e (fun l1 e1 e2=>?_) (fun e1 e2=>?_)
 ·cases e2
  have:∃b xs n m,a=.ref b∧σ.reg X b=some (listOf xs n)∧Bk m σ.μ.nt∧BC W.w.params W.ca (σ.reg X) m l0 xs.toList:=by
   cases v with
   |lst q=>cases e1;unfold VR at h;refine A_ h fun b xs n e h1 h2=>?_;exact⟨b,xs,n,_,e,h1,.zero _,h2⟩
   |lv q=>cases e1;unfold VR at h;refine A_ h fun b xs n e h1 h2=>?_;exact⟨b,xs,n,_,e,h1,.of_nlo _,h2⟩
   |_=>exact AD e1
  refine GD this fun b xs n m h1 h2 h3 h4=>?_;exact⟨b,xs,n,h1,(AR (AR h2).1).1,BC.mono (Le.refl _) h3 _ _ h4⟩
 ·obtain⟨s,c,xs,n,h1,h2,h3,h4,h5,_,h6,_⟩:=JU S e2 h
  exact⟨_,xs,n,h3,h5,BC.mono (Le.refl _) (h4▸XM) _ _ h6⟩
theorem NL{l0:List V}(h:VT W X σ (.tup l0) a):∃b o xs n,a=.ref b∧σ.s.heap.get? b=some o∧o.cls=.type "tuple"∧o.data=.seq xs n∧BC W.w.params W.ca (σ.reg X) σ.μ.nt l0 xs.toList:=by
 unfold VR at h;refine Cc h fun b o xs n e h1 h2 h3 h4=>?_;exact⟨b,o,xs,n,e,(AR (AR h1).1).1,h2,h3,h4⟩
theorem PQ(wf:WF W)(S:SR W l X σ){l0:List (List Nat×V)}(e:Qy σ.h v=some l0)(h:VT W X σ v a):∃b kvs m,a=.ref b∧(b==sysModules)=false∧Bk m σ.μ∧VK W.w.params W.ca (σ.reg X) m l0 kvs∧σ.s.heap.DictOf (strKind pg W.w) b kvs:=by
 refine BQ e (fun l1 e1 e2=>?_) (fun e1 e2=>?_)
 ·cases e2
  cases v with
  |dct q=>
   cases e1;unfold VR at h;obtain⟨b,es,n,e,⟨h0,h1⟩,h2,h3⟩:=h;refine AZ (h3.dictOf h1 (AR (AR h2).1).1) fun kvs k1 k2=>?_;exact⟨b,kvs,_,e,h0,.zero _,k1,k2⟩
  |_=>exact AD e1
 ·refine BQ e2 (fun o e3 e4=>kN e4 (fun q e5 e6=>?_) AD) (fun J=>AD)
  cases e6;clear e4;subst e5;refine OH (Jh S e3 h) fun s c h1 h2 h3 h4 h5=>?_;have k:=S.cell s c h1;unfold DI at k;rw[h2] at k;refine BE k fun es n k1 k2 k3=>?_;refine xA (AR k1) fun k1 kx=>?_;refine AZ (k2.dictOf k3 k1) fun kvs z1 z2=>?_;refine⟨_,kvs,_,h3,?_,(h4▸XM).trans (.of_nt _),z1,z2⟩;have:=S.low c.p.1 ⟨s,c,h1,by unfold B5.has;rw[h2];rfl⟩;cases q:(c.p.1==sysModules) with
  |false=>rfl
  |true=>
   refine xE wf.sys fun o ho=>?_;rw[beq_iff_eq.mp q,ho] at this;exact Cq this
end
theorem A8{a b:Bool}(h:(a&&b)=true):a=true∧b=true:=Bool.and_eq_true_iff.mp h
theorem Ef{a b:Nat}(h:Nat.blt a b=true):a<b:=Nat.le_of_ble_eq_true h
theorem D6{α:Type} {b:Bool} {x y:α}(e:cC b none (some x)=some y):b=true∧x=y:=B3 e (fun h e=>⟨h,Option.some.inj e⟩) (fun J=>AD)
theorem W5{x y:Int} {f:Nat→Nat→Option Int} {i:Int}(e:nn x y f=some i):∃a b:Nat,x=.ofNat a∧y=.ofNat b∧f a b=some i:=Ji e (fun a h1 e=>Ji e (fun b h2 e=>⟨a,b,h1,h2,e⟩) AD) AD
section
variable{wo:World} {A:Around} {E:Value→Shared→Prop} {s:Shared} {Q:Value→Shared→Prop}
theorem jt{op:Operator} {x y i:Int} {tx ty:Tok}(e:Qe op x y=some i)(q:Q (.int i s.toks) {s with toks:=s.toks+1}):wpAny (model pg wo) A (binaryOp op (.int x tx) (.int y ty)) Q E s:=by
 cases op with
 |Add=>cases e;exact PyProof.Rows.add_int q
 |Sub=>cases e;exact PyProof.Rows.sub_int q
 |Mult=>
  refine xA (D6 e) fun c z1q=>?_;subst z1q;exact mul_int q (jX (A8 c).1 (A8 c).2)
 |FloorDiv=>
  refine xA (D6 e) fun c z1q=>?_;subst z1q;refine xA (A8 c) fun c1 c2=>?_;refine floordiv_int (of_decide_eq_false (by simpa using c1)) q (.inl (PyProof.noPylong_of_log2 ?_))
  by_cases hz:y.natAbs=0
  ·rw[hz];decide
  ·exact Nat.lt_of_lt_of_le ((Nat.log2_lt hz).mpr (FQ c2)) (by decide)
 |Mod=>
  refine xA (D6 e) fun c z1q=>?_;subst z1q;exact mod_int' (by simpa using c) q
 |Pow=>
  refine BE (W5 e) fun x y z2q z3q e=>?_;subst z2q;subst z3q;refine xA (D6 e) fun c z1q=>?_;subst z1q;have c1:=Ef (A8 c).1;have c2:=Ef (A8 c).2;refine pow_int_small (Int.natCast_nonneg y) (by show(y:Int)≤_;omega) (by show x<_;omega) ?_;have:(Int.ofNat x) ^ (Int.ofNat y).toNat=Int.ofNat (Nat.pow x y):=(Int.natCast_pow x y).symm;rw[this];exact q
 |LShift=>
  refine BE (W5 e) fun x y z2q z3q e=>?_;subst z2q;subst z3q;refine xA (D6 e) fun c z1q=>?_;subst z1q;have c1:=PY (FQ (A8 c).1);have c2:=Ef (A8 c).2;refine lshift_int (Int.natCast_nonneg y) (by show(_:Int)+(y:Int)≤_;omega) ?_;have:(Int.ofNat x)*2^ (Int.ofNat y).toNat=Int.ofNat (Nat.shiftLeft x y):=by
   show(x:Int)*2^y=((x<<<y:Nat):Int);rw[Nat.shiftLeft_eq,Int.natCast_mul,Int.natCast_pow];rfl
  rw[this];exact q
 |RShift=>
  refine BE (W5 e) fun x y z2q z3q e=>?_;subst z2q;subst z3q;refine xA (D6 e) fun c z1q=>?_;subst z1q;refine rshift_int (Int.natCast_nonneg y) ?_;have:(Int.ofNat x).fdiv (2^ (Int.ofNat y).toNat)=Int.ofNat (Nat.shiftRight x y):=by
   show(x:Int).fdiv (2^y)=((x>>>y:Nat):Int);rw[Nat.shiftRight_eq_div_pow,show((2:Int) ^y)=((2^y:Nat):Int) from(Int.natCast_pow 2 y).symm,Int.fdiv_eq_ediv_of_nonneg _ (Int.natCast_nonneg _)];rfl
  rw[this];exact q
 |BitAnd=>
  refine BE (W5 e) fun x y z2q z3q e=>?_;subst z2q;subst z3q;cases e;refine and_int ?_;rw[and_nat];exact q
 |BitOr=>
  refine BE (W5 e) fun x y z2q z3q e=>?_;subst z2q;subst z3q;cases e;refine or_int ?_;rw[dX];exact q
 |_=>exact AD e
theorem dy{x:Str} {t u:Tok} {j:Nat}(c1:x.length*j≤BV)(c2:j≤BV)(q:∀(y:Str) t' k,y.cps.toList=ao x.cps.toList j→Q (.str y t') {s with toks:=k}):wpAny (model pg wo) A (binaryOp .Mult (.str x t) (.int (.ofNat j) u)) Q E s:=by
 have hm:BV=1048576:=rfl;refine SB.mul ⟨?_,fun h1 h2=>?_,fun h1 h2=>?_⟩ fun t' k=>q _ _ _ ?_
 ·rw[decide_eq_false (by show¬((j:Int)<_);omega),decide_eq_false (by show¬((j:Int) ≥_);omega)];rfl
 ·intro h3
  have h3:(x.length:Int)>(2^63-1) / (j:Int):=h3;have hj:(0:Int)<(j:Int):=by have:¬((j:Int)<1):=h1;omega
  have:=(Int.ediv_lt_iff_lt_mul hj).mp h3;rw[←Int.natCast_mul] at this;omega
 ·unfold Builtin.Str.tooLong
  exact decide_eq_false (Nat.not_lt.mpr (Cd c1))
 ·unfold Txt.mul
  by_cases h0:j=0
  ·clear c1 q c2;subst h0;rw[if_pos (by decide)];rfl
  ·rw[if_neg (by show¬((j:Int)<1);omega)]
   by_cases h1:j=1
   ·clear c1 h0 q c2;subst h1
    rw[if_pos (by simp)];show _=x.cps.toList++ [];simp
   ·by_cases h2:x.length=0
    ·rw[if_pos (by simp[h2]),show x.cps.toList= [] from List.eq_nil_of_length_eq_zero (by rw[←Bx];exact h2),TH]
    ·have:((Int.ofNat j==1)||(x.length==0))=false:=by
      simp only[Bool.or_eq_false_iff,beq_eq_false_iff_ne];exact⟨fun z=>h1 (by have:(j:Int)=1:=z;omega),h2⟩
     rw[this];show((List.replicate j x.cps).foldl (·++·) #[]).toList=_;rw[ak];simp
theorem cn{op:Operator} {x:Str} {t:Tok} {P:Params} {ca:Ca} {g:Hp} {μ:Mu} {w r:V} {b:Value}(e:UU op x.cps.toList w=some r)(hw:VR P ca g μ w b)(q:∀y t' k,r=.str y.cps.toList→Q (.str y t') {s with toks:=k}):wpAny (model pg wo) A (binaryOp op (.str x t) b) Q E s:=by
 cases op with
 |Add=>
  refine EZ e (fun y h e=>?_) AD;subst h;refine xA (D6 e) fun c z1q=>?_;subst z1q;refine xEEA hw.st fun z u z2q z3q=>?_;subst z2q;clear hw e;subst z3q;exact SB.add (fun t' k=>q _ t' k (by rw[PR])) (by rw[Bx,Bx];exact Cd (Nat.le_of_ble_eq_true c))
 |Mult=>
  refine DK e (fun i h e=>Ji e (fun j h2 e=>?_) AD) AD;subst h;subst h2;refine xA (D6 e) fun c z1q=>?_;clear e;subst z1q;refine xE hw.i fun u z1q=>?_;subst z1q;exact dy (by rw[Bx];exact Nat.le_of_ble_eq_true (A8 c).1) (Nat.le_of_ble_eq_true (A8 c).2) fun y t' k h=>q y t' k (by rw[h])
 |_=>exact AD e
noncomputable def kl:Sc→Value→Prop
 |.n,a=>a=.none
 |.b x,a=>a=.bool x
 |.i x,a=>∃t,a=.int x t
 |.s x,a=>∃y t,a=.str y t∧y.cps.toList=x
theorem lP{P:Params} {ca:Ca} {g:Hp} {μ:Mu} {v:V} {a:Value} {c:Sc}(h:VR P ca g μ v a)(e:gX v=some c):kl c a:=by
 cases v<;>first|(exact AD e;done)|(cases e;unfold VR at h;exact h)
theorem Sn{i j:Int}:(i==j)=decide (i=j):=by by_cases c:i=j<;>simp[c]
theorem j8{c d:Sc} {x y:Value} {b:Bool}(e:lb c d=some b)(hx:kl c x)(hy:kl d y)(q:Q (.bool b) s):wpAny (model pg wo) A (compareOp .Eq x y) Q E s:=by
 cases c<;>cases d
 ·cases e;cases hx;cases hy;exact EqNone.eq_none_none q
 ·cases e;cases hx;cases hy;exact EqNone.eq_none_bool q
 ·cases e;cases hx;refine xE hy fun J z1q=>?_;subst z1q;exact EqNone.eq_none_int q
 ·cases e;cases hx;refine xEEA hy fun J J z2q J=>?_;subst z2q;exact EqNone.eq_none_str q
 ·cases e;cases hx;cases hy;exact EqNone.eq_bool_none q
 ·cases e;cases hx;cases hy;exact eq_bool q
 ·exact AD e
 ·cases e;cases hx;refine xEEA hy fun J J z2q J=>?_;subst z2q;exact EqMixed.eq_bool_str q
 ·cases e;refine xE hx fun J z1q=>?_;subst z1q;cases hy;exact EqNone.eq_int_none q
 ·exact AD e
 ·cases e;refine xE hx fun J z1q=>?_;subst z1q;refine xE hy fun J z1q=>?_;subst z1q;exact PyProof.Rows.eq_int (by rw[Sn];exact q)
 ·cases e;refine xE hx fun J z1q=>?_;subst z1q;refine xEEA hy fun J J z2q J=>?_;subst z2q;exact EqMixed.eq_int_str q
 ·cases e;refine xEEA hx fun J J z2q J=>?_;subst z2q;cases hy;exact EqNone.eq_str_none q
 ·cases e;refine xEEA hx fun J J z2q J=>?_;subst z2q;cases hy;exact EqMixed.eq_str_bool q
 ·cases e;refine xEEA hx fun J J z2q J=>?_;subst z2q;refine xE hy fun J z1q=>?_;subst z1q;exact EqMixed.eq_str_int q
 ·cases e;refine xEEA hx fun J J z2q z3q=>?_;subst z2q;subst z3q;refine xEEA hy fun J J z2q z3q=>?_;subst z2q;subst z3q;exact PyProof.Rows.eq_str (by rw[OW];exact q)
theorem jW{c d:Sc} {x y:Value} {b:Bool}(e:lb c d=some b)(hx:kl c x)(hy:kl d y)(q:Q (.bool (!b)) s):wpAny (model pg wo) A (compareOp .NotEq x y) Q E s:=by
 cases c<;>cases d
 ·cases e;cases hx;cases hy;exact EqNone.ne_none_none q
 ·cases e;cases hx;cases hy;exact EqNone.ne_none_bool q
 ·cases e;cases hx;refine xE hy fun J z1q=>?_;subst z1q;exact EqNone.ne_none_int q
 ·cases e;cases hx;refine xEEA hy fun J J z2q J=>?_;subst z2q;exact EqNone.ne_none_str q
 ·cases e;cases hx;cases hy;exact EqNone.ne_bool_none q
 ·cases e;cases hx;cases hy;exact ne_bool q
 ·exact AD e
 ·cases e;cases hx;refine xEEA hy fun J J z2q J=>?_;subst z2q;exact EqMixed.ne_bool_str q
 ·cases e;refine xE hx fun J z1q=>?_;subst z1q;cases hy;exact EqNone.ne_int_none q
 ·exact AD e
 ·cases e;refine xE hx fun J z1q=>?_;subst z1q;refine xE hy fun J z1q=>?_;subst z1q;exact PyProof.Rows.ne_int (by rw[bne,Sn];exact q)
 ·cases e;refine xE hx fun J z1q=>?_;subst z1q;refine xEEA hy fun J J z2q J=>?_;subst z2q;exact EqMixed.ne_int_str q
 ·cases e;refine xEEA hx fun J J z2q J=>?_;subst z2q;cases hy;exact EqNone.ne_str_none q
 ·cases e;refine xEEA hx fun J J z2q J=>?_;subst z2q;cases hy;exact EqMixed.ne_str_bool q
 ·cases e;refine xEEA hx fun J J z2q J=>?_;subst z2q;refine xE hy fun J z1q=>?_;subst z1q;exact EqMixed.ne_str_int q
 ·cases e;refine xEEA hx fun J J z2q z3q=>?_;subst z2q;subst z3q;refine xEEA hy fun J J z2q z3q=>?_;subst z2q;subst z3q;exact PyProof.Rows.ne_str (by rw[bne,OW];exact q)
variable{P:Params} {ca:Ca} {g:Hp} {μ:Mu} {v w:V} {x y:Value} {b:Bool}
theorem bY(e:q9 v w=some b):∃c d,gX v=some c∧gX w=some d∧lb c d=some b:=BQ e (fun c e1 e=>BQ e (fun d e2 e=>⟨c,d,e1,e2,e⟩) (fun J=>AD)) (fun J=>AD)
theorem bL(h:VR P ca g μ v x):(x==Value.none)=Zq v:=by
 cases v<;>unfold VR at h
 case none=>cases h;rfl
 case bool=>cases h;rfl
 case int=>refine xE h fun J z1q=>?_;subst z1q;rfl
 case str=>refine xEEA h fun J J z2q J=>?_;clear h;subst z2q;rfl
 case tup=>refine LK h fun J J J J z4q J=>?_;clear h;subst z4q;rfl
 case lst=>refine Fi h fun J J J z3q J=>?_;clear h;subst z3q;rfl
 case dct=>refine Fi h fun J J J z3q J=>?_;clear h;subst z3q;rfl
 case inst=>refine OG h fun J J J J J z5q J=>?_;clear h;subst z5q;rfl
 case lv=>refine Fi h fun J J J z3q J=>?_;clear h;subst z3q;rfl
 case tx=>refine A_ h fun J J J J z4q J=>?_;clear h;subst z4q;rfl
 case ps=>refine xEEA h fun J J J z3q=>?_;clear h;subst z3q;rfl
 case ln=>refine xEEA h fun J J J z3q=>?_;clear h;subst z3q;rfl
 all_goals refine AZ h fun J J z2q=>?_;subst z2q;rfl
theorem jo(h:VR P ca g μ v x)(e:Zq v=true):x=.none:=by
 cases v<;>first|(exact Ak e;done)|exact h.no
theorem e7{op:CmpOp}(e:e8 op v w=some b)(hv:VR P ca g μ v x)(hw:VR P ca g μ w y)(q:Q (.bool b) s):wpAny (model pg wo) A (compareOp op x y) Q E s:=by
 have cmp:∀{fi:Int→Int→Bool} {fs:List Nat→List Nat→Option Bool} {G:Prop},(cI v (cS v none fun x=>cS w none fun y=>fs x y) fun x=>cI w none fun y=>some (fi x y))=some b→(∀i j t u,x=.int i t→y=.int j u→fi i j=b→G)→(∀i j t u,x=.str i t→y=.str j u→fs i.cps.toList j.cps.toList=some b→G)→G:=fun e g1 g2=>
  DK e (fun i h e=>DK e (fun j h2 e=>by
   subst h;subst h2;refine xE hv.i fun t z1q=>?_;subst z1q;refine xE hw.i fun u z1q=>?_;clear hw g2;subst z1q;exact g1 i j t u rfl rfl (Option.some.inj e)) AD) fun e=>EZ e (fun i h e=>EZ e (fun j h2 e=>by
   subst h;subst h2;refine xEEA hv.st fun i t z2q z3q=>?_;subst z2q;subst z3q;refine xEEA hw.st fun j u z2q z3q=>?_;clear g1;subst z2q;clear hw e;subst z3q;exact g2 i j t u rfl rfl e) AD) AD
 cases op with
 |Eq=>refine BE (bY e) fun c d e1 e2 e3=>?_;exact j8 e3 (lP hv e1) (lP hw e2) q
 |NotEq=>
  refine AZ (Option.map_eq_some_iff.mp e) fun b' e' z2q=>?_;clear e cmp;subst z2q;refine BE (bY e') fun c d e1 e2 e3=>?_;exact jW e3 (lP hv e1) (lP hw e2) q
 |Lt=>
  refine cmp e (fun i j t u h1 h2 h3=>?_) fun i j t u h1 h2 h3=>?_
  ·clear e hw cmp hv;subst h1 h2 h3;exact PyProof.Rows.lt_int q
  ·subst h1 h2;clear e cmp;cases h3;rw[XR] at q;exact PyProof.Rows.lt_str q
 |LtE=>
  refine cmp e (fun i j t u h1 h2 h3=>?_) fun i j t u h1 h2 h3=>?_
  ·clear e hw cmp hv;subst h1 h2 h3;exact PyProof.Rows.le_int q
  ·subst h1 h2;clear e cmp;cases h3;rw[XR] at q;exact PySem.P.le_str q
 |Gt=>
  refine DK e (fun i h e=>DK e (fun j h2 e=>?_) AD) AD;subst h;subst h2;cases e;refine xE hv.i fun t z1q=>?_;subst z1q;refine xE hw.i fun u z1q=>?_;clear hw cmp;subst z1q;exact PyProof.Rows.gt_int q
 |GtE=>
  refine DK e (fun i h e=>DK e (fun j h2 e=>?_) AD) AD;subst h;subst h2;cases e;refine xE hv.i fun t z1q=>?_;subst z1q;refine xE hw.i fun u z1q=>?_;clear hw cmp;subst z1q;exact PyProof.Rows.ge_int q
 |Is=>
  refine xA (D6 e) fun c z1q=>?_;subst z1q;clear cmp;cases jo hw c;exact is_none (by rw[bL hv];exact q)
 |IsNot=>
  refine xA (D6 e) fun c z1q=>?_;subst z1q;clear cmp;cases jo hw c;exact isNot_none (by rw[bL hv];exact q)
 |_=>exact AD e
theorem bP(hw:VR P ca g μ w x)(A:Around)(s:Shared){μ':Mu}:∀{l0:List V} {ys:List Value} {b:Bool},ju w l0=some b→BC P ca g μ' l0 ys→ys.any (fun y=>fZ y x)=b∧∀y∈ys,EqAt A s y x (fZ y x)
 | [],ys,b,e,h=>by
  unfold BC at h;subst h;cases e;exact⟨rfl,fun J h=>nomatch h⟩
 |v::r,ys,b,e,h=>by
  refine BE h.of_cons fun y q z2q h1 h2=>?_;subst z2q;refine BQ e (fun a e1 e'=>BQ e' (fun b' e2 e3=>?_) (fun J=>AD)) (fun J=>AD);cases e3;refine xA (bP hw A s e2 h2) fun g1 g2=>?_;have:fZ y x=a∧EqAt A s y x (fZ y x):=by
   clear e;refine DK e1 (fun i z e=>DK e (fun j z2 e=>?_) AD) fun e=>EZ e (fun i z e=>EZ e (fun j z2 e=>?_) AD) AD
   ·subst z;subst z2;clear e' e1;cases e
    refine xE h1.i fun t z1q=>?_;clear h1 h;subst z1q;refine xE hw.i fun u z1q=>?_;clear hw g2 g1;subst z1q;exact⟨Sn,fun prog w E Q hq=>wpAny_eqBool_int hq⟩
   ·subst z;subst z2;cases e
    refine xEEA h1.st fun x1 t z2q z3q=>?_;subst z2q;clear h1 h;subst z3q;refine xEEA hw.st fun x2 u z2q z3q=>?_;clear g2 g1;subst z2q;clear hw e e2 e' e1;subst z3q;exact⟨OW,fun prog w E Q hq=>eqBool_str hq⟩
  refine⟨by rw[List.any_cons,this.1,g1],fun z hz=>?_⟩;rcases List.mem_cons.mp hz with rfl|hz
  ·exact this.2
  ·exact g2 z hz
end
theorem Ax{α:Type} {o:Option α} {K:α→RA X} {r:RA X}(e:oA o K=r)(n:RA.no≠r):∃a,o=some a∧K a=r:=BQ e (fun a h e=>⟨a,h,e⟩) fun J e=>absurd e n
theorem Ba{b:Bool} {k r:RA X}(e:tB b k=r)(n:RA.no≠r):b=true∧k=r:=B3 e (fun h e=>⟨h,e⟩) fun J e=>absurd e n
theorem Ck{o:Option Ob} {p:Option AA} {m m':Mu} {c':B5}(e:B0 o p m'=some c')(h:Bk m m'):∃c,B0 o p m=some c∧c'.o=c.o∧c'.p=c.p∧Bk c.m c'.m:=by
 refine Es (Ai e) fun e1 e2 z2q=>?_;subst z2q;exact⟨⟨c'.o,c'.p,m⟩,by rw[e1,e2];rfl,rfl,rfl,h⟩
theorem Iz{o:Ob} {p:AA} {c:B5}(e1:some o=some c.o)(e2:some p=some c.p):c=⟨o,p,c.m⟩:=by
 obtain⟨co,cp,cm⟩:=c;cases e1;cases e2;rfl
theorem Fb{α:Type} {l:List α} {x:α} {i:Nat}(n:i≠l.length):(l++ [x])[i]? =l[i]? :=by
 by_cases c:i<l.length
 ·exact List.getElem?_append_left c
 ·rw[List.getElem?_append_right (by omega),List.getElem?_eq_none_iff.mpr (by simp;omega),List.getElem?_eq_none_iff.mpr (by omega)]
theorem CC{α:Type} {l:List α} {x:α} {i:Nat}(n:i=l.length):(l++ [x])[i]? =some x:=by subst n;simp
theorem Pa{α:Type} {l:List α} {x y:α} {i:Nat}(e:l[i]? =some y):(l++ [x])[i]? =some y:=by
 rw[Fb];exact e;exact Nat.ne_of_lt (List.getElem?_eq_some_iff.mp e).1
section
variable{W:Wd} {l:List Env} {X Z:AS} {σ:St} {o:Ob} {p:AA} {s':Shared}
noncomputable def Gj(σ:St)(o:Ob)(p:AA)(s':Shared):St:=⟨{σ.h with lo:=σ.h.lo++ [o]},{σ.μ with lo:=σ.μ.lo++ [p]},s'⟩
noncomputable def UC(σ:St)(o:Ob)(p:AA)(s':Shared):St:=⟨{σ.h with gl:=σ.h.gl++ [o]},{σ.μ with gl:=σ.μ.gl++ [p]},s'⟩
theorem SR.addLo(S:SR W l X σ)(hf:∀a,o.has p a→σ.s.heap.get? a=none)(hk:∀b y,σ.s.heap.get? b=some y→s'.heap.get? b=some y)(ho:s'.os=σ.s.os)(hg:s'.gens=σ.s.gens)(hn:∀gf',Le (σ.reg X) gf'→∀m,Bk σ.μ.nt m→DI W.w.params W.ca gf' (VX s'.heap.get? X) ⟨o,p,m⟩):Nz W l X Z σ (Mn.Gj σ o p s'):=by
 have m:Bk σ.μ {σ.μ with lo:=σ.μ.lo++ [p]}:=⟨fun J h=>h,fun J h=>h,fun J h=>h,fun J J=>Pa,fun J J h=>h,fun J h=>h⟩;have G:Go W X (.lo σ.h.lo.length) σ (Mn.Gj σ o p s'):=⟨fun s n c' e=>?_,fun c' e a h=>.inr (hf a ?_),fun a o e J=>hk a o e,fun a o e z=>(nomatch (hk a o e).symm.trans z),S.nt,by show(σ.h.lo++ [o]).length=(σ.μ.lo++ [p]).length;simp[S.nlo],S.ngl,S.tx,S.lx,ho,hg⟩
 ·refine G.nz S (fun c' e le=>?_) m rfl rfl rfl rfl rfl
  refine Es (Ai (show B0 (σ.h.lo++ [o])[σ.h.lo.length]? (σ.μ.lo++ [p])[σ.h.lo.length]? _=some c' from e)) fun e1 e2 e3=>?_;rw[CC rfl] at e1;rw[CC S.nlo] at e2;rw[Iz e1 e2,←e3];exact hn _ le _ m.nt
 ·cases s with
  |par=>exact Ck (m:=σ.μ.nlo) (show B0 (some (.inst kP (Dn σ.h σ.μ.np))) σ.μ.par _=some c' from e) m.nlo
  |lex=>exact Ck (m:=σ.μ.nlo) (show B0 (some (.inst kL (C5 σ.h σ.μ.lx))) σ.μ.lex _=some c' from e) m.nlo
  |tmp=>exact Ck (m:=μ0) (show B0 (σ.h.tmp.map fun x=>.inst x.1 x.2) σ.μ.tm _=some c' from e) (.refl _)
  |lo i=>
   have n:i≠σ.h.lo.length:=fun z=>n (by rw[z]);have e:B0 (σ.h.lo++ [o])[i]? (σ.μ.lo++ [p])[i]? _=some c':=e;rw[Fb n,Fb (S.nlo▸n)] at e;exact Ck (m:=σ.μ.nt) e m.nt
  |gl i=>exact Ck (m:=σ.μ.nlo) (show B0 σ.h.gl[i]? σ.μ.gl[i]? _=some c' from e) m.nlo
 ·refine Es (Ai (show B0 (σ.h.lo++ [o])[σ.h.lo.length]? (σ.μ.lo++ [p])[σ.h.lo.length]? _=some c' from e)) fun e1 e2 J=>?_
  rw[CC rfl] at e1;rw[CC S.nlo] at e2;rw[Iz e1 e2] at h;exact h
theorem SR.addGl(S:SR W l X σ)(hf:∀a,o.has p a→σ.s.heap.get? a=none)(hk:∀b y,σ.s.heap.get? b=some y→s'.heap.get? b=some y)(ho:s'.os=σ.s.os)(hg:s'.gens=σ.s.gens)(hn:∀gf',Le (σ.reg X) gf'→∀m,Bk σ.μ.nlo m→DI W.w.params W.ca gf' (VX s'.heap.get? X) ⟨o,p,m⟩):Nz W l X Z σ (Mn.UC σ o p s'):=by
 have m:Bk σ.μ {σ.μ with gl:=σ.μ.gl++ [p]}:=⟨fun J h=>h,fun J h=>h,fun J h=>h,fun J J h=>h,fun J J=>Pa,fun J h=>h⟩;have G:Go W X (.gl σ.h.gl.length) σ (Mn.UC σ o p s'):=⟨fun s n c' e=>?_,fun c' e a h=>.inr (hf a ?_),fun a o e J=>hk a o e,fun a o e z=>(nomatch (hk a o e).symm.trans z),S.nt,S.nlo,by show(σ.h.gl++ [o]).length=(σ.μ.gl++ [p]).length;simp[S.ngl],S.tx,S.lx,ho,hg⟩
 ·refine G.nz S (fun c' e le=>?_) m rfl rfl rfl rfl rfl
  refine Es (Ai (show B0 (σ.h.gl++ [o])[σ.h.gl.length]? (σ.μ.gl++ [p])[σ.h.gl.length]? _=some c' from e)) fun e1 e2 e3=>?_;rw[CC rfl] at e1;rw[CC S.ngl] at e2;rw[Iz e1 e2,←e3];exact hn _ le _ m.nlo
 ·cases s with
  |par=>exact Ck (m:=σ.μ.nlo) (show B0 (some (.inst kP (Dn σ.h σ.μ.np))) σ.μ.par _=some c' from e) m.nlo
  |lex=>exact Ck (m:=σ.μ.nlo) (show B0 (some (.inst kL (C5 σ.h σ.μ.lx))) σ.μ.lex _=some c' from e) m.nlo
  |tmp=>exact Ck (m:=μ0) (show B0 (σ.h.tmp.map fun x=>.inst x.1 x.2) σ.μ.tm _=some c' from e) (.refl _)
  |gl i=>
   have n:i≠σ.h.gl.length:=fun z=>n (by rw[z]);have e:B0 (σ.h.gl++ [o])[i]? (σ.μ.gl++ [p])[i]? _=some c':=e;rw[Fb n,Fb (S.ngl▸n)] at e;exact Ck (m:=σ.μ.nlo) (show B0 _ _ _=some c' from e) m.nlo
  |lo i=>exact Ck (m:=σ.μ.nt) (show B0 σ.h.lo[i]? σ.μ.lo[i]? _=some c' from e) m.nt
 ·refine Es (Ai (show B0 (σ.h.gl++ [o])[σ.h.gl.length]? (σ.μ.gl++ [p])[σ.h.gl.length]? _=some c' from e)) fun e1 e2 J=>?_
  rw[CC rfl] at e1;rw[CC S.ngl] at e2;rw[Iz e1 e2] at h;exact h
theorem SR.offX(S:SR W l X σ){b:Addr}(h:σ.s.heap.get? b=none):¬X b:=fun hx=>by
 refine AZ (S.xs b hx) fun o e J=>?_;rw[h] at e;exact AD e
end
section
variable{Γ:Fr} {ρ:Af} {σ:St} {K:V→HA→RA X} {Q:Value→Shared→Prop} {v w:V} {x y:Value} {lk:Bool}
theorem W9(F:D Γ ρ σ){o:Ob} {p:AA} {s':Shared}(e:FU lk σ.h o K=Γ.res)(hf:∀a,o.has p a→σ.s.heap.get? a=none)(hk:∀b y,σ.s.heap.get? b=some y→s'.heap.get? b=some y)(ho:s'.os=σ.s.os)(hg:s'.gens=σ.s.gens)
  (hn:∀gf',Le (σ.reg Γ.X) gf'→∀m,Bk (cond lk σ.μ.nlo σ.μ.nt) m→DI Γ.W.w.params Γ.W.ca gf' (VX s'.heap.get? Γ.X) ⟨o,p,m⟩) (q:Gv Γ ρ σ K Q):Q (.ref p.1) s':=by
 cases lk with
 |false=>
  refine q.go F (F.S.addLo (s':=s') hf hk ho hg hn) e ?_;unfold Fr.V VT VR;exact⟨p,CC F.S.nlo,rfl⟩
 |true=>
  refine q.go F (F.S.addGl (s':=s') hf hk ho hg hn) e ?_;unfold Fr.V VT VR;exact⟨p,CC F.S.ngl,rfl⟩
theorem dY{p a:Addr} {l0:List V}:(Ob.list l0).has (p,0) a→a=p:=fun h=>h
theorem Nf(F:D Γ ρ σ){l0:List V} {xs:Array Value} {n:Nat} {b:Addr} {s':Shared}(e:FU lk σ.h (.list l0) K=Γ.res)(hb:σ.s.heap.get? b=none)(hk:∀b y,σ.s.heap.get? b=some y→s'.heap.get? b=some y)(hn:s'.heap.get? b=some (listOf xs n))(ho:s'.os=σ.s.os)(hg:s'.gens=σ.s.gens)
  (hv:BC Γ.W.w.params Γ.W.ca (σ.reg Γ.X) (cond lk σ.μ.nlo σ.μ.nt) l0 xs.toList) (q:Gv Γ ρ σ K Q):Q (.ref b) s':=
 W9 (p:=(b,0)) F e (fun a h=>by cases dY h;exact hb) hk ho hg (fun gf' le m hm=>⟨xs,n,Ac hn (F.S.offX hb),BC.mono le hm _ _ hv⟩) q
theorem Hq(F:D Γ ρ σ){l0:List V} {xs:Array Value} {n tk:Nat}(e:FU lk σ.h (.list l0) K=Γ.res)(hv:BC Γ.W.w.params Γ.W.ca (σ.reg Γ.X) (cond lk σ.μ.nlo σ.μ.nt) l0 xs.toList)(q:Gv Γ ρ σ K Q):Q (.ref σ.s.heap.objs.size) {σ.s with heap:=σ.s.heap.push (listOf xs n),toks:=tk}:=
 Nf F e (Heap.get?_none_of_le (Nat.le_refl _)) (fun J J e=>Heap.get?_push_of_some _ e) (Heap.get?_push_size _ rfl) rfl rfl hv q
theorem je{l0:List V} {q:List Value}(h:BC Γ.W.w.params Γ.W.ca (σ.reg Γ.X) σ.μ.nt l0 q)(c:(!lk||l0.all Oq)=true):BC Γ.W.w.params Γ.W.ca (σ.reg Γ.X) (cond lk σ.μ.nlo σ.μ.nt) l0 q:=by
 cases lk with
 |false=>exact h
 |true=>exact h.all (fun h n=>VR.nlo h n) c
theorem Yb{op:Operator} {k:Nat} {r:V}(e0:fO op k w=some r)(hv:Γ.V σ (.ps k) x)(hw:Γ.V σ w y):op=.Add∧∃i j t u,x=.int i t∧y=.int j u∧∀t',Γ.V σ r (.int (i+j) t'):=by
 refine B3 e0 (fun h e=>DK e (fun i h1 e=>Ji e (fun n h2 e=>?_) AD) AD) (fun J=>AD);clear e0;subst h1;subst h2;cases e;refine xE hw.i fun u z1q=>?_;subst z1q;unfold Fr.V VT VR at hv;refine xEEA hv fun s t e1 z3q=>?_;clear hv;subst z3q;refine⟨(by cases op<;>first|rfl|exact Ak h),_,_,t,u,rfl,rfl,fun t'=>?_⟩;unfold Fr.V VT VR;exact⟨s,t',e1,by show Value.int (((s.2+k:Nat):Int)+(n:Int)) t'=.int ((s.2+(k+n):Nat):Int) t';rw[←Int.natCast_add,Nat.add_assoc]⟩
theorem kY{op:Operator}(F:D Γ ρ σ)(e0:A2 lk σ.h op v w K=Γ.res)(hv:Γ.V σ v x)(hw:Γ.V σ w y)(q:Gv Γ ρ σ K Q):wA Γ (binaryOp op x y) Q σ:=by
 have hn:=F.ok.hn;refine DK e0 (fun i h e=>DK e (fun j h2 e=>?_) fun z=>absurd z hn) fun e=>EZ e (fun s0 h e=>?_) fun e=>Ky e (fun k h e=>?_) fun e=>?_
 ·subst h;subst h2
  refine AZ (Ax e hn) fun r e1 e2=>?_;refine xE hv.i fun t z1q=>?_;subst z1q;refine xE hw.i fun u z1q=>?_;subst z1q;exact jt e1 (q.tok F e2 .of_i)
 ·subst h
  refine AZ (Ax e hn) fun r e1 e2=>?_;refine xEEA hv.st fun x0 t z2q z3q=>?_;subst z2q;clear e0 e hv;subst z3q;exact cn e1 hw fun z t' k h=>q.tok F e2 (by rw[h];exact .of_s rfl)
 ·subst h
  refine AZ (Ax e hn) fun r e1 e2=>?_;refine Pw (Yb e1 hv hw) fun z0q i j t u z5q z6q h=>?_;clear e0 e e1;subst z0q;subst z5q;subst z6q;exact PyProof.Rows.add_int (q.tok F e2 (h _))
 ·clear e0
  refine xA (Ba e hn) fun c e3=>?_;refine AZ (Ax e3 hn) fun l1 e1 e4=>?_;refine AZ (Ax e4 hn) fun l2 e2 e5=>?_;refine xA (Ba e5 hn) fun c2 e6=>?_;clear e e3 e4 e5;refine A_ (Cw F.S e1 hv) fun b1 xs1 n1 z3q h1 r1=>?_;subst z3q;refine A_ (Cw F.S e2 hw) fun b2 xs2 n2 z3q h2 r2=>?_;subst z3q;clear e;cases op<;>first|(exact Ak c;done)|skip
  refine concat_meets ⟨_,h1,rfl⟩ ⟨_,h2,rfl⟩ noFill_list_add seq_list_add PySem.F.slot_list_add PySem.F.entry_list_add (PySem.F.args_list_add_2 _ _) (list_addW b1 b2 xs1 xs2 n1 n2 none none #[] #[] ?_) ⟨h1,h2,?_⟩
  ·have s1:=r1.length
   have s2:=r2.length;rw[Array.length_toList] at s1 s2;rw[s1,s2];exact Cd (Nat.le_of_ble_eq_true (A8 c2).1)
  ·exact Hq (n:=0) (tk:=σ.s.toks) (xs:=xs1++xs2) F e6 (je (by rw[Array.toList_append];exact r1.append r2) (A8 c2).2) q
theorem bg{op:Operator} {r:V}(F:D Γ ρ σ)(e0:D7 op v w=some r)(hv:Γ.V σ v x)(hw:Γ.V σ w y)(q:∀a n,Γ.V σ r a→Q a {σ.s with toks:=n}):wA Γ (inplaceOp op x y) Q σ:=by
 refine Ky e0 (fun k h e=>?_) fun e=>DK e (fun i h e=>DK e (fun j h2 e=>?_) AD) AD<;>clear e0
 ·subst h
  refine Pw (Yb e hv hw) fun z0q i j t u z5q z6q h=>?_;subst z0q;subst z5q;subst z6q;exact PySem.P.iadd_int (q _ _ (h _))
 ·subst h;subst h2
  refine xE hv.i fun t z1q=>?_;subst z1q;refine xE hw.i fun u z1q=>?_;subst z1q;cases op with
  |Add=>cases e;exact PySem.P.iadd_int (q _ _ .of_i)
  |Sub=>cases e;exact PySem.P.isub_int (q _ _ .of_i)
  |_=>exact AD e
theorem jV{K:V→RA X}(F:D Γ ρ σ)(e:Ey v K=Γ.res)(hv:Γ.V σ v x)(q:∀r a n,K r=Γ.res→Γ.V σ r a→Q a {σ.s with toks:=n}):wA Γ (unaryOp .USub x) Q σ:=by
 refine DK e (fun i h e=>?_) fun z=>absurd z F.ok.hn;subst h;refine xE hv.i fun t z1q=>?_;subst z1q;exact PySem.P.neg_int (q _ _ _ e .of_i)
theorem bZ{b:Bool}(F:D Γ ρ σ)(e:ez σ.h v w=some b)(hv:Γ.V σ v x)(hw:Γ.V σ w y){G:Prop}(h1:∀b' xs f,y=.ref b'→σ.s.heap.IsList b' xs→(∀y∈xs,EqAt Γ.A.in1 σ.s y x (f y))→xs.any f=b→G)(h2:∀b' xs f,y=.ref b'→σ.s.heap.IsTuple b' xs→(∀y∈xs,EqAt Γ.A.in1 σ.s y x (f y))→xs.any f=b→G)(h3:∀b' x1 t kvs,x=.str x1 t→y=.ref b'→(b'==sysModules)=false→σ.s.heap.DictOf (strKind pg Γ.W.w) b' kvs→(valueAt kvs x1).isSome=b→G):G:=by
 have fin:∀{l0:List V} {xs:Array Value},ju v l0=some b→BC Γ.W.w.params Γ.W.ca (σ.reg Γ.X) σ.μ.nt l0 xs.toList→(∀y∈xs,EqAt Γ.A.in1 σ.s y x (fZ y x))∧(xs.any fun y=>fZ y x)=b:=fun e h=>by
  refine xA (bP hv Γ.A.in1 σ.s e h) fun f1 f2=>?_;exact⟨fun y hy=>f2 y (Array.mem_toList_iff.mpr hy),by rw[aM];exact f1⟩
 refine BQ e (fun l0 e1 e=>EZ e (fun k h e=>?_) AD) fun J e=>Sk e (fun l0 h e=>?_) fun e=>BQ e (fun l0 e1 e=>?_) (fun J=>AD)
 ·subst h;cases e
  refine CV (PQ F.ok.wf F.S e1 hw) fun b' kvs m z3q k0 J k1 k2=>?_;subst z3q;refine xEEA hv.st fun x1 t z2q z3q=>?_;subst z2q;clear e h2 h1 fin hv;subst z3q;exact h3 b' x1 t kvs rfl rfl k0 k2 (Y6 k1 x1)
 ·clear e J;subst h
  refine Cc (NL hw) fun b' o xs n z4q k1 k2 k3 k4=>?_;clear hw h3 h1;subst z4q;exact h2 b' xs _ rfl (Hs k1 k2 k3) (fin e k4).1 (fin e k4).2
 ·refine A_ (Cw F.S e1 hw) fun b' xs n z3q k1 k2=>?_;clear h3 hw h2;subst z3q
  exact h1 b' xs _ rfl (B_ k1) (fin e k2).1 (fin e k2).2
theorem e9{op:CmpOp} {b:Bool}(F:D Γ ρ σ)(e0:e_ σ.h op v w=some b)(hv:Γ.V σ v x)(hw:Γ.V σ w y)(q:Q (.bool b) σ.s):wA Γ (compareOp op x y) Q σ:=by
 refine Ky e0 (fun i h e=>?_) AD;clear e0;subst h;unfold Fr.V VT VR at hv;refine xEEA hv fun s t e1 z3q=>?_;clear hv;subst z3q;cases op<;>first|(exact AD e;done)|skip
 ·refine B3 e (fun h e=>?_) (fun J=>AD)
  cases w<;>first|(exact Ak h;done)|skip
  unfold Fr.V VT VR at hw;refine xEEA hw fun s' u e2 z3q=>?_;subst z3q;rw[e1] at e2;clear hw;cases e2;cases e;refine PyProof.Rows.lt_int ?_;refine Es (F.S.tx s e1) fun J k2 J=>?_;have:decide (Int.ofNat (Nat.add s.2 i)<Int.ofNat s.1.length)=TC (σ.h.chs.drop i):=by
   rw[k2,List.drop_drop];cases c:s.1.drop (s.2+i) with
   |nil=>exact decide_eq_false (by have:=List.drop_eq_nil_iff.mp c;show¬(((s.2+i:Nat):Int)<(s.1.length:Int));omega)
   |cons a r=>
    refine decide_eq_true ?_;show((s.2+i:Nat):Int)<(s.1.length:Int);have:s.2+i<s.1.length:=Nat.lt_of_not_le fun z=>by rw[List.drop_eq_nil_iff.mpr z] at c;cases c
    omega
  rw[this];exact q
 ·refine Ky e (fun j h e=>?_) AD
  subst h;unfold Fr.V VT VR at hw;refine xEEA hw fun s' u e2 z3q=>?_;subst z3q;rw[e1] at e2;clear hw;cases e2;cases e;refine PyProof.Rows.gt_int ?_;have:decide (Int.ofNat (Nat.add s.2 j)<Int.ofNat (Nat.add s.2 i))=Nat.blt j i:=by
   cases c:Nat.blt j i with
   |true=>exact decide_eq_true (by have:=Ef c;show((s.2+j:Nat):Int)<((s.2+i:Nat):Int);omega)
   |false=>exact decide_eq_false (by have:¬j<i:=fun z=>(by rw[show Nat.blt j i=true from Nat.ble_eq_true_of_le z] at c;exact Di c);show¬(((s.2+j:Nat):Int)<((s.2+i:Nat):Int));omega)
  rw[this];exact q
theorem Nt{op:CmpOp} {b:Bool}(F:D Γ ρ σ)(e:AF σ.h op v w=some b)(hv:Γ.V σ v x)(hw:Γ.V σ w y)(q:∀n,Q (.bool b) {σ.s with toks:=n}):wA Γ (compareOp op x y) Q σ:=by
 have q0:=q σ.s.toks;have rest:cO (e8 op v w) (e_ σ.h op v w) some=some b→wA Γ (compareOp op x y) Q σ:=fun e=>BQ e (fun c e1 e=>by cases e;exact e7 e1 hv hw q0) fun J e=>e9 F e hv hw q0;cases op with
 |In=>
  refine bZ F e hv hw (fun b' xs f h1 h2 h3 h4=>?_) (fun b' xs f h1 h2 h3 h4=>?_) fun b' x1 t kvs h1 h2 h3 h4 h5=>?_
  ·clear e hw rest q;subst h1 h4;exact in_listAt f h2 h3 q0
  ·clear e hw rest q;subst h1 h4;exact in_tupleAt f h2 h3 q0
  ·clear q0 e hw rest hv;subst h1 h2 h5;exact wpAny_in_of (strKind_is pg Γ.W.w x1 t) h3 h4.mapOf (q _)
 |NotIn=>
  refine AZ (Option.map_eq_some_iff.mp e) fun c e' z2q=>?_;subst z2q;refine bZ F e' hv hw (fun b' xs f h1 h2 h3 h4=>?_) (fun b' xs f h1 h2 h3 h4=>?_) fun b' x1 t kvs h1 h2 h3 h4 h5=>?_
  ·clear e hw e' rest q;subst h1 h4;exact notIn_listAt f h2 h3 q0
  ·clear e hw e' rest q;subst h1 h4;exact notIn_tupleAt f h2 h3 q0
  ·clear q0 e hw e' rest hv;subst h1 h2 h5;exact wpAny_notIn_of (strKind_is pg Γ.W.w x1 t) h3 h4.mapOf (q _)
 |_=>exact rest e
end
theorem Cv(slice:PySem.Expr)(o i:Value):∃ops,subscripted slice false o i=operate ops (getItem o i):=by
 cases slice with
 |Slice a b c p=>cases c<;>exact⟨_,rfl⟩
 |_=>exact⟨_,rfl⟩
theorem Hn{α:Type}(l:List α)(a:Nat):∀m:Nat,(List.range m).filterMap (fun k=>l[a+k]?)=(l.drop a).take m
 |0=>by simp
 |m+1=>by
  rw[List.range_succ,List.filterMap_append,Hn l a m,List.take_succ,List.getElem?_drop,List.filterMap_cons,List.filterMap_nil];cases l[a+m]? <;>rfl
theorem GI(a b:Nat):sliceRange (a:Int) (b:Int) 1=(List.range (b-a)).map (fun k=>a+k):=by
 unfold sliceRange;have:(if(1:Int)>0 then(if(a:Int)<b then((b:Int)-a+1-1) /1 else 0) else(if(a:Int)>b then((a:Int)-b-1-1) / (-1) else 0)).toNat=b-a:=by
  rw[if_pos (by decide)]
  split
  ·rw[Int.ediv_one];omega
  ·show(0:Nat)=_;omega
 simp only[this];refine List.map_congr_left fun k J=>?_;show((a:Int)+1*(k:Int)).toNat=a+k;omega
theorem FR{n:Nat} {k:Nat}(h:k<n):seqIndex? (Int.ofNat k) n=some k:=by
 unfold seqIndex?;have h0:¬(Int.ofNat k<0):=by show¬((k:Int)<0);omega
 have h1:(decide (0≤Int.ofNat k)&&decide (Int.ofNat k<n))=true:=by
  rw[decide_eq_true (by show(0:Int)≤(k:Int);omega),decide_eq_true (by show(k:Int)<(n:Int);omega)];rfl
 simp only[h0,if_false];rw[if_pos h1];rfl
noncomputable def RQ:Option V→Option Int
 |some (.int k)=>some k
 |_=>none
theorem bM{v:V}(e:Zq v=true):v=.none:=by cases v<;>first|rfl|exact Ak e
theorem Iy{i:Option V} {d n r:Nat}(e:Kx i d n=some r):(i=none∨i=some .none)∧r=d∨∃k:Nat,i=some (.int (.ofNat k))∧(r:Int)=max 0 (min (k:Int) (n:Int)):=by
 refine BQ e (fun v h e=>B3 e (fun c e=>?_) fun J e=>DK e (fun j h1 e=>Ji e (fun k h2 e=>?_) AD) AD) fun h e=>?_
 ·cases e;exact .inl ⟨.inr (by rw[h,bM c]),rfl⟩
 ·subst h1;clear e J;subst h2
  refine .inr ⟨k,h,?_⟩;have e:=Option.some.inj e;refine B3 e (fun c e=>?_) fun c e=>?_
  ·have:=Nat.le_of_ble_eq_true c;omega
  ·have:¬k≤n:=fun z=>by rw[Nat.ble_eq_true_of_le z] at c;exact Di c
   omega
 ·cases e;exact .inl ⟨.inl h,rfl⟩
theorem MJ{a b:Option V} {n x y:Nat}(ea:Kx a 0 n=some x)(eb:Kx b n n=some y):sliceBounds (RQ a) (RQ b) none n=((x:Int),(y:Int),1):=by
 unfold sliceBounds;have h1:(match RQ a with|none=>(0:Int)|some i=>max 0 (min (if i<0 then i+(n:Int) else i) (n:Int)))=(x:Int):=by
  rcases Iy ea with⟨rfl|rfl,rfl⟩|⟨k,rfl,hk⟩
  ·rfl
  ·rfl
  ·rw[hk]
   show max 0 (min (if(k:Int)<0 then(k:Int)+(n:Int) else(k:Int)) (n:Int))=_;rw[if_neg (by omega)]
 have h2:(match RQ b with|none=>(n:Int)|some i=>max 0 (min (if i<0 then i+(n:Int) else i) (n:Int)))=(y:Int):=by
  rcases Iy eb with⟨rfl|rfl,rfl⟩|⟨k,rfl,hk⟩
  ·rfl
  ·rfl
  ·rw[hk]
   show max 0 (min (if(k:Int)<0 then(k:Int)+(n:Int) else(k:Int)) (n:Int))=_;rw[if_neg (by omega)]
 exact Prod.ext h1 (Prod.ext h2 rfl)
theorem W4{α:Type} {l0:List α} {k:Int} {v:α}(e:jS l0 k=some v):∃n:Nat,k=.ofNat n∧n<1048576∧l0[n]? =some v:=Ji e (fun n h e=>B3 e (fun c e=>⟨n,h,Ef c,e⟩) (fun J=>AD)) AD
noncomputable abbrev CW(l u:Value):Obj:={cls:=.type "slice",data:=.fields #[l,u,.none]}
section
variable{Γ:Fr} {ρ:Af} {σ:St} {K:V→HA→RA X} {Q:Value→Shared→Prop} {v w r:V} {x y:Value} {lk:Bool} {value slice:PySem.Expr}
theorem NO{x1:Str} {t u:Tok} {j c:Nat}(hj:j<2^63)(e:x1.cps.toList[j]? =some c)(q:Q (.str ⟨#[c]⟩ σ.s.toks) {σ.s with toks:=σ.s.toks+1}):wA Γ (subscriptTail value slice (.str x1 t) (.int (.ofNat j) u)) Q σ:=by
 refine xE (Cv slice (.str x1 t) (.int (.ofNat j) u)) fun ops hops=>?_;have hlt:j<x1.length:=by rw[Bx];exact(List.getElem?_eq_some_iff.mp e).1
 refine tail_any (T:="str") rfl PySem.F.slot_str_getitem.lookup (PySem.P.getItem_str (c:=c) ?_ ?_ q) hops
 ·rw[decide_eq_false (by show¬((j:Int)<_);omega),decide_eq_false (by show¬((j:Int) ≥_);omega)];rfl
 ·rw[FR hlt]
  show x1.cps[j]? =some c;rw[←Array.getElem?_toList];exact e
theorem jy(F:D Γ ρ σ)(e0:Ap σ.h v w=some r)(hv:Γ.V σ v x)(hw:Γ.V σ w y)(q:∀a n,Γ.V σ r a→Q a {σ.s with toks:=n}):wA Γ (subscriptTail value slice x y) Q σ:=by
 refine xE (Cv slice x y) fun ops hops=>?_;have q0:=fun a=>q a σ.s.toks;refine DK e0 (fun k h e=>?_) fun e=>Ky e (fun k h e=>?_) fun e=>EZ e (fun k h e=>?_) AD<;>clear e0
 ·subst h
  refine xE hw.i fun u z1q=>?_;subst z1q;refine EZ e (fun s0 h e=>?_) fun e=>Sk e (fun l0 h e=>?_) fun e=>BQ e (fun l0 e1 e=>?_) (fun J=>AD)
  ·subst h
   refine AZ (Option.map_eq_some_iff.mp e) fun c ec z2q=>?_;clear q0;subst z2q;refine xEEA hv.st fun x1 t z2q z3q=>?_;subst z2q;subst z3q;refine BU (W4 ec) fun j z1q hj ej=>?_;clear e ec hw hops;subst z1q;exact NO (by omega) ej (q _ _ (.of_s rfl))
  ·subst h
   refine Cc (NL hv) fun b o xs n z4q h1 h2 h3 h4=>?_;subst z4q;refine BU (W4 e) fun j z1q hj ej=>?_;clear e hw;subst z1q;refine AZ (h4.nth ej) fun a ha hr=>?_;have hlt:j<xs.size:=by rw[←Array.length_toList];exact(List.getElem?_eq_some_iff.mp ha).1
   refine tail_any (T:="tuple") ⟨o,h1,h2⟩ PySem.F.slot_tuple_getitem.lookup (PyProof.Rows.getItem_tuple (items:=xs) ⟨o,h1,h2,n,h3⟩ (by show-(2^63)≤(j:Int);omega) (by show(j:Int)<_;omega) (FR hlt) (x:=a) ?_ (q0 a (VR.mono (Le.refl _) (.of_nt _) _ _ hr))) hops;rw[←Array.getElem?_toList];exact ha
  ·refine A_ (Cw F.S e1 hv) fun b xs n z3q h1 h2=>?_;subst z3q
   refine BU (W4 e) fun j z1q hj ej=>?_;clear hw e;subst z1q;refine AZ (h2.nth ej) fun a ha hr=>?_;refine tail_any (B_ h1).typeIs slot_list_getitem.lookup (wpAny_getItem_list (B_ h1) (by show(0:Int)≤(j:Int);omega) (by show(j:Int)<_;omega) (x:=a) ?_ (q0 a (VR.mono (Le.refl _) (.of_nt _) _ _ hr))) hops;rw[←Array.getElem?_toList];exact ha
 ·subst h
  refine YI e (fun h e=>?_) AD;subst h;refine AZ (Option.map_eq_some_iff.mp e) fun c ec z2q=>?_;clear q0 e;subst z2q;unfold Fr.V VT VR at hv hw;refine xEEA hw fun s u e1 z3q=>?_;clear hw;subst z3q;refine A_ hv fun s' x1 t e2 z4q e3=>?_;clear hops hv;subst z4q;rw[e1] at e2;cases e2;refine Es (F.S.tx s e1) fun J k2 k3=>?_;rw[k2,List.getElem?_drop] at ec;have:s.2+k<s.1.length:=(List.getElem?_eq_some_iff.mp ec).1;unfold Ei at k3;exact NO (j:=s.2+k) (by omega) (by rw[e3];exact ec) (q _ _ (.of_s rfl))
 ·subst h
  refine BQ e (fun l0 e1 e=>?_) (fun J=>AD);refine CV (PQ F.ok.wf F.S e1 hv) fun b kvs m z3q h0 hm h1 h2=>?_;subst z3q;refine xEEA hw.st fun x1 t z2q z3q=>?_;subst z2q;subst z3q;have:=h1.get x1;rw[e] at this;refine AZ this fun a ha hr=>?_;exact tail_any h2.typeIs slot_dict_getitem.lookup (wpAny_getItem_of (strKind_is pg Γ.W.w x1 t) h2.mapOf ha (q _ _ (VR.mono (Le.refl _) hm _ _ hr))) hops
noncomputable def OV(W:Wd)(X:AS)(σ:St):Option V→Value→Prop
 |none,y=>y=.none
 |some v,y=>VT W X σ v y
theorem UA{a:Option V} {n x d:Nat} {y:Value}(e:Kx a d n=some x)(h:OV Γ.W Γ.X σ a y):IsPart y (RQ a)∧∃p:Option (Int×Tok),y=partValue p∧p.map (·.1)=RQ a:=by
 rcases Iy e with⟨rfl|rfl,_⟩|⟨k,rfl,_⟩
 ·cases h;exact⟨.none,Option.none,rfl,rfl⟩
 ·cases VR.no (show VT Γ.W Γ.X σ .none y from h);exact⟨.none,Option.none,rfl,rfl⟩
 ·refine xE (VR.i (show VT Γ.W Γ.X σ (.int (.ofNat k)) y from h)) fun t z1q=>?_;subst z1q
  exact⟨.int _ _,some (.ofNat k,t),rfl,rfl⟩
theorem P8{lo up:Option PySem.Expr} {p:Pos} {a b:Option V} {vl vu:Value} {x1:Str} {t:Tok} {x0 y0:Nat}(ea:Kx a 0 x1.cps.toList.length=some x0)(eb:Kx b x1.cps.toList.length x1.cps.toList.length=some y0)(c:x1.cps.toList.length≤BV)(ha:OV Γ.W Γ.X σ a vl)(hb:OV Γ.W Γ.X σ b vu)
  (q:∀z t' s',(∀b o,σ.s.heap.get? b=some o→s'.heap.get? b=some o)→s'.os=σ.s.os→s'.gens=σ.s.gens→z.cps.toList=cut x1.cps.toList x0 y0→Q (.str z t') s'):
  wpAny Γ.M Γ.A (subscriptTail value (.Slice lo up none p) (.str x1 t) (.ref σ.s.heap.objs.size)) Q Γ.E {σ.s with heap:=σ.s.heap.push (CW vl vu)}:=by
 refine xE (Cv (.Slice lo up none p) (.str x1 t) (.ref σ.s.heap.objs.size)) fun ops hops=>?_;have hsl:(σ.s.heap.push (CW vl vu)).get? σ.s.heap.objs.size=some (CW vl vu):=Heap.get?_push_size _ rfl;refine UM (UA ea ha) fun J pa z2q ma=>?_;subst z2q;refine UM (UA eb hb) fun J pb z2q mb=>?_;subst z2q;have picked:slicePicked x1 pa pb none=(List.range (y0-x0)).map (fun k=>x0+k):=by
  unfold slicePicked;rw[ma,mb];have:=MJ ea eb;rw[←Bx] at this;have e1:Builtin.Str.strSliceIndices (RQ a) (RQ b) 1 x1.length=sliceRange (sliceBounds (RQ a) (RQ b) none x1.length).1 (sliceBounds (RQ a) (RQ b) none x1.length).2.1 1:=rfl;show Builtin.Str.strSliceIndices (RQ a) (RQ b) 1 x1.length=_;rw[e1,this];exact GI x0 y0
 have made:(⟨((slicePicked x1 pa pb none).filterMap (x1.cps[·]?)).toArray⟩:Str).cps.toList=cut x1.cps.toList x0 y0:=by
  rw[picked,List.filterMap_map];have:((fun i=>x1.cps[i]?) ∘fun k=>x0+k)=fun k=>x1.cps.toList[x0+k]? :=by funext k;simp
  rw[this,Hn];rfl
 refine tail_any (T:="str") rfl PySem.F.slot_str_getitem.lookup (wpAny_getItem_str_slice (l:=pa) (u:=pb) (st:=none) ⟨_,hsl,rfl,rfl⟩ rfl ?_) hops;unfold sliceMade
 split
 ·rename_i c2
  have hl:(slicePicked x1 pa pb none).length=x1.length:=by simpa using c2
  refine q _ _ _ (fun J J e=>Heap.get?_push_of_some _ e) rfl rfl ?_;rw[picked,List.length_map,List.length_range,Bx] at hl;have hy:y0≤x1.cps.toList.length:=by rcases Iy eb with⟨_,h2⟩|⟨k,_,h2⟩<;>omega
  have:(x0=0∧x1.cps.toList.length≤y0)∨x1.cps.toList.length=0:=by omega
  rcases this with⟨rfl,z⟩|z
  ·unfold cut;rw[List.drop_zero]
   exact(List.take_of_length_le (by show _≤y0-0;omega)).symm
  ·rw[List.eq_nil_of_length_eq_zero z];simp[cut]
 ·refine⟨?_,q _ _ {σ.s with heap:=σ.s.heap.push (CW _ _),toks:=σ.s.toks+1} (fun J J e=>Heap.get?_push_of_some _ e) rfl rfl made⟩
  rw[Bx,made];unfold cut;rw[List.length_take,List.length_drop];have:=Cd c;omega
theorem VU{lo up:Option PySem.Expr} {p:Pos} {a b:Option V} {vl vu:Value} {l0:List V} {x0 y0:Nat}(F:D Γ ρ σ)(e1:CP σ.h v=some l0)(ea:Kx a 0 l0.length=some x0)(eb:Kx b l0.length l0.length=some y0)(c:l0.length≤BV)(ha:OV Γ.W Γ.X σ a vl)(hb:OV Γ.W Γ.X σ b vu)(hv:Γ.V σ v x)(e:FU false σ.h (.list (cut l0 x0 y0)) K=Γ.res)(q:Gv Γ ρ σ K Q):
  wpAny Γ.M Γ.A (subscriptTail value (.Slice lo up none p) x (.ref σ.s.heap.objs.size)) Q Γ.E {σ.s with heap:=σ.s.heap.push (CW vl vu)}:=by
 refine xE (Cv (.Slice lo up none p) x (.ref σ.s.heap.objs.size)) fun ops hops=>?_;have hsl:(σ.s.heap.push (CW vl vu)).get? σ.s.heap.objs.size=some (CW vl vu):=Heap.get?_push_size _ rfl;have N:Nz Γ.W Γ.l Γ.X Z0 σ {σ with s:={σ.s with heap:=σ.s.heap.push (CW vl vu)} }:=F.S.keep (fun J J e=>Heap.get?_push_of_some _ e) rfl rfl;refine A_ (Cw F.S e1 hv) fun b' xs n z3q h1 h2=>?_;subst z3q;refine xA (UA ea ha) fun pa J=>?_;refine xA (UA eb hb) fun pb J=>?_;have hL:(σ.s.heap.push (CW vl vu)).IsList b' xs:=B_ (Heap.get?_push_of_some _ h1);have sz:xs.size=l0.length:=by rw[←Array.length_toList];exact h2.length
 have BR:slicePick xs (RQ a) (RQ b) none=(cut xs.toList x0 y0).toArray:=by
  unfold slicePick;rw[sz,MJ ea eb];simp only[];rw[GI,List.filterMap_map];have:((fun i=>xs[i]?) ∘fun k=>x0+k)=fun k=>xs.toList[x0+k]? :=by funext k;simp
  rw[this,Hn];rfl
 refine tail_any (Heap.IsList.typeIs (s:={σ.s with heap:=σ.s.heap.push (CW vl vu)}) hL) slot_list_getitem.lookup (wpAny_getItem_list_slice hL ⟨_,hsl,rfl,rfl⟩ pa pb .none (by simp) ?_ ?_) hops
 ·rw[BR]
  exact Hq (n:=0) (tk:=σ.s.toks) (lk:=false) (F.step N) e (BC.mono (N.reg .zero) (.refl _) _ _ ((h2.drop _).take _)) (q.nx N.up)
 ·rw[sz];exact Cd c
theorem kA{lo up:Option PySem.Expr} {p:Pos} {a b:Option V} {vl vu:Value}(F:D Γ ρ σ)(e0:Vo lk σ.h v a b K=Γ.res)(hv:Γ.V σ v x)(ha:OV Γ.W Γ.X σ a vl)(hb:OV Γ.W Γ.X σ b vu)(q:Gv Γ ρ σ K Q):
  wpAny Γ.M Γ.A (subscriptTail value (.Slice lo up none p) x (.ref σ.s.heap.objs.size)) Q Γ.E {σ.s with heap:=σ.s.heap.push (CW vl vu)}:=by
 have hn:=F.ok.hn;refine EZ e0 (fun s0 h e=>?_) fun e=>YI e (fun h e=>?_) fun e=>?_<;>clear e0
 ·subst h
  refine xEEA hv.st fun x1 t z2q z3q=>?_;subst z2q;subst z3q;refine AZ (Ax e hn) fun x0 ea e=>?_;refine AZ (Ax e hn) fun y0 eb e=>?_;refine xA (Ba e hn) fun c e=>?_;exact P8 ea eb (Nat.le_of_ble_eq_true c) ha hb fun z t' s' k1 k2 k3 k4=>q.keep F k1 k2 k3 e (.of_s k4)
 ·subst h
  refine AZ (Ax e hn) fun u h1 e=>?_;refine AZ (Ax e hn) fun w h2 e=>?_;refine Ky e (fun i h e=>Ky e (fun j h' e=>?_) fun z=>absurd z hn) fun z=>absurd z hn;subst h;clear e;subst h';subst h1;clear e;subst h2;unfold Fr.V VT VR at hv;refine A_ hv fun s x1 t e2 z4q e3=>?_;clear hv;subst z4q;refine Es (F.S.tx s e2) fun J k2 k3=>?_;have up:∀{k y},OV Γ.W Γ.X σ (some (.ps k)) y→OV Γ.W Γ.X σ (some (.int (.ofNat (s.2+k)))) y:=fun h=>by
   unfold OV VT VR at h⊢;refine xEEA h fun s' t e4 z3q=>?_;subst z3q;rw[e2] at e4;clear h;cases e4;exact⟨t,rfl⟩
  refine P8 (x0:=cC (Nat.ble (s.2+i) x1.cps.toList.length) x1.cps.toList.length (s.2+i)) (y0:=cC (Nat.ble (s.2+j) x1.cps.toList.length) x1.cps.toList.length (s.2+j)) rfl rfl (by rw[e3];unfold Ei at k3;unfold BV;omega) (up ha) (up hb) fun z t' s' k4 k5 k6 k7=>q.keep F k4 k5 k6 e (.of_s ?_);rw[k7,e3,k2];unfold cut;rw[List.drop_drop];have cl:∀{k n:Nat},cC (Nat.ble k n) n k=min k n:=fun{k n}=>by
   unfold cC;cases c:Nat.ble k n with
   |true=>have:=Nat.le_of_ble_eq_true c;show k=_;omega
   |false=>have:¬k≤n:=fun z=>(by rw[Nat.ble_eq_true_of_le z] at c;exact Di c);show n=_;omega
  rw[cl,cl]
  by_cases c:s.2+i≤s.1.length
  ·rw[Nat.min_eq_left c]
   apply List.ext_getElem?;intro m;rw[List.getElem?_take,List.getElem?_take,List.getElem?_drop]
   by_cases c2:s.2+i+m<s.1.length
   ·have:(m<min (s.2+j) s.1.length-(s.2+i))=(m<j-i):=propext (by omega)
    have k:Nat.sub (min (s.2+j) s.1.length) (s.2+i)=min (s.2+j) s.1.length-(s.2+i):=rfl;have k':Nat.sub j i=j-i:=rfl;rw[k,k'];simp only[this]
   ·rw[List.getElem?_eq_none_iff.mpr (by omega)];split<;>split<;>rfl
  ·rw[List.drop_eq_nil_iff.mpr (by omega),List.drop_eq_nil_iff.mpr (by omega)];simp
 ·refine AZ (Ax e hn) fun l0 e1 e=>?_
  refine AZ (Ax e hn) fun x0 ea e=>?_;refine AZ (Ax e hn) fun y0 eb e=>?_;refine xA (Ba e hn) fun c e=>?_;exact VU F e1 ea eb (Nat.le_of_ble_eq_true (A8 c).1) ha hb hv e q
end
theorem Qw(k:Nat):(Str.ofString (toString k)).cps.toList=(Nat.toDigits 10 k).map Char.toNat:=by
 rw[Str.ofString_eq_toList];show((toString k).toList.map Char.toNat)=_;congr 1;show(Nat.repr k).toList=_;unfold Nat.repr;rw[String.toList_ofList]
theorem P6(i:Int):(Str.ofString (toString i)).cps.toList=NN i:=by
 cases i with
 |ofNat k=>exact Qw k
 |negSucc k=>
  rw[Str.ofString_eq_toList];show(("-" ++toString (Nat.succ k)).toList.map Char.toNat)=_;rw[String.toList_append,List.map_append];show _=45::(Nat.toDigits 10 (Nat.succ k)).map Char.toNat;rw[←Qw,Str.ofString_eq_toList];rfl
noncomputable def YT:BM→Str
 |.startswith=> "startswith"
 |.join=> "join"
 |.lstrip=> "lstrip"
 |.append=> "append"
 |.pop=> "pop"
 |.get=> "get"
noncomputable def YU:BM→String
 |.startswith=> "str.startswith"
 |.join=> "str.join"
 |.lstrip=> "str.lstrip"
 |.append=> "list.append"
 |.pop=> "list.pop"
 |.get=> "dict.get"
theorem Th:∀{p q:List Nat},HY p q=(q.take p.length==p)
 | [],q=>by simp[HY]
 |_::_,[]=>by simp[HY]
 |x::p,y::q=>by
  show(match Nat.beq x y with|true=>HY p q|false=>false)=_
  by_cases h:x=y
  ·subst h
   rw[show Nat.beq x x=true from Nat.beq_refl x];show HY p q=_;rw[Th];simp
  ·rw[show Nat.beq x y=false from by cases c:Nat.beq x y with|false=>rfl|true=>exact absurd (Nat.eq_of_beq_eq_true c) h]
   have:(List.take (x::p).length (y::q)==x::p)=false:=by
    simp only[List.length_cons,List.take_succ_cons,beq_eq_false_iff_ne,ne_eq,List.cons.injEq,not_and];exact fun z=>absurd z.symm h
   rw[this]
theorem P7(cs:List Nat):∀l:List Nat,JG cs l=l.drop (l.takeWhile (fun c=>cs.contains c)).length
 | []=>rfl
 |c::r=>by
  show(match E6 c cs with|true=>JG cs r|false=>c::r)=_;rw[Ht];cases h:cs.contains c with
  |true=>show JG cs r=_;rw[P7 cs r,List.takeWhile_cons,h];simp
  |false=>rw[List.takeWhile_cons,h];simp
section
variable{P:Params} {ca:Ca} {g:Hp} {μ:Mu}
theorem Td:∀{l0:List V} {ys:List Value} {r:List Nat},Xc l0=some r→BC P ca g μ l0 ys→∃zs:List Str,StrsAre ys zs∧(Str.join Str.empty zs).cps.toList=r∧(zs.map (·.length)).sum=r.length
 | [],ys,r,e,h=>by
  unfold BC at h;subst h;cases e;exact⟨[],.nil,rfl,rfl⟩
 |v::r0,ys,r,e,h=>by
  refine BE h.of_cons fun a q z2q h1 h2=>?_;subst z2q;refine EZ e (fun s0 h e=>BQ e (fun q0 e1 e2=>?_) (fun J=>AD)) AD;subst h;cases e2;refine xEEA h1.st fun x t z2q z3q=>?_;subst z2q;clear h1 h;subst z3q;refine BU (Td e1 h2) fun zs z1 z2 z3=>?_;refine⟨x::zs,.cons x t z1,?_,?_⟩
  ·cases zs with
   |nil=>clear e z3 e1;cases z2;show x.cps.toList=x.cps.toList++ [];simp
   |cons z zs=>
    show((x++Str.empty)++Str.join Str.empty (z::zs)).cps.toList=_;rw[PR,PR,z2];show x.cps.toList++ []++q0=_;simp
  ·rw[List.map_cons,List.sum_cons,z3,List.length_append,Bx]
end
theorem F6{β α:Type} {vs:List β} {d r:α} {f:β→α}(e:c1 vs d f=r)(n:d≠r):∃v,vs= [v]∧f v=r:=rL e (fun v h e=>⟨v,h,e⟩) fun z=>absurd z n
section
variable{Γ:Fr} {ρ:Af} {σ:St} {K:V→HA→RA X} {Q:Value→Shared→Prop} {v w r:V} {x y:Value} {lk:Bool} {vs:List V} {as:List Value}
theorem Fu{v:V}(h:Γ.Vs σ [v] as):∃a,as= [a]∧Γ.V σ v a:=by
 refine BE h.of_cons fun a q z2q h1 h2=>?_;subst z2q;unfold BC at h2;subst h2;exact⟨a,rfl,h1⟩
theorem WH{v w:V}(h:Γ.Vs σ [v,w] as):∃a b,as= [a,b]∧Γ.V σ v a∧Γ.V σ w b:=by
 refine BE h.of_cons fun a q z2q h1 h2=>?_;subst z2q;refine AZ (Fu (Γ:=Γ) h2) fun b z1q h3=>?_;clear h2 h;subst z1q;exact⟨a,b,rfl,h1,h3⟩
theorem ae{α:Type} {vs:List V} {d r:α} {f:V→V→α}(e:l9 vs d f=r)(n:d≠r):∃a b,vs= [a,b]∧f a b=r:=by
 match vs,e with
 | [],e=>exact absurd e n
 |a::q,e=>
  refine AZ (F6 (show c1 q d (f a)=r from e) n) fun b z1q e=>?_;subst z1q;exact⟨a,b,rfl,e⟩
theorem YG(F:D Γ ρ σ){f:BF}(e:Sj f vs=some r)(hv:Γ.Vs σ vs as)(q:∀a s',(∀b o,σ.s.heap.get? b=some o→s'.heap.get? b=some o)→s'.os=σ.s.os→s'.gens=σ.s.gens→Γ.V {σ with s:=s'} r a→Q a s'):wA Γ (call (Q2 f) as) Q σ:=by
 have q:∀a n,Γ.V σ r a→Q a {σ.s with toks:=n}:=fun a n h=>q a _ (fun J J e=>e) rfl rfl h;cases f with
 |ord=>
  refine AZ (F6 e AD) fun v z1q e=>?_;subst z1q;refine EZ e (fun s0 h e=>?_) AD;refine AZ (F6 e AD) fun c z1q e=>?_;subst z1q;subst h;cases e;refine AZ (Fu hv) fun a z1q ha=>?_;subst z1q;refine xEEA ha.st fun x t z2q hx=>?_;subst z2q;cases G7 (y:=⟨#[c]⟩) hx;exact PySem.P.ord_of_char (q _ _ .of_i)
 |chr=>
  refine AZ (F6 e AD) fun v z1q e=>?_;subst z1q;refine DK e (fun i h e=>Ji e (fun c h2 e=>?_) AD) AD;subst h;subst h2;refine xA (D6 e) fun c1 z1q=>?_;subst z1q;refine AZ (Fu hv) fun a z1q ha=>?_;subst z1q;refine xE ha.i fun t z1q=>?_;subst z1q;have:=Ef c1;exact chr_of_range (by show(0:Int)≤(c:Int);omega) (by show(c:Int)≤_;omega) (q _ _ (.of_s rfl))
 |str=>
  refine AZ (F6 e AD) fun v z1q e=>?_;subst z1q;refine AZ (Fu hv) fun a z1q ha=>?_;subst z1q;refine EZ e (fun s0 h e=>?_) fun e=>DK e (fun i h e=>?_) AD
  ·subst h;cases e
   refine xEEA ha.st fun x t z2q z3q=>?_;subst z2q;subst z3q;exact PySem.P.str_of_str (q _ σ.s.toks (.of_s rfl))
  ·subst h
   refine xA (D6 e) fun c1 z1q=>?_;subst z1q;refine xE ha.i fun t z1q=>?_;subst z1q;refine PySem.P.str_of_int ?_ (q _ _ (.of_s (P6 i)))
   by_cases hz:i.natAbs=0
   ·rw[hz];decide
   ·exact Nat.lt_of_lt_of_le ((Nat.log2_lt hz).mpr (Ef c1)) (by decide)
 |int=>
  refine AZ (F6 e AD) fun v z1q e=>?_;subst z1q;refine NA e (fun b h e=>?_) AD;subst h;cases e;refine AZ (Fu hv) fun a z1q ha=>?_;subst z1q;cases ha.b;refine call_int_bool ?_;cases b<;>exact q _ _ .of_i
 |abs=>
  refine AZ (F6 e AD) fun v z1q e=>?_;subst z1q;refine DK e (fun i h e=>?_) AD;subst h;cases e;refine AZ (Fu hv) fun a z1q ha=>?_;subst z1q;refine xE ha.i fun t z1q=>?_;subst z1q;refine call_abs_int fun u tk=>?_;have:(if i<0 then-i else i)=Int.ofNat i.natAbs:=by
   show _=(i.natAbs:Int)
   split<;>omega
  rw[this];exact q _ _ .of_i
 |max=>
  rename_i q'
  match vs,e with
  |a::l1,e=>
   refine AZ (F6 (show c1 l1 none _=some r from e) AD) fun b z1q e=>?_;subst z1q;refine DK e (fun i h e=>DK e (fun j h2 e=>?_) AD) AD;subst h;subst h2;clear q;cases e;refine BE (WH hv) fun J J z2q h1 h2=>?_;subst z2q;refine xE h1.i fun t z1q=>?_;subst z1q;refine xE h2.i fun u z1q=>?_;clear h2 hv;subst z1q;refine max_two_ints F.ok.fa.handled fun h₁ tk k=>?_;have:(if j>i then Value.int j u else .int i t)=.int (cC (decide (j>i)) i j) (if j>i then u else t):=by
    unfold cC
    by_cases c:j>i<;>simp[c]
   rw[this];exact q' _ _ k rfl rfl .of_i
  | [],e=>exact AD e
 |_=>exact AD e
theorem jg(F:D Γ ρ σ){n:Nat}(e0:jh σ.h v=some n)(c:n≤1048576)(hv:Γ.V σ v x)(q:∀t k,Q (.int (.ofNat n) t) {σ.s with toks:=k}):wA Γ (call (Q2 .len) [x]) Q σ:=by
 show wA Γ (call (.builtin "len") [x]) Q σ;refine BQ e0 (fun m e1 e2=>?_) fun J e=>?_
 ·cases e2
  cases v with
  |str s0=>
   cases e1;refine xEEA hv.st fun x t z2q z3q=>?_;subst z2q;clear e0 hv;subst z3q;rw[←Bx] at c q;exact PySem.P.len_str (by omega) (q _ _)
  |tup l0=>
   cases e1;refine Cc (NL hv) fun b o xs m z4q h1 h2 h3 h4=>?_;subst z4q;have sz:xs.size=l0.length:=by rw[←Array.length_toList,h4.length]
   refine PyProof.Rows.len_tuple (items:=xs) ⟨o,h1,h2,m,h3⟩ (by rw[sz];omega) ?_;rw[sz];exact q _ _
  |_=>exact AD e1
 ·refine AZ (Option.map_eq_some_iff.mp e) fun l0 e3 e4=>?_
  refine A_ (Cw F.S e3 hv) fun b xs m z3q h1 h2=>?_;subst z3q;have sz:xs.size=n:=by rw[←Array.length_toList,h2.length,e4]
  refine call_len_list (B_ h1) (by rw[sz];omega) ?_;rw[sz];exact q _ _
theorem YF(F:D Γ ρ σ){f:BF}(e0:Aq lk f vs σ.h K=Γ.res)(hv:Γ.Vs σ vs as)(q:Gv Γ ρ σ K Q):wA Γ (call (Q2 f) as) Q σ:=by
 have hn:=F.ok.hn;have rest:oA (Sj f vs) (fun v=>K v σ.h)=Γ.res→wA Γ (call (Q2 f) as) Q σ:=fun e=>by
  refine AZ (Ax e hn) fun v e1 e2=>?_;exact YG F e1 hv fun a s' k1 k2 k3 h=>q.keep F k1 k2 k3 e2 h
 cases f with
 |len=>
  refine AZ (F6 e0 hn) fun v z1q e=>?_;subst z1q;refine AZ (Fu hv) fun a z1q ha=>?_;subst z1q;refine YI e (fun h e=>?_) fun e=>?_
  ·subst h
   have ha':=ha;unfold Fr.V VT VR at ha;refine A_ ha fun s x1 t e2 z4q e3=>?_;clear ha' rest ha hv;subst z4q;have k3:=(F.S.tx s e2).2.2;have sz:x1.length=s.1.length:=by rw[Bx,e3]
   unfold Ei at k3;show wA Γ (call (.builtin "len") [_]) Q σ;refine PySem.P.len_str (by omega) (q.tok F e ?_);unfold Fr.V VT VR;exact⟨s,_,e2,by rw[sz];rfl⟩
  ·refine AZ (Ax e hn) fun n e1 e=>?_
   refine xA (Ba e hn) fun c e=>?_;exact jg F e1 (Nat.le_of_ble_eq_true c) ha fun t k=>q.tok F e .of_i
 |list=>
  refine AZ (F6 e0 hn) fun v z1q e=>?_;subst z1q;refine AZ (Fu hv) fun a z1q ha=>?_;subst z1q;refine AZ (Ax e hn) fun l0 e1 e=>?_;refine xA (Ba e hn) fun c e=>?_;refine A_ (Cw F.S e1 ha) fun b xs m z3q h1 h2=>?_;clear rest hv ha;subst z3q;have sz:xs.size=l0.length:=by rw[←Array.length_toList,h2.length]
  show wA Γ (call (.type "list") [_]) Q σ;exact call_list_seq (hsz:=by rw[sz];exact Cd (Nat.le_of_ble_eq_true (A8 c).1)) b (.inl rfl) h1 rfl rfl fun h₁ c' k1 k2=>Nf (lk:=false) F e (Heap.get?_none_of_le (Nat.le_refl _)) k1 k2 rfl rfl h2 q
 |_=>exact rest e0
theorem jN(F:D Γ ρ σ){f:BM}(e:B7 σ.h f v=true)(hv:Γ.V σ v x){G:Prop}(h1:(f=.startswith∨f=.join∨f=.lstrip)→∀y t,x=.str y t→G)(h2:(f=.append∨f=.pop)→∀b xs n,x=.ref b→σ.s.heap.get? b=some (listOf xs n)→G)(h3:f=.get→∀b kvs,x=.ref b→σ.s.heap.DictOf (strKind pg Γ.W.w) b kvs→G):G:=by
 have st:ZG v=true→∃y t,x=.str y t:=fun e=>YI e (fun h J=>by
  subst h;unfold Fr.V VT VR at hv;refine A_ hv fun J y t J h J=>?_;exact⟨y,t,h⟩) fun e=>EZ e (fun s h J=>by
  subst h;refine xEEA hv.st fun y t h J=>?_;exact⟨y,t,h⟩) nofun
 have li:(C_ σ.h v).isSome=true→∃b xs n,x=.ref b∧σ.s.heap.get? b=some (listOf xs n):=fun e=>by
  refine xE (Option.isSome_iff_exists.mp e) fun l0 e=>?_;obtain⟨s,c,xs,n,_,_,h3,_,h5,_⟩:=JU F.S e hv;exact⟨_,xs,n,h3,h5⟩
 cases f with
 |startswith=>refine gB (st e) fun y t h=>?_;exact h1 (.inl rfl) y t h
 |join=>refine gB (st e) fun y t h=>?_;exact h1 (.inr (.inl rfl)) y t h
 |lstrip=>refine gB (st e) fun y t h=>?_;exact h1 (.inr (.inr rfl)) y t h
 |append=>refine Fi (li e) fun b xs n h k=>?_;exact h2 (.inl rfl) b xs n h k
 |pop=>refine Fi (li e) fun b xs n h k=>?_;exact h2 (.inr rfl) b xs n h k
 |get=>
  refine xE (Option.isSome_iff_exists.mp e) fun l0 e=>?_;refine CV (PQ F.ok.wf F.S e hv) fun b kvs m h J J J k=>?_;exact h3 rfl b kvs h k
theorem eQ(F:D Γ ρ σ){f:BM} {pl:Sem Bool} {Q:Value×List Value→Shared→Prop}(e:B7 σ.h f v=true)(hv:Γ.V σ v x)(q:Q (.builtin (YU f),[x]) σ.s):wA Γ (getMethod x (YT f) pl) Q σ:=by
 refine jN F e hv (fun c y t h=>?_) (fun c b xs n h k=>?_) fun c b kvs h k=>?_<;>subst h
 ·rcases c with rfl|rfl|rfl
  ·have q:Q (.builtin "str.startswith",[.str y t]) σ.s:=q
   show wA Γ (getMethod (.str y t) ("startswith":Str) pl) Q σ
   with_reducible exact GM.startswith q
  ·have q:Q (.builtin "str.join",[.str y t]) σ.s:=q
   show wA Γ (getMethod (.str y t) ("join":Str) pl) Q σ
   with_reducible exact GM.join q
  ·have q:Q (.builtin "str.lstrip",[.str y t]) σ.s:=q
   show wA Γ (getMethod (.str y t) ("lstrip":Str) pl) Q σ
   with_reducible exact GM.lstrip q
 ·have hT:σ.s.TypeIs (.ref b) "list":=⟨_,k,rfl⟩
  have hd:∀a,Value.ref b=.ref a→∃o,σ.s.heap.get? a=some o∧o.dict=none:=fun J e=>by cases e;exact⟨_,k,rfl⟩
  rcases c with rfl|rfl
  ·have q:Q (.builtin "list.append",[.ref b]) σ.s:=q
   show wA Γ (getMethod (.ref b) ("append":Str) pl) Q σ
   with_reducible exact getMethod_builtin hT PySem.F.plainAttrs_list PySem.F.slot_list_append PySem.F.type_list_append hd q
  ·have q:Q (.builtin "list.pop",[.ref b]) σ.s:=q
   show wA Γ (getMethod (.ref b) ("pop":Str) pl) Q σ
   with_reducible exact getMethod_builtin hT PySem.F.plainAttrs_list PySem.F.slot_list_pop PySem.F.type_list_pop hd q
 ·subst c
  have q:Q (.builtin "dict.get",[.ref b]) σ.s:=q;show wA Γ (getMethod (.ref b) ("get":Str) pl) Q σ
  with_reducible exact getMethod_builtin k.typeIs PySem.F.plainAttrs_dict PySem.F.slot_dict_get PySem.F.type_dict_get k.mapOf.noDict q
theorem Hm(F:D Γ ρ σ){l0 l1:List V} {s0:Sl} {c:B5} {xs:Array Value} {n:Nat} {s':Shared} {h':HA}(hc:σ.cel s0=some c)(ho:c.o=.list l0)(h1:cel h' σ.μ s0=some ⟨.list l1,c.p,c.m⟩)(h2:∀s,s≠s0→cel h' σ.μ s=σ.cel s)(sm:Q9 σ.h h')(hX:¬Γ.X c.p.1)
  (hk:∀b y,b≠c.p.1→σ.s.heap.get? b=some y→s'.heap.get? b=some y) (e1:s'.heap.get? c.p.1=some (listOf xs n)) (e2:BC Γ.W.w.params Γ.W.ca (σ.reg Γ.X) c.m l1 xs.toList) (k1:s'.os=σ.s.os) (k2:s'.gens=σ.s.gens):Nz Γ.W Γ.l Γ.X Z0 σ ⟨h',σ.μ,s'⟩:=by
 refine F.S.turn hc h1 h2 (fun a h=>?_) (fun b y n e=>hk b y (fun z=>n ?_) e) (fun b h=>?_) sm k1 k2 fun gf' le=>⟨xs,n,Ac e1 hX,BC.mono le (.refl _) _ _ e2⟩
 ·unfold B5.has;rw[ho];exact h
 ·unfold B5.has;rw[ho];exact z
 ·unfold B5.has at h;rw[ho] at h
  cases(show b=c.p.1 from h);rw[e1];nofun
theorem WG{h:Heap} {b:Addr} {xs:Array Value} {n:Nat} {f:Array Value→Array Value}(e:h.get? b=some (listOf xs n)):(h.update b (Obj.mapSeq f)).get? b=some (Obj.mapSeq f (listOf xs n)):=Heap.get?_update_self _ e rfl
theorem gQ{o:V}(e:gS o v=true)(hv:Γ.V σ v x):VR Γ.W.w.params Γ.W.ca (σ.reg Γ.X) (cond (f5 o) σ.μ.nlo σ.μ.nt) v x:=by
 unfold gS at e;refine B3 e (fun h e=>?_) fun h e=>?_
 ·rw[h];exact hv.nlo e
 ·rw[h];exact hv.nt e
end
section
variable{Γ:Fr} {ρ:Af} {σ:St} {K:V→HA→RA X} {Q:Value→Shared→Prop} {v w r:V} {x y:Value} {lk:Bool} {vs:List V} {as:List Value}
theorem P9{y z:Str} {t u v:Tok} {a:Nat} {b:Bool}(e:(match Nat.ble a y.cps.toList.length with|true=>HY z.cps.toList (y.cps.toList.drop a)|false=>false)=b)(q:Q (.bool b) σ.s):wA Γ (call (.builtin "str.startswith") [.str y t,.str z u,.int (.ofNat a) v]) Q σ:=by
 refine SC.startswith3 ?_;have e1:fromIndex y.length (Int.ofNat a)=a:=by
  unfold fromIndex;show(max 0 (if(a:Int)<0 then(a:Int)+(y.length:Int) else(a:Int))).toNat=a;rw[if_neg (by omega)];omega
 have e2:Txt.startswith3 y z (Int.ofNat a)=b:=by
  rw[←e];unfold Txt.startswith3;rw[e1,StrLaws.subAt_eq,Th,←Bx,←Bx]
  by_cases c:a≤y.length
  ·rw[Nat.ble_eq_true_of_le c]
   show _=((y.cps.toList.drop a).take z.length==z.cps.toList);cases c2:((y.cps.toList.drop a).take z.length==z.cps.toList) with
   |false=>simp
   |true=>
    have:=congrArg List.length (beq_iff_eq.mp c2);rw[List.length_take,List.length_drop,←Bx,←Bx] at this;simp only[Bool.and_true,decide_eq_true_eq];omega
  ·have:Nat.ble a y.length=false:=by
    cases c2:Nat.ble a y.length with
    |false=>rfl
    |true=>exact absurd (Nat.le_of_ble_eq_true c2) c
   rw[this,decide_eq_false (show¬a+z.length≤y.length by omega)];rfl
 rw[e2];exact q
theorem XS{y z:Str} {t u:Tok}(c:y.cps.toList.length≤BV)(q:∀x t' k,x.cps.toList=JG z.cps.toList y.cps.toList→Q (.str x t') {σ.s with toks:=k}):wA Γ (call (.builtin "str.lstrip") [.str y t,.str z u]) Q σ:=by
 rw[←Bx] at c;refine SC.lstripChars (fun t' k=>q _ _ _ ?_) (G8 c);unfold Txt.lstripChars;rw[PyProof.Rows.stripBy_eq,StrLaws.strSub_toList,P7];have e2:stripLo z.cps.contains true y=(y.cps.toList.takeWhile (fun c=>z.cps.toList.contains c)).length:=by
  unfold stripLo;rw[if_pos rfl];have:z.cps.contains=fun c=>z.cps.toList.contains c:=by funext c;simp
  rw[this]
 rw[e2];refine List.take_of_length_le ?_;rw[List.length_drop];show _≤y.length-_;rw[Bx];omega
theorem Ya(F:D Γ ρ σ){l0:List V}(e1:C_ σ.h v=some l0)(hv:Γ.V σ v x)(c:l0.length<BV)(c2:gS v w=true)(hw:Γ.V σ w y)(e:K .none (GJ σ.h v (.list (l0++ [w])))=Γ.res)(q:Gv Γ ρ σ K Q):wA Γ (call (.builtin "list.append") [x,y]) Q σ:=by
 have st:=gQ c2 hw;obtain⟨s,c0,xs,n,k1,k2,rfl,k3,h1,hX,h2,k4,k5,k6⟩:=JU F.S e1 hv;have sz:xs.size=l0.length:=by rw[←Array.length_toList,h2.length]
 unfold BV at c;refine call_meets PySem.F.slot_list_append ⟨_,h1,rfl⟩ PySem.F.entry_list_append (PySem.F.args_list_append_2 _ _) (list_append c0.p.1 xs n y (G8 (by omega))) ⟨h1,?_⟩;refine q.go F (Hm F (n:=n+1) (xs:=xs.push y) (s':={σ.s with heap:=σ.s.heap.update c0.p.1 (Obj.mapSeq (·.push y))}) k1 k2 (k4 _) (k5 _) (k6 _) hX (fun b y hb e=>CE _ hb e) ((WG h1).trans (by simp[Obj.mapSeq])) ?_ rfl rfl) e .of_no;rw[Array.toList_push];exact h2.append (.cons (k3▸st) .nil)
theorem ar(F:D Γ ρ σ){l0 l1:List V} {i:Nat}(e1:C_ σ.h v=some l0)(hv:Γ.V σ v x)(c:l0.length≤BV)(h0:l0[i]? =some w)(he:l1=l0.eraseIdx i)(e:K w (GJ σ.h v (.list l1))=Γ.res)(q:Gv Γ ρ σ K Q){t:Tok}(ha:as= []∧i=l0.length-1∨as= [.int 0 t]∧i=0):wA Γ (call (.builtin "list.pop") (x::as)) Q σ:=by
 obtain⟨s,c0,xs,n,k1,k2,rfl,k3,h1,hX,h2,k4,k5,k6⟩:=JU F.S e1 hv;have sz:xs.size=l0.length:=by rw[←Array.length_toList,h2.length]
 unfold BV at c;refine AZ (h2.nth h0) fun a ha' hr=>?_;have hi:i<l0.length:=(List.getElem?_eq_some_iff.mp h0).1;have hx:xs[i]? =some a:=by rw[←Array.getElem?_toList];exact ha'
 have fin:Q a {σ.s with heap:=σ.s.heap.update c0.p.1 (Obj.mapSeq fun xs'=>xs'.eraseIdxIfInBounds i)}:=by
  have N:=Hm F (n:=n+1) (xs:=xs.eraseIdxIfInBounds i) (l1:=l1) (s':={σ.s with heap:=σ.s.heap.update c0.p.1 (Obj.mapSeq fun xs'=>xs'.eraseIdxIfInBounds i)}) k1 k2 (k4 _) (k5 _) (k6 _) hX (fun b y hb e=>CE _ hb e) ((WG h1).trans (by
   have:=SW (xs:=xs) (k:=i) (by omega);simp[Obj.mapSeq,this])) (by
   rw[he,Array.toList_eraseIdxIfInBounds,List.eraseIdx_eq_take_drop_succ,List.eraseIdx_eq_take_drop_succ];exact(h2.take i).append (h2.drop _)) rfl rfl
  exact q.go F N e (VR.nz .zero N (VR.mono (Le.refl _) ((k3▸XM).trans (.of_nt _)) _ _ hr))
 clear ha' h0 he;rcases ha with⟨rfl,rfl⟩|⟨rfl,rfl⟩
 ·have hm:xs.size-1=l0.length-1:=by omega
  rw[←hm] at hx fin;exact call_meets PySem.F.slot_list_pop ⟨_,h1,rfl⟩ PySem.F.entry_list_pop (PySem.F.args_list_pop_1 _) (list_pop_last c0.p.1 xs n a hx (G8 (by omega))) ⟨h1,fin⟩
 ·exact call_meets PySem.F.slot_list_pop ⟨_,h1,rfl⟩ PySem.F.entry_list_pop (PySem.F.args_list_pop_2 _ _) (list_pop_at c0.p.1 xs n (Int.ofNat 0) t 0 a (by decide) (FR (by omega)) hx (G8 (by omega))) ⟨h1,fin⟩
theorem YD(F:D Γ ρ σ){f:BM}(e0:AH f v vs σ.h K=Γ.res)(ho:Γ.V σ v x)(hv:Γ.Vs σ vs as)(q:Gv Γ ρ σ K Q):wA Γ (call (.builtin (YU f)) (x::as)) Q σ:=by
 have hn:=F.ok.hn;cases f with
 |startswith=>
  refine xEEA (ae e0 hn) fun p a z2q e=>?_;subst z2q;refine BE (WH hv) fun xp xa z2q hp ha=>?_;subst z2q;refine YI e (fun h e=>?_) fun e=>EZ e (fun s h e=>?_) fun z=>absurd z hn
  ·subst h
   refine AZ (Ax e hn) fun r e1 e2=>?_;refine EZ e1 (fun p0 h e=>B3 e (fun c e=>Ky e (fun k h' e5=>?_) AD) (fun J=>AD)) AD;clear e1;subst h;subst h';cases e5;refine xEEA hp.st fun z u z2q z3q=>?_;subst z2q;subst z3q;unfold Fr.V VT VR at ho ha;refine xEEA ha fun s' w h1 z3q=>?_;subst z3q;refine A_ ho fun s y t h2 z4q h3=>?_;subst z4q;rw[h1] at h2;cases h2;refine P9 (b:=HY z.cps.toList (σ.h.chs.drop k)) ?_ (q.same F e2 .of_b);rw[h3,(F.S.tx _ h1).2.1,List.drop_drop];cases c2:Nat.ble (Nat.add s'.2 k) s'.1.length with
   |true=>rfl
   |false=>
    have:¬s'.2+k≤s'.1.length:=fun z=>by rw[show Nat.ble (Nat.add s'.2 k) s'.1.length=true from Nat.ble_eq_true_of_le z] at c2;exact Di c2
    have n:s'.1.drop (s'.2+k)= []:=List.drop_eq_nil_iff.mpr (by omega);rw[n];clear e2 hp hv
    generalize z.cps.toList=zz at c⊢
    cases zz with
    |nil=>exact Ak c
    |cons=>rfl
  ·subst h
   refine AZ (Ax e hn) fun r e1 e2=>?_;refine xEEA ho.st fun y t z2q z3q=>?_;subst z2q;subst z3q;refine EZ e1 (fun p0 h e=>DK e (fun i h' e=>Ji e (fun k h2 e5=>?_) AD) AD) AD;clear e1;subst h;subst h';subst h2;cases e5;refine xEEA hp.st fun z u z2q z3q=>?_;subst z2q;clear e0 e hp;subst z3q;refine xE ha.i fun w z1q=>?_;clear hv ha;subst z1q;exact P9 rfl (q.same F e2 .of_b)
 |join=>
  refine EZ e0 (fun s h e=>?_) fun z=>absurd z hn;refine xA (Ba e hn) fun c e=>?_;subst h;refine AZ (F6 e hn) fun v z1q f1=>?_;clear e;subst z1q;refine AZ (Ax f1 hn) fun l0 e1 f2=>?_;refine AZ (Ax f2 hn) fun r0 e2 f3=>?_;refine xA (Ba f3 hn) fun c2 f4=>?_;clear e f1 f2 f3;refine xEEA ho.st fun y t z2q hy=>?_;subst z2q;cases s with
  |cons=>exact Ak c
  |nil=>
   cases G7 (y:=Str.empty) hy;refine AZ (Fu hv) fun a z1q ha=>?_;subst z1q;refine A_ (Cw F.S e1 ha) fun b xs m z3q h1 h2=>?_;subst z3q;refine BU (Td e2 h2) fun zs z1 z2 z3=>?_;have c2:r0.length≤1048576:=Nat.le_of_ble_eq_true c2;refine join_list (B_ h1) z1 ?_ fun t' k=>q.tok F f4 (.of_s ?_)
   ·rw[z3];show r0.length+zs.length*0≤_;omega
   ·show(Builtin.Str.glued Str.empty zs).cps.toList=_
    rw[StrLaws.glued_eq_join,z2]
 |lstrip=>
  refine EZ e0 (fun s h e=>?_) fun z=>absurd z hn;subst h;refine AZ (F6 e hn) fun v z1q e=>?_;subst z1q;refine EZ e (fun cs h e=>?_) fun z=>absurd z hn;subst h;refine xA (Ba e hn) fun c e=>?_;refine xEEA ho.st fun y t z2q z3q=>?_;subst z2q;subst z3q;refine AZ (Fu hv) fun a z1q ha=>?_;subst z1q;refine xEEA ha.st fun z u z2q z3q=>?_;subst z2q;subst z3q;exact XS (Nat.le_of_ble_eq_true c) fun x t' k h=>q.tok F e (.of_s h)
 |append=>
  refine AZ (Ax e0 hn) fun l0 e1 e=>?_;refine AZ (F6 e hn) fun v z1q e=>?_;subst z1q;refine xA (Ba e hn) fun c e=>?_;refine AZ (Fu hv) fun a z1q ha=>?_;subst z1q;exact Ya F e1 ho (Ef (A8 c).1) (A8 c).2 ha e q
 |pop=>
  refine AZ (Ax e0 hn) fun l0 e1 e=>?_;refine xA (Ba e hn) fun c e=>?_;have c:=Nat.le_of_ble_eq_true c
  match vs,e,hv with
  | [],e,hv=>
   unfold Fr.Vs Q8 BC at hv;subst hv;refine AZ (Ax e hn) fun w e2 e=>?_;exact ar F e1 ho c e2 (by show l0.take (l0.length-1)=l0.eraseIdx (l0.length-1);rw[List.eraseIdx_eq_take_drop_succ,List.drop_of_length_le (by omega),List.append_nil]) e q (t:=0) (.inl ⟨rfl,rfl⟩)
  | [i],e,hv=>
   refine xA (Ba e hn) fun c0 f1=>?_;clear e;refine AZ (Fu hv) fun a z1q ha=>?_;subst z1q;refine DK c0 (fun j h e=>Ji e (fun m h2 f2=>?_) Ak) Ak;clear c0;subst h;subst h2;have f2:=Nat.eq_of_beq_eq_true f2;clear e0 e;subst f2;refine xE ha.i fun t z1q=>?_;clear ha hv;subst z1q;cases l0 with
   |nil=>exact absurd f1 hn
   |cons w r0=>exact ar F (i:=0) e1 ho c rfl rfl f1 q (.inr ⟨rfl,rfl⟩)
  |_::_::_,e,_=>exact absurd e hn
 |get=>
  refine AZ (Ax e0 hn) fun l0 e1 e=>?_;refine xEEA (ae e hn) fun k d z2q f1=>?_;subst z2q;refine EZ f1 (fun s h f2=>?_) fun z=>absurd z hn;clear e f1 e0;subst h;refine CV (PQ F.ok.wf F.S e1 ho) fun b kvs m z3q h0 hm h1 h2=>?_;subst z3q;refine BE (WH hv) fun J y z2q h3 h5=>?_;subst z2q;refine xEEA h3.st fun y u z2q z3q=>?_;subst z2q;clear h3 hv;subst z3q;refine call_meetsIn PySem.F.slot_dict_get h2.typeIs PySem.F.entry_dict_get (PySem.F.args_dict_get_3 _ _ _) (meets_dict_get_default (strKind pg Γ.W.w) b (strKind_is pg Γ.W.w y u) h0 _) ⟨_,h2.mapOf,?_⟩;have:=h1.get y;cases c:GY y.cps.toList l0 with
  |some v=>
   rw[c] at this f2;refine AZ this fun a ha hr=>?_;rw[ha];exact q.tok F f2 (VR.mono (Le.refl _) hm _ _ hr)
  |none=>
   rw[c] at this f2;rw[show valueAt kvs y=none from this];exact q.tok F f2 h5
end
section
variable{wo:World} {A:Around} {E:Value→Shared→Prop}
theorem ZH{s:Shared} {b:Addr} {xs:Array Value} {n:Nat} {k:Int} {t:Tok} {v:Value} {Q:Unit→Shared→Prop}(h1:s.heap.get? b=some (listOf xs n))(h0:0≤k)(hj:k<xs.size)(hm:k<1048576)
  (q:Q () {s with heap:=s.heap.update b (Obj.mapSeq (·.setIfInBounds k.toNat v))}):wpAny (model pg wo) A (setItem (.ref b) (.int k t) v) Q E s:=by
 have hL:=B_ h1;have hfit:k<2^63:=by omega
 unfold setItem;refine wpAny_holding (wpAny_bind (wpAny_sequenceKey hL.typeIs (by decide) (wpAny_bind (wpAny_callSpecial?_slot (name:=Str.ofString "__setitem__") hL.typeIs slot_list_setitem
  (wpAny_call_entry slot_list_setitem hL.typeIs entry_list_setitem ?_ (args_list_setitem _ _ _))))))
 show wpAny _ _ (Builtin.List.listSubscript? (.int k t)>>=_) _ _ s;refine wpAny_bind (wpAny_listSubscript_int (fitsIndex_of h0 hfit) ?_);clear hfit hm;refine xE (Int.eq_ofNat_of_zero_le h0) fun j z1q=>?_;subst z1q;have hg:xs[j]? =some xs[j]:=Array.getElem?_eq_getElem (by omega);show wpAny _ _ ((seqItemAt b j>>=fun r=>pure (r.map (j,·)))>>=_) _ _ s;refine wpAny_bind (wpAny_bind (wpAny_seqItemAt h1 rfl (wpAny_pure ?_)));rw[hg];show wpAny _ _ (setSeqItemAt b j v>>=_) _ _ s;refine wpAny_bind (wpAny_setSeqItemAt h1 rfl ?_);exact wpAny_pure ⟨.none,rfl,wpAny_pure q⟩
end
section
variable{Γ:Fr} {ρ:Af} {σ:St}
theorem gd(F:D Γ ρ σ){o i v:V} {h':HA} {x y z:Value} {Q:Unit→Shared→Prop}(e0:WU σ.h o i v=some h')(ho:Γ.V σ o x)(hi:Γ.V σ i y)(hv:Γ.V σ v z)(q:∀s',Nz Γ.W Γ.l Γ.X Z0 σ ⟨h',σ.μ,s'⟩→Q () s'):wA Γ (setItem x y z) Q σ:=by
 refine B3 e0 (fun c e=>BQ e (fun ob e1 e=>?_) (fun J=>AD)) (fun J=>AD);have st:=gQ c hv;refine NI (Jh F.S e1 ho) fun s c0 k1 k2 z4q k3 k4 k5 k6=>?_;subst z4q;have k:=F.S.cell s c0 k1;unfold DI at k;refine aH e (fun l0 h e=>DK e (fun j h1 e=>Ji e (fun k0 h2 e=>?_) AD) AD) fun e=>kN e (fun l0 h e=>EZ e (fun k0 h1 e=>?_) AD) AD
 ·subst h;subst h1;subst h2
  refine xA (D6 e) fun c1 z1q=>?_;clear e0 e;subst z1q;rw[k2] at k;refine xEEA k fun xs n g1 g2=>?_;refine xA (AR g1) fun g1 hX=>?_;have sz:xs.size=l0.length:=by rw[←Array.length_toList,g2.length]
  refine xE hi.i fun t z1q=>?_;subst z1q;have c2:=Ef (A8 c1).1;have c3:k0<1048576:=Ef (A8 c1).2;refine ZH g1 (by show(0:Int)≤(k0:Int);omega) (by show(k0:Int)<_;omega) (by show(k0:Int)<_;omega) (q _ ?_);rw[show(Int.ofNat k0).toNat=k0 from rfl];refine Hm F k1 k2 (k4 _) (k5 _) (k6 _) hX (n:=n) (xs:=xs.setIfInBounds k0 z) (fun b y hb e=>CE _ hb e) ((WG g1).trans (by simp[Obj.mapSeq])) ?_ rfl rfl;rw[Array.toList_setIfInBounds];exact g2.set (k3▸st)
 ·subst h;subst h1
  refine xA (D6 e) fun c1 z1q=>?_;subst z1q;rw[k2] at k;refine BE k fun es n g1 g2 g3=>?_;refine xA (AR g1) fun g1 hX=>?_;refine AZ (g2.dictOf g3 g1) fun kvs z1 z2=>?_;refine xEEA hi.st fun x1 t z2q z3q=>?_;subst z2q;clear e0 e hi;subst z3q;have hlen:kvs.length=l0.length:=by have:=congrArg List.length z1.keys;simpa using this.symm
  have c1:l0.length<1000:=Ef c1;refine wpAny_setItem_pairs (strKind_is pg Γ.W.w x1 t) z2 (fun h'' d1 d2=>q _ ?_) (G8 (by omega));have nd:(kvs.map (·.1)).Nodup:=by
   refine xEEEAAAAA z2 fun J J J J J J J J n=>?_;exact n
  have KV:=z1.put nd (v:=v) (a:=z) (x:=x1) (k3▸st);refine BE (Qx KV d1) fun es' m e1 e2 e3=>?_;have hd:∀a,c0.has a↔a=c0.p.1:=fun a=>by unfold B5.has;rw[k2];exact Iff.rfl
  exact F.S.turn (s':={σ.s with heap:=h'',toks:=σ.s.toks+1}) k1 (k4 _) (k5 _) (fun a h=>(hd a).mpr h) (fun b y hb e=>(d2.2 b fun z=>hb ((hd b).mpr z)).trans e) (fun b hb=>by rw[(hd b).mp hb,e1];nofun) (k6 _) rfl rfl fun gf' le=>⟨es',m,Ac e1 hX,Jl.mono le (.refl _) _ _ e2,e3⟩
end
theorem HU{x:Str} {es:List DictEntry} {n:Nat} {r:Option Value}(e:getL x es=some r):lookIn x (dictOf es n)=some r:=by
 unfold getL at e;unfold lookIn;show(match es.toArray.toList.find? (·.key.isStr x) with|some e=>some (some e.val)|none=>if es.toArray.toList.any (·.refKey) then none else some none)=some r;exact e
section
variable{W:Wd} {l:List Env} {X Z:AS} {σ:St} {v:V} {a:Value}
theorem Tj{b C d:Addr} {es:List DictEntry} {n:Nat}(h1:σ.s.heap.get? b=some (instObj C d))(h2:σ.s.heap.get? d=some (dictOf es n)):InstAt σ.s.heap b (instObj C d) C (some (dictOf es n)):=⟨h1,rfl,rfl,h2⟩
theorem eM{P:Params} {ca:Ca} {g:Hp} {μ:Mu}(h:VR P ca g μ v a):handedIn a=true:=by
 cases v<;>unfold VR at h
 case none=>cases h;rfl
 case bool=>cases h;rfl
 case int=>refine xE h fun J z1q=>?_;subst z1q;rfl
 case str=>refine xEEA h fun J J z2q J=>?_;clear h;subst z2q;rfl
 case tup=>refine LK h fun J J J J z4q J=>?_;clear h;subst z4q;rfl
 case lst=>refine Fi h fun J J J z3q J=>?_;clear h;subst z3q;rfl
 case dct=>refine Fi h fun J J J z3q J=>?_;clear h;subst z3q;rfl
 case inst=>refine OG h fun J J J J J z5q J=>?_;clear h;subst z5q;rfl
 case lv=>refine Fi h fun J J J z3q J=>?_;clear h;subst z3q;rfl
 case tx=>refine A_ h fun J J J J z4q J=>?_;clear h;subst z4q;rfl
 case ps=>refine xEEA h fun J J J z3q=>?_;clear h;subst z3q;rfl
 case ln=>refine xEEA h fun J J J z3q=>?_;clear h;subst z3q;rfl
 all_goals refine AZ h fun J J z2q=>?_;subst z2q;rfl
theorem Df{h:HA} {μ:Mu} {p:AA} {n:Nat}(e:μ.par=some p)(c:μ.np=n):cel h μ .par=some ⟨.inst kP (Dn h n),p,μ.nlo⟩:=by
 show B0 (some (.inst kP (Dn h μ.np))) μ.par μ.nlo=_;rw[e,c];rfl
theorem Bc{h:HA} {μ:Mu} {p:AA} {x:Option (List Nat×Nat×V)}(e:μ.lex=some p)(c:μ.lx=x):cel h μ .lex=some ⟨.inst kL (C5 h x),p,μ.nlo⟩:=by
 show B0 (some (.inst kL (C5 h μ.lx))) μ.lex μ.nlo=_;rw[e,c];rfl
theorem LB{h:HA} {μ:Mu} {p:AA} {x:Nat×List (Nat×V)}(e:μ.tm=some p)(c:h.tmp=some x):cel h μ .tmp=some ⟨.inst x.1 x.2,p,μ0⟩:=by
 show B0 (h.tmp.map fun x=>.inst x.1 x.2) μ.tm μ0=_;rw[e,c];rfl
structure Yc(W:Wd)(X:AS)(σ:St)(c:Nat)(fs:List (Nat×V))(m:Mu)(a:Value):Prop where
 at_:∃b C d es n,a=.ref b∧W.ca c=some C∧σ.s.heap.get? b=some (instObj C d)∧σ.s.heap.get? d=some (dictOf es n)∧Cs W.w.params W.ca (σ.reg X) m fs es
theorem Ed(S:SR W l X σ){s:Sl} {c:B5} {k:Nat} {fs:List (Nat×V)}(e:σ.cel s=some c)(ho:c.o=.inst k fs):Yc W X σ k fs c.m (.ref c.p.1):=by
 have h:=S.cell s c e;unfold DI at h;rw[ho] at h;refine CV h fun C es n h0 h1 h2 h3 J=>?_;exact⟨_,C,_,es,n,rfl,h0,(AR h1).1,(AR h2).1,h3⟩
theorem WT(S:SR W l X σ){md:Nat}(M:Md md σ)(h:VT W X σ v a){G:Prop}:(v=.par→md=1→(∃c,σ.cel .par=some c∧c.o=.inst kP (Dn σ.h 7)∧a=.ref c.p.1∧c.m=σ.μ.nlo)→G)→(v=.lex→md=2→(∃c,σ.cel .lex=some c∧c.o=.inst kL (C5 σ.h none)∧a=.ref c.p.1∧c.m=σ.μ.nlo)→G)→(v=.tmp→(∀x,σ.h.tmp=some x→∃c,σ.cel .tmp=some c∧c.o=.inst x.1 x.2∧a=.ref c.p.1∧c.m=μ0)→G)→((v=.par→md=1→False)→(v=.lex→md=2→False)→v≠ .tmp→G)→G:=fun h1 h2 h3 h4=>by
 by_cases z1:v=.par∧md=1
 ·refine xA z1 fun z0q e=>?_;clear h4 z1;subst z0q
  unfold VT VR at h;refine AZ h fun p e1 z2q=>?_;clear h3 h2 h;subst z2q;exact h1 rfl e ⟨⟨.inst kP (Dn σ.h 7),p,σ.μ.nlo⟩,Df e1 (M.m1 e).2.2.2,rfl,rfl,rfl⟩
 ·by_cases z2:v=.lex∧md=2
  ·refine xA z2 fun z0q e=>?_;clear h4 z2 z1;subst z0q
   unfold VT VR at h;refine AZ h fun p e1 z2q=>?_;clear h3 h1 h;subst z2q;exact h2 rfl e ⟨⟨.inst kL (C5 σ.h none),p,σ.μ.nlo⟩,Bc e1 (M.m2 e).2.2.1,rfl,rfl,rfl⟩
  ·by_cases z3:v=.tmp
   ·clear h4 z2 z1;subst z3
    unfold VT VR at h;refine AZ h fun p e1 z2q=>?_;clear h2 h1 h;subst z2q;exact h3 rfl fun x ex=>⟨⟨.inst x.1 x.2,p,μ0⟩,LB e1 ex,rfl,rfl,rfl⟩
   ·exact h4 (fun a b=>z1 ⟨a,b⟩) (fun a b=>z2 ⟨a,b⟩) z3
theorem dH(S:SR W l X σ){md:Nat}(M:Md md σ){fs:List (Nat×V)}(e:gZ md σ.h v=some fs)(h:VT W X σ v a):∃c m,Yc W X σ c fs m a∧Bk m σ.μ:=by
 refine WT S M h (fun z _ ⟨c,h1,h2,h3,h4⟩=>?_) (fun z _ ⟨c,h1,h2,h3,h4⟩=>?_) (fun z k=>?_) fun z1 z2 z3=>?_
 ·subst z
  refine xA (D6 e) fun J z1q=>?_;clear e;subst z1q;subst h3;exact⟨_,_,Ed S h1 h2,h4▸(Bk.of_nlo _).trans (.of_nt _)⟩
 ·subst z
  refine xA (D6 e) fun J z1q=>?_;clear e;subst z1q;subst h3;exact⟨_,_,Ed S h1 h2,h4▸(Bk.of_nlo _).trans (.of_nt _)⟩
 ·subst z
  refine AZ (Option.map_eq_some_iff.mp e) fun x e1 z2q=>?_;clear e;subst z2q;refine DL (k x e1) fun c h1 h2 h3 h4=>?_;clear k h;subst h3;exact⟨_,_,Ed S h1 h2,h4▸ .zero _⟩
 ·cases v with
  |par=>exact(z1 rfl (Nat.eq_of_beq_eq_true (D6 e).1)).elim
  |lex=>exact(z2 rfl (Nat.eq_of_beq_eq_true (D6 e).1)).elim
  |tmp=>exact(z3 rfl).elim
  |inst c fs'=>
   clear z2 z3 z1;cases e;unfold VT VR at h;refine Bq h fun b C d es n e h0 h1 h2 h3=>?_;exact⟨c,_,⟨b,C,d,es,n,e,h0,(AR (AR h1).1).1,(AR (AR h2).1).1,h3⟩,.zero _⟩
  |gl i=>
   refine BQ e (fun o e1 e=>aI e (fun c q h2 e=>?_) AD) (fun J=>AD);cases e;clear e;subst h2;refine OH (Jh S (v:=.gl i) e1 h) fun s c0 k1 k2 z4q k3 J=>?_;subst z4q;exact⟨c,_,Ed S k1 k2,k3▸XM.trans (.of_nt _)⟩
  |_=>exact AD e
theorem Cs.len:∀{fs:List (Nat×V)} {es:List DictEntry} {P:Params} {ca:Ca} {g:Hp} {μ:Mu},Cs P ca g μ fs es→es.length=fs.length
 | [],es,_,_,_,_,h=>by unfold Cs at h;subst h;rfl
 |(k,v)::r,es,_,_,_,_,h=>by
  unfold Cs at h;refine Bq h fun hs x t a q e J J J h2=>?_;clear h;subst e;simp[Cs.len h2]
theorem Cs.some_{fs:List (Nat×V)} {es:List DictEntry} {x:Str} {P:Params} {ca:Ca} {g:Hp} {μ:Mu}(h:Cs P ca g μ fs es):(getL x es).isSome=true:=by
 cases c:AK (nk x) fs with
 |none=>rw[Cs.getNone h c];rfl
 |some v=>refine AZ (Cs.get h c) fun a ha J=>?_;rw[ha];rfl
theorem ZA(S:SR W l X σ){s0:Sl} {c:B5} {k:Nat} {fs:List (Nat×V)} {h':HA} {x:Str} {hs:Int} {t:Tok} {tk:Nat}(hc:σ.cel s0=some c)(ho:c.o=.inst k fs)(h1:cel h' σ.μ s0=some ⟨.inst k (IK (nk x) v fs),c.p,c.m⟩)(h2:∀s,s≠s0→cel h' σ.μ s=σ.cel s)(sm:Q9 σ.h h')(h0:nk x≠0)(hv:VR W.w.params W.ca (σ.reg X) c.m v a):
  Nz W l X Z0 σ ⟨h',σ.μ,{σ.s with heap:=σ.s.heap.update c.p.2 (Obj.putName x hs (.str x t) a),toks:=tk}⟩:=by
 have h:=S.cell s0 c hc;unfold DI at h;rw[ho] at h;refine CV h fun C es n e0 k1 k2 k3 k4=>?_;refine xA (AR k1) fun k1 x1=>?_;refine xA (AR k2) fun k2 x2=>?_;have upd:(σ.s.heap.update c.p.2 (Obj.putName x hs (.str x t) a)).get? c.p.2=some (dictOf (putL x hs (.str x t) a es) (putN x es n)):=
  (Heap.get?_update_self _ k2 (by rw[putName_dict];rfl)).trans (by rw[putName_dict])
 have hh:∀b,c.has b↔b=c.p.1∨b=c.p.2:=fun b=>by unfold B5.has;rw[ho];exact Iff.rfl
 refine S.turn (s':={σ.s with heap:=σ.s.heap.update c.p.2 (Obj.putName x hs (.str x t) a),toks:=tk}) hc h1 h2 (fun b hb=>(hh b).mpr hb) (fun b y hb e=>CE _ (fun z=>hb ((hh b).mpr (.inr z))) e) (fun b hb=>?_) sm rfl rfl fun gf' le=>⟨C,_,_,e0,Ac (CE _ k4 k1) x1,Ac upd x2,Cs.mono le (.refl _) _ _ (Cs.put k3 h0 hv),k4⟩;rcases(hh b).mp hb with rfl|rfl
 ·exact fun z=>nomatch (CE _ k4 k1).symm.trans z
 ·exact fun z=>nomatch upd.symm.trans z
theorem X1(S:SR W l X σ){l0:List V}(e:C_ σ.h v=some l0)(h:VT W X σ v a):Nz W l X Z0 σ {σ with h:=GJ σ.h v .dead}∧∃b xs n,a=.ref b∧St.reg {σ with h:=GJ σ.h v .dead} X b=some (listOf xs n)∧BC W.w.params W.ca (σ.reg X) (cond (f5 v) σ.μ.nlo σ.μ.nt) l0 xs.toList:=by
 obtain⟨s,c,xs,n,k1,k2,rfl,k3,h1,hX,h2,k4,k5,k6⟩:=JU S e h;refine⟨S.turn (s':=σ.s) k1 (k4 .dead) (k5 .dead) (fun J h=>h.elim) (fun J J J e=>e) (fun b hb=>?_) (k6 .dead) rfl rfl fun J J=>trivial,_,xs,n,rfl,Ac (Ac h1 hX) fun⟨s',c',e1,e2⟩=>?_,k3▸h2⟩
 ·refine AZ (S.at ⟨s,c,k1,hb⟩) fun o ho J=>?_
  exact fun z=>nomatch ho.symm.trans z
 ·by_cases q:s'=s
  ·clear k1 k5;subst q
   cases(k4 .dead).symm.trans e1;exact e2
  ·exact q (S.inj s' s c' c _ ((k5 .dead s' q).symm.trans e1) k1 e2 (by unfold B5.has;rw[k2];rfl))
end
section
variable{W:Wd} {A:Around} {E:Value→Shared→Prop} {K:Frag} {as:List Str}
set_option tactic.hygienic true in
theorem dw{s:Shared} {b C d:Addr} {es:List DictEntry} {n:Nat} {x:Str} {v:Value} {Q:Unit→Shared→Prop}(XI:K.In s.heap)(F:aT K C as)(hx:x∈as)(h1:s.heap.get? b=some (instObj C d))(h2:s.heap.get? d=some (dictOf es n))
  (hl:(getL x es).isSome=true) (hz:es.length≤1000) (q:∀hs t,Q () {s with heap:=s.heap.update d (Obj.putName x hs (.str x t) v),toks:=s.toks+1+1}):wpAny (mo W) A (setAttr (.ref b) x v) Q E s:=by
 have I:InstAt s.heap b (instObj C d) C (some (dictOf es n)):=⟨h1,rfl,rfl,h2⟩;refine set_plain XI I F.sa (osa_open (s:={s with toks:=s.toks+1}) XI I F.over (F.attr x hx).2 fun J=>?_);refine AZ (any_some F.dict) fun cd hc hdict=>?_;have upd:(s.heap.update d (Obj.putName x (PyData.keyHash W.w.params x) (.str x (s.toks+1)) v)).get? d=some (dictOf (putL x (PyData.keyHash W.w.params x) (.str x (s.toks+1)) v es) (putN x es n)):=
  (Heap.get?_update_self _ h2 (by rw[putName_dict];rfl)).trans (by rw[putName_dict])
 have lens:(putL x (PyData.keyHash W.w.params x) (.str x (s.toks+1)) v es).length≤es.length+1:=by
  clear hl hz h2 I q upd
  induction es with
  |nil=>exact Nat.le_refl _
  |cons e r ih=>
   unfold putL
   split
   ·simp
   ·simp only[List.length_cons] at ih⊢;omega
 refine wpAny_bind (wpAny_pure (wpAny_bind (wpAny_bind (wpAny_loadPart h1 (wpAny_bind (looks_clsIn XI hc _ _ _ _ (fun J J e=>e) ?_))))));rw[hdict];refine wpAny_pure (a:=some d) (wpAny_bind (wpAny_pure (wpAny_bind ?_)));unfold nsSet;refine wpAny_bind (wpAny_bind (wpAny_askSetting (wpAny_pure (wpAny_bind (wpAny_mkText (wpAny_bind (wpAny_loadPart h2 ?_)))))));dsimp only;have c:(!es.toArray.any (·.key.isStr x)&&es.toArray.any (·.refKey))=false:=by
  rw[←Array.any_toList,←Array.any_toList];show(!es.any (·.key.isStr x)&&es.any (·.refKey))=false;unfold getL at hl
  split at hl
  ·rename_i en he
   rw[List.any_eq_true.mpr ⟨en,List.mem_of_find?_eq_some he,List.find?_some he⟩];rfl
  ·split at hl
   ·exact Ak hl
   ·rename_i z;rw[Bool.not_eq_true] at z;rw[z,Bool.and_false]
 rw[aRefKeyMayBeTheName_at,c];refine wpAny_updatePart h2 ?_;refine wpAny_bind (wpAny_lookBehind upd (pastItsLine_dict (by rw[List.size_toArray,sizeLine_eq];omega)) ?_);exact wpAny_pure (q _ _)
end
section
variable{Γ:Fr} {ρ:Af} {σ:St} {K:V→HA→RA X} {Q:Value→Shared→Prop} {o v:V} {x:Str} {a w:Value}
theorem Sq(F:D Γ ρ σ){expr:Bool}(e:Xk Γ.cx σ.h o (nk x)=some v)(ho:Γ.V σ o a)(q:∀b n,Γ.V σ v b→Q b {σ.s with toks:=n}):wA Γ (getAttr a x expr) Q σ:=by
 refine B3 e (fun h e=>BQ e (fun fs e1 e=>?_) (fun J=>AD)) (fun J=>AD);obtain⟨c,m,⟨b,C,d,es,n,rfl,h0,h1,h2,h3⟩,hm⟩:=dH F.S F.md e1 ho;refine AZ (h3.get e) fun w hw hr=>?_;have CF:=F.ok.wf.cf c C h0;have hx:=F.ok.wf.af.all x (F.ok.hg▸h);have XI:Γ.W.K.In σ.s.heap:=F.ok.wf.kin.keeps F.S.base;refine AZ (any_some CF.dict) fun cd hc hdict=>?_;have hv:Γ.V σ v w:=VR.mono (Le.refl _) hm _ _ hr;refine get_value (v:=w) XI (Tj h1 h2) CF.ga ?_ (eM hv) (q _ _ hv);unfold findObj;rw[hc,(CF.attr x hx).1];simp only[Option.bind_some];have:PySem.W.ownOf cd (some (dictOf es n)) x=some (some w):=by
  unfold PySem.W.ownOf;rw[if_pos hdict];exact HU hw
 rw[this];rfl
theorem Q3{α:Type} {G:Prop} {x k:Nat} {a b r:α}(e:bq x k a b=r)(h1:x=k→a=r→G)(h2:b=r→G):G:=B3 e (fun h e=>h1 (Nat.eq_of_beq_eq_true h) e) fun J e=>h2 e
theorem ZJ{h h':HA} {x:Nat} {v:V}(e:ai h x v=some h'):Dn h' 7=IK x v (Dn h 7)∧Q9 h h'∧h'.lo=h.lo∧h'.gl=h.gl∧h'.tmp=h.tmp∧h'.at_=h.at_∧h'.line=h.line:=by
 refine Q3 e (fun z e=>?_) fun e=>Q3 e (fun z e=>?_) fun e=>Q3 e (fun z e=>?_) fun e=>Q3 e (fun z e=>?_) fun e=>Q3 e (fun z e=>?_) fun e=>Q3 e (fun z e=>?_) AD
 all_goals (subst z;cases e;exact⟨rfl,⟨rfl,rfl,rfl,rfl,rfl,rfl⟩,rfl,rfl,rfl,rfl,rfl⟩)
theorem ZK{h h':HA} {x:Nat} {v:V}(e:aj h x v=some h'):C5 h' none=IK x v (C5 h none)∧Oq v=true∧Q9 h h'∧h'.lo=h.lo∧h'.gl=h.gl∧h'.tmp=h.tmp∧∀n,Dn h' n=Dn h n:=by
 refine Q3 e (fun z e=>Ky e (fun a h e=>?_) AD) fun e=>Q3 e (fun z e=>DK e (fun a h e=>?_) AD) AD
 all_goals (subst z;subst h;cases e;exact⟨rfl,rfl,⟨rfl,rfl,rfl,rfl,rfl,rfl⟩,rfl,rfl,rfl,fun J=>rfl⟩)
theorem MH{h h':HA} {μ:Mu} {s:Sl}(hp:s≠ .par→Dn h' μ.np=Dn h μ.np)(hl:s≠ .lex→C5 h' μ.lx=C5 h μ.lx)(ht:s≠ .tmp→h'.tmp=h.tmp)(h1:h'.lo=h.lo)(h2:h'.gl=h.gl):∀t,t≠s→cel h' μ t=cel h μ t:=fun t n=>by
 cases t with
 |par=>exact congrArg (fun z=>B0 (some (.inst kP z)) μ.par μ.nlo) (hp n.symm)
 |lex=>exact congrArg (fun z=>B0 (some (.inst kL z)) μ.lex μ.nlo) (hl n.symm)
 |tmp=>exact congrArg (fun z=>B0 (z.map fun x=>.inst x.1 x.2) μ.tm μ0) (ht n.symm)
 |lo i=>exact congrArg (fun z=>B0 z[i]? μ.lo[i]? μ.nt) h1
 |gl i=>exact congrArg (fun z=>B0 z[i]? μ.gl[i]? μ.nlo) h2
theorem Tr(F:D Γ ρ σ){v':V} {h':HA}(e:Xh σ.h v=some (v',h'))(hv:Γ.V σ v w):Nz Γ.W Γ.l Γ.X Z0 σ {σ with h:=h'}∧Oq v'=true∧Γ.V {σ with h:=h'} v' w:=by
 refine rJ e (fun i h e=>BQ e (fun ob e1 e=>aH e (fun l0 h2 e=>?_) AD) (fun J=>AD)) fun e=>?_
 ·subst h;subst h2
  refine xA (D6 e) fun c e2=>?_;clear e;cases e2;have e3:C_ σ.h (.ref i)=some l0:=by show cO σ.h.lo[i]? none _=_;rw[e1]
  refine Sz (X1 F.S e3 hv) fun N b xs n z4q k1 k2=>?_;subst z4q;refine⟨N,rfl,?_⟩;unfold Fr.V VT VR;refine⟨b,xs,n,rfl,k1,BC.mono (N.reg .zero) (.refl _) _ _ (k2.all (p:=gA) (fun{v a} h n=>?_) c)⟩;cases v<;>first|(exact Ak n;done)|(unfold VR at h⊢;exact h)
 ·refine xA (D6 e) fun c e2=>?_
  clear e;cases e2;exact⟨.refl F.S,c,hv⟩
theorem Wc(F:D Γ ρ σ)(hv:Γ.V σ v w):Γ.V σ (GK σ.h v) w:=by
 refine Ky (rfl:GK σ.h v=_) (fun k h e=>?_) fun e=>?_
 ·subst h
  rw[←e];unfold Fr.V VT VR at hv⊢;refine xEEA hv fun s t e1 z3q=>?_;clear hv;subst z3q;exact⟨t,by rw[(F.S.tx s e1).1]⟩
 ·rw[←e];exact hv
theorem NP(F:D Γ ρ σ){h':HA} {Q:Unit→Shared→Prop}(e0:UW Γ.cx σ.h o (nk x) v=some h')(ho:Γ.V σ o a)(hv:Γ.V σ v w)(q:∀s',Nz Γ.W Γ.l Γ.X Z0 σ ⟨h',σ.μ,s'⟩→Q () s'):wA Γ (setAttr a x w) Q σ:=by
 refine B3 e0 (fun h e=>?_) (fun J=>AD);have hx:=F.ok.wf.af.all x (F.ok.hg▸h);have h0:=F.ok.wf.nz x hx;clear e0 h;have go:∀{σ':St} {s0:Sl} {c:B5} {k:Nat} {fs:List (Nat×V)} {v':V},Nz Γ.W Γ.l Γ.X Z0 σ σ'→σ'.s=σ.s→σ'.μ=σ.μ→σ'.cel s0=some c→c.o=.inst k fs→fs.length<900→a=.ref c.p.1→cel h' σ'.μ s0=some ⟨.inst k (IK (nk x) v' fs),c.p,c.m⟩→(∀s,s≠s0→cel h' σ'.μ s=σ'.cel s)→Q9 σ'.h h'→VR Γ.W.w.params Γ.W.ca (σ'.reg Γ.X) c.m v' w→wA Γ (setAttr a x w) Q σ:=fun{σ' s0 c k fs v'} N es em hc hob hz ha h1 h2 sm hv'=>by
  have hh:=N.sr.cell s0 c hc;unfold DI at hh;rw[hob] at hh;refine CV hh fun C es' n e0 k1 k2 k3 k4=>?_;have:=Cs.len k3;have k1:=(AR k1).1;have k2:=(AR k2).1;rw[es] at k1 k2;subst ha;refine dw (F.ok.wf.kin.keeps F.S.base) (F.ok.wf.cf k C e0) hx k1 k2 (Cs.some_ k3) (by omega) fun hs t=>q _ ?_;have T:=ZA (hs:=hs) (t:=t) (tk:=σ.s.toks+1+1) N.sr hc hob h1 h2 sm h0 hv';rw[es,em] at T;exact N.trans T
 refine WT F.S F.md ho (fun z z2 ⟨c,h1,h2,h3,h4⟩=>?_) (fun z z2 ⟨c,h1,h2,h3,h4⟩=>?_) (fun z k=>?_) fun z1 z2 z3=>?_
 ·subst z
  refine B3 e (fun J e=>BQ e (fun p e1 e=>?_) (fun J=>AD)) (fun J=>AD);obtain⟨v',h1'⟩:=p;refine Es (Tr F e1 hv) fun N k1 k2=>?_;refine S6 (ZJ e) fun s1 s2 s3 s4 s5 s6 s7=>?_;have c1:σ.μ.np=7:=(F.md.m1 z2).2.2.2;clear h3;obtain⟨p,ep,rfl⟩:∃p,σ.μ.par=some p∧a=.ref p.1:=by unfold Fr.V VT VR at ho;exact ho
  refine go (σ':={σ with h:=h1'}) (s0:=.par) (c:=⟨.inst kP (Dn h1' 7),p,σ.μ.nlo⟩) N rfl rfl (Df ep c1) rfl (by show(7:Nat)<900;omega) rfl (s1▸Df ep c1) (MH (fun z=>absurd rfl z) (fun J=>?_) (fun J=>s5) s3 s4) s2 (VR.nlo k2 k1);cases σ.μ.lx with
  |some x=>rfl
  |none=>show [(BG,V.tx),(CS,V.ps h'.at_),(AI,h'.line)]=_;rw[s6,s7];rfl
 ·subst z
  refine B3 e (fun J e=>?_) (fun J=>AD);refine S6 (ZK e) fun s1 s2 s3 s4 s5 s6 s7=>?_;have c1:σ.μ.lx=none:=(F.md.m2 z2).2.2.1;clear h3;obtain⟨p,ep,rfl⟩:∃p,σ.μ.lex=some p∧a=.ref p.1:=by unfold Fr.V VT VR at ho;exact ho
  exact go (σ':=σ) (s0:=.lex) (c:=⟨.inst kL (C5 σ.h none),p,σ.μ.nlo⟩) (.refl F.S) rfl rfl (Bc ep c1) rfl (by show(3:Nat)<900;omega) rfl (s1▸Bc ep c1) (MH (fun J=>s7 _) (fun z=>absurd rfl z) (fun J=>s6) s4 s5) s3 (VR.nlo hv s2)
 ·subst z
  refine BQ e (fun y e1 e=>?_) (fun J=>AD);refine xA (D6 e) fun c0 e2=>?_;refine xA (A8 c0) fun c1 c2=>?_;refine DL (k y e1) fun c h1 h2 h3 h4=>?_;clear e q;cases e2;obtain⟨p,ep,hp⟩:∃p,σ.μ.tm=some p∧a=.ref p.1:=by unfold Fr.V VT VR at ho;exact ho
  have hc:σ.cel .tmp=some ⟨.inst y.1 y.2,p,μ0⟩:=LB ep e1;exact go (σ':=σ) (s0:=.tmp) (.refl F.S) rfl rfl hc rfl (Ef c2) hp (LB (x:=(y.1,IK (nk x) (GK σ.h v) y.2)) ep rfl) (MH (fun J=>rfl) (fun J=>by cases σ.μ.lx<;>rfl) (fun z=>absurd rfl z) rfl rfl) ⟨by rw[e1];rfl,rfl,rfl,rfl,rfl,rfl⟩ (VR.cl (Wc F hv) (A8 c1).1)
 ·cases o with
  |par=>exact(z1 rfl (Nat.eq_of_beq_eq_true (B3 e (fun h J=>h) (fun J=>AD)))).elim
  |lex=>exact(z2 rfl (Nat.eq_of_beq_eq_true (B3 e (fun h J=>h) (fun J=>AD)))).elim
  |tmp=>exact(z3 rfl).elim
  |gl i=>
   refine BQ e (fun p e1 e=>BQ e (fun ob e3 e=>aI e (fun c fs h2 e=>?_) AD) (fun J=>AD)) (fun J=>AD);subst h2;refine xA (D6 e) fun c2 e2=>?_;cases e2;clear e q;obtain⟨v',h1'⟩:=p;refine Es (Tr F e1 hv) fun N k7 k8=>?_;refine NI (Jh N.sr (v:=.gl i) e3 (F.val N.up ho)) fun s c k1 k2 z4q k3 k4 k5 k6=>?_;subst z4q;exact go (σ':={σ with h:=h1'}) N rfl rfl k1 k2 (Ef c2) rfl (k4 _) (k5 _) (k6 _) (k3▸VR.nlo k8 k7)
  |_=>exact AD e
end
section
open Sem (wp)
theorem dg{h:Heap} {a:Addr} {m:Str→Option Value} {o:Obj}(hn:h.Ns a m)(ho:h.get? a=some o)(name:Str)(v:Value)(hs:Int)(t:Tok):
  (h.update a (Obj.putName name hs (.str name t) v)).Ns a (fun x=>if x=name then some v else m x)∧∃o',(h.update a (Obj.putName name hs (.str name t) v)).get? a=some o'∧o'.cls=o.cls:=by
 refine FN hn fun o1 es ep ho1 hd hk hm=>?_;rw[ho] at ho1;cases ho1;obtain⟨c,d,dt,sl⟩:=o;simp only at hd;subst hd;cases hi:es.findIdx? (·.key.isStr name) with
 |some i=>
  have e:Obj.putName name hs (.str name t) v ⟨c,d,.dict es ep,sl⟩=⟨c,d,.dict (es.modify i fun e=>{e with val:=v}) ep,sl⟩:=by
   simp only[Obj.putName_eq,Obj.putNameByArray,hi]
  have g:=Heap.get?_update_self (Obj.putName name hs (.str name t) v) ho (by rw[e];rfl);rw[e] at g;refine⟨⟨_,_,ep,g,rfl,hk.modify _ _,fun x=>?_⟩,_,g,rfl⟩;show _=if x=name then some v else m x;rw[←hm];exact findBy_modify (fun n v=>v.isStr n) Value.isStr_inj es name x v i hi
 |none=>
  have e:Obj.putName name hs (.str name t) v ⟨c,d,.dict es ep,sl⟩=⟨c,d,.dict (es.push ⟨hs,.str name t,v⟩) (ep+1),sl⟩:=by
   simp only[Obj.putName_eq,Obj.putNameByArray,hi]
  have g:=Heap.get?_update_self (Obj.putName name hs (.str name t) v) ho (by rw[e];rfl);rw[e] at g;refine⟨⟨_,_,ep+1,g,rfl,hk.push _ _ _ _,fun x=>?_⟩,_,g,rfl⟩;show _=if x=name then some v else m x;rw[←hm];refine findBy_push (fun n v=>v.isStr n) es name x _ _ v (fun y=>?_) hi;show(name==y)=decide (y=name)
  by_cases q:y=name
  ·clear e hi g;subst q;simp
  ·have:¬name=y:=fun z=>q z.symm
   simp[q,this]
section
variable{M:Model} {A:Around} {E:Value→Shared→Prop} {s:Shared}
theorem QW{a:Addr} {m:Str→Option Value} {o:Obj} {name:Str} {v:Value} {Q:Unit→Shared→Prop}(hn:s.heap.Ns a m)(ho:s.heap.get? a=some o)
  (q:∀h',h'.Ns a (fun x=>if x=name then some v else m x)→(∃o',h'.get? a=some o'∧o'.cls=o.cls)→Heap.SameBut a s.heap h'→Q () {s with heap:=h',toks:=s.toks+1}):wpAny M A (nsSet a name v) Q E s:=fun Γ p J=>by
 have hn':=hn;refine FN hn fun o1 es ep ho1 hd hk hm=>?_;rw[ho] at ho1;cases ho1;simp only[nsSet,strHash,Sem.wp_bind',Sem.wp_cmd_ask,Sem.wp_pure',Sem.wp_cmd_mkText];rw[Sem.wp_loadPart_of M Γ _ p {s with toks:=s.toks+1} (o:=o) _ ho];have hany:es.any (·.refKey)=false:=by
  rw[Array.any_eq_false'];intro e he;refine gB (hk e he) fun n t h=>?_;simp[DictEntry.refKey,h]
 simp only[hd,aRefKeyMayBeTheName_eq,aRefKeyMayBeTheNameByArray,hany,Bool.and_false,Bool.false_eq_true,if_false,Sem.wp_cmd_updatePart];refine xA (dg hn' ho name v (if name.cps.isEmpty=true then 0 else reduceHash (M.w.params.strHash name.cps)) s.toks) fun g1 g2=>?_;exact⟨by rw[ho];rfl,q _ g1 g2 (Heap.SameBut.update ..)⟩
theorem II{env:Env} {name:Str} {m:Str→Option Value} {o:Obj} {v:Value} {Q:Unit→Shared→Prop}(hl:env.kindOf name=some .local)(hk:env.scope.kind=.function)(hn:s.heap.Ns env.locals m)(ho:s.heap.get? env.locals=some o)
  (q:∀h',h'.Ns env.locals (fun x=>if x=name then some v else m x)→(∃o',h'.get? env.locals=some o'∧o'.cls=o.cls)→Heap.SameBut env.locals s.heap h'→Q () {s with heap:=h',toks:=s.toks+1}):wpAny M A (storeName env name v) Q E s:=by
 rw[storeName_local hl (by rw[hk];rfl)];exact QW hn ho q
theorem Qg{a:Addr} {c:Value}(f:Str×Value→PUnit→Sem (ForInStep PUnit))(hf:∀x u,f x u=(do nsSet a x.1 x.2;pure (.yield ⟨⟩))):∀(l:List (Str×Value)) {s:Shared} {m:Str→Option Value} {o:Obj} {Q:PUnit→Shared→Prop},s.heap.Ns a m→s.heap.get? a=some o→o.cls=c→
  (∀h',h'.Ns a (fun x=>(l.reverse.lookup x).or (m x))→(∃o',h'.get? a=some o'∧o'.cls=c)→Heap.SameBut a s.heap h'→Q ⟨⟩ {s with heap:=h',toks:=s.toks+l.length})→wpAny M A (forIn l ⟨⟩ f) Q E s
 | [],s,m,o,Q,hn,ho,hc,q=>by
  rw[List.forIn_nil];exact wpAny_pure (q s.heap (by simpa using hn) ⟨o,ho,hc⟩ (.refl ..))
 |(y,w)::l,s,m,o,Q,hn,ho,hc,q=>by
  rw[List.forIn_cons,hf];refine wpAny_bind (wpAny_bind (QW hn ho fun h₁ hn₁ ⟨o₁,ho₁,hc₁⟩ hs₁=>wpAny_pure ?_));refine Qg f hf l (s:={s with heap:=h₁,toks:=s.toks+1}) hn₁ ho₁ (hc₁.trans hc) fun h' hn' ho' hs'=>?_;have e:(fun x=>(((y,w)::l).reverse.lookup x).or (m x))=fun x=>(l.reverse.lookup x).or (if x=y then some w else m x):=by
   funext x;rw[List.reverse_cons,List.lookup_append,Option.or_assoc];congr 1;rw[List.lookup_cons,List.lookup_nil]
   by_cases hx:x=y
   ·clear q hn' hn₁;subst hx;simp
   ·have hb:(x==y)=false:=beq_eq_false_iff_ne.mpr hx
    simp[hb,hx]
  have:=q h' (e▸hn') ho' (hs₁.trans hs')
  simpa only[List.length_cons,Nat.add_assoc,Nat.add_comm 1] using this
theorem Ng{scope:Scope} {globals:Addr} {closure:List (Str×Addr)} {binds:List (Str×Value)} {qual:Str} {func:Option Addr} {code:Value} {builtins:Addr} {Q:Env→Shared→Prop}
  (hc:∀x∈scope.names,x.2≠ .cell) (hl:∀x∈binds,scope.names.lookup x.1=some .local) (hk:scope.kind=.function)
  (q:∀h',h'.Ns s.heap.objs.size (fun x=>binds.reverse.lookup x)→(∃o',h'.get? s.heap.objs.size=some o'∧o'.cls=.type "frame")→(∀b o,s.heap.get? b=some o→h'.get? b=some o)→Heap.SameBut s.heap.objs.size (s.heap.push {cls:=.type "frame",data:=.dict #[]}) h'→
   Q (newEnv scope s.heap.objs.size globals closure qual func code none builtins) {s with heap:=h',toks:=s.toks+binds.length}):
  wpAny M A (newFunctionEnv scope globals closure binds qual func code none builtins) Q E s:=by
 simp only[newFunctionEnv,Option.isSome_none,Bool.false_eq_true,if_false];refine wpAny_bind (wpAny_alloc ?_);rw[forIn_yield_id closure (fun x hx c=>by
  obtain⟨name,kind⟩:=x;have:(kind==NameKind.cell)=false:=by simpa using hc _ hx
  simp only[this,Bool.false_eq_true,if_false])]
 refine wpAny_bind (wpAny_pure (wpAny_bind ?_));have key:∀x∈binds,∀v,storeName {scope,locals:=s.heap.objs.size,globals,cells:=closure,qual,func,code,frame:=some s.heap.objs.size,builtins} x.1 v=nsSet s.heap.objs.size x.1 v:=fun x hx v=>
  storeName_local (env:={scope,locals:=s.heap.objs.size,globals,cells:=closure,qual,func,code,frame:=some s.heap.objs.size,builtins}) (hl x hx) (by show(scope.kind==.class||(scope.kind==.module&&_))=false;rw[hk];rfl) v
 have e:∀(f:Str×Value→PUnit→Sem (ForInStep PUnit)),(∀x∈binds,∀u,f x u=(do nsSet s.heap.objs.size x.1 x.2;pure (.yield ⟨⟩)))→forIn binds ⟨⟩ f=forIn binds ⟨⟩ (fun x (_:PUnit)=>(do nsSet s.heap.objs.size x.1 x.2;pure (ForInStep.yield PUnit.unit):Sem _)):=fun f hf=>by
  clear key q hl
  generalize s.heap.objs.size=a at hf
  induction binds with
  |nil=>rfl
  |cons y l ih=>
   rw[List.forIn_cons,List.forIn_cons,hf y List.mem_cons_self];congr 1;funext r;cases r with
   |done b=>rfl
   |yield b=>exact ih fun x hx=>hf x (List.mem_cons_of_mem _ hx)
 rw[e _ (fun x hx u=>by
  obtain⟨n,v⟩:=x;show(storeName _ n v>>=fun J=>pure (ForInStep.yield PUnit.unit))=_;rw[key (n,v) hx v])]
 refine Qg (c:=.type "frame") _ (fun J J=>rfl) binds (s:={s with heap:=s.heap.push {cls:=.type "frame",data:=.dict #[]} }) (Heap.Ns.new ..) (Heap.get?_push_size _ rfl) rfl fun h' hn' ho' hs'=>wpAny_pure ?_;exact q h' (by simpa using hn') ho' (fun b o ho=>(hs'.2 b (Nat.ne_of_lt (Heap.lt_size ho))).trans (Heap.get?_push_of_some _ ho)) hs'
end
end
theorem Fw{α:Type} [BEq α] [LawfulBEq α]{β:Type}:∀{ps:List α} {as:List β} {x:α},x∈ps→ps.length=as.length→((ps.zip as).lookup x).isSome=true
 | [],_,_,h,_=>nomatch h
 |p::ps,[],_,_,h=>by cases h
 |p::ps,a::as,x,h,e=>by
  rw[List.zip_cons_cons,List.lookup_cons]
  by_cases c:x=p
  ·clear e h;subst c;simp
  ·have:(x==p)=false:=by simpa using c
   rw[this];exact Fw ((List.mem_cons.mp h).resolve_left c) (by simpa using e)
theorem Gf{α β:Type} {f h:α→Option β}:∀{l:List α},(∀x∈l,f x=h x)→l.filterMap f=l.filterMap h
 | [],_=>rfl
 |x::l,q=>by rw[List.filterMap_cons,List.filterMap_cons,q x (.head _),Gf fun y hy=>q y (.tail _ hy)]
theorem Po{α:Type} [BEq α] [LawfulBEq α]{β:Type}:∀{ps:List α} {as:List β},ps.Nodup→ps.length=as.length→ps.filterMap (fun n=>((ps.zip as).lookup n).map (n,·))=ps.zip as
 | [],_,_,_=>rfl
 |p::ps,[],_,h=>by cases h
 |p::ps,a::as,n,h=>by
  refine xA (List.nodup_cons.mp n) fun n1 n2=>?_;rw[List.zip_cons_cons,List.filterMap_cons,List.lookup_cons];simp only[beq_self_eq_true,Option.map_some];congr 1;refine(Gf fun x hx=>?_).trans (Po n2 (by simpa using h));have:(x==p)=false:=by simpa using fun e:x=p=>n1 (e▸hx)
  rw[List.lookup_cons,this]
theorem jn{α:Type _} {c:Bool} {x y:α}(h:c=false):(if c=true then x else y)=y:=by rw[h];rfl
theorem MK{fd:FuncData} {as:List Value}(hp:QP fd.params=true)(hd:fd.defaults=.none)(hk:fd.kwdefaults=.none)(hl:(fd.params.args.map (·.arg)).length=as.length):
  bindArgs fd ⟨as,[]⟩=pure ((fd.params.args.map (·.arg)).zip as):=by
 obtain⟨name,qual,params,body,scope,gl,cl,dV,kV,doc,pm,an,cd,ct,bu⟩:=fd;obtain⟨po,args,va,ko,kd,kw⟩:=params;simp only[QP,Bool.and_eq_true,List.isEmpty_iff,Option.isNone_iff_eq_none] at hp hd hk;obtain⟨⟨⟨⟨rfl,rfl⟩,rfl⟩,rfl⟩,hn⟩:=hp;subst hd hk;have m:((args.map (·.arg)).filter fun n=>(((args.map (·.arg)).zip as).lookup n).isNone)= []:=by
  rw[List.filter_eq_nil_iff];intro x hx;have:=Fw hx hl;cases c:((args.map (·.arg)).zip as).lookup x with
  |none=>rw[c] at this;exact Ak this
  |some v=>simp
 have hl:(args.map (·.arg)).length=as.length:=hl;have g:(decide (as.length>(args.map (·.arg)).length)&&(none:Option Arg).isNone)=false:=by
  rw[decide_eq_false (by omega)];rfl
 have z:=Po (of_decide_eq_true hn) hl;have hs:seqItems? Value.none=pure none:=rfl;change (if(decide (as.length>(args.map (·.arg)).length)&&(none:Option Arg).isNone)=true then _ else _)=_;refine(jn g).trans ?_;rw[show List.drop _ ((none:Option (Array Value)).getD #[]).toList= [] from List.drop_nil];refine(jn (c:=!(List.filter _ (List.take ((args.map (·.arg)).length-0) (args.map (·.arg)))).isEmpty) (by rw[Nat.sub_zero,List.take_length];exact congrArg (fun l=>!List.isEmpty l) m)).trans ?_;clear m g;rw[show List.zip (List.drop _ (List.map (fun x=>Arg.arg x) []++args.map (·.arg))) ([]:List Value)= [] from List.zip_nil_right];simp only[hs,List.map_nil,List.nil_append,List.forIn_nil,List.append_nil,pure_bind,z,Option.getD_none,List.isEmpty_nil,Bool.not_true,Bool.false_eq_true,if_false]
theorem Wi{sc:Scope} {ρ ρ':Af} {k:Nat} {v:V}(e:Uk sc k v ρ=some ρ'):k≠0∧k≠Dg∧B9 sc.names k=some .local∧ρ'=(k,v)::ρ:=by
 unfold Uk at e
 split at e
 ·rename_i h1 h2
  cases e;refine xA (Bool.or_eq_false_iff.mp h1) fun a b=>?_;exact⟨fun z=>(by clear h2 h1 b;subst z;exact Di a),fun z=>(by rw[z,show Nat.beq Dg Dg=true from Nat.beq_refl _] at b;exact Di b),h2,rfl⟩
 ·exact AD e
section
variable{W:Wd} {l:List Env} {X Z:AS} {σ σ' σ₁:St} {A:Around} {sc:Scope} {ρ ρ':Af} {m:Str→Option Value}
theorem Nm.nil:Nm W X σ sc [] m:=⟨(fun J J h=>nomatch h),rfl,rfl⟩
theorem Nm.put{x:Str} {v:V} {a:Value}(n:Nm W X σ sc ρ m)(e:Uk sc (nk x) v ρ=some ρ')(hv:VT W X σ v a):sc.names.lookup x=some .local∧Nm W X σ sc ρ' (fun y=>if y=x then some a else m y):=by
 refine OI (Wi e) fun h0 hd hk z3q=>?_;clear e;subst z3q;have hl:=Ij h0 hk;refine⟨hl,⟨fun y w h=>?_,?_,?_⟩⟩
 ·rw[A7] at h
  by_cases c:nk x=nk y
  ·rw[if_pos c] at h
   cases h;cases EI c h0;exact⟨hl,a,if_pos rfl,hv⟩
  ·rw[if_neg c] at h
   rw[if_neg fun z=>c (by rw[z])];exact n.val y w h
 ·rw[A7,if_neg h0];exact n.nz
 ·rw[A7,if_neg hd];exact n.dbg
set_option tactic.hygienic true in
theorem Nv:∀{ps:List Str} {vs:List V} {as:List Value} {ρ0 ρ:Af} {m0:Str→Option Value},An sc (ps.map nk) vs ρ0=some ρ→Q8 W X σ vs as→Nm W X σ sc ρ0 m0→
  ps.length=as.length∧(∀y∈ps.zip as,sc.names.lookup y.1=some .local)∧Nm W X σ sc ρ (fun x=>((ps.zip as).reverse.lookup x).or (m0 x))
 | [],[],as,ρ0,ρ,m0,e,h,n=>by
  cases e;unfold Q8 BC at h;subst h;exact⟨rfl,(fun J h=>nomatch h),by simpa using n⟩
 |p::ps,v::vs,as,ρ0,ρ,m0,e,h,n=>by
  refine BE h.of_cons fun a q z2q h1 h2=>?_;subst z2q;simp only[List.map_cons,An] at e
  split at e
  ·rename_i ρ1 e1
   refine xA (n.put e1 h1) fun l1 n1=>?_;refine Es (Nv e h2 n1) fun k1 k2 k3=>?_;refine⟨by simp[k1],fun y hy=>?_,?_⟩
   ·rcases List.mem_cons.mp (show y∈(p,a)::ps.zip q from hy) with rfl|hy
    ·exact l1
    ·exact k2 y hy
   ·have:(fun x=>(((p::ps).zip (a::q)).reverse.lookup x).or (m0 x))=fun x=>((ps.zip q).reverse.lookup x).or (if x=p then some a else m0 x):=by
     funext x;rw[List.zip_cons_cons,List.reverse_cons,List.lookup_append,Option.or_assoc];congr 1;rw[List.lookup_cons,List.lookup_nil]
     by_cases hx:x=p
     ·clear k3 l1 n1 e1;subst hx;simp
     ·have hb:(x==p)=false:=beq_eq_false_iff_ne.mpr hx
      simp[hb,hx]
    rw[this];exact k3
  ·exact AD e
 | [],_::_,_,_,_,_,e,_,_=>by exact AD e
 |_::_,[],_,_,_,_,e,_,_=>by exact AD e
theorem Nm.keep{s':Shared}(n:Nm W X σ sc ρ m)(x:Nz W l X Z0 σ {σ with s:=s'}):Nm W X {σ with s:=s'} sc ρ m:=⟨fun y v h=>let⟨a,b,c,d⟩:=n.val y v h; ⟨a,b,c,d.nz .zero x⟩,n.nz,n.dbg⟩
structure Q_(W:Wd)(l:List Env)(X:AS)(σ:St)(sc:Scope)(ρ:Af)(env:Env)(L:Addr)(s1:Shared):Prop where
 sr:SR W (env::l) X {σ with s:=s1}
 keep:∀b o,σ.s.heap.get? b=some o→s1.heap.get? b=some o
 new:σ.s.heap.get? L=none
 fits:fW sc L env
 frame:env.frame=some L
 fr:Yi {σ with s:=s1} L
 nm:∃m,s1.heap.Ns L m∧Nm W X {σ with s:=s1} sc ρ m
set_option backward.match.sparseCases true in
theorem YE(wf:WF W)(S:SR W l X σ){f:Addr} {fn:Fn}(F:Jm W.K f fn){vs:List V} {as:List Value}(e:An fn.sc fn.ps vs []=some ρ)(hv:Q8 W X σ vs as)(hroom:A.depth<recursionLimit){R:Result→Shared→Prop}
  (h:∀env L s1,Q_ W l X σ fn.sc ρ env L s1→
   wpAny (mo W) (A.deeper env) (execs fn.body env) (fun fl s'=>R (.ok (.ret (match fl with|.ret v=>v|_=>.none))) s')
    (fun e s'=>wpAny (mo W) (A.deeper env) (leaving env e) (fun J s''=>R (.error e) s'') (fun e' s''=>R (.error e') s'') s') s1):
  codeAny (mo W) A (.call (.ref f) ⟨as,[]⟩) R σ.s:=by
 refine F.obj.elim fun u Z=>?_;have hsc:=F.sc;unfold WV at hsc;simp only[Bool.and_eq_true,Bool.not_eq_true',beq_iff_eq,List.all_eq_true] at hsc;obtain⟨⟨⟨hk,hco⟩,hgen⟩,hcell⟩:=hsc;have XI:W.K.In σ.s.heap:=wf.kin.keeps S.base;have eps:fn.ps=(u.ps.args.map (·.arg)).map nk:=by rw[Z.p];unfold Ib;rw[List.map_map];rfl
 rw[eps] at e;refine Es (Nv (sc:=fn.sc) e hv (m0:=fun J=>none) Nm.nil) fun b1 b2 b3=>?_;have none_:σ.s.heap.get? σ.s.heap.objs.size=none:=Heap.get?_none_of_le (Nat.le_refl _);refine codeAny_call_function hroom (XI _ _ Z.o) rfl hco hgen rfl (codeRec_of XI Z.c) ?_;rw[MK (fd:=u.d fn) Z.k rfl rfl b1];refine wpAny_pure ?_;refine Ng (fun x hx z=>by have:=hcell x hx;rw[z] at this;exact Ak this) b2 hk fun h₁ hns hfr hkeep hsame=>⟨wf.lim.keeps fun b o q=>hkeep b o (S.base b o q),?_⟩;have N:Nz W l X Z0 σ {σ with s:={σ.s with heap:=h₁,toks:=σ.s.toks+((u.ps.args.map (·.arg)).zip as).length} }:=S.keep hkeep rfl rfl;refine AZ hfr fun oL hoL hcL=>?_;refine FN (id hns) fun oL' es ep hoL' hdL hkL hmL=>?_;cases Option.some.inj (hoL.symm.trans hoL');have nfd:∀vs,oL.data≠ .fields vs:=fun vs z=>by rw[hdL] at z;cases z
 refine codeAny_func (h (newEnv fn.sc σ.s.heap.objs.size mainGlobals [] (u.q++ ".<locals>.") (some f) u.cd none builtinsNs) σ.s.heap.objs.size {σ.s with heap:=h₁,toks:=σ.s.toks+((u.ps.args.map (·.arg)).zip as).length}
  ⟨{N.sr with fr:=fun env he=>?_},hkeep,none_,⟨rfl,hk,rfl,rfl,rfl⟩,rfl,⟨oL,hoL,Lw hcL nfd⟩,fun x=>((u.ps.args.map (·.arg)).zip as).reverse.lookup x,hns,?_⟩)
 ·rcases List.mem_cons.mp he with rfl|he
  ·refine⟨by show fn.sc.kind≠_;rw[hk];decide,_,oL,rfl,?_,hoL,hcL,nfd⟩
   cases c:W.B.get? σ.s.heap.objs.size with
   |none=>rfl
   |some o=>have:=S.base _ o c;rw[none_] at this;exact AD this
  ·exact N.sr.fr env he
 ·have:=b3.keep N
  simpa using this
theorem SR.tail{env:Env}(S:SR W (env::l) X σ):SR W l X σ:={S with fr:=fun e he=>S.fr e (.tail _ he)}
theorem Q_.back{env:Env} {L:Addr} {s1:Shared}(n:Q_ W l X σ sc ρ env L s1)(x:Nz W (env::l) X (fun a=>a=L) {σ with s:=s1} σ'):Nz W l X Z0 σ σ':=by
 have ne:∀{p o},σ.s.heap.get? p=some o→p≠L:=fun e z=>by rw[z,n.new] at e;exact AD e
 refine⟨x.sr.tail,x.lo,x.gl,x.tm,x.par,x.lex,x.tx,x.np,x.lx,fun p o e J hy=>x.kp p o (n.keep p o e) (ne e) hy,fun p o e=>x.al p o (n.keep p o e),fun p h=>?_⟩;rcases x.nw p h with q|q
 ·exact .inl q
 ·right
  cases e:σ.s.heap.get? p with
  |none=>rfl
  |some o=>rw[show s1.heap.get? p=_ from n.keep p o e] at q;exact Cq q
theorem Q_.flies{env:Env} {L C e:Addr} {s1 s':Shared} {l':List Env}(n:Q_ W l X σ sc ρ env L s1)(y:Ci W l' (fun a=>a=L) {σ with s:=s1} s' C e):Ci W l' Z0 σ s' C e:=by
 refine xEEA y fun B a y1 y2=>?_;have ne:∀{p o},σ.s.heap.get? p=some o→p≠L:=fun e z=>by rw[z,n.new] at e;exact AD e
 exact⟨B,a,⟨y1.base,fun p o e J hy nf=>y1.kn p o (n.keep p o e) (ne e) hy nf,fun p o e J nf=>y1.kf p o (n.keep p o e) (ne e) nf,y1.os,y1.gens⟩,y2⟩
theorem VR.shut{P:Params} {ca:Ca} {g:Hp} {μ μ':Mu} {v:V} {a:Value}(h:VR P ca g μ v a)(c:CQ v=true):VR P ca g μ' v a:=by
 refine Sk c (fun l0 e c=>?_) fun c=>h.cl c;subst e;unfold VR at h⊢;refine Cc h fun b o xs n e h1 h2 h3 h4=>?_;exact⟨b,o,xs,n,e,h1,h2,h3,h4.all (fun h c=>h.cl (A8 c).1) c⟩
theorem O6{f:V→HA→Option (V×HA)}(hf:∀{σ:St} {v:V} {a:Value} {v':V} {h':HA},SR W l X σ→VT W X σ v a→f v σ.h=some (v',h')→Nz W l X Z0 σ {σ with h:=h'}∧VR W.w.params W.ca (St.reg {σ with h:=h'} X) μ0 v' a):
  ∀{vs:List V} {as:List Value} {σ:St} {p:List V×HA},SR W l X σ→Q8 W X σ vs as→KJ f vs σ.h=some p→Nz W l X Z0 σ {σ with h:=p.2}∧BC W.w.params W.ca (St.reg {σ with h:=p.2} X) μ0 p.1 as∧p.1.all jL=true
 | [],as,σ,p,S,h,e=>by
  cases e;unfold Q8 BC at h;subst h;exact⟨.refl S,.nil,rfl⟩
 |v::r,as,σ,p,S,h,e=>by
  refine BE h.of_cons fun a q z2q h1 h2=>?_;subst z2q;refine BQ e (fun y e1 e=>B3 e (fun c e=>BQ e (fun z e2 e=>?_) (fun J=>AD)) (fun J=>AD)) (fun J=>AD);cases e;clear e;obtain⟨v1,h1'⟩:=y;refine xA (hf S h1 e1) fun N1 w1=>?_;refine Es (O6 hf (σ:={σ with h:=h1'}) N1.sr (h2.nz .zero N1) e2) fun N2 w2 c2=>?_;exact⟨N1.trans N2,.cons (VR.mono (N2.reg .zero) (.refl _) _ _ w1) w2,Bool.and_eq_true_iff.mpr ⟨c,c2⟩⟩
theorem O7:∀(n:Nat) {σ:St} {v:V} {a:Value} {v':V} {h':HA},SR W l X σ→VT W X σ v a→Jb n v σ.h=some (v',h')→Nz W l X Z0 σ {σ with h:=h'}∧VR W.w.params W.ca (St.reg {σ with h:=h'} X) μ0 v' a
 |0,σ,v,a,v',h',S,h,e=>by
  refine xA (D6 e) fun c e=>?_;cases e;exact⟨.refl S,h.shut c⟩
 |n+1,σ,v,a,v',h',S,h,e=>by
  refine BQ e (fun l0 e1 e=>BQ e (fun p e2 e=>BQ e (fun l1 e3 e=>?_) (fun J=>AD)) (fun J=>AD)) fun J e=>?_
  ·cases e
   obtain⟨_,c,xs,m,_,_,rfl,k3,g1,_,g2,_⟩:=JU S e1 h;refine Es (O6 (fun S h e=>O7 n S h e) S (BC.mono (Le.refl _) ((k3▸XM).trans (.of_nt _)) _ _ g2) e2) fun N1 w1 J=>?_;refine Sz (X1 (σ:={σ with h:=p.2}) N1.sr e3 (h.nz .zero N1)) fun N2 b ys m' hb k1 J=>?_;cases hb;refine⟨N1.trans N2,?_⟩;unfold VR;have:listOf ys m'=listOf xs m:=Option.some.inj ((AR (AR k1).1).1.symm.trans g1);exact⟨_,xs,m,rfl,this▸k1,BC.mono (N2.reg .zero) (.refl _) _ _ w1⟩
  ·refine xA (D6 e) fun c e=>?_
   cases e;exact⟨.refl S,h.shut c⟩
theorem SR.dropTmp(S:SR W l X σ){x:Nat×List (Nat×V)} {a:Value}(e:σ.h.tmp=some x)(h:VT W X σ .tmp a):SR W l X ⟨{σ.h with tmp:=none},{σ.μ with tm:=none},σ.s⟩∧(∀p,St.Y ⟨{σ.h with tmp:=none},{σ.μ with tm:=none},σ.s⟩ p→σ.Y p)∧VT W X ⟨{σ.h with tmp:=none},{σ.μ with tm:=none},σ.s⟩ (.inst x.1 x.2) a:=by
 unfold VT VR at h;refine AZ h fun p ep z2q=>?_;clear h;subst z2q;have hc:σ.cel .tmp=some ⟨.inst x.1 x.2,p,μ0⟩:=LB ep e;have old:∀s,s≠ .tmp→cel {σ.h with tmp:=none} {σ.μ with tm:=none} s=σ.cel s:=fun s n=>by
  cases s with
  |tmp=>exact absurd rfl n
  |lex=>show B0 (some (.inst kL (C5 _ σ.μ.lx))) _ _=B0 (some (.inst kL (C5 σ.h σ.μ.lx))) _ _;cases σ.μ.lx<;>rfl
  |_=>rfl
 have G:Go W X .tmp σ ⟨{σ.h with tmp:=none},{σ.μ with tm:=none},σ.s⟩:=⟨fun s n c' e=>⟨c',(old s n).symm.trans e,rfl,rfl,.refl _⟩,(fun c' e=>nomatch e),fun a o e J=>e,(fun a o e z=>nomatch e.symm.trans z),rfl,S.nlo,S.ngl,S.tx,S.lx,rfl,rfl⟩;have sub:∀q,St.Y ⟨{σ.h with tmp:=none},{σ.μ with tm:=none},σ.s⟩ q→σ.Y q:=fun q ⟨s,c,e,h⟩=>by
  by_cases n:s=.tmp
  ·subst n;exact AD e
  ·exact⟨s,c,(old s n).symm.trans e,h⟩
 have S':=G.sr S (fun J e=>nomatch e);refine⟨S',sub,?_⟩;refine CV (S.cell .tmp _ hc) fun C es n e0 k1 k2 k3 J=>?_;have off:∀q,q=p.1∨q=p.2→¬St.Y ⟨{σ.h with tmp:=none},{σ.μ with tm:=none},σ.s⟩ q:=fun q hq ⟨s,c,e,h⟩=>by
  by_cases n:s=.tmp
  ·subst n;exact AD e
  ·exact n (S.inj s .tmp c _ q ((old s n).symm.trans e) hc h hq)
 unfold VT VR;exact⟨_,C,_,es,n,rfl,e0,Ac k1 (off _ (.inl rfl)),Ac k2 (off _ (.inr rfl)),Cs.mono G.le (.refl _) _ _ k3⟩
theorem Xv(S:SR W l X σ)(N:Nz W l X Z0 σ σ'){v:V} {a:Value} {p:V×HA}(e0:M6 σ.h.tmp.isSome v σ'.h=some p)(h:VT W X σ' v a):∃μ',Nz W l X Z0 σ ⟨p.2,μ',σ'.s⟩∧VT W X ⟨p.2,μ',σ'.s⟩ p.1 a:=by
 have frz:SK v σ'.h=some p→∃μ',Nz W l X Z0 σ ⟨p.2,μ',σ'.s⟩∧VT W X ⟨p.2,μ',σ'.s⟩ p.1 a:=fun e=>by
  refine B3 e (fun J e=>?_) fun J e=>?_
  ·clear e0;cases e;exact⟨_,N,h⟩
  ·refine xA (O7 4 N.sr h e) fun N1 w=>?_
   exact⟨_,N.trans N1,VR.mono (Le.refl _) (.zero _) _ _ w⟩
 cases c:σ.h.tmp.isSome with
 |true=>
  rw[c] at e0;exact BQ e0 (fun x J e=>aG e (fun J=>AD) fun e=>frz e) (fun J=>AD)
 |false=>
  rw[c] at e0;refine BQ e0 (fun x e1 e=>aG e (fun z e=>?_) AD) fun J e=>frz e;cases e;clear e0 e frz;subst z;refine Es (N.sr.dropTmp e1 h) fun S' sub h'=>?_;have t0:σ.μ.tm=none:=by
   have:=S.nt;rw[c] at this;cases q:σ.μ.tm with
   |none=>rfl
   |some _=>rw[q] at this;exact Ak this
  exact⟨_,⟨S',N.lo,N.gl,fun p h=>(by rw[t0] at h;exact AD h),N.par,N.lex,N.tx,N.np,N.lx,N.kp,N.al,fun p h=>N.nw p (sub p h)⟩,h'⟩
end
def Vx(W:Wd)(l:List Env)(Z:AS)(σ:St)(s':Shared)(C e:Addr):Prop:=∃B oe vs a0,Ex W Z σ s' B∧B.StaysIn s'.heap∧B.get? e=none∧s'.heap.FunFrames B l∧s'.heap.get? e=some oe∧oe.cls=.ref C∧oe.data=.fields vs∧vs[1]? =some .none∧vs[0]? =some a0
theorem Vx.leave{W:Wd} {A:Around} {env:Env} {outer:List Env} {Z:AS} {L C e:Addr} {σ:St} {s':Shared} {E:Value→Shared→Prop} {Q:Unit→Shared→Prop}(hA:A.frames=some (env::outer))(hf:env.frame=some L)(y:Vx W (env::outer) Z σ s' C e)(q:∀s'',Ci W outer Z σ s'' C e→Q () s''):wpAny (mo W) A (leaving env (.ref e)) Q E s':=by
 obtain⟨B,oe,vs,a0,y1,y2,y3,y4,y5,y6,y7,y8,y9⟩:=y;refine wpAny_leaving_firstW (base:=B) hA y4 hf y5 y2 y3 y7 y8 y9 fun h' hL=>?_;obtain⟨k1,⟨_,_,k2⟩,k3,k4⟩:=hL;exact q _ ⟨B,a0,y1.slots (s'':={s' with heap:=h'}) k4 rfl rfl,k1,y3,k2,y6▸k3⟩
def NG(n:Nat):Prop:=∀Γ ρ e K σ Q,D Γ ρ σ→DM n Γ.cx ρ e σ.h K=Γ.res→Gv Γ ρ σ K Q→wA Γ (eval e Γ.env) Q σ
def Gvo(Γ:Fr)(ρ:Af)(σ:St)(K:Option V→HA→RA X)(Q:Value→Shared→Prop):Prop:=∀v a σ',K v σ'.h=Γ.res→Γ.N σ σ'→D Γ ρ σ'→OV Γ.W Γ.X σ' v a→Q a σ'.s
def aS(n:Nat):Prop:=∀Γ ρ e K σ Q,D Γ ρ σ→Xu n Γ.cx ρ e σ.h K=Γ.res→Gvo Γ ρ σ K Q→wA Γ (evalPart e Γ.env) Q σ
def Kz(n:Nat):Prop:=∀Γ ρ es pos K σ Q,D Γ ρ σ→Hu n Γ.cx ρ es σ.h K=Γ.res→si Γ ρ σ K Q→wA Γ (spliced (backTo pos (starEach es Γ.env))) Q σ
def l4(n:Nat):Prop:=∀Γ ρ op es pos K σ Q,D Γ ρ σ→kW n Γ.cx ρ op es σ.h K=Γ.res→Gv Γ ρ σ K Q→wA Γ (boolOp pos op (evalEach es Γ.env)) Q σ
def lz(n:Nat):Prop:=∀Γ ρ v x ops es pos K σ Q,D Γ ρ σ→aF n Γ.cx ρ v ops es σ.h K=Γ.res→Γ.V σ v x→Gv Γ ρ σ K Q→wA Γ (compareChain pos x ops (markedEach ops es (evalEach es Γ.env))) Q σ
noncomputable abbrev kb(K:Bool→HA→RA X):V→HA→RA X:=fun v h=>AE v fun b=>K b h
def aU(n:Nat):Prop:=∀Γ ρ v x ops es pos K σ Q,D Γ ρ σ→aF n Γ.cx ρ v ops es σ.h (kb K)=Γ.res→Γ.V σ v x→Gb Γ ρ σ K Q→wA Γ (testChain pos x ops (markedEach ops es (evalEach es Γ.env))) Q σ
def rT(n:Nat):Prop:=∀Γ ρ e ops es pos K σ Q,D Γ ρ σ→DM n Γ.cx ρ (.Compare e ops es pos) σ.h (kb K)=Γ.res→Gb Γ ρ σ K Q→wA Γ (isTrue (.Compare e ops es pos) Γ.env (eval (.Compare e ops es pos) Γ.env)) Q σ
def Pe(n:Nat):Prop:=∀Γ ρ e K σ Q,D Γ ρ σ→IH n Γ.cx ρ e σ.h K=Γ.res→Gb Γ ρ σ K Q→wA Γ (isTrue e Γ.env (eval e Γ.env)) Q σ
def l6(n:Nat):Prop:=∀Γ ρ op es K σ Q,D Γ ρ σ→ll n Γ.cx ρ op es σ.h K=Γ.res→Gb Γ ρ σ K Q→wA Γ (allTrue op es Γ.env) Q σ
def rY(n:Nat):Prop:=∀Γ ρ s K σ Q,Γ.cp=false→D Γ ρ σ→Fx n Γ.cx ρ s σ.h K=Γ.res→Gx Γ σ K Q→wA Γ (exec s Γ.env) Q σ
def ND(n:Nat):Prop:=∀Γ ρ ss K σ Q,Γ.cp=false→D Γ ρ σ→BS n Γ.cx ρ ss σ.h K=Γ.res→Gx Γ σ K Q→wA Γ (execs ss Γ.env) Q σ
def Yt(n:Nat):Prop:=∀Γ ρ t v x K σ Q,Γ.cp=false→D Γ ρ σ→YY n Γ.cx ρ t v σ.h K=Γ.res→Γ.V σ v x→Gu Γ σ K Q→wA Γ (assign t Γ.env x) Q σ
def fY(n:Nat):Prop:=∀Γ ρ ss K σ Q,Γ.cp=false→D Γ ρ σ→Q6 n Γ.cx ρ ss σ.h K=Γ.res→Gx Γ σ K Q→(∀s' e c C,Γ.res=.ex c→Γ.W.ce c=some C→Vx Γ.W Γ.l Γ.Z Γ.σ0 s' C e→Γ.E (.ref e) s')→wA Γ (execs ss Γ.env) Q σ
structure Rm(W:Wd)(A:Around)(l:List Env)(d δ:Nat)(cx:CA):Prop where
 fa:Fa A l d
 il:cx.i≤cx.li
 room:d+1+δ+(cx.li-cx.i)≤599
 hg:cx.g=gT
 tab:Fg W cx.md δ cx.A
def rZ(W:Wd)(l:List Env)(X:AS)(σ:St)(res:RA Mn.X)(K:Fl→Af→HA→RA Mn.X)(R:Result→Shared→Prop):Prop:=∀fl ρ σ' a v,(fl=.ret v∨fl=.next∧v=.none)→K fl ρ σ'.h=res→Nz W l X Z0 σ σ'→VT W X σ' v a→R (.ok (.ret a)) σ'.s
def Su(W:Wd)(l:List Env)(σ:St)(res:RA Mn.X)(R:Result→Shared→Prop):Prop:=∀c s' e C,res=.ex c→W.ce c=some C→Ci W l Z0 σ s' C e→R (.error (.ref e)) s'
section
variable{W:Wd} {l:List Env} {X:AS} {σ:St} {A:Around} {d δ n:Nat} {cx:CA} {fn:Fn} {f:Addr} {vs:List V} {as:List Value} {ρ:Af} {res:RA Mn.X} {K:Fl→Af→HA→RA Mn.X} {R:Result→Shared→Prop}
noncomputable abbrev rH(W:Wd)(A:Around)(l:List Env)(X:AS)(env:Env)(L:Addr)(cx:CA)(d δ:Nat)(σ:St)(s1:Shared)(res:RA Mn.X)(E:Value→Shared→Prop):Fr:=⟨W,A.deeper env,l,X,env,L,cx,d+1,δ,{σ with s:=s1},res,E,false⟩
theorem Qh(wf:WF W)(S:SR W l X σ)(M:Md cx.md σ)(r:Rm W A l d δ cx)(F:Jm W.K f fn)(hsc:cx.sc=fn.sc)(e:An fn.sc fn.ps vs []=some ρ)(hv:Q8 W X σ vs as)(hn:RA.no≠res)
  (run:∀Γ s1,Γ.cp=false→D Γ ρ {σ with s:=s1}→Γ.W=W→Γ.cx=cx→Γ.res=res→∀Q,Gx Γ {σ with s:=s1} K Q→(∀s' e c C,Γ.res=.ex c→Γ.W.ce c=some C→Vx Γ.W Γ.l Γ.Z Γ.σ0 s' C e→Γ.E (.ref e) s')→wpAny Γ.M Γ.A (execs fn.body Γ.env) Q Γ.E s1)
  (q:rZ W l X σ res K R) (x:Su W l σ res R) (nb:∀fl ρ h,K fl ρ h=res→fl≠ .brk∧fl≠ .cont):codeAny (mo W) A (.call (.ref f) ⟨as,[]⟩) R σ.s:=by
 have hdep:=r.fa.depth;have hun:=r.fa.units;have hr:=r.room;refine YE wf S F e hv (by show A.depth<1000;omega) fun env L s1 N=>?_;have hA:(A.deeper env).frames=some (env::l):=by show A.frames.map _=_;rw[r.fa.frames];rfl
 refine run (rH W A l X env L cx d δ σ s1 res _) s1 rfl ⟨⟨wf,hn,⟨hA,r.fa.handled,r.fa.guards,by show A.depth+1≤301+(d+1);omega,by show A.units+3≤4+10*(d+1);omega⟩,hsc▸N.fits,fun J=>N.frame,r.hg,r.il,r.room,r.tab,fun s' e c C h1 h2 h3=>?_,fun p o e n=>N.sr.notY e n⟩,.refl N.sr,M.nz (Z:=Z0) (S.keep N.keep ?_ ?_),N.fr,?_⟩ rfl rfl rfl _ (fun fl w ρ' σ' e N' D' fr=>?_) fun s' e c C h1 h2 h3=>?_
 ·rcases h3 with h3|h3
  ·exact h3.leave hA N.frame fun s'' y=>x c s'' e C h1 h2 (N.flies y)
  ·exact h3.leave N.frame fun s'' y=>x c s'' e C h1 h2 (N.flies y)
 ·exact N.sr.os.trans S.os.symm
 ·exact N.sr.gens.trans S.gens.symm
 ·refine AZ N.nm fun m h1 h2=>?_
  exact⟨m,h1,fun hy=>(by refine AZ (S.at (p:=L) hy) fun o e J=>?_;rw[N.new] at e;exact AD e),hsc▸h2⟩
 ·cases fl with
  |ret v=>refine AZ fr fun a z1q h=>?_;clear fr;subst z1q;exact q (.ret v) ρ' σ' a v (.inl rfl) e (N.back N') h
  |next=>cases(show w=.next from fr);exact q .next ρ' σ' .none .none (.inr ⟨rfl,rfl⟩) e (N.back N') .of_no
  |brk=>exact absurd rfl (nb _ _ _ e).1
  |cont=>exact absurd rfl (nb _ _ _ e).2
 ·exact h3.leave hA N.frame fun s'' y=>x c s'' e C h1 h2 (N.flies y)
end
def Y1(n:Nat):Prop:=∀Γ ρ A d cx fn f vs as K σ R,D Γ ρ σ→Fa A Γ.l d→cx.md=Γ.cx.md→cx.g=gT→Fg Γ.W cx.md Γ.δ cx.A→cx.sc=fn.sc→(cx.i≤cx.li→d+1+Γ.δ+(cx.li-cx.i)≤599)→Jm Γ.W.K f fn→Γ.Vs σ vs as→bQ n cx fn vs σ.h K=Γ.res→(∀v a σ',K v σ'.h=Γ.res→Nz Γ.W Γ.l Γ.X Z0 σ σ'→Γ.V σ' v a→R (.ok (.ret a)) σ'.s)→Su Γ.W Γ.l σ Γ.res R→codeAny Γ.M A (.call (.ref f) ⟨as,[]⟩) R σ.s
theorem Zr{n:Nat}(IB:fY n):Y1 (n+1):=fun Γ ρ A d cx fn f vs as K σ R F fa hm hg tab hsc room FF hv he q x=>by
 refine xA (Ba he F.ok.hn) fun c he=>?_;refine AZ (Ax he F.ok.hn) fun ρ' e1 he=>?_;have fin:∀{fl ρ' h},bA (Jc (tS σ.h) (.ok (fl,ρ') h)) K=Γ.res→∃v p,(fl=.ret v∨fl=.next∧v=.none)∧M6 (tS σ.h) v h=some p∧K p.1 p.2=Γ.res:=fun{fl ρ' h} e=>by
  have go:∀v,bA (cO (M6 (tS σ.h) v h) .no fun p=>.ok p.1 p.2) K=Γ.res→∃p,M6 (tS σ.h) v h=some p∧K p.1 p.2=Γ.res:=fun v e=>by
   cases z:M6 (tS σ.h) v h with
   |none=>rw[z] at e;exact absurd e F.ok.hn
   |some p=>rw[z] at e;exact⟨p,rfl,e⟩
  cases fl with
  |next=>refine AZ (go .none e) fun p h1 h2=>?_;exact⟨_,p,.inr ⟨rfl,rfl⟩,h1,h2⟩
  |ret v=>refine AZ (go v e) fun p h1 h2=>?_;exact⟨_,p,.inl rfl,h1,h2⟩
  |_=>exact absurd e F.ok.hn
 refine Qh (cx:=cx) (K:=fun y ρ h=>bA (Jc (tS σ.h) (.ok (y,ρ) h)) K) F.ok.wf F.S (hm▸F.md) ⟨fa,Nat.le_of_ble_eq_true c,room (Nat.le_of_ble_eq_true c),hg,tab⟩ FF hsc e1 hv F.ok.hn (fun Γ' s1 T D' h1 h2 h3 Q gx hx=>IB Γ' ρ' fn.body _ _ Q T D' (by rw[h2,h3];exact he) gx hx) (fun fl ρ1 σ' a v hf e N h=>?_) x fun fl ρ1 h e=>?_
 ·refine BE (fin e) fun v' p k1 k2 k3=>?_
  have:v'=v:=by
   clear e;rcases hf with rfl|⟨rfl,rfl⟩
   ·rcases k1 with k1|⟨k1,_⟩<;>cases k1;rfl
   ·rcases k1 with k1|⟨_,k1⟩
    ·cases k1
    ·exact k1
  subst this;refine AZ (Xv F.S N k2 h) fun μ' N' w=>?_;exact q p.1 a ⟨p.2,μ',σ'.s⟩ k3 N' w
 ·refine xEEA (fin e) fun v p k1 J=>?_
  constructor<;>(intro z;subst z;rcases k1 with k1|⟨k1,_⟩<;>cases k1)
section
variable{W:Wd} {A:Around} {E:Value→Shared→Prop} {env:Env}
theorem JH{e:PySem.Expr} {r:List PySem.Expr}(h:∀x p,e≠ .Starred x p):starEach (e::r) env=(false,eval e env)::starEach r env:=by
 cases e<;>first|rfl|exact absurd rfl (h _ _)
theorem YZ{pos:Pos} {Q:List Value→Shared→Prop} {s:Shared}(q:Q [] s):wpAny (mo W) A (spliced (backTo pos (starEach [] env))) Q E s:=wpAny_items_nil q
theorem Vw{pos:Pos} {e:PySem.Expr} {r:List PySem.Expr} {Q:List Value→Shared→Prop} {s:Shared}(h:∀x p,e≠ .Starred x p)
  (q:wpAny (mo W) A (eval e env) (fun v s₁=>wpAny (mo W) A (spliced (backTo pos (starEach r env))) (fun vs s₂=>Q (v::vs) s₂) E s₁) E s):
  wpAny (mo W) A (spliced (backTo pos (starEach (e::r) env))) Q E s:=wpAny_items_cons q (JH h)
theorem Ej:∀{es:List PySem.Expr} {pos:Pos},Bu es=true→(backTo pos (starEach es env)).any (·.1)=false
 | [],_,_=>rfl
 |e::r,pos,h=>by
  have hs:∀x p,e≠ .Starred x p:=fun x p z=>by subst z;exact Ak h
  have hr:Bu r=true:=by cases e<;>first|exact h|(exact absurd rfl (hs _ _))
  rw[JH hs];show(false||(backTo pos (starEach r env)).any (·.1))=false;rw[Ej hr];rfl
theorem M5{f:Value} {pos:Pos} {e:PySem.Expr} {r:List PySem.Expr} {Q:Args→Shared→Prop} {s:Shared}(h:Bu (e::r)=true)(q:wpAny (mo W) A (spliced (backTo pos (starEach (e::r) env))) (fun vs s'=>Q ⟨vs,[]⟩ s') E s):
  wpAny (mo W) A (evalArgs f true (backTo pos (starEach (e::r) env)) []) Q E s:=by
 have hs:∀x p,e≠ .Starred x p:=fun x p z=>by clear q;subst z;exact Ak h
 rw[JH hs] at q⊢;exact evalArgs_plain q
set_option tactic.hygienic true in
theorem Hz{o:PySem.Expr} {x:Str} {whole:Sem Value}(h:EE o=false):attributeBase o x env whole=whole:=by
 cases o with
 |Call f as ks p=>
  cases f with
  |Name id q=>
   cases as with
   |cons a r=>rfl
   |nil=>
    cases ks with
    |cons a r=>rfl
    |nil=>
     have:((id !=("super":Str)))=true:=by
      have h:Nat.beq (nk id) I0=false:=h;rw[bne_iff_ne];intro z;rw[z] at h;have:Nat.beq I0 I0=true:=Nat.beq_refl _;rw[show nk "super"=I0 from rfl,this] at h;exact Di h
     unfold attributeBase;dsimp only;rw[this];rfl
  |_=>rfl
 |_=>rfl
end
section
variable{Γ:Fr} {ρ:Af} {σ:St} {K:V→HA→RA X} {Q:Value→Shared→Prop} {v w:V} {x y:Value} {n:Nat} {p:Pos}
theorem D.raise(F:D Γ ρ σ):∀c s' e C,Γ.res=.ex c→Γ.W.ce c=some C→Ci Γ.W Γ.l Z0 σ s' C e→Γ.E (.ref e) s':=fun c s' e C h1 h2 h3=>F.ok.x s' e c C h1 h2 (.inl ((h3.wide fun J h=>h.elim).after F.ok.s0 F.n0))
theorem D.call(F:D Γ ρ σ)(I:Y1 n){cx:CA} {fn:Fn} {f:Addr} {vs:List V} {as:List Value}(hm:cx.md=Γ.cx.md)(hg:cx.g=gT)(ha:cx.A=Γ.cx.A)(hsc:cx.sc=fn.sc)(hi:cx.i≤cx.li→1+(cx.li-cx.i)≤Γ.cx.li-Γ.cx.i)(FF:Jm Γ.W.K f fn)(hv:Γ.Vs σ vs as)(e:bQ n cx fn vs σ.h K=Γ.res)(q:Gv Γ ρ σ K Q):wA Γ (call (.ref f) as) Q σ:=
 wpAny_call (I Γ ρ Γ.A Γ.d cx fn f vs as K σ _ F F.ok.fa hm hg (by rw[hm,ha];exact F.ok.tab) hsc (fun z=>by have:=F.ok.room;have:=hi z;omega) FF hv e (fun v a σ' e N h=>q.go F N e h) fun c s' e C h1 h2 h3=>F.raise c s' e C h1 h2 h3)
theorem T3(F:D Γ ρ σ){c:Const} {k:Nat}(e:PS c=some v)(q:∀a n,Γ.V σ v a→Q a {σ.s with toks:=n}):wA Γ (eval (.Constant c k p) Γ.env) Q σ:=by
 cases c with
 |none=>cases e;exact wpAny_Constant_none (q _ σ.s.toks .of_no)
 |bool b=>cases e;exact wpAny_Constant_bool (q _ σ.s.toks .of_b)
 |int i=>cases e;exact wpAny_Constant_int (q _ _ .of_i)
 |str x=>cases e;exact wpAny_Constant_str (q _ _ (.of_s rfl))
 |_=>exact AD e
theorem aK(F:D Γ ρ σ):Le Γ.W.B.get? (σ.reg Γ.X):=fun b o e J=>by
 refine Ac (Ac (F.S.base b o e) fun hx=>?_) fun hy=>?_
 ·refine BU (F.S.xs b hx) fun J J J h=>?_
  rw[e] at h;exact Cq h
 ·have:=F.S.low b hy
  rw[e] at this;exact Cq this
theorem jx{sc:Scope} {k:Nat}(e:DE (B9 sc.names k)=true):B9 sc.names k=some .globalImplicit:=by
 unfold DE at e
 split at e
 ·rename_i h;exact h
 ·exact Ak e
theorem Ir(F:D Γ ρ σ){x:Str} {a:Value}(h0:nk x≠0)(e:DE (B9 Γ.cx.sc.names (nk x))=true)(G:GN Γ.W x a)(hd:x≠"__debug__")(q:Q a σ.s):wA Γ (eval (.Name x p) Γ.env) Q σ:=by
 have T:=F.ok.fits;refine wpAny_Name (G Γ.A Γ.E Q σ.s Γ.env F.S.base T.globals T.builtins (by rw[T.scope];exact T.kind) ?_ q) (by simpa using hd);rw[T.scope];exact Ij h0 (jx e)
theorem Ta(F:D Γ ρ σ){x:Str}(e:AK (nk x) ρ=some v)(q:∀a,Γ.V σ v a→Q a σ.s):wA Γ (eval (.Name x p) Γ.env) Q σ:=by
 have T:=F.ok.fits;refine BU F.nm fun m hn J n=>?_;refine UM (n.val x v e) fun h1 a h2 h3=>?_;have hd:(x==("__debug__":Str))=false:=by
  cases c:(x==("__debug__":Str)) with
  |false=>rfl
  |true=>
   have:=n.dbg;rw[show Dg=nk x from by rw[beq_iff_eq.mp c];rfl,e] at this;exact Cq this
 exact wpAny_Name (wpAny_loadName_local (by rw[T.scope];exact T.kind) (by show Γ.env.scope.names.lookup x=_;rw[T.scope];exact h1) (by rw[T.locals];exact hn) h2 (q a h3)) hd
theorem T5(F:D Γ ρ σ){x:Str}(e1:DE (B9 Γ.cx.sc.names (nk x))=true)(e2:AK (nk x) Γ.cx.g.cons=some v)(q:∀a,Γ.V σ v a→Q a σ.s):wA Γ (eval (.Name x p) Γ.env) Q σ:=by
 refine V_ (F.ok.wf.cons x v (F.ok.hg▸e2)) fun h0 hd a G hr=>?_;exact Ir F h0 e1 G hd (q a (VR.mono (aK F) (.zero _) v a hr))
def kq(n:Nat):Prop:=∀Γ ρ e σ v Q,D Γ ρ σ→SV Γ.cx ρ σ.h n e=some v→(∀a k,Γ.V σ v a→Q a {σ.s with toks:=k})→wA Γ (eval e Γ.env) Q σ
theorem W3{o:Option V} {f:V→Option V} {r:V}(e:EU o f=some r):∃a,o=some a∧f a=some r:=BQ e (fun a h e=>⟨a,h,e⟩) (fun J=>AD)
theorem D.toks(F:D Γ ρ σ)(k:Nat):Nz Γ.W Γ.l Γ.X Z0 σ {σ with s:={σ.s with toks:=k} }:=F.S.keep (fun J J e=>e) rfl rfl
theorem ZD{b:Bool} {Q:Bool→Shared→Prop}(h:Γ.V σ (.bool b) x)(q:Q b σ.s):wA Γ (truthy x) Q σ:=by
 cases h.b;exact wpAny_truthy_bool q
theorem bj{a b:Option V} {r:V}(e:CD a b=some r):∃x,a=some (.bool x)∧(x=true→b=some r)∧(x=false→r=.bool false):=by
 refine BQ e (fun v h e=>NA e (fun x h2 e=>?_) AD) (fun J=>AD);subst h2;refine⟨x,h,?_⟩;cases x with
 |true=>
  refine BQ e (fun w h3 e=>NA e (fun y h4 e=>?_) fun e=>?_) (fun J=>AD)
  ·subst h4;cases y<;>(cases e;exact⟨fun J=>h3,Di⟩)
  ·cases e;exact⟨fun J=>h3,Di⟩
 |false=>
  refine BQ e (fun w h3 e=>NA e (fun y h4 e=>?_) fun e=>?_) fun h3 e=>?_
  ·cases y<;>(cases e;exact⟨Ak,fun J=>rfl⟩)
  ·cases e;exact⟨Ak,fun J=>rfl⟩
  ·cases e;exact⟨Ak,fun J=>rfl⟩
theorem jH{a b:Option V} {r:V}(e:TS a b=some r):∃x,a=some (.bool x)∧(x=false→b=some r)∧(x=true→r=.bool true):=by
 refine BQ e (fun v h e=>NA e (fun x h2 e=>?_) AD) (fun J=>AD);subst h2;refine⟨x,h,?_⟩;cases x with
 |false=>
  refine BQ e (fun w h3 e=>NA e (fun y h4 e=>?_) fun e=>?_) (fun J=>AD)
  ·subst h4;cases y<;>(cases e;exact⟨fun J=>h3,Ak⟩)
  ·cases e;exact⟨fun J=>h3,Ak⟩
 |true=>
  refine BQ e (fun w h3 e=>NA e (fun y h4 e=>?_) fun e=>?_) fun h3 e=>?_
  ·cases y<;>(cases e;exact⟨Di,fun J=>rfl⟩)
  ·cases e;exact⟨Di,fun J=>rfl⟩
  ·cases e;exact⟨Di,fun J=>rfl⟩
theorem X_{pos:Pos} {x:Value} {op:CmpOp} {t:Sem Value}:compareChain pos x [op] [t]=(do let rv←holding [x] t;standAt pos;operate [x,rv] (compareOp op x rv)):=rfl
theorem Si{pos:Pos} {x:Value} {op:CmpOp} {ops:List CmpOp} {t:Sem Value} {ts:List (Sem Value)}(h:ops≠[]∨ts≠[]):compareChain pos x (op::ops) (t::ts)=(do
  let rv←holding [x] t
  standAt pos
  let c←holding [x,rv] (compareOp op x rv)
  release [x,rv] [c]
  if←holding [c,rv] (truthy c) then compareChain pos rv ops ts else pure c):=by
 cases ops with
 |cons _ _=>rfl
 |nil=>cases ts with
  |cons _ _=>rfl
  |nil=>exact(h.elim (fun z=>z rfl) fun z=>z rfl).elim
theorem S9{pos:Pos} {x:Value} {op:CmpOp} {t:Sem Value}:testChain pos x [op] [t]=(do let rv←holding [x] t;standAt pos;let c←operate [x,rv] (compareOp op x rv);holding [c] (truthy c)):=rfl
theorem OS{pos:Pos} {x:Value} {op:CmpOp} {ops:List CmpOp} {t:Sem Value} {ts:List (Sem Value)}(h:ops≠[]∨ts≠[]):testChain pos x (op::ops) (t::ts)=(do
  let rv←holding [x] t
  standAt pos
  let c←holding [x,rv] (compareOp op x rv)
  release [x,rv] [c]
  if←holding [c,rv] (truthy c) then testChain pos rv ops ts else pure false):=by
 cases ops with
 |cons _ _=>rfl
 |nil=>cases ts with
  |cons _ _=>rfl
  |nil=>exact(h.elim (fun z=>z rfl) fun z=>z rfl).elim
set_option backward.match.sparseCases true in
theorem bf(I:kq n):∀{es:List PySem.Expr} {op:BoolOp} {σ:St},D Γ ρ σ→Sp op (SV Γ.cx ρ σ.h n) es=some v→(∀a k,Γ.V σ v a→Q a {σ.s with toks:=k})→wA Γ (boolOp p op (evalEach es Γ.env)) Q σ
 | [],_,_,_,e,_=>by exact AD e
 | [e1],op,σ,F,e,q=>I Γ ρ e1 σ v Q F e q
 |e1::e2::r,op,σ,F,e,q=>by
  show wA Γ (do let v←eval e1 Γ.env;standAt p;let t←holding [v] (truthy v);match op,t with|.And,false|.Or,true=>pure v|_,_=>boolOp p op (evalEach (e2::r) Γ.env)) Q σ;have go:∀b,SV Γ.cx ρ σ.h n e1=some (.bool b)→(∀k,wA Γ (match op,b with|.And,false|.Or,true=>pure (.bool b)|_,_=>boolOp p op (evalEach (e2::r) Γ.env)) Q {σ with s:={σ.s with toks:=k} })→wA Γ (do let v←eval e1 Γ.env;standAt p;let t←holding [v] (truthy v);match op,t with|.And,false|.Or,true=>pure v|_,_=>boolOp p op (evalEach (e2::r) Γ.env)) Q σ:=fun b h k=>by
   refine wpAny_bind (I Γ ρ e1 σ _ _ F h fun a j ha=>?_);cases ha.b;exact wpAny_bind (wpAny_standAt (wpAny_bind (wpAny_holding (wpAny_truthy_bool (k j)))))
  have rec_:∀k,Sp op (SV Γ.cx ρ σ.h n) (e2::r)=some v→wA Γ (boolOp p op (evalEach (e2::r) Γ.env)) Q {σ with s:={σ.s with toks:=k} }:=fun k h=>bf I (σ:={σ with s:={σ.s with toks:=k} }) (F.step (F.toks k)) h q;cases op with
  |And=>
   refine BU (bj e) fun b h h1 h2=>?_;refine go b h fun k=>?_;cases b with
   |true=>exact rec_ k (h1 rfl)
   |false=>exact wpAny_pure (q _ _ (h2 rfl▸ .of_b))
  |Or=>
   refine BU (jH e) fun b h h1 h2=>?_;refine go b h fun k=>?_;cases b with
   |false=>exact rec_ k (h1 rfl)
   |true=>exact wpAny_pure (q _ _ (h2 rfl▸ .of_b))
theorem Tv{n:Nat} {cx:CA} {h:HA} {es:List PySem.Expr} {k:Nat} {p:Pos}:SV cx ρ h n (.Set es k p)=none:=by cases n<;>rfl
theorem TN(I:kq n):kq (n+1):=by
 intro Γ ρ e σ v Q F e0 q;cases e with
 |Constant c k p=>exact T3 F e0 q
 |Name x p=>
  refine BQ e0 (fun w h e=>?_) fun h e=>?_
  ·cases e;exact Ta F h fun a h=>q a σ.s.toks h
  ·refine B3 e (fun c e=>T5 F c e fun a h=>q a σ.s.toks h) (fun J=>AD)
 |Attribute o a p=>
  refine B3 e0 (fun J=>AD) fun hs e=>?_;refine AZ (W3 e) fun w h1 h2=>?_;show wA Γ (do let ov←attributeBase o a Γ.env (eval o Γ.env);standAt p.atName;let r←holding [ov] (getAttr ov a true);letTemporaryGo o ov r;pure r) Q σ;rw[Hz hs];refine wpAny_bind (I Γ ρ o σ w _ F h1 fun y k hy=>wpAny_bind (wpAny_standAt (wpAny_bind (wpAny_holding ?_))));have N:=F.toks k;exact Sq (σ:={σ with s:={σ.s with toks:=k} }) (F.step N) h2 (hy.nz .zero N) fun b j hb=>wpAny_bind (wpAny_letTemporaryGo (wpAny_pure (q b j hb)))
 |UnaryOp op a p=>
  refine B3 e0 (fun c e=>?_) (fun J=>AD);cases op<;>first|(exact Ak c;done)|skip
  refine BQ e (fun w h e=>NA e (fun b h2 e=>?_) AD) (fun J=>AD);subst h2;clear e0;cases e;refine wpAny_UnaryOp (I Γ ρ a σ _ _ F h fun y k hy=>?_);cases hy.b;exact not_value (wpAny_truthy_bool (q _ _ .of_b))
 |Compare l ops cs p=>
  refine AZ (F6 e0 AD) fun op z1q e=>?_;subst z1q;refine AZ (F6 e AD) fun c z1q e=>?_;subst z1q;refine AZ (W3 e) fun a h1 e=>?_;refine AZ (W3 e) fun b h2 e=>?_;refine BQ e (fun t h3 e=>?_) (fun J=>AD);cases e;show wA Γ (do compareChain p (←eval l Γ.env) [op] (markedEach [op] [c] (evalEach [c] Γ.env))) Q σ;refine wpAny_bind (I Γ ρ l σ a _ F h1 fun x k hx=>?_);have mk:markedBehindIn op c (eval c Γ.env)=eval c Γ.env:=by
   clear e0 e;cases c with
   |Set es k p=>rw[Tv] at h2;exact AD h2
   |_=>rfl
  show wpAny Γ.M Γ.A (compareChain p x [op] [markedBehindIn op c (eval c Γ.env)]) Q Γ.E {σ.s with toks:=k};rw[mk,X_];have N:=F.toks k;refine wpAny_bind (wpAny_holding (I Γ ρ c {σ with s:={σ.s with toks:=k} } b _ (F.step N) h2 fun y j hy=>wpAny_bind (wpAny_standAt (wpAny_operateT ?_))));have N2:Nz Γ.W Γ.l Γ.X Z0 σ {σ with s:={σ.s with toks:=j} }:=F.toks j;exact Nt (σ:={σ with s:={σ.s with toks:=j} }) (F.step N2) h3 (hx.nz .zero N2) hy fun i=>q _ _ .of_b
 |BoolOp op vs p=>
  refine B3 e0 (fun J e=>?_) (fun J=>AD);show wA Γ (boolOp p op (evalEach vs Γ.env)) Q σ;exact bf I F e q
 |_=>exact AD e0
theorem R4:∀n,kq n
 |0=>fun J J J J J J J e=>nomatch e
 |n+1=>TN (R4 n)
end
section
variable{Γ:Fr} {ρ:Af} {σ:St} {K:V→HA→RA X} {Q:Value→Shared→Prop} {v w:V} {x y:Value} {n:Nat} {p:Pos}
theorem Gb.same{K:Bool→HA→RA X} {Q:Bool→Shared→Prop} {b:Bool}(F:D Γ ρ σ)(q:Gb Γ ρ σ K Q)(e:K b σ.h=Γ.res):Q b σ.s:=q b σ e (.refl F.S) F
theorem Gb.tok{K:Bool→HA→RA X} {Q:Bool→Shared→Prop} {b:Bool} {k:Nat}(F:D Γ ρ σ)(q:Gb Γ ρ σ K Q)(e:K b σ.h=Γ.res):Q b {σ.s with toks:=k}:=q b {σ with s:={σ.s with toks:=k} } e (F.toks k).up (F.step (F.toks k))
theorem Gb.nx{K:Bool→HA→RA X} {Q:Bool→Shared→Prop} {σ':St}(x:Γ.N σ σ')(q:Gb Γ ρ σ K Q):Gb Γ ρ σ' K Q:=fun b σ'' h1 h2 h3=>q b σ'' h1 (x.trans h2) h3
theorem PX{K:Bool→RA X} {G:Prop}(F:D Γ ρ σ)(e:AE v K=Γ.res)(h:∀b,v=.bool b→K b=Γ.res→G):G:=NA e h fun z=>absurd z F.ok.hn
def lr(n:Nat):Prop:=∀Γ ρ e σ b Q,D Γ ρ σ→SV Γ.cx ρ σ.h n e=some (.bool b)→(∀k,Q b {σ.s with toks:=k})→wA Γ (isTrue e Γ.env (eval e Γ.env)) Q σ
theorem YJ(I:lr n){b:Bool} {Q:Bool→Shared→Prop}:∀{es:List PySem.Expr} {op:BoolOp} {σ:St},D Γ ρ σ→Sp op (SV Γ.cx ρ σ.h n) es=some (.bool b)→(∀k,Q b {σ.s with toks:=k})→wA Γ (allTrue op es Γ.env) Q σ
 | [],_,_,_,e,_=>by exact AD e
 | [e1],op,σ,F,e,q=>by
  cases op with
  |And=>
   refine wpAny_allTrue_And_cons (I Γ ρ e1 σ b _ F e fun k=>?_);clear e;cases b with
   |false=>exact q k
   |true=>exact wpAny_allTrue_And_nil (q k)
  |Or=>
   refine wpAny_allTrue_Or_cons (I Γ ρ e1 σ b _ F e fun k=>?_);clear e;cases b with
   |true=>exact q k
   |false=>exact wpAny_allTrue_Or_nil (q k)
 |e1::e2::r,op,σ,F,e,q=>by
  have rec_:∀k,Sp op (SV Γ.cx ρ σ.h n) (e2::r)=some (.bool b)→wA Γ (allTrue op (e2::r) Γ.env) Q {σ with s:={σ.s with toks:=k} }:=fun k h=>YJ I (σ:={σ with s:={σ.s with toks:=k} }) (F.step (F.toks k)) h q;cases op with
  |And=>
   refine BU (bj e) fun c h h1 h2=>?_;refine wpAny_allTrue_And_cons (I Γ ρ e1 σ c _ F h fun k=>?_);cases c with
   |true=>exact rec_ k (h1 rfl)
   |false=>clear rec_ e h1;cases h2 rfl;exact q k
  |Or=>
   refine BU (jH e) fun c h h1 h2=>?_;refine wpAny_allTrue_Or_cons (I Γ ρ e1 σ c _ F h fun k=>?_);cases c with
   |false=>exact rec_ k (h1 rfl)
   |true=>clear rec_ e h1;cases h2 rfl;exact q k
theorem Wj(I:lr n)(P:kq n):lr (n+1):=by
 intro Γ ρ e σ b Q F e0 q;have val:isTrue e Γ.env (eval e Γ.env)=(do let v←eval e Γ.env;standAt e.pos;holding [v] (truthy v))→wA Γ (isTrue e Γ.env (eval e Γ.env)) Q σ:=fun hi=>by
  refine wpAny_isTrue_value (TN P Γ ρ e σ _ _ F e0 fun a k h=>?_) hi;cases h.b;exact wpAny_truthy_bool (q k)
 cases e with
 |UnaryOp op a p=>
  refine B3 e0 (fun c e=>?_) (fun J=>AD);clear val;cases op<;>first|(exact Ak c;done)|skip
  refine BQ e (fun w h e=>NA e (fun c h2 e=>?_) AD) (fun J=>AD);subst h2;clear e0;cases e;exact wpAny_isTrue_Not (I Γ ρ a σ c _ F h q)
 |BoolOp op es p=>
  refine B3 e0 (fun J e=>?_) (fun J=>AD);exact wpAny_isTrue_BoolOp (YJ I F e q)
 |IfExp t a b p=>exact AD e0
 |Compare l ops cs p=>
  refine AZ (F6 e0 AD) fun op z1q e=>?_;subst z1q;refine AZ (F6 e AD) fun c z1q e=>?_;subst z1q;refine AZ (W3 e) fun a h1 e=>?_;refine AZ (W3 e) fun b' h2 e=>?_;refine BQ e (fun t h3 e=>?_) (fun J=>AD);cases e;show wA Γ (do testChain p (←eval l Γ.env) [op] (markedEach [op] [c] (evalEach [c] Γ.env))) Q σ;refine wpAny_bind (P Γ ρ l σ a _ F h1 fun x k hx=>?_);have mk:markedBehindIn op c (eval c Γ.env)=eval c Γ.env:=by
   clear e0 e val;cases c with
   |Set es k p=>rw[Tv] at h2;exact AD h2
   |_=>rfl
  show wpAny Γ.M Γ.A (testChain p x [op] [markedBehindIn op c (eval c Γ.env)]) Q Γ.E {σ.s with toks:=k};rw[mk,S9];have N:=F.toks k;refine wpAny_bind (wpAny_holding (P Γ ρ c {σ with s:={σ.s with toks:=k} } b' _ (F.step N) h2 fun y j hy=>wpAny_bind (wpAny_standAt (wpAny_bind (wpAny_operateT ?_)))));have N2:Nz Γ.W Γ.l Γ.X Z0 σ {σ with s:={σ.s with toks:=j} }:=F.toks j;exact Nt (σ:={σ with s:={σ.s with toks:=j} }) (F.step N2) h3 (hx.nz .zero N2) hy fun i=>wpAny_holding (wpAny_truthy_bool (q i))
 |Constant c k p=>exact val rfl
 |Name x p=>exact val rfl
 |Attribute o a p=>exact val rfl
 |_=>exact AD e0
theorem TO:∀n,lr n
 |0=>fun J J J J J J J e=>nomatch e
 |n+1=>Wj (TO n) (R4 n)
theorem Xs(IE:NG n):aS (n+1):=fun Γ ρ e K σ Q F he q=>by
 refine BQ he (fun e h he=>?_) fun h he=>?_
 ·subst h
  show wA Γ (eval e Γ.env) Q σ;exact IE Γ ρ e _ σ Q F he fun v a σ1 e1 N D1 w=>q (some v) a σ1 e1 N D1 w
 ·subst h;exact wpAny_pure (q none .none σ he (.refl F.S) F rfl)
theorem Xr(IE:NG n)(IS:Kz n):Kz (n+1):=fun Γ ρ es pos K σ Q F he q=>by
 cases es with
 |nil=>exact YZ (q [] [] σ he (.refl F.S) F .nil)
 |cons e r=>
  refine xA (Ba he F.ok.hn) fun c he=>?_;have hs:∀y p,e≠ .Starred y p:=fun y p z=>by clear he;subst z;exact Ak c
  refine Vw hs (IE Γ ρ e _ σ _ F he fun v a σ1 e1 N1 D1 w1=>IS Γ ρ r pos _ σ1 _ D1 e1 fun vs as σ2 e2 N2 D2 w2=>?_);exact q (v::vs) (a::as) σ2 e2 (N1.trans N2) D2 (.cons (D1.val N2 w1) w2)
set_option backward.match.sparseCases true in
theorem aJ(IE:NG n)(IB:l4 n):l4 (n+1):=fun Γ ρ op es pos K σ Q F he q=>by
 match es,he with
 | [],he=>exact absurd he F.ok.hn
 | [e],he=>exact IE Γ ρ e K σ Q F he q
 |e::e2::r,he=>
  show wA Γ (do let v←eval e Γ.env;standAt pos;let t←holding [v] (truthy v);match op,t with|.And,false|.Or,true=>pure v|_,_=>boolOp pos op (evalEach (e2::r) Γ.env)) Q σ;refine wpAny_bind (IE Γ ρ e _ σ _ F he fun v1 y1 σ1 e1 N1 D1 w1=>PX D1 e1 fun b h e2'=>?_);subst h;have w1':=w1;cases w1.b;refine wpAny_bind (wpAny_standAt (wpAny_bind (wpAny_holding (wpAny_truthy_bool ?_))));have rec_:kW n Γ.cx ρ op (e2::r) σ1.h K=Γ.res→wA Γ (boolOp pos op (evalEach (e2::r) Γ.env)) Q σ1:=fun h=>IB Γ ρ op (e2::r) pos K σ1 Q D1 h (q.nx N1);clear he;cases op<;>cases b
  ·exact wpAny_pure ((q.nx N1).same D1 e2' w1')
  ·exact rec_ e2'
  ·exact rec_ e2'
  ·exact wpAny_pure ((q.nx N1).same D1 e2' w1')
theorem Tw{cx:CA} {h:HA} {es:List PySem.Expr} {k:Nat} {p:Pos}:DM n cx ρ (.Set es k p) h K=.no:=by cases n<;>rfl
theorem XH{cx:CA} {h:HA} {e:PySem.Expr} {op:CmpOp} {t:Sem Value} {r:RA X}(he:DM n cx ρ e h K=r)(hn:RA.no≠r):markedBehindIn op e t=t:=by
 cases e with
 |Set es k p=>rw[Tw] at he;exact absurd he hn
 |_=>rfl
variable{env:Env}
theorem Ni{op:CmpOp} {ops:List CmpOp} {e:PySem.Expr} {es:List PySem.Expr}(h:ops≠[]∨es≠[]):markedEach (op::ops) (e::es) (evalEach (e::es) env)=eval e env::markedEach ops es (evalEach es env)∧(ops≠[]∨markedEach ops es (evalEach es env)≠[]):=by
 cases ops with
 |cons _ _=>exact⟨by cases es<;>rfl,.inl (by simp)⟩
 |nil=>cases es with
  |cons _ _=>exact⟨rfl,.inr (fun z=>nomatch z)⟩
  |nil=>exact(h.elim (fun z=>z rfl) fun z=>z rfl).elim
theorem aE(IE:NG n)(IC:lz n):lz (n+1):=fun Γ ρ v x0 ops es pos K σ Q F he w0 q=>by
 match ops,es,he with
 | [],_,he=>exact absurd he F.ok.hn
 |_::_,[],he=>exact absurd he F.ok.hn
 | [op],[e],he=>
  show wA Γ (compareChain pos x0 [op] [markedBehindIn op e (eval e Γ.env)]) Q σ;rw[XH he F.ok.hn,X_];refine wpAny_bind (wpAny_holding (IE Γ ρ e _ σ _ F he fun v1 y1 σ1 e1 N1 D1 w1=>wpAny_bind (wpAny_standAt (wpAny_operateT ?_))));refine AZ (Ax e1 F.ok.hn) fun t e2 e3=>?_;exact Nt D1 e2 (F.val N1 w0) w1 fun k=>(q.nx N1).tok D1 e3 .of_b
 | [op],e::e2::r,he=>
  refine xA (Ni (env:=Γ.env) (op:=op) (ops:= []) (e:=e) (es:=e2::r) (.inr nofun)) fun m1 m2=>?_;rw[m1,Si m2];refine wpAny_bind (wpAny_holding (IE Γ ρ e _ σ _ F he fun v1 y1 σ1 e1 N1 D1 w1=>?_));refine AZ (Ax e1 F.ok.hn) fun t J e3=>?_;exact absurd e3 F.ok.hn
 |op::op2::ops,[e],he=>
  refine xA (Ni (env:=Γ.env) (op:=op) (ops:=op2::ops) (e:=e) (es:= []) (.inl nofun)) fun m1 m2=>?_;rw[m1,Si m2];refine wpAny_bind (wpAny_holding (IE Γ ρ e _ σ _ F he fun v1 y1 σ1 e1 N1 D1 w1=>?_));refine AZ (Ax e1 F.ok.hn) fun t J e3=>?_;exact absurd e3 F.ok.hn
 |op::op2::ops,e::e2::r,he=>
  refine xA (Ni (env:=Γ.env) (op:=op) (ops:=op2::ops) (e:=e) (es:=e2::r) (.inl nofun)) fun m1 m2=>?_;rw[m1,Si m2];refine wpAny_bind (wpAny_holding (IE Γ ρ e _ σ _ F he fun v1 y1 σ1 e1 N1 D1 w1=>wpAny_bind (wpAny_standAt (wpAny_bind (wpAny_holding ?_)))));refine AZ (Ax e1 F.ok.hn) fun t e4 e3=>?_;refine Nt D1 e4 (F.val N1 w0) w1 fun k=>wpAny_bind (wpAny_release (wpAny_bind (wpAny_holding (wpAny_truthy_bool ?_))));have N2:=D1.toks k;cases t with
  |true=>exact IC Γ ρ v1 y1 (op2::ops) (e2::r) pos K {σ1 with s:={σ1.s with toks:=k} } Q (D1.step N2) e3 (w1.nz .zero N2) (q.nx (N1.trans N2.up))
  |false=>exact wpAny_pure ((q.nx N1).tok D1 e3 .of_b)
theorem X9(IE:NG n)(IC:aU n):aU (n+1):=fun Γ ρ v x0 ops es pos K σ Q F he w0 q=>by
 match ops,es,he with
 | [],_,he=>exact absurd he F.ok.hn
 |_::_,[],he=>exact absurd he F.ok.hn
 | [op],[e],he=>
  show wA Γ (testChain pos x0 [op] [markedBehindIn op e (eval e Γ.env)]) Q σ;rw[XH he F.ok.hn,S9];refine wpAny_bind (wpAny_holding (IE Γ ρ e _ σ _ F he fun v1 y1 σ1 e1 N1 D1 w1=>wpAny_bind (wpAny_standAt (wpAny_bind (wpAny_operateT ?_)))));refine AZ (Ax e1 F.ok.hn) fun t e2 e3=>?_;exact Nt D1 e2 (F.val N1 w0) w1 fun k=>wpAny_holding (wpAny_truthy_bool ((q.nx N1).tok D1 e3))
 | [op],e::e2::r,he=>
  refine xA (Ni (env:=Γ.env) (op:=op) (ops:= []) (e:=e) (es:=e2::r) (.inr nofun)) fun m1 m2=>?_;rw[m1,OS m2];refine wpAny_bind (wpAny_holding (IE Γ ρ e _ σ _ F he fun v1 y1 σ1 e1 N1 D1 w1=>?_));refine AZ (Ax e1 F.ok.hn) fun t J e3=>?_;exact absurd e3 F.ok.hn
 |op::op2::ops,[e],he=>
  refine xA (Ni (env:=Γ.env) (op:=op) (ops:=op2::ops) (e:=e) (es:= []) (.inl nofun)) fun m1 m2=>?_;rw[m1,OS m2];refine wpAny_bind (wpAny_holding (IE Γ ρ e _ σ _ F he fun v1 y1 σ1 e1 N1 D1 w1=>?_));refine AZ (Ax e1 F.ok.hn) fun t J e3=>?_;exact absurd e3 F.ok.hn
 |op::op2::ops,e::e2::r,he=>
  refine xA (Ni (env:=Γ.env) (op:=op) (ops:=op2::ops) (e:=e) (es:=e2::r) (.inl nofun)) fun m1 m2=>?_;rw[m1,OS m2];refine wpAny_bind (wpAny_holding (IE Γ ρ e _ σ _ F he fun v1 y1 σ1 e1 N1 D1 w1=>wpAny_bind (wpAny_standAt (wpAny_bind (wpAny_holding ?_)))));refine AZ (Ax e1 F.ok.hn) fun t e4 e3=>?_;refine Nt D1 e4 (F.val N1 w0) w1 fun k=>wpAny_bind (wpAny_release (wpAny_bind (wpAny_holding (wpAny_truthy_bool ?_))));have N2:=D1.toks k;cases t with
  |true=>exact IC Γ ρ v1 y1 (op2::ops) (e2::r) pos K {σ1 with s:={σ1.s with toks:=k} } Q (D1.step N2) e3 (w1.nz .zero N2) (q.nx (N1.trans N2.up))
  |false=>exact wpAny_pure ((q.nx N1).tok D1 e3)
theorem ZE(IE:NG n)(IC:aU n):rT (n+1):=fun Γ ρ a ops es p K σ Q F he q=>by
 show wA Γ (do testChain p (←eval a Γ.env) ops (markedEach ops es (evalEach es Γ.env))) Q σ;exact wpAny_bind (IE Γ ρ a _ σ _ F he fun v1 y1 σ1 e1 N1 D1 w1=>IC Γ ρ v1 y1 ops es p K σ1 Q D1 e1 w1 (q.nx N1))
theorem NM(IE:NG n){K:Bool→HA→RA X} {Q:Bool→Shared→Prop} {e:PySem.Expr}(F:D Γ ρ σ)(he:DM n Γ.cx ρ e σ.h (kb K)=Γ.res)(q:Gb Γ ρ σ K Q)(hi:isTrue e Γ.env (eval e Γ.env)=(do let v←eval e Γ.env;standAt e.pos;holding [v] (truthy v))):wA Γ (isTrue e Γ.env (eval e Γ.env)) Q σ:=by
 refine wpAny_isTrue_value (IE Γ ρ e _ σ _ F he fun v1 y1 σ1 e1 N1 D1 w1=>PX D1 e1 fun b h e2=>?_) hi;subst h;exact ZD w1 ((q.nx N1).same D1 e2)
theorem WI(IE:NG n)(IT:Pe n)(IC:rT n)(IA:l6 n):Pe (n+1):=fun Γ ρ e K σ Q F he q=>by
 cases e with
 |UnaryOp op e p=>
  cases op with
  |Not=>exact wpAny_isTrue_Not (IT Γ ρ e _ σ _ F he fun b σ1 e1 N1 D1=>q (!b) σ1 e1 N1 D1)
  |_=>exact NM IE (K:=K) F he q rfl
 |BoolOp op es p=>
  refine B3 he (fun J he=>?_) fun J he=>wpAny_isTrue_BoolOp (IA Γ ρ op es K σ _ F he q);refine AZ (Ax he F.ok.hn) fun v e1 e2=>?_;refine PX F e2 fun b h e3=>?_;subst h;exact TO 9 Γ ρ (.BoolOp op es p) σ b Q F e1 fun k=>q.tok F e3
 |IfExp t a b p=>
  show wA Γ (do if←isTrue t Γ.env (eval t Γ.env) then isTrue a Γ.env (eval a Γ.env) else isTrue b Γ.env (eval b Γ.env)) Q σ;refine wpAny_bind (IT Γ ρ t _ σ _ F he fun b1 σ1 e1 N1 D1=>?_);cases b1 with
  |true=>exact IT Γ ρ a _ σ1 _ D1 e1 (q.nx N1)
  |false=>exact IT Γ ρ b _ σ1 _ D1 e1 (q.nx N1)
 |Compare a ops es p=>exact IC Γ ρ a ops es p K σ Q F he q
 |_=>exact NM IE (K:=K) F he q rfl
theorem aN(IT:Pe n)(IA:l6 n):l6 (n+1):=fun Γ ρ op es K σ Q F he q=>by
 cases es with
 |nil=>
  cases op with
  |And=>exact wpAny_allTrue_And_nil (q.same F he)
  |Or=>exact wpAny_allTrue_Or_nil (q.same F he)
 |cons e r=>
  cases op with
  |And=>
   refine wpAny_allTrue_And_cons (IT Γ ρ e _ σ _ F he fun b1 σ1 e1 N1 D1=>?_);cases b1 with
   |false=>exact(q.nx N1).same D1 e1
   |true=>exact IA Γ ρ .And r _ σ1 _ D1 e1 (q.nx N1)
  |Or=>
   refine wpAny_allTrue_Or_cons (IT Γ ρ e _ σ _ F he fun b1 σ1 e1 N1 D1=>?_);cases b1 with
   |true=>exact(q.nx N1).same D1 e1
   |false=>exact IA Γ ρ .Or r _ σ1 _ D1 e1 (q.nx N1)
end
section
variable{W:Wd} {l:List Env} {X Z:AS} {σ σ':St} {A:Around} {C:Addr} {d:Nat}
noncomputable def So(h:Heap)(C:Addr):Heap:=(h.push emptyDict).push (instObj C h.objs.size)
theorem Jj{h:Heap} {C:Addr}:∀b o,h.get? b=some o→(So h C).get? b=some o:=fun J J e=>Heap.get?_push_of_some _ (Heap.get?_push_of_some _ e)
theorem Vq{h:Heap} {C:Addr}:(So h C).get? (h.objs.size+1)=some (instObj C h.objs.size):=by unfold So;heap_get
theorem Vr{h:Heap} {C:Addr}:(So h C).get? h.objs.size=some (dictOf [] 0):=by unfold So;exact Heap.get?_push_of_some _ (Heap.get?_push_size _ rfl)
noncomputable abbrev KO(σ:St)(C:Addr):Shared:={σ.s with heap:=So σ.s.heap C}
noncomputable abbrev Dk(σ:St):AA:=(σ.s.heap.objs.size+1,σ.s.heap.objs.size)
theorem Q4(S:SR W l X σ){c:Nat}(hc:W.ca c=some C)(gf:Hp)(m:Mu):DI W.w.params W.ca gf (VX (So σ.s.heap C).get? X) ⟨.inst c [],Dk σ,m⟩:=
 ⟨C,[],0,hc,Ac Vq (S.offX (Heap.get?_none_of_le (Nat.le_succ _))),Ac Vr (S.offX (Heap.get?_none_of_le (Nat.le_refl _))),by unfold Cs;rfl,Nat.succ_ne_self _⟩
theorem Q5{a:Addr} {c:Nat} {fs:List (Nat×V)}(h:(Ob.inst c fs).has (Dk σ) a):σ.s.heap.get? a=none:=by
 rcases h with rfl|rfl
 ·exact Heap.get?_none_of_le (Nat.le_succ _)
 ·exact Heap.get?_none_of_le (Nat.le_refl _)
theorem Zd(S:SR W l X σ){c:Nat}(hc:W.ca c=some C)(h0:σ.h.tmp=none):Nz W l X Z0 σ ⟨{σ.h with tmp:=some (c,[])},{σ.μ with tm:=some (Dk σ)},KO σ C⟩:=by
 have t0:σ.μ.tm=none:=by
  have:=S.nt;rw[h0] at this;cases q:σ.μ.tm with
  |none=>rfl
  |some _=>rw[q] at this;exact Ak this
 have old:∀s,s≠ .tmp→cel {σ.h with tmp:=some (c,[])} {σ.μ with tm:=some (Dk σ)} s=σ.cel s:=fun s n=>by
  cases s with
  |tmp=>exact absurd rfl n
  |lex=>show B0 (some (.inst kL (C5 _ σ.μ.lx))) _ _=B0 (some (.inst kL (C5 σ.h σ.μ.lx))) _ _;cases σ.μ.lx<;>rfl
  |_=>rfl
 have G:Go W X .tmp σ ⟨{σ.h with tmp:=some (c,[])},{σ.μ with tm:=some (Dk σ)},KO σ C⟩:=⟨fun s n c' e=>⟨c',(old s n).symm.trans e,rfl,rfl,.refl _⟩,fun c' e a h=>.inr (by cases e;exact Q5 h),fun a o e J=>Jj a o e,(fun a o e z=>nomatch (Jj (C:=C) a o e).symm.trans z),rfl,S.nlo,S.ngl,S.tx,S.lx,rfl,rfl⟩;exact G.nz S (fun c' e J=>by cases e;exact Q4 S hc _ _) ⟨fun J h=>h,fun J h=>h,fun p h=>(by rw[t0] at h;exact AD h),fun J J h=>h,fun J J h=>h,fun J h=>h⟩ rfl rfl rfl rfl rfl
theorem Fa.under{C:Addr} {vs:List Value}(F:Fa A l d):Fa (A.under (.builtin "type.__call__" ⟨.ref C::vs,[]⟩)) l (d+1):=by
 have h1:=F.depth;have h2:=F.units;exact⟨F.frames,F.handled,F.guards,(by show A.depth+1≤301+(d+1);omega),(by show A.units+1≤4+10*(d+1);omega)⟩
theorem Jm.typ{K:Frag} {f:Addr} {fn:Fn}(F:Jm K f fn):typeIn K (.ref f)=some (.type "function"):=by
 refine F.obj.elim fun x Z=>?_;show Option.map (·.cls) (List.lookup f K)=_;rw[Z.o];rfl
theorem XK(wf:WF W)(S:SR W l X σ){c:Nat} {fi:Fn} {ws:List Value} {R:Result→Shared→Prop}(hC:W.ca c=some C)(hfi:DR gT c Cz=some fi)(h:∀fI,Jm W.K fI fi→codeAny (mo W) (A.under (.builtin "type.__call__" ⟨.ref C::ws,[]⟩)) (.call (.ref fI) ⟨.ref (Dk σ).1::ws,[]⟩) (InitBack (Dk σ).1 R) (KO σ C)):codeAny (mo W) A (.call (.ref C) ⟨ws,[]⟩) R σ.s:=by
 refine AZ (wf.meths c C "__init__" fi hC (by rw[show nk "__init__"=Cz from by kernel_rfl];exact hfi)) fun fI f1 f2=>?_;have XI:=wf.kin.keeps S.base;have CF:=wf.cf c C hC;rw[show σ.s=⟨σ.s.heap,σ.s.gens,σ.s.drawn,σ.s.toks,σ.s.os⟩ from rfl];exact make_core (makes_of XI CF.makes) (looks_findIn XI f1) (fun self=>bind_fn XI self f2.typ) (.inl rfl) (h fI f2)
theorem VR.arg{P:Params} {ca:Ca} {g:Hp} {μ:Mu} {v:V} {a:Value}(h:VR P ca g μ v a)(n:PZ v=true):VR P ca g {μ with lo:= []} v a:=by
 cases v<;>first|(exact Ak n;done)|(unfold VR at h⊢;exact h)
theorem VR.ret{P:Params} {ca:Ca} {g:Hp} {μ μ':Mu} {v:V} {a:Value}(h:VR P ca g μ v a)(c:(CQ v||JK v)=true)(e:μ'.tx=μ.tx):VR P ca g μ' v a:=by
 have one:∀{v a},VR P ca g μ.nt v a→rg v=true→VR P ca g μ'.nt v a:=fun{v a} h c=>Ky c (fun k z J=>by
  subst z;unfold VR at h⊢;refine xEEA h fun s t e1 r=>?_;exact⟨s,t,e.trans e1,r⟩) fun c=>h.cl (A8 c).1
 rcases Bool.or_eq_true_iff.mp c with c|c
 ·exact h.shut c
 ·refine Sk c (fun l0 z c=>?_) fun c=>Ky c (fun k z J=>?_) Ak
  ·subst z
   unfold VR at h⊢;refine Cc h fun b o xs n e1 h1 h2 h3 h4=>?_;exact⟨b,o,xs,n,e1,h1,h2,h3,h4.all one c⟩
  ·subst z;unfold VR at h⊢;refine xEEA h fun s t e1 r=>?_;exact⟨s,t,e.trans e1,r⟩
noncomputable def EX(σ:St):St:=⟨{σ.h with lo:= []},{σ.μ with lo:= []},σ.s⟩
noncomputable def Nw(σ σ':St):St:=⟨{σ'.h with lo:=σ.h.lo},{σ'.μ with lo:=σ.μ.lo},σ'.s⟩
noncomputable def Xd:Sl→Bool
 |.lo _=>true
 |_=>false
theorem T7(S:SR W l X σ){md δ:Nat}(M:Md md σ)(fa:Fa A l d)(hd:d+δ≤599){fn:Fn} {f:Addr} {P:PF}(FF:Jm W.K f fn)(H:Fc W md δ fn P){vs:List V} {as:List Value} {res:RA Mn.X} {K:V→HA→RA Mn.X} {R:Result→Shared→Prop}(hn:RA.no≠res)(e0:AB P vs σ.h K=res)(hv:Q8 W X σ vs as)
  (q:∀v a σ',K v σ'.h=res→Nz W l X Z0 σ σ'→VT W X σ' v a→R (.ok (.ret a)) σ'.s) (x:Su W l σ res R):codeAny (mo W) A (.call (.ref f) ⟨as,[]⟩) R σ.s:=by
 refine xA (Ba e0 hn) fun c e=>?_;have e:bA (P vs (EX σ).h) (fun x h'=>Wb x fun v=>tB (CQ v||JK v) (K v {h' with lo:=σ.h.lo}))=res:=e;have cs:∀s c1,(EX σ).cel s=some c1→Xd s=false∧∃c,σ.cel s=some c∧c1.o=c.o∧c1.p=c.p∧(c1.m=c.m):=fun s c1 e=>by
  cases s with
  |lo i=>refine xA (Ai (show B0 ([]:List Ob)[i]? ([]:List AA)[i]? (EX σ).μ.nt=some c1 from e)) fun e J=>?_;exact absurd e (by simp)
  |lex=>exact⟨rfl,c1,by revert e;show B0 (some (.inst kL (C5 (EX σ).h σ.μ.lx))) σ.μ.lex (EX σ).μ.nlo=_→B0 (some (.inst kL (C5 σ.h σ.μ.lx))) σ.μ.lex σ.μ.nlo=_;cases σ.μ.lx<;>exact id,rfl,rfl,rfl⟩
  |_=>exact⟨rfl,c1,e,rfl,rfl,rfl⟩
 have cell_ext:∀{c1 c:B5},c1.o=c.o→c1.p=c.p→c1.m=c.m→c1=c:=fun{c1 c} h1 h2 h3=>by cases c1;cases c;cases h1;cases h2;cases h3;rfl
 have w:Pd W id σ (EX σ):=⟨rfl,fun s c1 e=>by
  refine V9 (cs s c1 e) fun J c e1 e2 e3 e4=>?_;cases cell_ext e2 e3 e4;exact⟨c1,e1,fun J h=>h,fun J J h=>h⟩,fun J J J J J J h=>h⟩
 have S1:SR W l (Kl X σ (EX σ)) (EX σ):=S.view (LX:=W.LX) w S.nt rfl S.ngl S.tx S.lx;have le:=Og (X:=X) (fun a=>w.sub) w.sh;have out:Np (P vs (EX σ).h):=by
  cases z:P vs (EX σ).h with
  |no=>rw[z] at e;exact absurd e hn
  |ex c=>exact .inr ⟨c,rfl⟩
  |ok y h=>
   rw[z] at e;obtain⟨fl,ρ⟩:=y;cases fl with
   |ret v=>exact .inl ⟨v,ρ,h,rfl⟩
   |_=>exact absurd e hn
 refine H d A l _ (EX σ) f vs as R fa hd FF S1 ⟨M.m0,M.m1,M.m2⟩ rfl (BC.mono le (.refl _) _ _ (hv.all (fun h n=>h.arg n) c)) out ⟨fun v ρ σ' a z N h=>?_,fun c s' e' C z hC fl=>?_⟩
 ·cases z1:P vs (EX σ).h with
  |no=>rw[z1] at e;exact absurd e hn
  |ex c=>rw[z1] at z;cases z
  |ok y h1=>
   rw[z1] at z e;have z:RA.ok y (JQ h1)=.ok (.ret v,ρ) σ'.h:=z;have hh:JQ h1=σ'.h:=by injection z
   have hy:y=(.ret v,ρ):=by injection z
   clear z z1;subst hy;refine xA (Ba (show tB (CQ v||JK v) (K v {h1 with lo:=σ.h.lo})=res from e) hn) fun c2 e=>?_;have B:K5 W (fun s=>cC (Xd s) (some s) none) σ (EX σ) σ' (Nw σ σ'):=by
    refine⟨rfl,rfl,fun a=>w.sub,fun s c3 e=>?_,fun s s' t h1 h2=>?_,⟨fun p h=>N.par.trans h,fun p h=>N.lex.trans h,N.tm,fun J J h=>h,N.gl,fun p h=>N.tx.trans h⟩,N.par,N.lex,N.tx,N.np,N.lx,N.sr.nt,S.nlo,N.sr.ngl,N.sr.tx,N.sr.lx⟩
    ·have inner:Xd s=false→σ'.cel s=some c3→∃s2 c2,cC (Xd s) (some s) none=some s2∧σ'.cel s2=some c2∧(∀a,c3.has a→c2.has a)∧∀gf g,DI W.w.params W.ca gf g c2→DI W.w.params W.ca gf g c3:=fun z h=>⟨s,c3,(show cC (Xd s) (some s) none=some s by rw[z]),h,fun J h=>h,fun J J h=>h⟩
     cases s with
     |lo i=>
      have e:B0 σ.h.lo[i]? σ.μ.lo[i]? (Nw σ σ').μ.nt=some c3:=e;refine Es (Ai e) fun e1 e2 e3=>?_;have k:σ.cel (.lo i)=some ⟨c3.o,c3.p,σ.μ.nt⟩:=by show B0 σ.h.lo[i]? σ.μ.lo[i]? _=_;rw[e1,e2];rfl
      refine .inl ⟨_,k,rfl,rfl,e3▸⟨fun p h=>N.par.trans h,fun p h=>N.lex.trans h,(fun J=>AD),fun J J h=>h,N.gl,fun p h=>N.tx.trans h⟩,fun a ha ⟨s',c',e',h'⟩=>?_⟩;refine V9 (cs s' c' e') fun z c e1 e2 e3 J=>?_;have:=S.inj (.lo i) s' _ c a k e1 ha (by unfold B5.has at h'⊢;rw[←e2,←e3];exact h');rw[←this] at z;exact Di z
     |lex=>exact .inr<|inner rfl (by revert e;show B0 (some (.inst kL (C5 (Nw σ σ').h σ'.μ.lx))) σ'.μ.lex (Nw σ σ').μ.nlo=_→B0 (some (.inst kL (C5 σ'.h σ'.μ.lx))) σ'.μ.lex σ'.μ.nlo=_;cases σ'.μ.lx<;>exact id)
     |par=>exact .inr (inner rfl e)
     |tmp=>exact .inr (inner rfl e)
     |gl i=>exact .inr (inner rfl e)
    ·refine B3 h1 (fun J=>AD) fun J h1=>B3 h2 (fun J=>AD) fun J h2=>?_
     cases h1;clear J;cases h2;rfl
   have N3:Nz W l X Z0 σ (Nw σ σ'):=B.nz S (LX:=W.LX) N;refine q v a (Nw σ σ') (by show K v {σ'.h with lo:=σ.h.lo}=res;rw[←hh];exact e) N3 ?_;exact VR.mono (B.hid (LX:=W.LX) N) (.refl _) _ _ (VR.ret h c2 rfl)
 ·cases z1:P vs (EX σ).h with
  |no=>rw[z1] at e;exact absurd e hn
  |ok y h1=>rw[z1] at z;cases z
  |ex c'=>
   rw[z1] at z e;cases z;refine xEEA fl fun B a0 y1 y2=>?_;exact x c s' e' C e.symm hC ⟨B,a0,⟨y1.base,fun p o e hz hy n=>y1.kn p o e hz (fun q=>hy (w.sub q)) n,y1.kf,y1.os,y1.gens⟩,y2⟩
end
section
variable{W:Wd} {l:List Env} {X Z:AS} {σ σ':St} {A:Around} {C:Addr} {d:Nat}
theorem Cs.cl{P:Params} {ca:Ca} {g:Hp} {μ μ':Mu}:∀{fs:List (Nat×V)} {es:List DictEntry},Cs P ca g μ fs es→(fs.all fun p=>cA p.2)=true→Cs P ca g μ' fs es
 | [],_,h,_=>by unfold Cs at h⊢;exact h
 |(k,v)::r,_,h,c=>by
  refine xA (A8 (show(cA v&&r.all fun p=>cA p.2)=true from c)) fun c1 c2=>?_;unfold Cs at h⊢;refine Bq h fun hs x t a q e h1 h2 h3 h4=>?_;exact⟨hs,x,t,a,q,e,h1,h2,h3.cl c1,Cs.cl h4 c2⟩
theorem DI.cl{P:Params} {ca:Ca} {gf g:Hp} {k:Nat} {fs:List (Nat×V)} {p:AA} {m m':Mu}(h:DI P ca gf g ⟨.inst k fs,p,m⟩)(c:(fs.all fun p=>cA p.2)=true):DI P ca gf g ⟨.inst k fs,p,m'⟩:=by
 refine CV h fun C es n e h1 h2 h3 h4=>?_;exact⟨C,es,n,e,h1,h2,h3.cl c,h4⟩
noncomputable def Km(σ:St):St:=⟨{σ.h with tmp:=none,lo:= [],gl:= []},⟨none,σ.μ.lex,none,[],[],σ.μ.lx,none,0⟩,σ.s⟩
noncomputable def KD(σ:St)(r:List V)(x:List Nat×Nat×V)(s':Shared):St:=⟨{σ.h with rest:=r},{σ.μ with lx:=some x},s'⟩
noncomputable def qm:Sl→Bool
 |.lex=>true
 |_=>false
theorem Iu{s:Sl} {c:B5}(e:(Km σ).cel s=some c):s=.lex:=by
 cases s with
 |lex=>rfl
 |par=>exact AD e
 |tmp=>exact AD e
 |lo i=>refine xA (Ai (show B0 ([]:List Ob)[i]? ([]:List AA)[i]? (Km σ).μ.nt=some c from e)) fun e J=>?_;exact absurd e (by simp)
 |gl i=>refine xA (Ai (show B0 ([]:List Ob)[i]? ([]:List AA)[i]? (Km σ).μ.nlo=some c from e)) fun e J=>?_;exact absurd e (by simp)
theorem JV{x:List Nat×Nat×V} {h:HA}(c:cA x.2.2=true):((C5 h (some x)).all fun p=>cA p.2)=true:=by
 show(true&&(true&&(cA x.2.2&&true)))=true;rw[c];rfl
theorem dr(S:SR W l X σ)(M:Md 1 σ){δ:Nat}(fa:Fa A l d)(hd:d+δ≤599)(nxt:∀s a l t r,W.LX s a l (t::r)→cA l=true∧cA t=true∧∃a' l',cA l'=true∧W.LX s a' l' r∧Nx W δ s a l t a' l'){fn:Fn} {f:Addr}(hf:DR gT kL Dq=some fn)(FF:Jm W.K f fn){a:Value}(hv:VT W X σ .lex a){res:RA Mn.X} {K:V→HA→RA Mn.X} {R:Result→Shared→Prop}(hn:RA.no≠res)(e:QX σ.h K=res)
  (q:∀v a σ',K v σ'.h=res→Nz W l X Z0 σ σ'→VT W X σ' v a→R (.ok (.ret a)) σ'.s):codeAny (mo W) A (.call (.ref f) ⟨[a],[]⟩) R σ.s:=by
 refine OI (M.m1 rfl) fun J J m3 J=>?_;obtain⟨⟨s,a0,l0⟩,ex⟩:=Option.ne_none_iff_exists'.mp m3;unfold VT VR at hv;refine AZ hv fun p ep z2q=>?_;clear hv;subst z2q;have hL:=S.lx _ ex;unfold QX at e;cases er:σ.h.rest with
 |nil=>rw[er] at e;exact absurd e hn
 |cons v r=>
  rw[er] at e hL;refine K6 (nxt _ _ _ _ _ hL) fun c1 c2 a' l' c3 hL' NS=>?_;have k:σ.cel .lex=some ⟨.inst kL (C5 σ.h (some (s,a0,l0))),p,σ.μ.nlo⟩:=Bc ep ex;have w:Pd W id σ (Km σ):=⟨rfl,fun s' c1' e1=>by
   cases Iu e1;cases(show(Km σ).cel .lex=some ⟨.inst kL (C5 σ.h (some (s,a0,l0))),p,(Km σ).μ.nlo⟩ from Bc (h:=(Km σ).h) (μ:=(Km σ).μ) ep ex).symm.trans e1;exact⟨_,k,fun J h=>h,fun gf g h=>DI.cl h (JV c1)⟩,fun J J J J e1 e2 J=>(Iu e1).trans (Iu e2).symm⟩
  have S1:=S.view (LX:=fun J J J J=>True) w rfl rfl rfl (fun J=>AD) fun J J=>trivial;refine NS d A l _ (Km σ) f fn p R fa hd hf FF S1 ⟨rfl,by show σ.μ.lex≠none;rw[ep];nofun,rfl,rfl,rfl,ex,rfl⟩ ep fun σ' b N Fr h=>?_;have B:K5 W (fun s=>cC (qm s) none (some s)) σ (Km σ) σ' (KD σ r (s,a',l') σ'.s):=by
   refine⟨rfl,rfl,fun a=>w.sub,fun s' c3' e3=>?_,fun s' s'' t h1 h2=>?_,⟨fun J h=>h,fun J h=>h,fun J h=>h,fun J J h=>h,fun J J h=>h,fun J h=>h⟩,rfl,rfl,rfl,rfl,by show true=σ.μ.lx.isSome;rw[ex];rfl,S.nt,S.nlo,S.ngl,S.tx,fun x e=>by cases e;exact hL'⟩
   ·have kept:s'≠ .lex→σ.cel s'=some c3'→_:=fun n h=>(⟨c3',h,rfl,rfl,.refl _,fun a ha ⟨s2,c,e,h'⟩=>by
     cases Iu e;refine BU (w.cel .lex c e) fun c0 e0 h0 J=>?_;exact n (S.inj s' .lex c3' c0 a h e0 ha (h0 a h'))⟩:∃c,σ.cel s'=some c∧c3'.o=c.o∧c3'.p=c.p∧Bk c.m c3'.m∧∀a,c.has a→¬(Km σ).Y a)
    have upm:∀{o:Option Ob} {q:Option AA} {m m':Mu},B0 o q m'=some c3'→Bk m m'→s'≠ .lex→(∀c,B0 o q m=some c→σ.cel s'=some c)→∃c,σ.cel s'=some c∧c3'.o=c.o∧c3'.p=c.p∧Bk c.m c3'.m∧∀a,c.has a→¬(Km σ).Y a:=fun e hm n hc=>by
     refine DL (Ck e hm) fun c z1 z2 z3 z4=>?_;refine⟨c,hc c z1,z2,z3,z4,fun a ha ⟨s2,c',e',h'⟩=>?_⟩;cases Iu e';refine BU (w.cel .lex c' e') fun c0 e0 h0 J=>?_;exact n (S.inj s' .lex c c0 a (hc c z1) e0 ha (h0 a h'))
    have le1:Bk σ.μ.nlo (KD σ r (s,a',l') σ'.s).μ.nlo:=⟨fun J h=>h,fun J h=>h,(fun J=>AD),fun J J h=>h,fun J J h=>h,fun J h=>h⟩;have le2:Bk σ.μ.nt (KD σ r (s,a',l') σ'.s).μ.nt:=⟨fun J h=>h,fun J h=>h,(fun J=>AD),fun J J h=>h,fun J J h=>h,fun J h=>h⟩;cases s' with
    |lex=>
     clear kept upm;cases(show(KD σ r (s,a',l') σ'.s).cel .lex=some ⟨.inst kL (C5 σ.h (some (s,a',l'))),p,(KD σ r (s,a',l') σ'.s).μ.nlo⟩ from Bc (h:=(KD σ r (s,a',l') σ'.s).h) (μ:=(KD σ r (s,a',l') σ'.s).μ) ep rfl).symm.trans e3;exact .inr ⟨.lex,_,rfl,Bc (N.lex.trans ep) Fr.lx,fun J h=>h,fun gf g h=>DI.cl h (JV c3)⟩
    |par=>exact .inl (upm (show B0 (some (.inst kP (Dn σ.h σ.μ.np))) σ.μ.par _=some c3' from e3) le1 nofun fun J h=>h)
    |tmp=>exact .inl (kept nofun e3)
    |lo i=>exact .inl (upm (show B0 σ.h.lo[i]? σ.μ.lo[i]? _=some c3' from e3) le2 nofun fun J h=>h)
    |gl i=>exact .inl (upm (show B0 σ.h.gl[i]? σ.μ.gl[i]? _=some c3' from e3) le1 nofun fun J h=>h)
   ·refine B3 h1 (fun z1 h1=>B3 h2 (fun z2 h2=>?_) (fun J=>AD)) (fun J=>AD)
    cases s'<;>first|(exact Ak z1;done)|skip
    cases s''<;>first|(exact Ak z2;done)|rfl
  exact q v b (KD σ r (s,a',l') σ'.s) e (B.nz S N) (VR.cl (VR.mono (B.hid N) (.refl _) _ _ h) c2)
end
theorem GX{α:Type} {k:Nat} {a:α}:∀{l:List (Nat×α)},AK k l=some a→(k,a)∈l
 | [],h=>by exact AD h
 |(j,b)::r,h=>by
  rw[A7] at h
  by_cases c:j=k
  ·rw[if_pos c] at h;cases h;subst c;exact .head _
  ·rw[if_neg c] at h;exact .tail _ (GX h)
theorem YS{x:Str} {b:BM}(h:AK (nk x) lj=some b):x=YT b:=by
 have hm:=GX h;have key:∀y:Str,nk x=nk y→nk y≠0→x=y:=fun y e h0=>EI e (e▸h0);simp only[lj,List.mem_cons,List.not_mem_nil,or_false,Prod.mk.injEq] at hm;rcases hm with⟨e,rfl⟩|⟨e,rfl⟩|⟨e,rfl⟩|⟨e,rfl⟩|⟨e,rfl⟩|⟨e,rfl⟩<;>exact key _ e (by decide+kernel)
section
variable{Γ:Fr} {ρ:Af} {σ:St} {K:V→HA→RA X} {Q:Value→Shared→Prop} {v w:V} {x y:Value} {n:Nat} {p:Pos} {vs:List V} {as:List Value}
theorem fD(F:D Γ ρ σ)(I:Y1 n){f:Nat} {C:Addr} {fi:Fn}(hC:Γ.W.ca f=some C)(hfi:DR gT f Cz=some fi)(hlt:Γ.cx.i<Γ.cx.li)(hv:Γ.Vs σ vs as)(e:FU true σ.h (.inst f []) (fun v h=>bQ n (Ro {Γ.cx with i:=Γ.cx.i+1} f fi.sc) fi (v::vs) h fun r h=>Nc r (K v h))=Γ.res)(q:Gv Γ ρ σ K Q):wA Γ (call (.ref C) as) Q σ:=by
 refine wpAny_call (XK F.ok.wf F.S hC hfi fun fI FF=>?_);have N:=F.S.addGl (Z:=Z0) (o:=.inst f []) (p:=Dk σ) (s':=KO σ C) (fun a h=>Q5 h) Jj rfl rfl fun gf' J m J=>Q4 F.S hC gf' m;have D1:=F.step N;have hg:Γ.V (UC σ (.inst f []) (Dk σ) (KO σ C)) (gr σ.h.gl.length) (.ref (Dk σ).1):=by
  unfold Fr.V VT VR;exact⟨_,CC F.S.ngl,rfl⟩
 refine I Γ ρ _ (Γ.d+1) (Ro {Γ.cx with i:=Γ.cx.i+1} f fi.sc) fi fI (gr σ.h.gl.length::vs) (.ref (Dk σ).1::as) _ (UC σ (.inst f []) (Dk σ) (KO σ C)) _ D1 F.ok.fa.under rfl F.ok.hg F.ok.tab rfl (fun hle=>?_) FF (.cons hg (F.vals N.up hv)) e (fun r a σ' e N' h=>?_) fun c s' e C h1 h2 h3=>?_
 ·have:=F.ok.room
  show Γ.d+1+1+Γ.δ+(Γ.cx.li-(Γ.cx.i+1+1))≤599;have:Γ.cx.i+1+1≤Γ.cx.li:=hle;omega
 ·refine xA (Ba e F.ok.hn) fun c e=>?_
  cases bM c;cases h.no;exact⟨rfl,q _ _ σ' e (N.trans N').up (D1.step N') (hg.nz .zero N')⟩
 ·exact D1.raise c s' e C h1 h2 h3
theorem qd{W:Wd} {l:List Env} {X:AS}(S:SR W l X σ)(h:σ.h.tmp=none):σ.μ.tm=none:=by
 have:=S.nt;rw[h] at this;cases q:σ.μ.tm with
 |none=>rfl
 |some _=>rw[q] at this;exact Ak this
theorem WM{h:HA}(e:h.tmp=none):({h with tmp:=none}:HA)=h:=by cases h;cases e;rfl
theorem fC(F:D Γ ρ σ){f:Nat} {C:Addr} {bld:List V→Option (List (Nat×V))}(hC:Γ.W.ca f=some C)(H:2≤Γ.δ∧lI Γ.W f bld)(hv:Γ.Vs σ vs as)(e:BN f bld vs σ.h K=Γ.res)(q:Gv Γ ρ σ K Q):wA Γ (call (.ref C) as) Q σ:=by
 have hn:=F.ok.hn;refine xA (Ba e hn) fun c1 e=>?_;refine AZ (Ax e hn) fun pr e1 e=>?_;refine xA (Ba e hn) fun c2 e=>?_;refine AZ (Ax e hn) fun fs e2 e=>?_;refine xA (A8 c2) fun c2 c3=>?_;refine Es (O6 (fun S h e=>O7 4 S h e) F.S hv e1) fun N1 w1 J=>?_;have D1:=F.step N1;have t1:pr.2.tmp=none:=by
  cases q:pr.2.tmp with
  |none=>rfl
  |some _=>rw[q] at c2;exact Ak c2
 have:=F.ok.room;have dl:=H.1;refine wpAny_call (H.2 Γ.A Γ.l Γ.d Γ.X {σ with h:=pr.2} C pr.1 as fs _ hC F.ok.fa (by omega) N1.sr t1 e2 c3 (BC.mono (Le.refl _) (.zero _) _ _ w1) fun p μ' s' hp N2=>?_);refine Es (N2.sr.dropTmp (x:=(f,fs)) (a:=.ref p.1) rfl (by unfold VT VR;exact⟨p,hp,rfl⟩)) fun S3 sub h3=>?_;have t0:=qd N1.sr t1;have eh:=WM t1;have N3:Nz Γ.W Γ.l Γ.X Z0 {σ with h:=pr.2} ⟨{pr.2 with tmp:=none},{μ' with tm:=none},s'⟩:=⟨S3,N2.lo,N2.gl,fun p h=>(by rw[t0] at h;exact AD h),N2.par,N2.lex,N2.tx,N2.np,N2.lx,N2.kp,N2.al,fun p h=>N2.nw p (sub p h)⟩;exact(q.nx N1.up).go D1 (v:=.inst f fs) (σ':=⟨{pr.2 with tmp:=none},{μ' with tm:=none},s'⟩) N3 (by show K (.inst f fs) {pr.2 with tmp:=none}=_;rw[eh];exact e) h3
theorem TJ(F:D Γ ρ σ):∀{vs:List V} {as:List Value},Γ.Vs σ vs as→Γ.Vs σ (vs.map (GK σ.h)) as
 | [],_,h=>h
 |v::r,_,h=>by
  refine BE h.of_cons fun a q z2q h1 h2=>?_;subst z2q;exact .cons (Wc F h1) (TJ F h2)
theorem fB(F:D Γ ρ σ){f:Nat} {C:Addr} {bld:List V→Option (List (Nat×V))}(hC:Γ.W.ca f=some C)(H:2≤Γ.δ∧lI Γ.W f bld)(hv:Γ.Vs σ vs as)(e:du f bld vs σ.h K=Γ.res)(q:Gv Γ ρ σ K Q):wA Γ (call (.ref C) as) Q σ:=by
 have hn:=F.ok.hn;refine xA (Ba e hn) fun c1 e=>?_;refine AZ (Ax e hn) fun fs e2 e=>?_;refine xA (A8 c1) fun c1 c3=>?_;have t1:σ.h.tmp=none:=by
  cases q:σ.h.tmp with
  |none=>rfl
  |some _=>rw[q] at c1;exact Ak c1
 have:=F.ok.room;have dl:=H.1;refine wpAny_call (H.2 Γ.A Γ.l Γ.d Γ.X σ C _ as fs _ hC F.ok.fa (by omega) F.S t1 e2 c3 (TJ F hv) fun p μ' s' hp N2=>q.go F N2 e ?_);unfold Fr.V VT VR;exact⟨p,hp,rfl⟩
theorem kI(F:D Γ ρ σ)(I:Y1 n){f:Nat} {c:Cl} {C:Addr}(hC:Γ.W.ca f=some C)(hv:Γ.Vs σ vs as)(e0:kJ (n+1) Γ.cx f c vs σ.h K=Γ.res)(q:Gv Γ ρ σ K Q):wA Γ (call (.ref C) as) Q σ:=by
 have hn:=F.ok.hn;refine xA (Ba e0 hn) fun c1 e=>?_
 split at e
 ·refine AZ (Ax e hn) fun bld e1 e=>?_
  exact fC F hC (F.ok.tab.ci f bld e1) hv e q
 ·refine AZ (Ax e hn) fun bld e1 e=>?_
  refine xA (Ba e hn) fun J e=>?_;exact fB F hC (F.ok.tab.ci f bld e1) hv e q
 ·refine AZ (Ax e hn) fun fi e1 e=>?_
  refine xA (Ba e hn) fun c2 e=>?_;exact fD F I hC (F.ok.hg▸e1) (Ef c2) hv e q
theorem Ox(F:D Γ ρ σ){a:Str} {c:Nat} {fs:List (Nat×V)} {m:Mu} {fn:Fn} {pl:Sem Bool} {Q:Value×List Value→Shared→Prop}(r:Yc Γ.W Γ.X σ c fs m x)(hm:DR gT c (nk a)=some fn)(hl:AK (nk a) fs=none)(q:∀f,Jm Γ.W.K f fn→Q (.ref f,[x]) σ.s):wA Γ (getMethod x a pl) Q σ:=by
 refine Bq r.at_ fun b C d es k z5q h0 h1 h2 h3=>?_;subst z5q;refine AZ (F.ok.wf.meths c C a fn h0 hm) fun f f1 f2=>?_;have CF:=F.ok.wf.cf c C h0;refine method_fn (F.ok.wf.kin.keeps F.S.base) (Tj h1 h2) CF.ga CF.gr f1 f2.typ ?_ (q f f2);show(lookIn a (dictOf es k)).map (·.isSome)=some false;rw[HU (Cs.getNone h3 hl)];rfl
noncomputable def Sx(Γ:Fr)(σ:St)(ov:V)(f:Value):MX→Prop
 |.pf P=>∃a fn,f=.ref a∧Jm Γ.W.K a fn∧Fc Γ.W Γ.cx.md Γ.δ fn P
 |.nx=>ov=.lex∧Γ.cx.md=1∧∃a fn,f=.ref a∧Jm Γ.W.K a fn∧DR gT kL Dq=some fn
 |.bm b=>f=.builtin (YU b)
 |.fn fn=>∃a,f=.ref a∧Jm Γ.W.K a fn
theorem Nj{α:Type} {k:Nat} {l:List (Nat×α)}(h:E6 k (l.map (·.1))=false):AK k l=none:=by
 induction l with
 |nil=>rfl
 |cons p r ih=>
  have h:(match Nat.beq p.1 k with|true=>true|false=>E6 k (r.map (·.1)))=false:=h;show(match Nat.beq p.1 k with|true=>some p.2|false=>AK k r)=none;cases c:Nat.beq p.1 k with
  |true=>rw[c] at h;exact Di h
  |false=>rw[c] at h;exact ih h
theorem qe(F:D Γ ρ σ){a:Str} {KM:MX→RA Mn.X} {pl:Sem Bool} {Q:Value×List Value→Shared→Prop}(e0:qf Γ.cx σ.h v (nk a) KM=Γ.res)(hv:Γ.V σ v x)(q:∀m f,KM m=Γ.res→Sx Γ σ v f m→Q (f,[x]) σ.s):wA Γ (getMethod x a pl) Q σ:=by
 have hn:=F.ok.hn;have rest:(cO (AK (nk a) lj) (oA (KN σ.h v) fun o=>cF o .no fun c fs=>tB (!(AK (nk a) fs).isSome) (oA (DR Γ.cx.g c (nk a)) fun f=>cO (gM Γ.cx.md Γ.cx.A.mt c (nk a)) (KM (.fn f)) fun P=>KM (.pf P))) fun b=>tB (B7 σ.h b v) (KM (.bm b)))=Γ.res→wA Γ (getMethod x a pl) Q σ:=fun e=>by
  refine BQ e (fun b h e=>?_) fun J e=>?_
  ·refine xA (Ba e hn) fun c e5=>?_
   clear e0 e;cases YS h;exact eQ F c hv (q _ _ e5 rfl)
  ·refine AZ (Ax e hn) fun o e1 e=>?_
   refine aI e (fun c fs h e=>?_) fun z=>absurd z hn;refine xA (Ba e hn) fun c1 e=>?_;refine AZ (Ax e hn) fun fn e2 e=>?_;obtain⟨s,c0,k1,k2,rfl,_⟩:=Jh F.S e1 hv;have e2:DR gT c (nk a)=some fn:=F.ok.hg▸e2;refine Ox F (Ed F.S k1 (k2.trans h)) e2 ?_ fun f FF=>BQ e (fun P h3 e=>?_) fun J e=>q _ _ e ⟨f,rfl,FF⟩
   ·cases z:AK (nk a) fs with
    |none=>rfl
    |some _=>rw[z] at c1;exact Ak c1
   ·refine B3 h3 (fun c2 h3=>?_) (fun J=>AD)
    refine xA (A8 c2) fun c2 c3=>?_;refine DL (F.ok.tab.mt _ P h3) fun fn' J J h4 h5=>?_;clear J;cases h4 (Nat.eq_of_beq_eq_true c2) c fn ((Bool.or_eq_true_iff.mp c3).imp Nat.eq_of_beq_eq_true Nat.eq_of_beq_eq_true) e2;exact q _ _ e ⟨f,fn,rfl,FF,h5⟩
 cases v with
 |par=>
  refine xA (Ba e0 hn) fun c e=>?_;refine AZ (Ax e hn) fun P e1 e=>?_;have hm:=Nat.eq_of_beq_eq_true c;refine DL (F.ok.tab.mt _ P e1) fun fn h1 J J h3=>?_;clear rest;obtain⟨p,ep,rfl⟩:∃p,σ.μ.par=some p∧x=.ref p.1:=by unfold Fr.V VT VR at hv;exact hv
  refine Ox F (Ed F.S (Df ep (F.md.m1 hm).2.2.2) rfl) (h1 hm).1 (Nj (h1 hm).2) fun f FF=>q _ _ e ⟨f,fn,rfl,FF,h3⟩
 |lex=>
  clear rest;obtain⟨p,ep,rfl⟩:∃p,σ.μ.lex=some p∧x=.ref p.1:=by unfold Fr.V VT VR at hv;exact hv
  refine B3 e0 (fun c e=>?_) fun J e=>?_
  ·refine xA (Ba e hn) fun c1 e=>?_
   have hm:=Nat.eq_of_beq_eq_true c;have ha:=Nat.eq_of_beq_eq_true c1;refine xE (Option.ne_none_iff_exists'.mp (F.md.m1 hm).2.2.1) fun y ey=>?_;obtain⟨fn,hf⟩:∃fn,DR gT kL Dq=some fn:=Option.isSome_iff_exists.mp (by kernel_rfl);refine Ox F (Ed F.S (Bc ep ey) rfl) (ha▸hf) (by rw[ha];rfl) fun f FF=>q _ _ e ⟨rfl,hm,f,fn,rfl,FF,hf⟩
  ·refine xA (Ba e hn) fun c1 e=>?_
   refine AZ (Ax e hn) fun P e1 e=>?_;have hm:=Nat.eq_of_beq_eq_true c1;refine DL (F.ok.tab.mt _ P e1) fun fn J h2 J h3=>?_;refine Ox F (Ed F.S (Bc ep (F.md.m2 hm).2.2.1) rfl) (h2 hm).1 (Nj (h2 hm).2) fun f FF=>q _ _ e ⟨f,fn,rfl,FF,h3⟩
 |_=>exact rest e0
theorem dz(F:D Γ ρ σ)(I:∀m,m<n→Y1 m){m:MX} {f:Value}(c:Sx Γ σ v f m)(hv:Γ.V σ v x)(hs:Γ.Vs σ vs as)(e0:XE n Γ.cx m v vs σ.h K=Γ.res)(q:Gv Γ ρ σ K Q):wA Γ (call f (x::as)) Q σ:=by
 have hn:=F.ok.hn;have fin:=fun v a σ' e N h=>q.go F (v:=v) (a:=a) (σ':=σ') N e h;cases n with
 |zero=>exact absurd e0 hn
 |succ n=>
  have hr:=F.ok.room;cases m with
  |pf P=>
   refine BE c fun a fn z2q FF H=>?_;subst z2q;exact wpAny_call (T7 F.S F.md F.ok.fa (by omega) FF H hn e0 (.cons hv hs) fin F.raise)
  |nx=>
   refine K6 c fun z0q hm a fn z4q FF hf=>?_;subst z0q;subst z4q;cases vs with
   |cons=>exact absurd e0 hn
   |nil=>
    unfold Fr.Vs Q8 BC at hs;subst hs;exact wpAny_call (dr F.S (hm▸F.md) F.ok.fa (by omega) (F.ok.tab.nxt hm) hf FF hv hn e0 fin)
  |bm b=>cases(show f=.builtin (YU b) from c);exact YD F e0 hv hs q
  |fn fn=>
   refine AZ c fun a z1q FF=>?_;subst z1q;exact F.call (I n (Nat.lt_succ_self n)) (cx:=Ro Γ.cx 0 fn.sc) rfl F.ok.hg rfl rfl (fun z=>by show 1+(Γ.cx.li-(Γ.cx.i+1))≤_;have:Γ.cx.i+1≤Γ.cx.li:=z;omega) FF (.cons hv hs) e0 q
def lJ(Γ:Fr)(f:Nat)(a:Value):Prop:=(∃p fn,a=.ref p∧AK f gT.fns=some fn∧Jm Γ.W.K p fn)∨(∃C c,a=.ref C∧AK f gT.fns=none∧AK f gT.cls=some c∧c.exc=false∧Γ.W.ca f=some C)∨∃b,a=Q2 b∧AK f gT.fns=none∧AK f gT.cls=none∧AK f bfs=some b
theorem qs(F:D Γ ρ σ)(I:∀m,m<n→Y1 m){f:Nat} {a:Value}(c:lJ Γ f a)(hs:Γ.Vs σ vs as)(e0:KH n Γ.cx f vs σ.h K=Γ.res)(q:Gv Γ ρ σ K Q):wA Γ (call a as) Q σ:=by
 have hn:=F.ok.hn;have hg:=F.ok.hg;have fin:=fun v a σ' e N h=>q.go F (v:=v) (a:=a) (σ':=σ') N e h;cases n with
 |zero=>exact absurd e0 hn
 |succ n=>
  have hr:=F.ok.room;refine BQ e0 (fun P h e=>?_) fun J e=>BQ e (fun fn h e=>?_) fun h1 e=>BQ e (fun cl h e=>?_) fun h2 e=>?_
  ·refine AZ (F.ok.tab.fn f P h) fun fn h1 h2=>?_
   rcases c with⟨p,fn',rfl,k1,FF⟩|⟨C,c,rfl,k1,_⟩|⟨b,rfl,k1,_⟩
   ·cases h1.symm.trans k1
    exact wpAny_call (T7 F.S F.md F.ok.fa (by omega) FF h2 hn e hs fin F.raise)
   ·rw[h1] at k1;exact Cq k1
   ·rw[h1] at k1;exact Cq k1
  ·rw[hg] at h
   refine xA (Ba e hn) fun J e=>?_;rcases c with⟨p,fn',rfl,k1,FF⟩|⟨C,c,rfl,k1,_⟩|⟨b,rfl,k1,_⟩
   ·cases h.symm.trans k1
    exact F.call (I n (Nat.lt_succ_self n)) (cx:=Ro Γ.cx f fn.sc) rfl F.ok.hg rfl rfl (fun z=>by show 1+(Γ.cx.li-(Γ.cx.i+1))≤_;have:Γ.cx.i+1≤Γ.cx.li:=z;omega) FF hs e q
   ·rw[h] at k1;exact Cq k1
   ·rw[h] at k1;exact Cq k1
  ·rw[hg] at h h1
   rcases c with⟨p,fn',rfl,k1,FF⟩|⟨C,c,rfl,k1,k2,k3,k4⟩|⟨b,rfl,k1,k2,_⟩
   ·rw[h1] at k1;exact AD k1
   ·cases n with
    |zero=>exact absurd e hn
    |succ n=>exact kI F (I n (Nat.lt_succ_of_lt (Nat.lt_succ_self n))) k4 hs e q
   ·rw[h] at k2;exact Cq k2
  ·rw[hg] at h1 h2
   refine AZ (Ax e hn) fun b' e1 e=>?_;rcases c with⟨p,fn',rfl,k1,FF⟩|⟨C,c,rfl,k1,k2,_⟩|⟨b,rfl,k1,k2,k3⟩
   ·rw[h1] at k1;exact AD k1
   ·rw[h2] at k2;exact AD k2
   ·cases e1.symm.trans k3
    exact YF F e hs q
end
noncomputable abbrev Fr.on(Γ:Fr)(X:AS)(E:Value→Shared→Prop):Fr:={Γ with X:=X,E:=E}
noncomputable def C6(a:Addr)(X:AS):AS:=fun b=>b=a∨X b
def OF(a:Addr)(h h':Heap):Prop:=∀b o,b≠a→h.get? b=some o→h'.get? b=some o
theorem OF.of{a:Addr} {h h':Heap}(x:Heap.SameBut a h h'):OF a h h':=x.extBut
noncomputable abbrev St.to(σ:St)(h:Heap)(k:Nat):St:={σ with s:={σ.s with heap:=h,toks:=k} }
section
variable{W:Wd} {l:List Env} {X X' Z:AS} {σ σ0 σ':St} {a:Addr} {h':Heap} {k:Nat} {m:Str→Option Value} {sc:Scope} {ρ:Af}
theorem O4{g:Hp}(s:∀b,X' b→X b):∀b o,VX g X b=some o→VX g X' b=some o:=fun b o e=>by
 refine xA (AR e) fun e h=>?_;exact Ac e fun q=>h (s b q)
theorem Of(s:∀b,X' b→X b):Le (σ.reg X) (σ.reg X'):=fun b o e J=>by
 refine xA (AR e) fun e h=>?_;exact Ac (O4 s _ _ e) h
theorem SR.sub(S:SR W l X σ)(s:∀b,X' b→X b):SR W l X' σ:={S with
 cell:=fun t c e=>(S.cell t c e).mono (m':=c.m) (fun b x J h=>O4 s b x h) (Of s) (.refl _)
 xs:=fun b hb=>S.xs b (s b hb)}
theorem Nz.sub(x:Nz W l X Z σ σ')(s:∀b,X' b→X b):Nz W l X' Z σ σ':={x with sr:=x.sr.sub s}
theorem Nm.le{X':AS} {s':Shared}(n:Nm W X σ sc ρ m)(le:Le (σ.reg X) (St.reg {σ with s:=s'} X')):Nm W X' {σ with s:=s'} sc ρ m:=⟨fun y v h=>let⟨a,b,c,d⟩:=n.val y v h; ⟨a,b,c,VR.mono le (.refl _) _ _ d⟩,n.nz,n.dbg⟩
theorem SR.but(S:SR W l X σ)(hB:W.B.get? a=none)(hX:∀b,X' b→X b∧(b=a→∃o,h'.get? a=some o∧NF o))(hY:¬σ.Y a)(hR:∀o,σ.reg X a=some o→¬NF o)(hF:∀o,σ.s.heap.get? a=some o→¬NF o→∃o',h'.get? a=some o'∧o'.cls=.type "frame"∧∀vs,o'.data≠ .fields vs)(hs:OF a σ.s.heap h'):SR W l X' (σ.to h' k):=by
 have le:Le (σ.reg X) (St.reg (σ.to h' k) X'):=fun b o e n=>by
  have ne:b≠a:=fun z=>hR o (z▸e) n;refine xA (AR e) fun e hy=>?_;refine xA (AR e) fun e hx=>?_;exact Ac (Ac (hs b o ne e) fun q=>hx (hX b q).1) hy
 refine⟨fun t c e=>(S.cell t c e).mono (m':=c.m) (fun b x hb e'=>?_) le (.refl _),S.inj,S.low,S.nt,S.nlo,S.ngl,S.tx,S.lx,fun b o e=>hs b o (fun z=>by rw[z,hB] at e;exact AD e) (S.base b o e),fun b hb=>?_,fun env he=>?_,S.os,S.gens⟩
 ·refine xA (AR e') fun e' hx=>?_
  exact Ac (hs b x (fun z=>hY (z▸⟨t,c,e,hb⟩)) e') fun q=>hx (hX b q).1
 ·refine xA (hX b hb) fun k1 k2=>?_
  refine BU (S.xs b k1) fun o e n nb=>?_
  by_cases z:b=a
  ·refine AZ (k2 z) fun o' e' n'=>?_
   exact⟨o',z▸e',n',nb⟩
  ·exact⟨o,hs b o z e,n,nb⟩
 ·refine GF (S.fr env he) fun hk L o h1 h2 h3 h4 h5=>?_
  by_cases z:L=a
  ·clear hY hR hB hs hX;subst z
   refine BU (hF o h3 (Lw h4 h5)) fun o' e1 e2 e3=>?_;exact⟨hk,_,o',h1,h2,e1,e2,e3⟩
  ·exact⟨hk,L,o,h1,h2,hs L o z h3,h4,h5⟩
theorem SR.write(S:SR W l X σ)(ha:X a)(hs:OF a σ.s.heap h')(hn:∃o,h'.get? a=some o∧NF o)(hX:∀b,X' b→X b):SR W l X' (σ.to h' k):=by
 refine BU (S.xs a ha) fun o e n hB=>?_;refine S.but hB (fun b hb=>⟨hX b hb,fun J=>hn⟩) (fun hy=>?_) (fun o' e'=>?_) (fun o' e' n'=>?_) hs
 ·refine BU (S.at hy) fun J J J hx=>?_;exact hx ha
 ·exact absurd ha (AR (AR e').1).2
 ·rw[e] at e';cases e';exact absurd n n'
theorem SR.drop(S:SR W l X σ)(ha:X a)(hs:OF a σ.s.heap h')(hX:∀b,X' b→X b∧b≠a):SR W l X' (σ.to h' k):=by
 refine BU (S.xs a ha) fun o e n hB=>?_;refine S.but hB (fun b hb=>⟨(hX b hb).1,fun z=>absurd z (hX b hb).2⟩) (fun hy=>?_) (fun o' e'=>?_) (fun o' e' n'=>?_) hs
 ·refine BU (S.at hy) fun J J J hx=>?_;exact hx ha
 ·exact absurd ha (AR (AR e').1).2
 ·rw[e] at e';cases e';exact absurd n n'
theorem FZ(ha:X a)(hs:OF a σ.s.heap h')(hX:∀b,X' b→X b):Le (σ.reg X) (St.reg (σ.to h' k) X'):=fun b o e J=>by
 refine xA (AR e) fun e hy=>?_;refine xA (AR e) fun e hx=>?_;exact Ac (Ac (hs b o (fun z=>hx (z▸ha)) e) fun q=>hx (hX b q)) hy
theorem Nz.but(N:Nz W l X Z σ0 σ)(h0:σ0.s.heap.get? a=none)(hs:OF a σ.s.heap h')(S:SR W l X' (σ.to h' k)):Nz W l X' Z σ0 (σ.to h' k):=by
 have ne:∀{p o},σ0.s.heap.get? p=some o→p≠a:=fun e z=>by rw[z,h0] at e;exact AD e
 refine⟨S,N.lo,N.gl,N.tm,N.par,N.lex,N.tx,N.np,N.lx,fun p o e hz hy=>⟨fun n=>hs p o (ne e) ((N.kp p o e hz hy).1 n),fun n=>?_⟩,fun p o e=>?_,N.nw⟩
 ·refine xE ((N.kp p o e hz hy).2 n) fun sl q=>?_;exact⟨sl,hs p _ (ne e) q⟩
 ·cases c:σ.s.heap.get? p with
  |none=>exact absurd c (N.al p o e)
  |some o'=>rw[show(σ.to h' k).s.heap.get? p=some o' from hs p o' (ne e) c];nofun
theorem SR.hide(S:SR W l X σ){o:Obj}(ho:NF o)(hf:o.isFreed=false):SR W l (C6 σ.s.heap.objs.size X) {σ with s:={σ.s with heap:=σ.s.heap.push o} }∧Le (σ.reg X) (St.reg {σ with s:={σ.s with heap:=σ.s.heap.push o} } (C6 σ.s.heap.objs.size X)):=by
 have none_:σ.s.heap.get? σ.s.heap.objs.size=none:=Heap.get?_none_of_le (Nat.le_refl _);have k:∀b y,σ.s.heap.get? b=some y→(σ.s.heap.push o).get? b=some y:=fun J J e=>Heap.get?_push_of_some _ e;have N:Nz W l X Z0 σ {σ with s:={σ.s with heap:=σ.s.heap.push o} }:=S.keep (s':={σ.s with heap:=σ.s.heap.push o}) k rfl rfl;have hB:W.B.get? σ.s.heap.objs.size=none:=by
  cases e:W.B.get? σ.s.heap.objs.size with
  |none=>rfl
  |some y=>have:=S.base _ y e;rw[none_] at this;exact AD this
 have ne:∀{b y},σ.s.heap.get? b=some y→b≠σ.s.heap.objs.size:=fun e z=>by rw[z,none_] at e;exact AD e
 have le:Le (σ.reg X) (St.reg {σ with s:={σ.s with heap:=σ.s.heap.push o} } (C6 σ.s.heap.objs.size X)):=fun b y e J=>by
  refine xA (AR e) fun e hy=>?_;refine xA (AR e) fun e hx=>?_;exact Ac (Ac (k _ _ e) fun q=>q.elim (ne e) hx) hy
 refine⟨{N.sr with cell:=fun t c e=>(S.cell t c e).mono (m':=c.m) (fun b y J e=>?_) le (.refl _),xs:=fun b hb=>?_},le⟩
 ·refine xA (AR e) fun e hx=>?_
  exact Ac (k _ _ e) fun q=>q.elim (ne e) hx
 ·rcases hb with rfl|hb
  ·exact⟨o,Heap.get?_push_size _ hf,ho,hB⟩
  ·exact N.sr.xs b hb
theorem W8(S:SR W l (C6 a X) σ){xs:Array Value} {nn:Nat} {lst:List V}(hD:σ.s.heap.get? a=some (listOf xs nn))(v:BC W.w.params W.ca (σ.reg (C6 a X)) σ.μ.nt lst xs.toList)(N:Nz W l X Z σ0 σ)(h0:σ0.s.heap.get? a=none)(hX:¬X a):Nz W l X Z σ0 (Gj σ (.list lst) (a,0) σ.s):=by
 have sub:∀b,X b→C6 a X b:=fun J h=>.inr h;refine BU (S.xs a (.inl rfl)) fun o J J hB=>?_;have hy:¬σ.Y a:=fun h=>by refine BU (S.at h) fun J J J hx=>?_;exact hx (.inl rfl)
 have m:Bk σ.μ (Gj σ (.list lst) (a,0) σ.s).μ:=⟨fun J h=>h,fun J h=>h,fun J h=>h,fun J J=>Pa,fun J J h=>h,fun J h=>h⟩;have old:∀s,s≠ .lo σ.h.lo.length→∀c',(Gj σ (.list lst) (a,0) σ.s).cel s=some c'→∃c,σ.cel s=some c∧c'.o=c.o∧c'.p=c.p∧Bk c.m c'.m:=fun s n c' e=>by
  cases s with
  |par=>exact Ck (m:=σ.μ.nlo) (show B0 (some (.inst kP (Dn σ.h σ.μ.np))) σ.μ.par _=some c' from e) m.nlo
  |lex=>exact Ck (m:=σ.μ.nlo) (show B0 (some (.inst kL (C5 σ.h σ.μ.lx))) σ.μ.lex _=some c' from e) m.nlo
  |tmp=>exact Ck (m:=μ0) (show B0 (σ.h.tmp.map fun x=>.inst x.1 x.2) σ.μ.tm _=some c' from e) (.refl _)
  |lo i=>
   have n:i≠σ.h.lo.length:=fun z=>n (by rw[z]);have e:B0 (σ.h.lo++ [Ob.list lst])[i]? (σ.μ.lo++ [(a,0)])[i]? _=some c':=e;rw[Fb n,Fb (S.nlo▸n)] at e;exact Ck (m:=σ.μ.nt) e m.nt
  |gl i=>exact Ck (m:=σ.μ.nlo) (show B0 σ.h.gl[i]? σ.μ.gl[i]? _=some c' from e) m.nlo
 have nu:∀c',(Gj σ (.list lst) (a,0) σ.s).cel (.lo σ.h.lo.length)=some c'→c'=⟨.list lst,(a,0),(Gj σ (.list lst) (a,0) σ.s).μ.nt⟩:=fun c' e=>by
  refine Es (Ai (show B0 (σ.h.lo++ [Ob.list lst])[σ.h.lo.length]? (σ.μ.lo++ [(a,0)])[σ.h.lo.length]? _=some c' from e)) fun e1 e2 e3=>?_;rw[CC rfl] at e1;rw[CC S.nlo] at e2;rw[Iz e1 e2,←e3]
 have yy:∀p,(Gj σ (.list lst) (a,0) σ.s).Y p→σ.Y p∨p=a:=fun p ⟨s,c',e,h⟩=>by
  by_cases q:s=.lo σ.h.lo.length
  ·subst q;rw[nu c' e] at h;exact .inr h
  ·refine DL (old s q c' e) fun c e1 e2 e3 J=>?_
   exact .inl ⟨s,c,e1,by unfold B5.has at h⊢;rw[←e2,←e3];exact h⟩
 have le:Le (σ.reg (C6 a X)) ((Gj σ (.list lst) (a,0) σ.s).reg X):=fun b o e J=>by
  refine xA (AR e) fun e hb=>?_;refine xA (AR e) fun e hx=>?_;exact Ac (Ac e fun q=>hx (.inr q)) fun q=>(yy b q).elim hb fun z=>hx (.inl z)
 refine⟨⟨fun s c' e=>?_,fun s s' c c' p e1 e2 h1 h2=>?_,fun p h=>(yy p h).elim (S.low p) fun z=>z▸hB,S.nt,by show(σ.h.lo++ [Ob.list lst]).length=(σ.μ.lo++ [(a,0)]).length;simp[S.nlo],S.ngl,S.tx,S.lx,S.base,fun p h=>S.xs p (.inr h),S.fr,S.os,S.gens⟩,fun i p h=>Pa (N.lo i p h),N.gl,N.tm,N.par,N.lex,N.tx,N.np,N.lx,N.kp,N.al,fun p h=>(yy p h).elim (N.nw p) fun z=>.inr (z▸h0)⟩
 ·by_cases q:s=.lo σ.h.lo.length
  ·subst q;rw[nu c' e]
   exact⟨xs,nn,Ac hD hX,BC.mono le m.nt _ _ v⟩
  ·refine DL (old s q c' e) fun c e1 e2 e3 e4=>?_
   have:=(S.cell s c e1).mono (g':=σ.hx X) (fun b x J h=>O4 sub b x h) le e4;rw[←e2,←e3] at this;exact this
 ·have tr:∀{c c':B5},c'.o=c.o→c'.p=c.p→c'.has p→c.has p:=fun e1 e2 h=>by unfold B5.has at h⊢;rw[←e1,←e2];exact h
  have one:∀{s c},s≠ .lo σ.h.lo.length→(Gj σ (.list lst) (a,0) σ.s).cel s=some c→c.has p→p≠a:=fun n e h z=>by
   refine DL (old _ n _ e) fun c0 e1 e2 e3 J=>?_;exact hy (z▸⟨_,c0,e1,tr e2 e3 h⟩)
  by_cases q:s=.lo σ.h.lo.length
  ·by_cases q':s'=.lo σ.h.lo.length
   ·rw[q,q']
   ·subst q;rw[nu c e1] at h1
    exact absurd h1 (one q' e2 h2)
  ·by_cases q':s'=.lo σ.h.lo.length
   ·subst q';rw[nu c' e2] at h2
    exact absurd h2 (one q e1 h1)
   ·refine DL (old s q c e1) fun c1 a1 a2 a3 J=>?_
    refine DL (old s' q' c' e2) fun c2 b1 b2 b3 J=>?_;exact S.inj s s' c1 c2 p a1 b1 (tr a2 a3 h1) (tr b2 b3 h2)
end
section
variable{Γ:Fr} {ρ:Af} {σ σ':St} {a:Addr} {h':Heap} {k:Nat}
theorem D.on{X:AS} {E:Value→Shared→Prop}(F:D Γ ρ σ)(T:Γ.cp=false)(s:∀b,X b→Γ.X b)(x:(Γ.on X E).Ok):D (Γ.on X E) ρ σ:=by
 refine BU F.nm fun m h1 h2 h3=>?_;exact⟨x,F.n0.sub s,F.md,by show match Γ.cp with|false=>_|true=>_;rw[T];exact F.is T,m,h1,h2,fun y v h=>let⟨a,b,c,d⟩:=h3.val y v h; ⟨a,b,c,VR.mono (Of s) (.refl _) _ _ d⟩,h3.nz,h3.dbg⟩
theorem Fr.Ok.on{X:AS} {E:Value→Shared→Prop}(o:Γ.Ok)(x:∀s' e c C,Γ.res=.ex c→Γ.W.ce c=some C→(Ci Γ.W Γ.l Γ.Z Γ.σ0 s' C e∨Eg Γ.W Γ.l Γ.Z Γ.L Γ.σ0 s' C e)→E (.ref e) s'):(Γ.on X E).Ok:=⟨o.wf,o.hn,o.fa,o.fits,o.frame,o.hg,o.il,o.room,o.tab,x,o.s0⟩
theorem D.but(F:D Γ ρ σ)(T:Γ.cp=false){X':AS}(ha:Γ.X a)(hs:OF a σ.s.heap h')(hX:∀b,X' b→Γ.X b)(h0:Γ.σ0.s.heap.get? a=none)(S:SR Γ.W Γ.l X' (σ.to h' k)){E:Value→Shared→Prop}(o:(Γ.on X' E).Ok):D (Γ.on X' E) ρ (σ.to h' k):=by
 have le:=FZ (k:=k) ha hs hX;refine AZ (F.is T) fun oL eL nL=>?_;have neL:Γ.L≠a:=fun z=>by
  refine BU (F.S.xs a ha) fun o' e' n' J=>?_;rw[←z,eL] at e';cases e';exact nL n'
 obtain⟨m,⟨o2,es,ep,eo,hd,r⟩,h2,h3⟩:=F.nm;exact⟨o,F.n0.but h0 hs S,⟨F.md.m0,F.md.m1,F.md.m2⟩,by show match Γ.cp with|false=>_|true=>_;rw[T];exact⟨oL,hs _ _ neL eL,nL⟩,m,⟨o2,es,ep,hs _ _ neL eo,hd,r⟩,h2,h3.le le⟩
end
section
variable{Γ:Fr} {ρ ρ':Af} {σ σ':St} {v:Mn.V} {a x:Value} {n:Nat}
theorem D.own(T:Γ.cp=false)(F:D Γ ρ σ){h':Heap} {k:Nat} {m':Str→Option Value}(hs:OF Γ.L σ.s.heap h')(hf:∃o',h'.get? Γ.L=some o'∧o'.cls=.type "frame")(hn:h'.Ns Γ.L m')(hv:∀y w,AK (nk y) ρ'=some w→Γ.cx.sc.names.lookup y=some .local∧∃b,m' y=some b∧Γ.V σ w b)(nz:AK 0 ρ'=none)(dbg:AK Dg ρ'=none):Γ.N σ (σ.to h' k)∧D Γ ρ' (σ.to h' k):=by
 refine AZ (F.is T) fun oL eL nL=>?_;refine AZ hf fun o' ho' hc'=>?_;refine A_ (id hn) fun o2 es ep ho2 hd2 hr2=>?_;rw[ho'] at ho2;cases ho2;have nfd:∀vs,o'.data≠ .fields vs:=fun vs z=>by rw[hd2] at z;cases z
 refine V8 (F.S.fr Γ.env (by rw[Tc T];exact .head _)) fun hk L o h1 h2 J=>?_;rw[F.ok.frame T] at h1;clear J;cases h1;refine BU F.nm fun m J hy J=>?_;have S1:SR Γ.W Γ.l Γ.X (σ.to h' k):=F.S.but h2 (fun b hb=>⟨hb,fun z=>by
  refine BU (F.S.xs b hb) fun o e n J=>?_;rw[z,eL] at e;cases e;exact absurd n nL⟩) hy (fun o e=>by rw[eL.symm.trans (AR (AR e).1).1|>Option.some.inj|>.symm];exact nL) (fun o e n=>⟨o',ho',hc',nfd⟩) hs
 have N:Γ.N σ (σ.to h' k):=⟨S1,fun J J h=>h,fun J J h=>h,fun J h=>h,rfl,rfl,rfl,rfl,rfl,fun p o e hz J=>have hz:p≠Γ.L:=fun q=>hz (by rw[V3 T];exact q); ⟨fun J=>hs p o hz e,fun J=>⟨o.slots,hs p o hz e⟩⟩,fun p o e=>by
  by_cases z:p=Γ.L
  ·rw[z,show(σ.to h' k).s.heap.get? Γ.L=some o' from ho'];nofun
  ·rw[show(σ.to h' k).s.heap.get? p=some o from hs p o z e];nofun,fun J h=>.inl h⟩
 have fr:Yi (σ.to h' k) Γ.L:=⟨o',ho',Lw hc' nfd⟩;refine⟨N,F.ok,F.n0.trans N,F.md.nz N,by rw[T];exact fr,m',hn,hy,fun y w h=>?_,nz,dbg⟩;refine UM (hv y w h) fun q1 b q2 q3=>?_;exact⟨q1,b,q2,q3.nz F.frz N⟩
theorem GW(T:Γ.cp=false)(F:D Γ ρ σ){x:Str}(e:Uk Γ.cx.sc (nk x) v ρ=some ρ')(hv:Γ.V σ v a){Q:Unit→Shared→Prop}(q:∀h' k,Γ.N σ (σ.to h' k)→D Γ ρ' (σ.to h' k)→Q () (σ.to h' k).s):wA Γ (storeName Γ.env x a) Q σ:=by
 have T':=F.ok.fits;refine BU F.nm fun m hn hy nm=>?_;refine xA (nm.put e hv) fun hl n'=>?_;refine AZ (F.is T) fun oL hoL hnf=>?_;refine II (o:=oL) (m:=m) (show Γ.env.scope.names.lookup x=_ by rw[T'.scope];exact hl) (by rw[T'.scope];exact T'.kind) (by rw[T'.locals];exact hn) (by rw[T'.locals];exact hoL) fun h' hns hfr hs=>?_;rw[T'.locals] at hns hfr hs;refine AZ hfr fun o' ho' hc'=>?_;refine xA (F.own T (k:=σ.s.toks+1) (OF.of hs) ⟨o',ho',hc'.trans (TU hnf).1⟩ hns n'.val n'.nz n'.dbg) fun N D'=>?_;exact q h' _ N D'
set_option tactic.hygienic true in
theorem JR(T:Γ.cp=false):∀{es:List PySem.Expr} {ks:List Nat} {vs:List V} {ws:List Value} {ρ ρ':Af} {σ:St} {Q:Unit→Shared→Prop},BJ es=some ks→An Γ.cx.sc ks vs ρ=some ρ'→D Γ ρ σ→Γ.Vs σ vs ws→
  (∀h' k,Γ.N σ (σ.to h' k)→D Γ ρ' (σ.to h' k)→Q () (σ.to h' k).s)→wA Γ (assignInOrder ((assignEach es Γ.env).map (·.2)) ws) Q σ
 | [],ks,vs,ws,ρ,ρ',σ,Q,e1,e2,F,hv,q=>by
  cases e1;cases vs with
  |nil=>cases e2;exact wpAny_pure (q σ.s.heap σ.s.toks (.refl F.S) F)
  |cons v r=>exact AD e2
 |e::r,ks,vs,ws,ρ,ρ',σ,Q,e1,e2,F,hv,q=>by
  cases e with
  |Name x p=>
   refine AZ (Option.map_eq_some_iff.mp (show(BJ r).map (nk x::·)=some ks from e1)) fun ks' e3 z2q=>?_;subst z2q;cases vs with
   |nil=>exact AD e2
   |cons v vs=>
    refine BE hv.of_cons fun a ws' z2q h1 h2=>?_;subst z2q;simp only[An] at e2
    split at e2
    ·rename_i ρ1 e4
     show wA Γ (do holding ws' (assign (.Name x p) Γ.env a);assignInOrder ((assignEach r Γ.env).map (·.2)) ws') Q σ;exact wpAny_bind (wpAny_holding (wpAny_assign_Name (GW T F e4 h1 fun h' k N1 D1=>JR T (σ:=σ.to h' k) e3 e2 D1 (F.vals N1 h2) fun h'' k' N2 D2=>q h'' k' (N1.trans N2) D2)))
    ·exact AD e2
  |_=>exact AD e1
variable{env:Env}
theorem EO:∀{es:List PySem.Expr} {ks:List Nat},BJ es=some ks→(assignEach es env).length=ks.length∧(assignEach es env).findIdx? (·.1)=none
 | [],ks,e=>by cases e;exact⟨rfl,rfl⟩
 |e::r,ks,h=>by
  cases e with
  |Name x p=>
   refine AZ (Option.map_eq_some_iff.mp (show(BJ r).map (nk x::·)=some ks from h)) fun ks' e3 z2q=>?_;subst z2q;refine xA (EO e3) fun h1 h2=>?_;have e:assignEach (.Name x p::r) env=(false,assign (.Name x p) env)::assignEach r env:=rfl;rw[e];refine⟨by simp[h1],?_⟩;rw[List.findIdx?_cons];simp[h2]
  |_=>exact AD h
theorem Gi{sc:Scope}:∀{ks:List Nat} {vs:List V} {ρ ρ':Af},An sc ks vs ρ=some ρ'→ks.length=vs.length
 | [],[],_,_,_=>rfl
 | [],_::_,_,_,e=>by exact AD e
 |_::_,[],_,_,e=>by exact AD e
 |k::ks,v::vs,ρ,ρ',e=>by
  simp only[An] at e
  split at e
  ·rw[List.length_cons,List.length_cons,Gi e]
  ·exact AD e
theorem Vs.of_nt{l0:List V} {as:List Value}(h:BC Γ.W.w.params Γ.W.ca (σ.reg Γ.X) σ.μ.nt l0 as):Γ.Vs σ l0 as:=BC.mono (Le.refl _) (.of_nt _) _ _ h
set_option tactic.hygienic true in
theorem YV(T:Γ.cp=false)(F:D Γ ρ σ){t:PySem.Expr}(e:Jk Γ.cx.sc t v ρ=some ρ')(hv:Γ.V σ v a){Q:Unit→Shared→Prop}(q:∀h' k,Γ.N σ (σ.to h' k)→D Γ ρ' (σ.to h' k)→Q () (σ.to h' k).s):wA Γ (assign t Γ.env a) Q σ:=by
 cases t with
 |Name x p=>exact wpAny_assign_Name (GW T F e hv q)
 |Tuple es k p=>
  have e0:(match BJ es,IG v with|some ks,some vs=>An Γ.cx.sc ks vs ρ|_,_=>none)=some ρ':=e;clear e
  split at e0
  ·rename_i ks vs e1 e2
   refine Sk e2 (fun l0 h e3=>?_) AD;cases e3;subst h;refine Cc (NL hv) fun b o xs n z4q h1 h2 h3 h4=>?_;subst z4q;refine xA (EO (env:=Γ.env) e1) fun g1 g2=>?_;refine wpAny_assign_Tuple F.ok.fa.handled (Hs h1 h2 h3) (by rw[g1,Gi e0,←h4.length];simp) g2 fun h' he=>?_;have N:Nz Γ.W Γ.l Γ.X Z0 σ {σ with s:={σ.s with heap:=h'} }:=F.S.keep (s':={σ.s with heap:=h'}) (fun p o e=>he p o (Nat.ne_of_lt (Heap.lt_size e)) e) rfl rfl;exact JR T (σ:={σ with s:={σ.s with heap:=h'} }) e1 e0 (F.step N) (F.vals N.up (Vs.of_nt h4)) fun h'' k N2 D2=>q h'' k (N.up.trans N2) D2
  ·exact AD e0
 |_=>exact AD e
noncomputable abbrev sE(Γ:Fr)(RR:Result→Shared→Prop):Value→Shared→Prop:=notedBy Γ.M Γ.A Γ.env fun e s'=>RR (.error e) s'
noncomputable abbrev Fr.lp(Γ:Fr)(X:AS)(RR:Result→Shared→Prop):Fr:=Γ.on X (sE Γ RR)
def Yq(Γ:Fr)(RR:Result→Shared→Prop):Prop:=∀s' e c C,Γ.res=.ex c→Γ.W.ce c=some C→Eg Γ.W Γ.l Γ.Z Γ.L Γ.σ0 s' C e→RR (.error (.ref e)) s'
theorem Fr.Ok.lp{X:AS} {RR:Result→Shared→Prop}(T:Γ.cp=false)(o:Γ.Ok)(h:Yq Γ RR):(Γ.lp X RR).Ok:=o.on fun s' e c C h1 h2 h3=>h3.elim (fun f=>f.note (Tc T) o.fa.frames (o.frame T) fun s'' H=>h s'' e c C h1 h2 H) fun H=>H.note (o.frame T) (h s' e c C h1 h2 H)
def Gl(Γ:Fr)(σ:St)(K:Fl→Af→HA→RA X)(RR:Result→Shared→Prop):Prop:=∀fl w ρ' σ',K fl ρ' σ'.h=Γ.res→Γ.N σ σ'→D Γ ρ' σ'→rX Γ.W Γ.X σ' fl w→RR (.ok w) σ'.s
theorem Gl.nx{K:Fl→Af→HA→RA X} {RR:Result→Shared→Prop}(x:Γ.N σ σ')(q:Gl Γ σ K RR):Gl Γ σ' K RR:=fun fl w ρ' σ'' h1 h2 h3 h4=>q fl w ρ' σ'' h1 (x.trans h2) h3 h4
noncomputable abbrev qh(K:Fl→Af→HA→RA X)(P:Af→HA→RA X):Fl→Af→HA→RA X:=fun x ρ h=>match x with
 |.next=>P ρ h
 |.cont=>P ρ h
 |.brk=>K .next ρ h
 |.ret v=>K (.ret v) ρ h
noncomputable abbrev gH(M:Model)(RR:Result→Shared→Prop)(A:Around):Fin→Shared→Prop:=fun fin s'=>match fin with|.done f=>RR (.ok f) s'|.again c'=>c'.quiet=true∧codeAny M A c' RR s'
theorem LL(IT:Pe n)(IX:ND n){t:PySem.Expr} {b:List Stmt} {K:Fl→Af→HA→RA X} {P:Af→HA→RA X} {RR:Result→Shared→Prop}(T:Γ.cp=false)(F:D Γ ρ σ)(h:Yq Γ RR)(he:IH n Γ.cx ρ t σ.h (fun c h=>cC c (K .next ρ h) (BS n Γ.cx ρ b h (qh K P)))=Γ.res)(q:Gl Γ σ K RR)
  (again_:∀ρ' σ',P ρ' σ'.h=Γ.res→Γ.N σ σ'→D Γ ρ' σ'→codeAny Γ.M Γ.A (.whileLoop t b [] Γ.env) RR σ'.s):codeAny Γ.M Γ.A (.whileLoop t b [] Γ.env) RR σ.s:=by
 refine codeAny_of_tree ?_;show wpAny _ Γ.A ((whileTurn t b [] Γ.env).onRaise (fun x=>do noteFrame x Γ.env;theTreesLotGoes x)) _ _ σ.s;refine wpAny_noted ?_;have F2:D (Γ.lp Γ.X RR) ρ σ:=F.on T (fun J h=>h) (F.ok.lp T h);have back:∀{ρ' σ'},D (Γ.lp Γ.X RR) ρ' σ'→D Γ ρ' σ':=fun d=>⟨F.ok,d.n0,d.md,d.fr,d.nm⟩;simp only[whileTurn];refine wpAny_bind (IT (Γ.lp Γ.X RR) ρ t _ σ _ F2 he fun c σ1 e1 N1 D1=>?_);cases c with
 |false=>
  simp only[Bool.false_eq_true,if_false];exact wpAny_bind (wpAny_execs_nil (wpAny_pure (q .next .next ρ σ1 e1 N1 (back D1) rfl)))
 |true=>
  simp only[if_true];refine wpAny_bind (IX (Γ.lp Γ.X RR) ρ b _ σ1 _ T D1 e1 fun fl w ρ' σ2 e2 N2 D2 fr=>?_);have N:=N1.trans N2;cases fl with
  |next=>cases(show w=.next from fr);exact wpAny_pure ⟨rfl,again_ ρ' σ2 e2 N (back D2)⟩
  |cont=>cases(show w=.cont from fr);exact wpAny_pure ⟨rfl,again_ ρ' σ2 e2 N (back D2)⟩
  |brk=>cases(show w=.brk from fr);exact wpAny_pure (q .next .next ρ' σ2 e2 N (back D2) rfl)
  |ret v=>refine AZ fr fun y z1q hy=>?_;subst z1q;exact wpAny_pure (q (.ret v) (.ret y) ρ' σ2 e2 N (back D2) ⟨y,rfl,hy⟩)
def ki(n:Nat):Prop:=∀Γ ρ t b K σ RR,Γ.cp=false→D Γ ρ σ→Yq Γ RR→cH n Γ.cx ρ t b σ.h K=Γ.res→Gl Γ σ K RR→codeAny Γ.M Γ.A (.whileLoop t b [] Γ.env) RR σ.s
theorem Y2(IT:Pe n)(IX:ND n)(IW:ki n):ki (n+1):=fun Γ ρ t b K σ RR T F h he q=>
 LL IT IX T F h (P:=fun ρ h=>cH n Γ.cx ρ t b h K) he q fun ρ' σ' e N D'=>IW Γ ρ' t b K σ' RR T D' h e (q.nx N)
theorem Yq.of(T:Γ.cp=false)(F:D Γ ρ σ){Q:Flow→Shared→Prop}:Yq Γ fun r s'=>match r with|.ok f=>Q f s'|.error e=>cameBackBy Γ.M Γ.A Γ.env Γ.E e s':=fun s' e c C h1 h2 h3=>h3.back (F.ok.frame T) fun s'' H=>F.ok.x s'' e c C h1 h2 (.inr H)
theorem WA(IW:ki n){t:PySem.Expr} {b c:List Stmt} {p:Pos} {K:Fl→Af→HA→RA X} {Q:Flow→Shared→Prop}(T:Γ.cp=false)(F:D Γ ρ σ)(he:cH n Γ.cx ρ t b σ.h K=Γ.res)(hc:c= [])(q:Gx Γ σ K Q):wA Γ (exec (.While t b c p) Γ.env) Q σ:=by
 subst hc;exact wpAny_While (IW Γ ρ t b K σ _ T F (.of T F) he fun fl w ρ' σ' e N D' r=>q fl w ρ' σ' e N D' r)
theorem Qf(IX:ND n){t:PySem.Expr} {b:List Stmt} {it:Addr} {K:Fl→Af→HA→RA X} {P:Af→HA→RA X} {RR:Result→Shared→Prop} {ρ1:Af} {y:Value} {Γ0:Fr} {σ1:St}(hΓ:Γ=Γ0.lp (C6 it Γ0.X) RR)(T:Γ0.cp=false)(ok:Γ0.Ok)(F:D Γ ρ σ)(N0:Γ0.N σ1 σ)(e1:Jk Γ.cx.sc t v ρ=some ρ1)(hv:Γ.V σ v y)(e2:BS n Γ.cx ρ1 b σ.h (qh K P)=Γ.res)(q:Gl Γ0 σ1 K RR)
  (again_:∀ρ' σ',P ρ' σ'.h=Γ.res→Γ.N σ σ'→D Γ ρ' σ'→codeAny Γ.M Γ.A (.forLoop t (.ref it) b [] Γ.env) RR σ'.s):
  wpAny Γ.M Γ.A (do assign t Γ.env y;match←execs b Γ.env with|.next|.cont=>again (.forLoop t (.ref it) b [] Γ.env)|.brk=>pure (.done .next)|.ret v=>pure (.done (.ret v))) (gH Γ.M RR Γ.A) (sE Γ RR) σ.s:=by
 subst hΓ;refine wpAny_bind (YV (Γ:=Γ0.lp (C6 it Γ0.X) RR) T F e1 hv fun h' k N1 D1=>?_);refine wpAny_bind (IX _ ρ1 b _ (σ.to h' k) _ T D1 e2 fun fl w ρ' σ2 e3 N2 D2 fr=>?_);have N:=N1.trans N2;have sub:∀b,Γ0.X b→C6 it Γ0.X b:=fun J h=>.inr h;have D3:D Γ0 ρ' σ2:=D2.on (X:=Γ0.X) (E:=Γ0.E) T sub ok;have N3:Γ0.N σ1 σ2:=N0.trans (N.sub sub);cases fl with
 |next=>cases(show w=.next from fr);exact wpAny_pure ⟨rfl,again_ ρ' σ2 e3 N D2⟩
 |cont=>cases(show w=.cont from fr);exact wpAny_pure ⟨rfl,again_ ρ' σ2 e3 N D2⟩
 |brk=>cases(show w=.brk from fr);exact wpAny_pure (q .next .next ρ' σ2 e3 N3 D3 rfl)
 |ret v=>refine AZ fr fun z z1q hz=>?_;clear fr;subst z1q;exact wpAny_pure (q (.ret v) (.ret z) ρ' σ2 e3 N3 D3 ⟨z,rfl,VR.mono (Of sub) (.refl _) _ _ hz⟩)
end
section
variable{Γ:Fr} {ρ ρ':Af} {σ σ' σ1:St} {v:Mn.V} {a x:Value} {n:Nat} {t:PySem.Expr} {b:List Stmt} {it ax:Addr} {K:Fl→Af→HA→RA Mn.X} {RR:Result→Shared→Prop}
structure Lo(Γ:Fr)(it:Addr)(σ1 σ:St)(ρ:Af)(K:Fl→Af→HA→RA Mn.X)(RR:Result→Shared→Prop):Prop where
 T:Γ.cp=false
 ok:Γ.Ok
 h:Yq Γ RR
 i0:Γ.σ0.s.heap.get? it=none
 i1:σ1.s.heap.get? it=none
 hX:¬Γ.X it
 n:Γ.N σ1 σ
 d:D (Γ.lp (C6 it Γ.X) RR) ρ σ
 q:Gl Γ σ1 K RR
theorem Lo.sub:∀b,Γ.X b→C6 it Γ.X b:=fun J h=>.inr h
theorem Lo.next(L:Lo Γ it σ1 σ ρ K RR)(N:(Γ.lp (C6 it Γ.X) RR).N σ σ')(D':D (Γ.lp (C6 it Γ.X) RR) ρ' σ'):Lo Γ it σ1 σ' ρ' K RR:=⟨L.T,L.ok,L.h,L.i0,L.i1,L.hX,L.n.trans (N.sub Lo.sub),D',L.q⟩
theorem Lo.wr(L:Lo Γ it σ1 σ ρ K RR){h':Heap} {k:Nat}(hs:OF it σ.s.heap h')(hn:∃o,h'.get? it=some o∧NF o):Lo Γ it σ1 (σ.to h' k) ρ K RR∧Le (σ.reg (C6 it Γ.X)) (St.reg (σ.to h' k) (C6 it Γ.X)):=by
 have S1:=L.d.S.write (k:=k) (X':=C6 it Γ.X) (.inl rfl) hs hn fun J h=>h;exact⟨⟨L.T,L.ok,L.h,L.i0,L.i1,L.hX,L.n.but L.i1 hs (S1.sub Lo.sub),L.d.but L.T (.inl rfl) hs (fun J h=>h) L.i0 S1 L.d.ok,L.q⟩,FZ (.inl rfl) hs fun J h=>h⟩
theorem Lo.done(L:Lo Γ it σ1 σ ρ K RR){h':Heap} {k:Nat}(hs:OF it σ.s.heap h')(e:K .next ρ σ.h=Γ.res):RR (.ok .next) (σ.to h' k).s:=by
 have S1:=L.d.S.drop (k:=k) (X':=Γ.X) (.inl rfl) hs fun b hb=>⟨.inr hb,fun z=>L.hX (z▸hb)⟩;exact L.q .next .next ρ (σ.to h' k) e (L.n.but L.i1 hs S1) (L.d.but L.T (.inl rfl) hs Lo.sub L.i0 S1 L.ok) rfl
theorem Tq{it:Addr} {y:Value} {Q:Unit→Shared→Prop} {s:Shared}(e:Jk Γ.cx.sc t v ρ=some ρ')(h:∀es k p,(∃l,v=.tup l)→∀{Q:Unit→Shared→Prop} {E:Value→Shared→Prop},Q () s→wpAny Γ.M Γ.A (letOwnedTupleGo (.Tuple es k p) (.ref it) y) Q E s)(q:Q () s){E:Value→Shared→Prop}:wpAny Γ.M Γ.A (letOwnedTupleGo t (.ref it) y) Q E s:=by
 cases t with
 |Tuple es k p=>
  have e0:(match BJ es,IG v with|some ks,some vs=>An Γ.cx.sc ks vs ρ|_,_=>none)=some ρ':=e
  split at e0
  ·rename_i e4
   exact h es k p (Sk e4 (fun l h J=>⟨l,h⟩) AD) q
  ·exact AD e0
 |Name _ _=>exact wpAny_pure q
 |_=>exact AD e
def lG(n:Nat):Prop:=∀Γ ρ t b src k K σ1 σ it ax RR,Lo Γ it σ1 σ ρ K RR→VT Γ.W (C6 it Γ.X) σ src (.ref ax)→σ.s.heap.IsListIter it ax k→SM n Γ.cx ρ t b src k σ.h K=Γ.res→codeAny Γ.M Γ.A (.forLoop t (.ref it) b [] Γ.env) RR σ.s
theorem Zy(IX:ND n)(IF:lG n):lG (n+1):=fun Γ ρ t b src k K σ1 σ it ax RR L hs hit he=>by
 have hn:=L.ok.hn;refine AZ (Ax he hn) fun l0 e0 he=>?_;refine A_ (Cw L.d.S e0 hs) fun b' xs nn hb g1 g2=>?_;cases hb;have hl:=B_ g1;refine codeAny_of_tree ?_;show wpAny _ Γ.A ((forTurn t (.ref it) b [] Γ.env).onRaise (fun x=>do noteFrame x Γ.env;theTreesLotGoes x)) _ _ σ.s;refine wpAny_noted ?_;simp only[forTurn];refine wpAny_bind (wpAny_standAt (wpAny_bind (wpAny_onRaise ?_)));refine BQ he (fun v e1 he=>?_) fun e1 he=>?_
 ·refine AZ (Ax he hn) fun ρ1 e2 he=>?_
  refine AZ (g2.nth e1) fun y hy hv=>?_;refine wpAny_pyNext_list_item hit hl (by simpa using hy) fun h1 hit1 hs1=>?_;have hs1:=OF.of hs1;refine BU (id hit1) fun oi' hoi' hci' J=>?_;have nfi:NF oi':=.inl fun q=>by rw[hci'] at q;revert q;decide
  refine xA (L.wr (k:=σ.s.toks) hs1 ⟨oi',hoi',nfi⟩) fun L1 le=>?_;have hv1:(Γ.lp (C6 it Γ.X) RR).V (σ.to h1 σ.s.toks) v y:=VR.mono le (.of_nt _) _ _ hv;have src1:VT Γ.W (C6 it Γ.X) (σ.to h1 σ.s.toks) src (.ref ax):=VR.mono le (.refl _) _ _ hs;refine wpAny_bind (Tq (Γ:=Γ.lp (C6 it Γ.X) RR) e2 (fun es k p h {Q E} ys=>?_) ?_)
  ·refine xE h fun l1 h=>?_
   clear e2 he e1;subst h;refine LK (NL hv1) fun T o ys' J z4q J=>?_;clear hv1 hy hv;subst z4q;exact wpAny_letOwnedTupleGo_listiter hit1 ys
  ·refine Qf (P:=fun ρ h=>SM n Γ.cx ρ t b src (k+1) h K) IX rfl L.T L.ok L1.d L1.n e2 hv1 he L.q fun ρ' σ' e3 N2 D2=>?_
   have L2:=L1.next N2 D2;have hit2:σ'.s.heap.IsListIter it ax (k+1):=hit1.at fun o e=>by
    have nz:it≠Γ.L:=fun z=>by
     refine AZ (L1.d.is L1.T) fun o2 e2 n2=>?_;rw[show Γ.L=it from z.symm] at e2;cases hoi'.symm.trans e2;exact n2 nfi
    have:=N2.kp it o e (fun z=>nz (aV L1.T z)) fun hy=>by refine BU (L1.d.S.at hy) fun J J J hz=>?_;exact hz (.inl rfl)
    exact this.1 (by clear this;cases hoi'.symm.trans e;exact nfi)
   exact IF Γ ρ' t b src (k+1) K σ1 σ' it ax RR L2 (src1.nz L1.d.frz N2) hit2 e3
 ·have hx:xs[k]? =none:=by
   have:=g2.length;rw[List.getElem?_eq_none_iff] at e1;rw[Array.getElem?_eq_none_iff];simp at this;omega
  refine wpAny_pyNext_list_end L.ok.fa.handled hit hl hx fun h1 hs1=>?_;exact wpAny_pure ⟨rfl,codeAny_block (wpAny_execs_nil (L.done (k:=σ.s.toks) hs1 he))⟩
def lF(n:Nat):Prop:=∀Γ ρ t b (i j left:Int) K σ1 σ it RR,Lo Γ it σ1 σ ρ K RR→IsRangeIter σ.s.heap it i left 1→(i<j→left=j-i)→(¬i<j→left≤0)→RP n Γ.cx ρ t b i j σ.h K=Γ.res→codeAny Γ.M Γ.A (.forLoop t (.ref it) b [] Γ.env) RR σ.s
theorem Zv(IX:ND n)(IF:lF n):lF (n+1):=fun Γ ρ t b i j left K σ1 σ it RR L hit hl1 hl2 he=>by
 have hn:=L.ok.hn;refine codeAny_of_tree ?_;show wpAny _ Γ.A ((forTurn t (.ref it) b [] Γ.env).onRaise (fun x=>do noteFrame x Γ.env;theTreesLotGoes x)) _ _ σ.s;refine wpAny_noted ?_;simp only[forTurn];refine wpAny_bind (wpAny_standAt (wpAny_bind (wpAny_onRaise ?_)));refine B3 he (fun e1 he=>?_) fun e1 he=>?_
 ·have hij:=of_decide_eq_true e1
  have hl:=hl1 hij;refine AZ (Ax he hn) fun ρ1 e2 he=>?_;refine wpAny_pyNext_range_item hit (by omega) fun h1 hit1 hs1=>?_;have hs1:=OF.of hs1;have nfi:NF (⟨.type "range_iterator",none,.fields #[rawInt (i+1),rawInt (left-1),rawInt 1],#[]⟩:Obj):=.inr ⟨_,rfl⟩;refine xA (L.wr (k:=σ.s.toks+1) hs1 ⟨_,hit1,nfi⟩) fun L1 le=>?_;have hv1:(Γ.lp (C6 it Γ.X) RR).V (σ.to h1 (σ.s.toks+1)) (.int i) (.int i σ.s.toks):=.of_i;refine wpAny_bind (Tq (Γ:=Γ.lp (C6 it Γ.X) RR) e2 (fun es k p h {Q E} ys=>?_) ?_)
  ·refine xE h fun l1 h=>?_;cases h
  ·refine Qf (P:=fun ρ h=>RP n Γ.cx ρ t b (i+1) j h K) IX rfl L.T L.ok L1.d L1.n e2 hv1 he L.q fun ρ' σ' e3 N2 D2=>?_
   have L2:=L1.next N2 D2;have hit2:IsRangeIter σ'.s.heap it (i+1) (left-1) 1:=by
    have nz:it≠Γ.L:=fun z=>by
     refine AZ (L1.d.is L1.T) fun o2 e2 n2=>?_;rw[show Γ.L=it from z.symm] at e2;cases hit1.symm.trans e2;exact n2 nfi
    exact(N2.kp it _ hit1 (fun z=>nz (aV L1.T z)) fun hy=>by refine BU (L1.d.S.at hy) fun J J J hz=>?_;exact hz (.inl rfl)).1 nfi
   exact IF Γ ρ' t b (i+1) j (left-1) K σ1 σ' it RR L2 hit2 (fun J=>by omega) (fun J=>by omega) e3
 ·refine wpAny_pyNext_range_end L.ok.fa.handled hit (hl2 (of_decide_eq_false e1)) fun h1 hs1=>?_
  exact wpAny_pure ⟨rfl,codeAny_block (wpAny_execs_nil (L.done (k:=σ.s.toks) hs1 he))⟩
theorem D.lo(T:Γ.cp=false)(F:D Γ ρ σ){o:Obj}(ho:NF o)(hf:o.isFreed=false)(h:Yq Γ RR)(q:Gl Γ σ K RR):Lo Γ σ.s.heap.objs.size σ {σ with s:={σ.s with heap:=σ.s.heap.push o} } ρ K RR∧Le (σ.reg Γ.X) (St.reg {σ with s:={σ.s with heap:=σ.s.heap.push o} } (C6 σ.s.heap.objs.size Γ.X)):=by
 have none_:σ.s.heap.get? σ.s.heap.objs.size=none:=Heap.get?_none_of_le (Nat.le_refl _);have k:∀b y,σ.s.heap.get? b=some y→(σ.s.heap.push o).get? b=some y:=fun J J e=>Heap.get?_push_of_some _ e;have N:Nz Γ.W Γ.l Γ.X Z0 σ {σ with s:={σ.s with heap:=σ.s.heap.push o} }:=F.S.keep (s':={σ.s with heap:=σ.s.heap.push o}) k rfl rfl;have D1:=F.step N;refine xA (F.S.hide ho hf) fun S1 le=>?_;obtain⟨m,⟨o2,es,ep,eo,hd,r⟩,h2,h3⟩:=F.nm;refine⟨⟨T,F.ok,h,?_,none_,F.S.offX none_,N.up,⟨F.ok.lp T h,{D1.n0 with sr:=S1},D1.md,(by show match Γ.cp with|false=>_|true=>_;rw[T];exact D1.is T),m,⟨o2,es,ep,k _ _ eo,hd,r⟩,h2,h3.le le⟩,q⟩,le⟩
 ·cases e:Γ.σ0.s.heap.get? σ.s.heap.objs.size with
  |none=>rfl
  |some o'=>exact absurd none_ (F.n0.al _ o' e)
end
noncomputable abbrev Qz(env:Env):PySem.Expr→Bool→Sem (ForInStep Bool):=fun c r=>if r=true then do let ok←isTrue c env (eval c env);pure (ForInStep.yield ok) else pure (ForInStep.yield r)
noncomputable abbrev X3(c b i:Addr)(X:AS):AS:=C6 c (C6 b (C6 i X))
noncomputable abbrev X2(c b:Addr)(X:AS):AS:=C6 c (C6 b X)
noncomputable abbrev fb(Γ:Fr)(res:RA Mn.X)(E:Value→Shared→Prop):Fr:={Γ with res:=res,E:=E}
noncomputable abbrev X8(Γ:Fr)(cenv:Env)(c b i:Addr)(sc:Scope)(σ1:St)(res:RA Mn.X)(E:Value→Shared→Prop):Fr:={Γ with o:=Γ.l,X:=X3 c b i Γ.X,env:=cenv,L:=c,cx:={Γ.cx with sc:=sc},σ0:=σ1,res:=res,E:=E,cp:=true}
def lq(n:Nat):Prop:=∀Γ ρ es b h' σ Q,D Γ ρ σ→S8 n Γ.cx ρ es σ.h=.ok b h'→(∀σ',σ'.h=h'→Γ.N σ σ'→D Γ ρ σ'→Q b σ'.s)→wA Γ (forIn es true (Qz Γ.env)) Q σ
structure rV(r:RA Mn.X):Prop where
 n:RA.no≠r
 x:∀c,r≠ .ex c
theorem rV.ok{x:Mn.X} {h:HA}:rV (.ok x h):=⟨nofun,fun J=>nofun⟩
section
variable{Γ:Fr} {ρ ρ':Af} {σ σ' σ1:St} {v:Mn.V} {x:Value} {n:Nat} {a c b i:Addr} {h':Heap} {k:Nat} {res:RA Mn.X} {E:Value→Shared→Prop}
theorem D.re(F:D Γ ρ σ)(h:rV res):D (fb Γ res E) ρ σ:=⟨⟨F.ok.wf,h.n,F.ok.fa,F.ok.fits,F.ok.frame,F.ok.hg,F.ok.il,F.ok.room,F.ok.tab,fun J J c J e=>absurd e (h.x c),F.ok.s0⟩,F.n0,F.md,F.fr,F.nm⟩
theorem D.as(F:D Γ ρ σ)(G:D (fb Γ res E) ρ' σ'):D Γ ρ' σ':=⟨F.ok,G.n0,G.md,G.fr,G.nm⟩
theorem Jw{env:Env} {A:Around} {M:Model} {Q:Bool→Shared→Prop} {s:Shared}:∀{es:List PySem.Expr},Q false s→wpAny M A (forIn es false (Qz env)) Q E s
 | [],q=>wpAny_pure q
 |e::r,q=>by
  rw[List.forIn_cons];exact wpAny_bind (wpAny_pure (Jw q))
theorem jO{α β:Type} {r:RA α} {K:α→HA→RA β} {x:β} {h:HA}(e:da r K=.ok x h):∃a g,r=.ok a g∧K a g=.ok x h:=by
 cases r with
 |ok a g=>exact⟨a,g,rfl,e⟩
 |_=>cases e
theorem bB{α:Type} {r:RA α} {K:α→HA→RA Mn.X}(e:da r K=res)(hn:RA.no≠res):∃a g,r=.ok a g∧K a g=res:=by
 cases r with
 |ok a g=>exact⟨a,g,rfl,e⟩
 |_=>exact absurd e hn
theorem ZC(IT:Pe n)(IS:lq n):lq (n+1):=by
 intro Γ ρ es b h' σ Q F he q;cases es with
 |nil=>cases he;exact wpAny_pure (q σ rfl (.refl F.S) F)
 |cons e r=>
  refine xEEA (jO (show da (IH n Γ.cx ρ e σ.h fun b h=>.ok (.ret (.bool b),[]) h) _=_ from he)) fun y g e1 e2=>?_;rw[List.forIn_cons];refine wpAny_bind ?_;show wA Γ (do let ok←isTrue e Γ.env (eval e Γ.env);pure (ForInStep.yield ok)) _ σ;refine wpAny_bind (IT (fb Γ (.ok y g) Γ.E) ρ e _ σ _ (F.re .ok) e1 fun b1 σ1 e3 N1 D1=>wpAny_pure ?_);cases e3;have D2:D Γ ρ σ1:=F.as D1;clear D1;have e2:cC b1 (.ok false σ1.h) (S8 n Γ.cx ρ r σ1.h)=.ok b h':=e2;clear e1;cases b1 with
  |true=>exact IS Γ ρ r b h' σ1 Q D2 e2 fun σ' z N D'=>q σ' z (N1.trans N) D'
  |false=>clear he;cases e2;exact Jw (q σ1 rfl N1 D2)
theorem D.wr(F:D Γ ρ σ)(T:Γ.cp=true)(ha:Γ.X a)(h0:Γ.σ0.s.heap.get? a=none)(ne:a≠Γ.L)(hs:OF a σ.s.heap h')(hn:∃o,h'.get? a=some o∧NF o):D Γ ρ (σ.to h' k):=by
 have S1:=F.S.write (k:=k) (X':=Γ.X) ha hs hn fun J h=>h;obtain⟨m,⟨o2,es,ep,eo,hd,r⟩,h2,h3⟩:=F.nm;have hf:=F.fr;rw[T] at hf;exact⟨F.ok,F.n0.but h0 hs S1,⟨F.md.m0,F.md.m1,F.md.m2⟩,by rw[T];exact hf,m,⟨o2,es,ep,hs _ _ ne.symm eo,hd,r⟩,h2,h3.le (FZ (k:=k) ha hs fun J h=>h)⟩
theorem D.cname(F:D Γ ρ σ)(T:Γ.cp=true)(h0:Γ.σ0.s.heap.get? Γ.L=none){y:Str}(e:Uk Γ.cx.sc (nk y) v []=some ρ')(hv:Γ.V σ v x){Q:Unit→Shared→Prop}(q:∀h' k,OF Γ.L σ.s.heap h'→D Γ ρ' (σ.to h' k)→Q () (σ.to h' k).s):wA Γ (storeName Γ.env y x) Q σ:=by
 have T':=F.ok.fits;have hf:=F.fr;rw[T] at hf;refine BU F.nm fun m hn hy J=>?_;refine xA ((Nm.nil (W:=Γ.W) (X:=Γ.X) (σ:=σ) (sc:=Γ.cx.sc) (m:=m)).put e hv) fun hl n'=>?_;refine A_ (id hn) fun o es ep ho hd J=>?_;refine BU (F.S.xs _ hf) fun o' ho' hnf J=>?_;cases ho.symm.trans ho';refine II (o:=o) (m:=m) (show Γ.env.scope.names.lookup y=_ by rw[T'.scope];exact hl) (by rw[T'.scope];exact T'.kind) (by rw[T'.locals];exact hn) (by rw[T'.locals];exact ho) fun h' hns hfr hs=>?_;rw[T'.locals] at hns hfr hs;refine AZ hfr fun o2 ho2 hc2=>?_;have hcC:o.cls≠ .type "frame":=hnf.resolve_right fun⟨vs,z⟩=>by rw[hd] at z;cases z
 have bt:=OF.of hs;have S1:=F.S.write (k:=σ.s.toks+1) (X':=Γ.X) hf bt ⟨o2,ho2,.inl fun z=>hcC (hc2.symm.trans z)⟩ fun J h=>h;exact q h' _ bt ⟨F.ok,F.n0.but h0 bt S1,⟨F.md.m0,F.md.m1,F.md.m2⟩,by rw[T];exact hf,_,hns,hy,n'.le (FZ (k:=σ.s.toks+1) hf bt fun J h=>h)⟩
structure Co(Γ:Fr)(cenv:Env)(c b i:Addr)(sc:Scope)(σ1 σ:St)(ρ:Af)(E:Value→Shared→Prop):Prop where
 ne:c≠b∧c≠i∧b≠i
 z:σ1.s.heap.get? c=none∧σ1.s.heap.get? b=none∧σ1.s.heap.get? i=none
 hX:¬Γ.X i
 d:D (X8 Γ cenv c b i sc σ1 (.ok (.next,[]) σ.h) E) ρ σ
def ku(n:Nat):Prop:=∀Γ sc x xp e it ifs pos src k acc K σ1 σ cenv c b i ax ys nn RR ρ,RA.no≠Γ.res→(∀E,Co Γ cenv c b i sc σ1 σ ρ E)→σ.s.heap.IsListIter i ax k→VT Γ.W (X3 c b i Γ.X) σ src (.ref ax)→σ.s.heap.get? b=some (listOf ys nn)→BC Γ.W.w.params Γ.W.ca (σ.reg (X3 c b i Γ.X)) σ.μ.nt acc.reverse ys.toList→
 Zm n Γ.cx sc (.Name x xp) e ifs src k acc σ.h K=Γ.res→
 (∀lst σ' ys' nn' m',K lst σ'.h=Γ.res→Nz Γ.W Γ.l Γ.X Z0 σ1 σ'→SR Γ.W Γ.l (X2 c b Γ.X) σ'→σ'.s.heap.get? b=some (listOf ys' nn')→BC Γ.W.w.params Γ.W.ca (σ'.reg (X2 c b Γ.X)) σ'.μ.nt lst ys'.toList→σ'.s.heap.Ns c m'→RR (.ok .next) σ'.s)→
 codeAny Γ.M Γ.A (.compLoop (.ListComp e [⟨.Name x xp,it,ifs,0⟩] sc pos) 0 (.ref i) (.ref b) cenv) RR σ.s
theorem MN{s:Shared} {xs:Array Value} {n:Nat} {v:Value}(h1:s.heap.get? b=some (listOf xs n)):(s.heap.update b (Obj.mapSeq (·.push v))).get? b=some (listOf (xs.push v) (n+1)):=by
 refine Heap.get?_update_self _ h1 ?_|>.trans ?_
 ·rfl
 ·show some (Obj.mapSeq (·.push v) (listOf xs n))=_
  simp[Obj.mapSeq]
theorem Zl(IE:NG n)(IT:lq n)(IL:ku n):ku (n+1):=by
 intro Γ sc x xp e it ifs pos src k acc K σ1 σ cenv c b i ax ys nn RR ρ hn Co_ hit hs hys vys he q;obtain⟨⟨cb,ci,bi⟩,⟨zc,zb,zi⟩,hXi,F⟩:=Co_ fun J J=>True;have mc:X3 c b i Γ.X c:=.inl rfl;have mb:X3 c b i Γ.X b:=.inr (.inl rfl);have mi:X3 c b i Γ.X i:=.inr (.inr (.inl rfl));have sub:∀a,Γ.X a→X3 c b i Γ.X a:=fun J h=>.inr (.inr (.inr h));refine AZ (Ax he hn) fun l0 e0 he=>?_;refine A_ (Cw F.S e0 hs) fun b' xs n' hb g1 g2=>?_;cases hb;have hl:=B_ g1;refine codeAny_of_tree ?_;show wpAny _ Γ.A ((compTurn (.ListComp e [⟨.Name x xp,it,ifs,0⟩] sc pos) 0 (.ref i) (.ref b) cenv).onRaise (fun x=>do noteFrame x cenv;theTreesLotGoes x)) _ _ σ.s;refine wpAny_noted ?_;rw[compTurn_list];obtain⟨E0,hE0⟩:∃E0,E0=(notedBy Γ.M Γ.A cenv fun e s'=>RR (.error e) s'):=⟨_,rfl⟩;rw[←hE0];refine wpAny_bind (wpAny_standAt (wpAny_bind ?_));refine BQ he (fun v e1 he=>?_) fun e1 he=>?_
 ·refine AZ (Ax he hn) fun ρ1 e2 he=>?_
  refine AZ (g2.nth e1) fun y hy hv=>?_;refine wpAny_pyNext_list_item hit hl (by simpa using hy) fun h1 hit1 hs1=>?_;have hs1:=OF.of hs1;refine BU (id hit1) fun oi' hoi' hci' J=>?_;have nfi:NF oi':=.inl fun q=>by rw[hci'] at q;revert q;decide
  have le1:Le (σ.reg (X3 c b i Γ.X)) (St.reg (σ.to h1 σ.s.toks) (X3 c b i Γ.X)):=FZ mi hs1 fun J h=>h;refine wpAny_bind (wpAny_pure (wpAny_bind ?_));refine wpAny_assign_Name (D.cname (Γ:=X8 Γ cenv c b i sc σ1 (.ok (.next,[]) σ.h) E0) ((Co_ E0).d.wr (k:=σ.s.toks) rfl mi zi ci.symm hs1 ⟨oi',hoi',nfi⟩) rfl zc e2 (VR.mono le1 (.of_nt _) _ _ hv) fun h2 k2 hs2 D2=>?_);have le2:Le (σ.reg (X3 c b i Γ.X)) (St.reg (σ.to h2 k2) (X3 c b i Γ.X)):=fun a o e n=>FZ (σ:=σ.to h1 σ.s.toks) (k:=k2) mc hs2 (fun J h=>h) a o (le1 a o e n) n;have hD2:h2.get? b=some (listOf ys nn):=hs2 b _ cb.symm (hs1 b _ bi hys);have hI2:h2.get? i=some oi':=hs2 i _ ci.symm hoi';have again_:∀(σ3:St) (acc3:List Mn.V) (ys3:Array Value) (nn3:Nat),(∀E,D (X8 Γ cenv c b i sc σ1 (.ok (.next,[]) σ3.h) E) ρ1 σ3)→σ3.s.heap.get? b=some (listOf ys3 nn3)→BC Γ.W.w.params Γ.W.ca (σ3.reg (X3 c b i Γ.X)) σ3.μ.nt acc3.reverse ys3.toList→σ3.s.heap.get? i=some oi'→
    Zm n Γ.cx sc (.Name x xp) e ifs src (k+1) acc3 σ3.h K=Γ.res→Le ((σ.to h2 k2).reg (X3 c b i Γ.X)) (σ3.reg (X3 c b i Γ.X))→Bk σ.μ σ3.μ→codeAny Γ.M Γ.A (.compLoop (.ListComp e [⟨.Name x xp,it,ifs,0⟩] sc pos) 0 (.ref i) (.ref b) cenv) RR σ3.s:=fun σ3 acc3 ys3 nn3 D3 hD3 v3 hI3 e3 le3 m3=>
   IL Γ sc x xp e it ifs pos src (k+1) acc3 K σ1 σ3 cenv c b i ax ys3 nn3 RR ρ1 hn (fun E=>⟨⟨cb,ci,bi⟩,⟨zc,zb,zi⟩,hXi,D3 E⟩) (hit1.at fun o ho=>by rw[hoi'] at ho;cases ho;exact hI3) (VR.mono (fun a o e n=>le3 a o (le2 a o e n) n) m3 _ _ hs) hD3 v3 e3 q
  refine xEEA (bB he hn) fun bt g3 ct he=>?_;refine wpAny_bind (IT (X8 Γ cenv c b i sc σ1 (.ok (.next,[]) σ.h) E0) ρ1 ifs bt g3 (σ.to h2 k2) _ D2 ct fun σ3 z3 N3 D3=>?_);subst z3;have nY:∀{a},X3 c b i Γ.X a→¬(σ.to h2 k2).Y a:=fun ha hy=>by refine BU (D2.S.at hy) fun J J J hz=>?_;exact hz ha
  have hD3:σ3.s.heap.get? b=some (listOf ys nn):=(N3.kp b _ hD2 (fun h=>h) (nY mb)).1 FT;have hI3:σ3.s.heap.get? i=some oi':=(N3.kp i _ hI2 (fun h=>h) (nY mi)).1 nfi;have le3:=N3.reg (fun J h=>h.elim);have vys3:=BC.mono le3 N3.mu.nt _ _ (BC.mono le2 (.refl _) _ _ vys);clear ct;cases bt with
  |false=>exact wpAny_pure ⟨rfl,again_ σ3 acc ys nn (fun E=>D3.re .ok) hD3 vys3 hI3 he le3 N3.mu⟩
  |true=>
   refine xEEA (bB (show da (DM n {Γ.cx with sc:=sc} ρ1 e σ3.h fun w h=>.ok (.ret w,[]) h) _=_ from he) hn) fun r g4 ce he=>?_;refine wpAny_bind (wpAny_bind (IE (X8 Γ cenv c b i sc σ1 (.ok r g4) E0) ρ1 e _ σ3 _ (D3.re .ok) ce fun w yw σ4 e4 N4 D4 w4=>?_));clear ce;cases e4;refine xA (Ba (show tB (Nat.blt acc.length BV&&Yv w) (Zm n Γ.cx sc (.Name x xp) e ifs src (k+1) (w::acc) σ4.h K)=_ from he) hn) fun c0 he=>?_;refine xA (Bool.and_eq_true_iff.mp c0) fun c1 c2=>?_;have c1:acc.length<1048576:=Nat.le_of_ble_eq_true c1;have szy:ys.size=acc.length:=by
    have:=vys.length
    simpa using this
   have nY4:∀{a},X3 c b i Γ.X a→¬σ3.Y a:=fun ha hy=>by refine BU (D3.S.at hy) fun J J J hz=>?_;exact hz ha
   have hD4:σ4.s.heap.get? b=some (listOf ys nn):=(N4.kp b _ hD3 (fun h=>h) (nY4 mb)).1 FT;have hI4:σ4.s.heap.get? i=some oi':=(N4.kp i _ hI3 (fun h=>h) (nY4 mi)).1 nfi;have le4:=N4.reg (fun J h=>h.elim);refine wpAny_bind (call_meets PySem.F.slot_list_append ⟨_,hD4,rfl⟩ PySem.F.entry_list_append (PySem.F.args_list_append_2 _ _) (list_append b ys nn yw (G8 (by omega))) ⟨hD4,wpAny_pure (wpAny_pure ⟨rfl,?_⟩)⟩);have bt:OF b σ4.s.heap (σ4.s.heap.update b (Obj.mapSeq (·.push yw))):=fun J o hb h=>CE _ hb h;have leu:Le (σ4.reg (X3 c b i Γ.X)) (St.reg (σ4.to (σ4.s.heap.update b (Obj.mapSeq (·.push yw))) σ4.s.toks) (X3 c b i Γ.X)):=FZ mb bt fun J h=>h;have D5:=D4.wr (k:=σ4.s.toks) rfl mb zb cb.symm bt ⟨_,MN hD4,FT⟩;refine again_ (σ4.to (σ4.s.heap.update b (Obj.mapSeq (·.push yw))) σ4.s.toks) (w::acc) (ys.push yw) (nn+1) (fun E=>D5.re .ok) (MN hD4) ?_ (bt i _ bi.symm hI4) he (le3.trans (le4.trans leu)) (N3.mu.trans N4.mu);rw[List.reverse_cons,Array.toList_push];refine(BC.mono leu (.refl _) _ _ (BC.mono le4 N4.mu.nt _ _ vys3)).append ?_;unfold BC;exact⟨yw,[],rfl,VR.mono leu (.refl _) _ _ (w4.nt c2),by unfold BC;rfl⟩
 ·have hx:xs[k]? =none:=by
   have:=g2.length;rw[List.getElem?_eq_none_iff] at e1;rw[Array.getElem?_eq_none_iff];simp at this;omega
  refine wpAny_pyNext_list_end F.ok.fa.handled hit hl hx fun h1 hs1=>wpAny_pure ?_;have sub2:∀a,X2 c b Γ.X a→X3 c b i Γ.X a∧a≠i:=fun a ha=>by
   rcases ha with rfl|rfl|ha
   ·exact⟨mc,ci⟩
   ·exact⟨mb,bi⟩
   ·exact⟨sub a ha,fun z=>hXi (z▸ha)⟩
  have S1:=F.S.drop (k:=σ.s.toks) mi hs1 sub2;obtain⟨m,⟨o2,es,ep,eo,hd,r⟩,_,_⟩:=F.nm;exact q acc.reverse (σ.to h1 σ.s.toks) ys nn m he (F.n0.but zi hs1 (S1.sub fun J h=>.inr (.inr h))) S1 (hs1 b _ bi hys) (BC.mono (FZ mi hs1 fun a h=>(sub2 a h).1) (.refl _) _ _ vys) ⟨o2,es,ep,hs1 _ _ ci eo,hd,r⟩
theorem QA{env:Env} {cx:CA} {it:PySem.Expr} {h:HA} {K:Mn.V→HA→RA Mn.X}(he:DM n cx ρ it h K=res)(hn:RA.no≠res):∀x,foldedSetIterable it env x=pure x:=by
 cases it with
 |Set es k p=>rw[Tw] at he;exact absurd he hn
 |_=>exact fun J=>rfl
theorem QY{M:Model} {A:Around} {env:Env} {s:Shared} {E:Value→Shared→Prop} {scope:Scope} {Q:Env→Shared→Prop}(hc:∀x∈scope.names,x.2≠ .cell)(q:Q (compEnv scope s.heap.objs.size env) {s with heap:=s.heap.push {cls:=.type "dict",data:=.dict #[]} }):
  wpAny M A (newFunctionEnv scope env.globals [] [] env.qual none .none (some env)) Q E s:=by
 simp only[newFunctionEnv,Option.isSome_some,if_true];refine wpAny_bind (wpAny_alloc ?_);rw[forIn_yield_id [] (fun x hx c=>by
  obtain⟨name,kind⟩:=x;have:(kind==NameKind.cell)=false:=by simpa using hc _ hx
  simp only[this,Bool.false_eq_true,if_false])]
 exact wpAny_bind (wpAny_pure (wpAny_bind (wpAny_pure (wpAny_pure q))))
theorem eC{cx:CA} {sc:Scope} {t e:PySem.Expr} {ifs:List PySem.Expr} {src:Mn.V} {k:Nat} {acc:List Mn.V} {h:HA} {K:List Mn.V→HA→RA Mn.X}(he:Zm n cx sc t e ifs src k acc h K=res)(hn:RA.no≠res):∃l,CP h src=some l:=by
 cases n with
 |zero=>exact absurd he hn
 |succ n=>refine AZ (Ax (show oA (CP h src) _=res from he) hn) fun l e J=>?_;exact⟨l,e⟩
theorem Z_(IE:NG n)(IL:ku n){gs:List Comprehension} {p:Pos} {e:PySem.Expr} {sc:Scope} {K:Mn.V→HA→RA Mn.X} {Q:Value→Shared→Prop}(F:D Γ ρ σ)(he:DM (n+1) Γ.cx ρ (.ListComp e gs sc p) σ.h K=Γ.res)(q:Gv Γ ρ σ K Q):wA Γ (eval (.ListComp e gs sc p) Γ.env) Q σ:=by
 have hn:=F.ok.hn;refine AZ (F6 (show c1 gs .no (fun g=>jz g fun x p=>tB (!Γ.cx.lk&&PU sc) (DM n Γ.cx ρ g.iter σ.h fun src h=>Zm n Γ.cx sc (.Name x p) e g.ifs src 0 [] h fun l h=>As false h l K))=_ from he) hn) fun g z1q he=>?_;subst z1q;obtain⟨tg,it,ifs,ia⟩:=g;obtain⟨z,xp,rfl⟩:∃z xp,tg=.Name z xp:=by clear he;cases tg<;>first|exact⟨_,_,rfl⟩|exact absurd he hn
 refine xA (Ba (show tB (jr ia) (tB (!Γ.cx.lk&&PU sc) (DM n Γ.cx ρ it σ.h fun src h=>Zm n Γ.cx sc (.Name z xp) e ifs src 0 [] h fun l h=>As false h l K))=_ from he) hn) fun ha he=>?_;have:ia=0:=by
  refine Ji (show T9 ia false (fun n=>Nat.beq n 0)=true from ha) (fun m h e=>?_) Ak;subst h;clear he ha;cases m with
  |zero=>rfl
  |succ m=>exact Ak e
 clear he ha;subst this;refine xA (Ba he hn) fun hc he=>?_;refine xA (Bool.and_eq_true_iff.mp hc) fun hlk hsc=>?_;unfold PU at hsc;refine xA (Bool.and_eq_true_iff.mp hsc) fun hk hall=>?_;have hk:sc.kind=.function:=beq_iff_eq.mp hk;rw[List.all_eq_true] at hall;have hf:∀y∈sc.names,y.2≠ .free∧y.2≠ .cell∧(y.2=.local→sc.names.lookup y.1=some .local):=fun y hy=>by
  have:=hall y hy;simp only[Bool.and_eq_true,Bool.or_eq_true,bne_iff_ne,ne_eq,beq_iff_eq] at this;exact⟨this.1.1,this.1.2,fun z=>this.2.resolve_left fun k=>k z⟩
 refine wpAny_ListComp (fun y hy=>(hf y hy).1) hk (fun y hy=>(hf y hy).2.2) (IE Γ ρ it _ σ _ F he fun v1 y1 σ1 e1 N1 D1 w1=>?_) (QA he hn);refine xE (eC e1 hn) fun l0 hl0=>?_;refine A_ (Cw D1.S hl0 w1) fun ax xs k z3q g1 g2=>?_;subst z3q;refine wpAny_pyIter_list (B_ g1) ?_;refine xA (D1.S.hide (o:={cls:=.type "list_iterator",data:=.fields #[.ref ax,.int 0 0]}) (.inr ⟨_,rfl⟩) rfl) fun S2 le2=>?_;refine wpAny_newList ?_ (by show 0≤sizeLine;omega);refine xA (S2.hide (o:={cls:=.type "list",data:=.seq ([]:List Value).toArray}) FT rfl) fun S3 le3=>?_;refine QY (fun y hy=>(hf y hy).2.1) ?_;refine xA (S3.hide (o:={cls:=.type "dict",data:=.dict #[]}) Ii rfl) fun S4 le4=>?_;have none1:∀a,σ1.s.heap.objs.size≤a→σ1.s.heap.get? a=none:=fun a h=>Heap.get?_none_of_le h;have k4:∀b o,σ1.s.heap.get? b=some o→(((σ1.s.heap.push {cls:=.type "list_iterator",data:=.fields #[.ref ax,.int 0 0]}).push {cls:=.type "list",data:=.seq ([]:List Value).toArray}).push {cls:=.type "dict",data:=.dict #[]}).get? b=some o:=fun b o e=>Heap.get?_push_of_some _ (Heap.get?_push_of_some _ (Heap.get?_push_of_some _ e));obtain⟨H2,eH2⟩:∃H,H=σ1.s.heap.push {cls:=.type "list_iterator",data:=.fields #[.ref ax,.int 0 0]}:=⟨_,rfl⟩;obtain⟨H3,eH3⟩:∃H,H=H2.push {cls:=.type "list",data:=.seq ([]:List Value).toArray}:=⟨_,rfl⟩;have z2:H2.objs.size=σ1.s.heap.objs.size+1:=by rw[eH2,Heap.size_push]
 have z3:H3.objs.size=σ1.s.heap.objs.size+2:=by rw[eH3,Heap.size_push,z2]
 have gI:(H3.push {cls:=.type "dict",data:=.dict #[]}).get? σ1.s.heap.objs.size=some {cls:=.type "list_iterator",data:=.fields #[.ref ax,.int 0 0]}:=
  Heap.get?_push_of_some _ (eH3▸Heap.get?_push_of_some _ (eH2▸Heap.get?_push_size _ rfl))
 have gD:(H3.push {cls:=.type "dict",data:=.dict #[]}).get? H2.objs.size=some (listOf #[] 0):=Heap.get?_push_of_some _ (eH3▸Heap.get?_push_size _ rfl);rw[←eH2] at S2 le2 S3 le3 S4 le4 k4;rw[←eH2];rw[←eH3] at S3 S4 le3 le4 k4;rw[←eH3];have d1:H3.objs.size≠H2.objs.size:=by omega
 have d2:H3.objs.size≠σ1.s.heap.objs.size:=by omega
 have d3:H2.objs.size≠σ1.s.heap.objs.size:=by omega
 have N4:=D1.S.keep (Z:=Z0) (s':={σ1.s with heap:=H3.push {cls:=.type "dict",data:=.dict #[]} }) k4 rfl rfl;have N4':Nz Γ.W Γ.l (X3 H3.objs.size H2.objs.size σ1.s.heap.objs.size Γ.X) Z0 σ1 {σ1 with s:={σ1.s with heap:=H3.push {cls:=.type "dict",data:=.dict #[]} } }:={N4 with sr:=S4};have nX:∀{a},σ1.s.heap.objs.size≤a→¬Γ.X a:=fun h=>D1.S.offX (none1 _ h);have T:=F.ok.fits;have loop:codeAny Γ.M Γ.A (.compLoop (.ListComp e [⟨.Name z xp,it,ifs,0⟩] sc p) 0 (.ref σ1.s.heap.objs.size) (.ref H2.objs.size) (compEnv sc H3.objs.size Γ.env))
   (fun r s'=>∃m,s'.heap.Ns H3.objs.size m∧∀h',Heap.SameBut H3.objs.size s'.heap h'→match r with|.ok _=>Q (.ref H2.objs.size) {s' with heap:=h'}|.error x=>wpAny Γ.M Γ.A (passOn "comprehension.variables-let-go" x (compEnv sc H3.objs.size Γ.env)) Q Γ.E {s' with heap:=h'})
   {σ1.s with heap:=H3.push {cls:=.type "dict",data:=.dict #[]} }:=by
  refine IL Γ sc z xp e it ifs p v1 0 [] _ σ1 {σ1 with s:={σ1.s with heap:=H3.push {cls:=.type "dict",data:=.dict #[]} } } (compEnv sc H3.objs.size Γ.env) H3.objs.size H2.objs.size σ1.s.heap.objs.size ax #[] 0 _ [] hn (fun E=>⟨⟨d1,d2,d3⟩,⟨none1 _ (by omega),none1 _ (by omega),none1 _ (Nat.le_refl _)⟩,nX (Nat.le_refl _),
   ⟨⟨F.ok.wf,nofun,F.ok.fa,⟨rfl,hk,rfl,T.globals,T.builtins⟩,Di,F.ok.hg,F.ok.il,F.ok.room,F.ok.tab,fun J J J J=>nofun,fun p o e n=>D1.S.notY e n⟩,N4',⟨D1.md.m0,D1.md.m1,D1.md.m2⟩,.inl rfl,_,Heap.Ns.new ..,fun hy=>?_,.nil⟩⟩) ⟨_,gI,rfl,rfl⟩ (VR.mono (le2.trans (le3.trans le4)) (.refl _) _ _ w1) gD (by unfold BC;rfl) e1 fun lst σ' ys' nn' m' z' N' S' hD' v' ns'=>⟨m',ns',fun h'' hs=>?_⟩
  ·refine BU (S4.at hy) fun J J J hz=>?_
   exact hz (.inl rfl)
  ·have bt:=OF.of hs
   have cd:H2.objs.size≠H3.objs.size:=by omega
   have S5:=S'.drop (k:=σ'.s.toks) (X':=C6 H2.objs.size Γ.X) (.inl rfl) bt fun b hb=>⟨.inr hb,fun z=>hb.elim (fun q=>cd (q.symm.trans z)) fun q=>nX (by omega) (z▸q)⟩;have N5:=N'.but (k:=σ'.s.toks) (none1 H3.objs.size (by omega)) bt (S5.sub fun J h=>.inr h);have N6:=W8 S5 (bt _ _ cd hD') (BC.mono (FZ (.inl rfl) bt fun b hb=>.inr hb) (.refl _) _ _ v') N5 (none1 _ (by omega)) (nX (by omega));refine xA (Ba (show tB _ (FU false σ'.h (.list lst) K)=_ from z') hn) fun J z'=>?_;refine q (.ref σ'.h.lo.length) (.ref H2.objs.size) (Gj (σ'.to h'' σ'.s.toks) (.list lst) (H2.objs.size,0) (σ'.to h'' σ'.s.toks).s) z' (N1.trans N6.up) (D1.step N6) ?_;show VR _ _ _ _ (.ref σ'.h.lo.length) _;unfold VR;refine⟨(H2.objs.size,0),?_,rfl⟩;show(σ'.μ.lo++ [_])[σ'.h.lo.length]? =_;rw[S'.nlo,List.getElem?_append_right (Nat.le_refl _)];simp
 exact codeAny_compStart_list loop (wpAny_pyIter_listiter ⟨_,gI,rfl,rfl⟩ loop)
end
abbrev Sv(M:Model)(h:Heap)(f:Value):Prop:=∃k,(k=Keeper.frame∨k=Keeper.machine∨k=Keeper.boundFrame)∧Looks M h (keeperOf f) k
section
variable{M:Model} {h:Heap} {i:String} {K:Frag}
theorem Il:Sv M h (.builtin i):=⟨.machine,.inr (.inl rfl),Looks.of_pure rfl⟩
theorem Nl:Sv M h (.type i):=⟨.machine,.inr (.inl rfl),Looks.of_pure rfl⟩
theorem Ik{f:Addr} {fn:Fn}(XI:K.In h)(F:Jm K f fn):Sv M h (.ref f):=by
 refine F.obj.elim fun x Z=>?_;exact⟨.frame,.inl rfl,(Looks.ld (part:=none) (XI _ _ Z.o)).andThen .now⟩
set_option tactic.hygienic true in
theorem Xa{C:Addr}(XI:K.In h)(F:makesIn K C=true):Sv M h (.ref C):=by
 refine keeps_K ?_ h XI;unfold makesIn at F;unfold keepIn
 split at F
 ·rename_i a b cd sl ho
  simp only[Bool.and_eq_true,Bool.not_eq_true',beq_iff_eq] at F;simp only[ho,beq_iff_eq];exact F.1.2
 ·exact Ak F
theorem Zw{env:Env} {es:List PySem.Expr} {pos:Pos}(h:FX es=true):methodCallForm (es.length+([]:List Keyword).length) (backTo pos (starEach es env)) (backToKw pos (keywordEach [] env))=true:=by
 refine xA (Bool.and_eq_true_iff.mp h) fun h1 h2=>?_;have h2:es.length<30:=Nat.le_of_ble_eq_true h2;unfold methodCallForm;have a:=Ej (env:=env) (pos:=pos) h1;have a':(backTo pos (starEach es env)).all (!·.1)=true:=by
  rw[List.all_eq_true];intro y hy;rw[List.any_eq_false] at a
  simpa using a y hy
 rw[a'];show(true&&true&&decide (es.length+0+0<30))=true;simp;omega
end
section
variable{Γ:Fr} {ρ:Af} {σ σ':St} {K:V→HA→RA X} {Q:Value→Shared→Prop} {v w:V} {x y:Value} {n:Nat} {p:Pos} {es:List PySem.Expr}
theorem E8(IS:Kz n){pos:Pos} {f:Value} {first:List Value} {KL:List V→HA→RA X}(F:D Γ ρ σ)(hp:Bu es=true)(hk:∀h,Γ.W.B.StaysIn h→Sv Γ.M h f)(he:Hu n Γ.cx ρ es σ.h KL=Γ.res)(q:si Γ ρ σ KL fun ws s'=>wpAny Γ.M Γ.A (call f (first++ws)) Q Γ.E s'):
  wA Γ (callWith pos f first (backTo pos (starEach es Γ.env)) []) Q σ:=by
 refine callWith_of (P:=fun h=>Γ.W.B.StaysIn h) (by rw[Ej hp];rfl) hk ?_;cases es with
 |nil=>
  cases n with
  |zero=>exact absurd he F.ok.hn
  |succ n=>exact evalArgs_nil3 ⟨F.S.base,q [] [] σ he (.refl F.S) F .nil⟩
 |cons e r=>exact M5 hp (IS Γ ρ (e::r) pos KL σ _ F he fun vs ws σ1 e1 N1 D1 w1=>⟨D1.S.base,q vs ws σ1 e1 N1 D1 w1⟩)
theorem Sx.kept{m:MX} {f:Value} {ov:V}(F:D Γ ρ σ)(c:Sx Γ σ' ov f m):∀h,Γ.W.B.StaysIn h→Sv Γ.M h f:=fun h hB=>by
 cases m with
 |pf P=>refine BE c fun a fn z2q FF J=>?_;subst z2q;exact Ik (F.ok.wf.kin.keeps hB) FF
 |nx=>refine K6 c fun J J a fn z4q FF J=>?_;subst z4q;exact Ik (F.ok.wf.kin.keeps hB) FF
 |bm b=>cases(show f=.builtin (YU b) from c);exact Il
 |fn fn=>refine AZ c fun a z1q FF=>?_;subst z1q;exact Ik (F.ok.wf.kin.keeps hB) FF
theorem Sx.at{m:MX} {f:Value} {ov:V}(c:Sx Γ σ ov f m):Sx Γ σ' ov f m:=by cases m<;>exact c
theorem XG(IE:NG n)(IS:Kz n)(I:∀m,m<n→Y1 m){o:PySem.Expr} {a:Str} {ap:Pos}(F:D Γ ρ σ)(he:DM (n+1) Γ.cx ρ (.Call (.Attribute o a ap) es [] p) σ.h K=Γ.res)(q:Gv Γ ρ σ K Q):wA Γ (eval (.Call (.Attribute o a ap) es [] p) Γ.env) Q σ:=by
 refine xA (Ba (show tB (!EE o&&(FX es&&Nat.beq ap.endLine p.line)) (DM n Γ.cx ρ o σ.h fun ov h=>qf Γ.cx h ov (nk a) fun x=>Hu n Γ.cx ρ es h fun vs h=>XE n Γ.cx x ov vs h K)=_ from he) F.ok.hn) fun c he=>?_;refine xA (Bool.and_eq_true_iff.mp c) fun hs hc=>?_;refine xA (Bool.and_eq_true_iff.mp hc) fun hc hl=>?_;have hp:=(Bool.and_eq_true_iff.mp hc).1;show wA Γ (do let ov←attributeBase o a Γ.env (eval o Γ.env);standAt ap.atName;methodCall o a ap p Γ.env ov (es.length+([]:List Keyword).length) (backTo p (starEach es Γ.env)) (backToKw p (keywordEach [] Γ.env))) Q σ;rw[Hz (by simpa using hs)];refine wpAny_bind (IE Γ ρ o _ σ _ F he fun v1 y1 σ1 e1 N1 D1 w1=>wpAny_bind (wpAny_standAt ?_));unfold methodCall;rw[Zw hc];refine wpAny_bind (wpAny_holding ?_);unfold calleeOf;rw[if_pos rfl];refine qe D1 e1 w1 fun m f e2 cm=>wpAny_bind ?_;unfold methodCallPos;rw[if_pos (show(!true||ap.endLine==p.line)=true from by rw[Bool.not_true,Bool.false_or];exact beq_iff_eq.mpr (Nat.eq_of_beq_eq_true hl))];refine wpAny_pure (E8 IS D1 hp (cm.kept D1) e2 fun vs ws σ2 e3 N2 D2 w2=>?_);exact dz D2 I cm.at (D1.val N2 w1) w2 e3 (q.nx (N1.trans N2))
theorem Xl(IS:Kz n)(I:∀m,m<n→Y1 m){f:Str} {fp:Pos}(F:D Γ ρ σ)(he:DM (n+1) Γ.cx ρ (.Call (.Name f fp) es [] p) σ.h K=Γ.res)(q:Gv Γ ρ σ K Q):wA Γ (eval (.Call (.Name f fp) es [] p) Γ.env) Q σ:=by
 refine xA (Ba (show tB (Dz Γ.cx ρ f&&(FX es&&Xj Γ.cx.g (nk f))) (Hu n Γ.cx ρ es σ.h fun vs h=>KH n Γ.cx (nk f) vs h K)=_ from he) F.ok.hn) fun c he=>?_;refine xA (Bool.and_eq_true_iff.mp c) fun hg hc=>?_;refine xA (Bool.and_eq_true_iff.mp hc) fun hc hf=>?_;refine xA (Bool.and_eq_true_iff.mp hg) fun J hgl=>?_;have hp:=(Bool.and_eq_true_iff.mp hc).1;rw[F.ok.hg] at hf;have wf:=F.ok.wf;have key:∃a,nk f≠0∧f≠"__debug__"∧GN Γ.W f a∧lJ Γ (nk f) a∧∀h,Γ.W.B.StaysIn h→Sv Γ.M h a:=by
  cases e1:AK (nk f) gT.fns with
  |some fn=>
   refine V_ (wf.fns f fn e1) fun h1 h2 a h3 h4=>?_;exact⟨_,h1,h2,h3,.inl ⟨a,fn,rfl,e1,h4⟩,fun h hB=>Ik (wf.kin.keeps hB) h4⟩
  |none=>
   unfold Xj at hf;rw[e1] at hf;cases e2:AK (nk f) gT.cls with
   |some c=>
    rw[e2] at hf;have e3:c.exc=false:=by simpa using hf
    obtain⟨h1,h2,C,h3,h4,_⟩:=wf.cls f c e2;exact⟨_,h1,h2,h3,.inr (.inl ⟨C,c,rfl,e1,e2,e3,h4 e3⟩),fun h hB=>Xa (wf.kin.keeps hB) (wf.cf _ C (h4 e3)).makes⟩
   |none=>
    rw[e2] at hf;refine xE (Option.isSome_iff_exists.mp hf) fun b e3=>?_;refine Es (wf.bfs f b e3 e1 e2) fun h1 h2 h3=>?_;refine⟨_,h1,h2,h3,.inr (.inr ⟨b,rfl,e1,e2,e3⟩),fun h hB=>?_⟩;cases b<;>first|exact Il|exact Nl
 refine V7 key fun a k1 k2 k3 k4 k5=>?_;show wA Γ (do let fv←eval (.Name f fp) Γ.env;callWith p fv [] (backTo p (starEach es Γ.env)) (backToKw p (keywordEach [] Γ.env))) Q σ;exact wpAny_bind (Ir F k1 hgl k3 k2 (E8 IS F hp k5 he fun vs ws σ2 e3 N2 D2 w2=>qs D2 I k4 w2 e3 (q.nx N2)))
theorem Zc(F:D Γ ρ σ){vs:List V} {ws:List Value}(hv:Γ.Vs σ vs ws)(c:vs.all rd=true)(e:K (.tup vs) σ.h=Γ.res)(q:Gv Γ ρ σ K Q):Q (.ref σ.s.heap.objs.size) {σ.s with heap:=σ.s.heap.push {cls:=.type "tuple",data:=.seq ws.toArray} }:=by
 have none_:σ.s.heap.get? σ.s.heap.objs.size=none:=Heap.get?_none_of_le (Nat.le_refl _);have N:Nz Γ.W Γ.l Γ.X Z0 σ {σ with s:={σ.s with heap:=σ.s.heap.push {cls:=.type "tuple",data:=.seq ws.toArray} } }:=F.S.keep (s':={σ.s with heap:=σ.s.heap.push {cls:=.type "tuple",data:=.seq ws.toArray} }) (fun J J e=>Heap.get?_push_of_some _ e) rfl rfl;refine q.go F N e ?_;show VR _ _ _ _ (.tup vs) _;unfold VR;refine⟨_,_,ws.toArray,0,rfl,Ac (Ac (Heap.get?_push_size _ rfl) (F.S.offX none_)) fun hy=>?_,rfl,rfl,BC.mono (N.reg .zero) (.refl _) _ _ (BC.all (fun h n=>h.nt (by rename_i v _;clear h;cases v<;>first|rfl|exact Ak n)) hv c)⟩;refine AZ (F.S.at hy) fun o e J=>?_;rw[none_] at e;exact AD e
theorem OV.nz(F:D Γ ρ σ)(N:Γ.N σ σ'){o:Option V}(h:OV Γ.W Γ.X σ o x):OV Γ.W Γ.X σ' o x:=by
 cases o with
 |none=>exact h
 |some v=>exact F.val N h
theorem ck(IE:NG n)(IO:aS n){o i:PySem.Expr}(F:D Γ ρ σ)(he:DM (n+1) Γ.cx ρ (.Subscript o i p) σ.h K=Γ.res)(q:Gv Γ ρ σ K Q):wA Γ (eval (.Subscript o i p) Γ.env) Q σ:=by
 have hn:=F.ok.hn;have item:(DM n Γ.cx ρ o σ.h fun ov h=>DM n Γ.cx ρ i h fun iv h=>oA (Ap h ov iv) fun v=>K v h)=Γ.res→wA Γ (eval (.Subscript o i p) Γ.env) Q σ:=fun he=>
  Subscript_ (IE Γ ρ o _ σ _ F he fun v1 y1 σ1 e1 N1 D1 w1=>IE Γ ρ i _ σ1 _ D1 e1 fun v2 y2 σ2 e2 N2 D2 w2=>by
   refine AZ (Ax e2 hn) fun r e3 e4=>?_;exact jy D2 e3 (D1.val N2 w1) w2 fun a k h=>(q.nx (N1.trans N2)).tok D2 e4 h)
 cases i with
 |Slice a b st p2=>
  clear item;cases st with
  |some _=>exact absurd he hn
  |none=>
   have he:(DM n Γ.cx ρ o σ.h fun ov h=>Xu n Γ.cx ρ a h fun av h=>Xu n Γ.cx ρ b h fun bv h=>Vo Γ.cx.lk h ov av bv K)=Γ.res:=he;refine Subscript_ (IE Γ ρ o _ σ _ F he fun v1 y1 σ1 e1 N1 D1 w1=>wpAny_Slice ?_);refine IO Γ ρ a _ σ1 _ D1 e1 fun o2 y2 σ2 e2 N2 D2 w2=>IO Γ ρ b _ σ2 _ D2 e2 fun o3 y3 σ3 e3 N3 D3 w3=>wpAny_pure ?_;exact kA D3 e3 (D2.val N3 (D1.val N2 w1)) (w2.nz D2 N3) w3 (q.nx ((N1.trans N2).trans N3))
 |_=>exact item he
theorem Z4(IE:NG n)(IO:aS n)(IS:Kz n)(IB:l4 n)(IC:lz n)(IT:Pe n)(I:∀m,m<n→Y1 m)(IL:ku n):NG (n+1):=fun Γ ρ e K σ Q F he q=>by
 have hn:=F.ok.hn;cases e with
 |Constant c k p=>
  refine AZ (Ax (show oA (PS c) (fun v=>K v σ.h)=_ from he) hn) fun v e1 e2=>?_;exact T3 F e1 fun a k h=>q.tok F e2 h
 |Name x p=>
  refine BQ he (fun v h e=>?_) fun h e=>?_
  ·exact Ta F h fun a w=>q.same F e w
  ·refine xA (Ba e hn) fun c e=>?_
   refine AZ (Ax e hn) fun v e1 e2=>?_;exact T5 F c e1 fun a w=>q.same F e2 w
 |Attribute o a p=>
  refine xA (Ba (show tB (!EE o) (DM n Γ.cx ρ o σ.h fun ov h=>oA (Xk Γ.cx h ov (nk a)) fun v=>K v h)=_ from he) hn) fun c he=>?_;show wA Γ (do let ov←attributeBase o a Γ.env (eval o Γ.env);standAt p.atName;let r←holding [ov] (getAttr ov a true);letTemporaryGo o ov r;pure r) Q σ;rw[Hz (by simpa using c)];refine wpAny_bind (IE Γ ρ o _ σ _ F he fun v1 y1 σ1 e1 N1 D1 w1=>wpAny_bind (wpAny_standAt (wpAny_bind (wpAny_holding ?_))));refine AZ (Ax e1 hn) fun v e2 e3=>?_;exact Sq D1 e2 w1 fun b k h=>wpAny_bind (wpAny_letTemporaryGo (wpAny_pure ((q.nx N1).tok D1 e3 h)))
 |BinOp l op r p=>
  exact wpAny_BinOp (IE Γ ρ l _ σ _ F he fun v1 y1 σ1 e1 N1 D1 w1=>IE Γ ρ r _ σ1 _ D1 e1 fun v2 y2 σ2 e2 N2 D2 w2=>kY D2 e2 (D1.val N2 w1) w2 (q.nx (N1.trans N2)))
 |UnaryOp op a p=>
  cases op with
  |USub=>exact wpAny_UnaryOp (IE Γ ρ a _ σ _ F he fun v1 y1 σ1 e1 N1 D1 w1=>jV D1 e1 w1 fun r a k e w=>(q.nx N1).tok D1 e w)
  |Not=>
   refine wpAny_UnaryOp (IE Γ ρ a _ σ _ F he fun v1 y1 σ1 e1 N1 D1 w1=>PX D1 e1 fun b h e2=>?_);subst h;cases w1.b;exact not_value (wpAny_truthy_bool ((q.nx N1).same D1 e2 .of_b))
  |_=>exact absurd he hn
 |BoolOp op es p=>
  show wA Γ (boolOp p op (evalEach es Γ.env)) Q σ;refine B3 he (fun J e=>?_) fun J e=>IB Γ ρ op es p K σ Q F e q;refine AZ (Ax e hn) fun v e1 e2=>?_;exact R4 9 Γ ρ (.BoolOp op es p) σ v Q F e1 fun a k h=>q.tok F e2 h
 |IfExp t a b p=>
  refine wpAny_IfExp (IT Γ ρ t _ σ _ F he fun c σ1 e1 N1 D1=>?_);cases c with
  |true=>exact IE Γ ρ a _ σ1 _ D1 e1 (q.nx N1)
  |false=>exact IE Γ ρ b _ σ1 _ D1 e1 (q.nx N1)
 |Compare l ops cs p=>
  show wA Γ (do compareChain p (←eval l Γ.env) ops (markedEach ops cs (evalEach cs Γ.env))) Q σ;exact wpAny_bind (IE Γ ρ l _ σ _ F he fun v1 y1 σ1 e1 N1 D1 w1=>IC Γ ρ v1 y1 ops cs p K σ1 Q D1 e1 w1 (q.nx N1))
 |Tuple es k p=>
  refine wpAny_Tuple (IS Γ ρ es p _ σ _ F he fun vs ws σ1 e1 N1 D1 w1=>?_);refine xA (Ba e1 hn) fun c e2=>?_;refine xA (Bool.and_eq_true_iff.mp c) fun c1 c2=>?_;exact⟨by rw[w1.length];exact Cd (Nat.le_of_ble_eq_true c2),Zc D1 w1 c1 e2 (q.nx N1)⟩
 |List es p=>
  refine wpAny_List (IS Γ ρ es p _ σ _ F he fun vs ws σ1 e1 N1 D1 w1=>?_);refine xA (Ba (show tB (SD vs&&Nat.ble vs.length BV&&(!Γ.cx.lk||vs.all Oq)) (FU Γ.cx.lk σ1.h (.list vs) K)=_ from e1) hn) fun c e2=>?_;refine xA (Bool.and_eq_true_iff.mp c) fun c1 c3=>?_;refine xA (Bool.and_eq_true_iff.mp c1) fun c1 c2=>?_;exact⟨by rw[w1.length];exact Cd (Nat.le_of_ble_eq_true c2),Hq (n:=0) (tk:=σ1.s.toks) (xs:=ws.toArray) D1 e2 (je (BC.nt w1 c1) c3) (q.nx N1)⟩
 |Dict ks vs p=>
  cases ks with
  |cons=>exact absurd he hn
  |nil=>
   cases vs with
   |cons=>exact absurd he hn
   |nil=>
    refine wpAny_Dict_empty (W9 (p:=(σ.s.heap.objs.size,0)) F (show FU Γ.cx.lk σ.h (.dict []) K=_ from he) (fun a h=>?_) (fun J J e=>Heap.get?_push_of_some _ e) rfl rfl (fun gf' le m hm=>?_) q)
    ·cases(show a=σ.s.heap.objs.size from h);exact Heap.get?_none_of_le (Nat.le_refl _)
    ·exact⟨[],0,Ac (Heap.get?_push_size _ rfl) (F.S.offX (Heap.get?_none_of_le (Nat.le_refl _))),by unfold Jl;rfl,List.nodup_nil⟩
 |Subscript o i p=>exact ck IE IO F he q
 |Call f as ks p=>
  cases ks with
  |cons=>exact absurd he hn
  |nil=>
   cases f with
   |Attribute o m ap=>exact XG IE IS I F he q
   |Name f fp=>exact Xl IS I F he q
   |_=>exact absurd he hn
 |ListComp e gs sc p=>exact Z_ IE IL F he q
 |_=>exact absurd he hn
end
theorem Iw{α:Type} [BEq α]:∀(n:Nat) (l:List α),l.length≤n→l.eraseDups.length≤l.length
 |_,[],_=>Nat.le_refl _
 |0,_::_,h=>absurd h (by simp)
 |n+1,a::r,h=>by
  rw[List.eraseDups_cons,List.length_cons,List.length_cons];have h2:=List.length_filter_le (fun b=>!b==a) r;have:=Iw n (r.filter fun b=>!b==a) (by simp at h;omega);omega
theorem GV{α:Type} [BEq α] [LawfulBEq α]:∀{l:List α},l.eraseDups.length=l.length→l.Nodup
 | [],_=>List.nodup_nil
 |a::r,h=>by
  rw[List.eraseDups_cons,List.length_cons,List.length_cons] at h;have h1:=Iw _ (r.filter fun b=>!b==a) (Nat.le_refl _);have h2:=List.length_filter_le (fun b=>!b==a) r;have e:(r.filter fun b=>!b==a).length=r.length:=by omega
  have all:=List.length_filter_eq_length_iff.mp e;have e2:(r.filter fun b=>!b==a)=r:=List.filter_eq_self.mpr all;rw[e2] at h;refine List.nodup_cons.mpr ⟨fun q=>?_,GV (by omega)⟩;have:=all a q;simp at this
theorem Sy{α β:Type}:∀{l:List α} {q:List β},l.length=q.length→l.reverse.zip q.reverse=(l.zip q).reverse
 | [],[],_=>rfl
 | [],_::_,h=>by cases h
 |_::_,[],h=>by cases h
 |a::l,b::q,h=>by
  have h:l.length=q.length:=by simpa using h
  rw[List.reverse_cons,List.reverse_cons,List.zip_append (by simp[h]),Sy h];show _++ [(a,b)]=((a,b)::l.zip q).reverse;rw[List.reverse_cons]
theorem Qc{α:Type} {j k:Nat} {a:α}:∀{r ρ:List (Nat×α)},j∉r.map (·.1)→AK k (r++(j,a)::ρ)=if j=k then some a else AK k (r++ρ)
 | [],ρ,_=>A7 ..
 |(i,b)::r,ρ,h=>by
  rw[List.cons_append,A7,List.cons_append,A7,Qc (r:=r) fun q=>h (.tail _ q)]
  by_cases c:i=k
  ·rw[if_pos c,if_pos c]
   by_cases d:j=k
   ·exact absurd (show i=j from c.trans d.symm) fun z=>h (z▸ .head _)
   ·rw[if_neg d]
  ·rw[if_neg c,if_neg c]
theorem Qb{α:Type} {k:Nat}:∀{l ρ:List (Nat×α)},(l.map (·.1)).Nodup→AK k (l.reverse++ρ)=AK k (l++ρ)
 | [],_,_=>rfl
 |(j,a)::r,ρ,h=>by
  refine xA (List.nodup_cons.mp (show(j::r.map (·.1)).Nodup from h)) fun h1 h2=>?_;rw[List.reverse_cons,List.append_assoc,List.singleton_append,Qb (l:=r) h2,Qc h1,List.cons_append,A7]
def R8(sc:Scope)(k:Nat):Prop:=k≠0∧k≠Dg∧B9 sc.names k=some .local
theorem dQ{sc:Scope} {k:Nat} {v:V} {ρ:Af}(h:R8 sc k):Uk sc k v ρ=some ((k,v)::ρ):=by
 refine Es h fun h1 h2 h3=>?_;have e1:Nat.beq k 0=false:=by cases c:Nat.beq k 0 with|false=>rfl|true=>exact absurd (Nat.eq_of_beq_eq_true c) h1
 have e2:Nat.beq k Dg=false:=by cases c:Nat.beq k Dg with|false=>rfl|true=>exact absurd (Nat.eq_of_beq_eq_true c) h2
 unfold Uk;rw[h3,e1,e2];rfl
set_option tactic.hygienic true in
theorem Hy{sc:Scope}:∀{ks:List Nat} {vs:List V} {ρ ρ':Af},An sc ks vs ρ=some ρ'→ks.length=vs.length∧(∀k∈ks,R8 sc k)∧ρ'=(ks.zip vs).reverse++ρ
 | [],[],ρ,ρ',e=>by cases e;exact⟨rfl,(fun J h=>nomatch h),rfl⟩
 | [],_::_,_,_,e=>by exact AD e
 |_::_,[],_,_,e=>by exact AD e
 |k::ks,v::vs,ρ,ρ',e=>by
  simp only[An] at e
  split at e
  ·rename_i ρ1 e1
   refine OI (Wi e1) fun p1 p2 p3 z3q=>?_;subst z3q;refine Es (Hy e) fun h1 h2 h3=>?_;refine⟨by rw[List.length_cons,List.length_cons,h1],fun j hj=>?_,?_⟩
   ·rcases List.mem_cons.mp hj with rfl|hj
    ·exact⟨p1,p2,p3⟩
    ·exact h2 j hj
   ·rw[h3,List.zip_cons_cons,List.reverse_cons,List.append_assoc];rfl
  ·exact AD e
theorem ML{sc:Scope}:∀{ks:List Nat} {vs:List V} {ρ:Af},ks.length=vs.length→(∀k∈ks,R8 sc k)→An sc ks vs ρ=some ((ks.zip vs).reverse++ρ)
 | [],[],ρ,_,_=>rfl
 | [],_::_,_,h,_=>by cases h
 |_::_,[],_,h,_=>by cases h
 |k::ks,v::vs,ρ,h,ok=>by
  simp only[An];rw[dQ (ok k (.head _))];simp only;rw[ML (by simpa using h) fun j hj=>ok j (.tail _ hj),List.zip_cons_cons,List.reverse_cons,List.append_assoc];rfl
theorem Q7{sc:Scope} {ks:List Nat} {vs:List V} {ρ ρ':Af}(e:An sc ks vs ρ=some ρ')(nd:ks.Nodup):∃ρ2,An sc ks.reverse vs.reverse ρ=some ρ2∧∀k,AK k ρ'=AK k ρ2:=by
 refine Es (Hy e) fun h1 h2 h3=>?_;refine⟨_,ML (by simp[h1]) fun k hk=>h2 k (List.mem_reverse.mp hk),fun k=>?_⟩;rw[h3,Sy h1,List.reverse_reverse];refine Qb ?_;rw[List.map_fst_zip (by omega)];exact nd
section
variable{env:Env}
theorem Nh{f:PySem.Expr→Option Str}(hf:∀x y,f x=some y→∃p,x=.Name y p):∀{ts:List PySem.Expr},(ts.filterMap f).length=ts.length→BJ ts=some ((ts.filterMap f).map nk)
 | [],_=>rfl
 |t::r,h=>by
  rw[List.filterMap_cons] at h⊢;cases c:f t with
  |none=>
   rw[c] at h;have:=List.length_filterMap_le f r;simp at h;omega
  |some y=>
   rw[c] at h;have h9:(r.filterMap f).length=r.length:=by simpa using h
   refine xE (hf t y c) fun p z1q=>?_;clear h c;subst z1q;show(BJ r).map (nk y::·)=_;rw[Nh hf h9];rfl
theorem Rl{ts:List PySem.Expr} {k:Nat} {p:Pos} {v:PySem.Expr}(h:Rn ts v=true):swappedStores [.Tuple ts k p] v env=pure none∨∃names:List Str,swappedStores [.Tuple ts k p] v env=pure (some names)∧BJ ts=some (names.map nk)∧names.Nodup:=by
 cases v with
 |Tuple vs j p2=>
  unfold swappedStores;dsimp only
  split
  ·exact .inl rfl
  ·split
   ·exact .inl rfl
   ·split
    ·exact .inl rfl
    ·rename_i hn
     split
     ·exact .inl rfl
     ·rename_i hf
      split
      ·rename_i hc
       exfalso
       have h:(!vs.all (constantsAlone 8)||vs.all (foldedForSure 8))=true:=h;rw[hc] at h;exact hf (by simpa using h)
      ·right
       simp only[Bool.or_eq_true,bne_iff_ne,ne_eq,not_or,Decidable.not_not] at hn;refine xA hn fun h1 h2=>?_;refine⟨_,rfl,?_,GV h2⟩;refine Nh (fun x y e=>?_) h1;cases x with
       |Name id pos=>
        dsimp only at e
        split at e
        ·exact⟨pos,by rw[Option.some.inj e]⟩
        ·exact AD e
       |_=>exact AD e
 |_=>exact .inl rfl
theorem Je{t:PySem.Expr} {r:List PySem.Expr}(h:∀x p,t≠ .Starred x p):assignEach (t::r) env=(false,assign t env)::assignEach r env:=by
 cases t<;>first|rfl|exact absurd rfl (h _ _)
theorem Ll{t:PySem.Expr} {r:List PySem.Expr}(h:Bu (t::r)=true):(∀x p,t≠ .Starred x p)∧Bu r=true:=by
 have hs:∀x p,t≠ .Starred x p:=fun x p z=>by subst z;exact Ak h
 exact⟨hs,by cases t<;>first|exact h|(exact absurd rfl (hs _ _))⟩
theorem Qm:∀{ts:List PySem.Expr},Bu ts=true→(assignEach ts env).length=ts.length∧(assignEach ts env).findIdx? (·.1)=none
 | [],_=>⟨rfl,rfl⟩
 |t::r,h=>by
  refine xA (Ll h) fun h1 h2=>?_;refine xA (Qm h2) fun k1 k2=>?_;rw[Je h1];refine⟨by simp[k1],?_⟩;rw[List.findIdx?_cons];simp[k2]
theorem Nd{α β:Type} {f:α→β}:∀{l:List α},l.Nodup→(∀a∈l,∀b∈l,f a=f b→a=b)→(l.map f).Nodup
 | [],_,_=>List.nodup_nil
 |a::r,h,q=>by
  refine xA (List.nodup_cons.mp h) fun h1 h2=>?_;refine List.nodup_cons.mpr ⟨fun z=>?_,Nd h2 fun x hx y hy=>q x (.tail _ hx) y (.tail _ hy)⟩;refine AZ (List.mem_map.mp z) fun b hb e=>?_;exact h1 (q a (.head _) b (.tail _ hb) e.symm▸hb)
theorem L0:∀{ts:List PySem.Expr} {ks:List Nat},BJ ts=some ks→G9 ts=true
 | [],_,_=>rfl
 |t::r,ks,h=>by
  cases t with
  |Name id pp=>
   refine AZ (Option.map_eq_some_iff.mp (show(BJ r).map (nk id::·)=some ks from h)) fun ks' e3 J=>?_;exact L0 (ts:=r) e3
  |_=>exact AD h
end
def RJ(n:Nat):Prop:=∀Γ ρ ts vs ws K σ Q,Γ.cp=false→D Γ ρ σ→UB n Γ.cx ρ ts vs σ.h K=Γ.res→Bu ts=true→Γ.Vs σ vs ws→Gu Γ σ K Q→wA Γ (assignInOrder ((assignEach ts Γ.env).map (·.2)) ws) Q σ
def kj(Γ:Fr)(σ:St)(vs:List V)(b:Addr):Prop:=∃o xs k,σ.s.heap.get? b=some o∧o.cls=.type "tuple"∧o.data=.seq xs k∧BC Γ.W.w.params Γ.W.ca (σ.reg Γ.X) σ.μ.nt vs xs.toList
def aO(n:Nat):Prop:=∀Γ ρ e K σ Q,D Γ ρ σ→cY n Γ.cx ρ e σ.h K=Γ.res→(∀vs b σ',K vs σ'.h=Γ.res→Γ.N σ σ'→D Γ ρ σ'→kj Γ σ' vs b→Q (.ref b) σ'.s)→wA Γ (eval e Γ.env) Q σ
section
variable{Γ:Fr} {ρ ρ':Af} {σ σ':St} {v w:V} {x y:Value} {n:Nat} {p:Pos}
theorem D.perm(F:D Γ ρ σ)(h:∀k,AK k ρ'=AK k ρ):D Γ ρ' σ:=by
 refine BU F.nm fun m h1 h2 h3=>?_;exact⟨F.ok,F.n0,F.md,F.fr,m,h1,h2,fun x v e=>h3.val x v (by rw[←h];exact e),by rw[h];exact h3.nz,by rw[h];exact h3.dbg⟩
set_option tactic.hygienic true in
theorem L3(T:Γ.cp=false):∀{xs:List Str} {vs:List V} {ws:List Value} {ρ ρ':Af} {σ:St} {Q:Unit→Shared→Prop},An Γ.cx.sc (xs.map nk) vs ρ=some ρ'→D Γ ρ σ→Γ.Vs σ vs ws→
  (∀h' k,Γ.N σ (σ.to h' k)→D Γ ρ' (σ.to h' k)→Q () (σ.to h' k).s)→wA Γ (assignInOrder (xs.map fun n=>bindName Γ.env n) ws) Q σ
 | [],vs,ws,ρ,ρ',σ,Q,e2,F,hv,q=>by
  cases vs with
  |nil=>cases e2;exact wpAny_pure (q σ.s.heap σ.s.toks (.refl F.S) F)
  |cons v r=>exact AD e2
 |x::r,vs,ws,ρ,ρ',σ,Q,e2,F,hv,q=>by
  cases vs with
  |nil=>exact AD e2
  |cons v vs=>
   refine BE hv.of_cons fun a ws' z2q h1 h2=>?_;subst z2q;simp only[List.map_cons,An] at e2
   split at e2
   ·rename_i ρ1 e4
    show wA Γ (do holding ws' (bindName Γ.env x a);assignInOrder (r.map fun n=>bindName Γ.env n) ws') Q σ;exact wpAny_bind (wpAny_holding (wpAny_bindName (GW T F e4 h1 fun h' k N1 D1=>L3 T (σ:=σ.to h' k) e2 D1 (F.vals N1 h2) fun h'' k' N2 D2=>q h'' k' (N1.trans N2) D2)))
   ·exact AD e2
theorem Vs.rev:∀{vs:List V} {ws:List Value},Γ.Vs σ vs ws→Γ.Vs σ vs.reverse ws.reverse
 | [],_,h=>by cases(by unfold Fr.Vs Q8 BC at h;exact h:_= []);exact .nil
 |v::r,_,h=>by
  refine BE h.of_cons fun a q z2q h1 h2=>?_;subst z2q;rw[List.reverse_cons,List.reverse_cons];exact BC.append (Vs.rev h2) (.cons h1 .nil)
theorem Gu.nx{K:Af→HA→RA X} {Q:Unit→Shared→Prop}(x:Γ.N σ σ')(q:Gu Γ σ K Q):Gu Γ σ' K Q:=fun ρ' σ'' h1 h2 h3=>q ρ' σ'' h1 (x.trans h2) h3
set_option backward.match.sparseCases true in
theorem YX(IE:NG n):Yt (n+1):=fun Γ ρ t v y K σ Q T F he hv q=>by
 have hn:=F.ok.hn;cases t with
 |Name id p=>
  refine AZ (Ax (show oA (Uk Γ.cx.sc (nk id) v ρ) (fun ρ=>K ρ σ.h)=_ from he) hn) fun ρ1 e1 e2=>?_;exact wpAny_assign_Name (GW T F e1 hv fun h' k N D'=>q ρ1 (σ.to h' k) e2 N D')
 |Attribute o a p=>
  show wA Γ (do let ov←holding [y] (eval o Γ.env);standAt p.atName;holding [y,ov] (setAttr ov a y);release [y,ov] []) Q σ;refine wpAny_bind (wpAny_holding (IE Γ ρ o _ σ _ F he fun v1 y1 σ1 e1 N1 D1 w1=>wpAny_bind (wpAny_standAt (wpAny_bind (wpAny_holding ?_)))));refine AZ (Ax e1 hn) fun h2 e2 e3=>?_;exact NP D1 e2 w1 (F.val N1 hv) fun s' N2=>wpAny_release (q ρ ⟨h2,σ1.μ,s'⟩ e3 (N1.trans N2.up) (D1.step N2))
 |Subscript o i p=>
  show wA Γ (do let ov←holding [y] (eval o Γ.env);let iv←holding [y,ov] (eval i Γ.env);standAt p;holding [y,ov,iv] (setItem ov iv y);release (match(generalizing:=false) i with|.Slice _ _ none _=> [iv,y,ov]|_=> [y,ov,iv]) []) Q σ;refine wpAny_bind (wpAny_holding (IE Γ ρ o _ σ _ F he fun v1 y1 σ1 e1 N1 D1 w1=>?_));refine wpAny_bind (wpAny_holding (IE Γ ρ i _ σ1 _ D1 e1 fun v2 y2 σ2 e2 N2 D2 w2=>wpAny_bind (wpAny_standAt (wpAny_bind (wpAny_holding ?_)))));refine AZ (Ax e2 hn) fun h3 e3 e4=>?_;exact gd D2 e3 (D1.val N2 w1) w2 (D1.val N2 (F.val N1 hv)) fun s' N3=>wpAny_release (q ρ ⟨h3,σ2.μ,s'⟩ e4 ((N1.trans N2).trans N3.up) (D2.step N3))
 |_=>exact absurd he hn
theorem Vv(IA:Yt n)(IS:RJ n):RJ (n+1):=fun Γ ρ ts vs ws K σ Q T F he hp hv q=>by
 have hn:=F.ok.hn;cases ts with
 |nil=>
  cases vs with
  |nil=>exact wpAny_pure (q ρ σ he (.refl F.S) F)
  |cons _ _=>exact absurd he hn
 |cons t r=>
  cases vs with
  |nil=>exact absurd he hn
  |cons v vs=>
   refine xA (Ll hp) fun hs hp=>?_;refine BE hv.of_cons fun y ws' z2q h1 h2=>?_;subst z2q;rw[Je hs];show wA Γ (do holding ws' (assign t Γ.env y);assignInOrder ((assignEach r Γ.env).map (·.2)) ws') Q σ;exact wpAny_bind (wpAny_holding (IA Γ ρ t v y _ σ _ T F he h1 fun ρ1 σ1 e1 N1 D1=>IS Γ ρ1 r vs ws' K σ1 Q T D1 e1 hp (F.vals N1 h2) (q.nx N1)))
theorem WJ(IE:NG n)(IS:Kz n):aO (n+1):=fun Γ ρ e K σ Q F he q=>by
 have hn:=F.ok.hn
 by_cases ht:∃es k p,e=.Tuple es k p
 ·obtain⟨es,k,p,rfl⟩:=ht
  refine wpAny_Tuple (IS Γ ρ es p _ σ _ F he fun vs ws σ1 e1 N1 D1 w1=>?_);refine xA (Ba (show tB (SD vs&&Nat.ble vs.length BV) (K vs σ1.h)=_ from e1) hn) fun c e2=>?_;refine xA (Bool.and_eq_true_iff.mp c) fun c1 c2=>?_;have none_:σ1.s.heap.get? σ1.s.heap.objs.size=none:=Heap.get?_none_of_le (Nat.le_refl _);have N:Nz Γ.W Γ.l Γ.X Z0 σ1 {σ1 with s:={σ1.s with heap:=σ1.s.heap.push {cls:=.type "tuple",data:=.seq ws.toArray} } }:=D1.S.keep (s':={σ1.s with heap:=σ1.s.heap.push {cls:=.type "tuple",data:=.seq ws.toArray} }) (fun J J e=>Heap.get?_push_of_some _ e) rfl rfl;exact⟨by rw[w1.length];exact Cd (Nat.le_of_ble_eq_true c2),q vs _ {σ1 with s:={σ1.s with heap:=σ1.s.heap.push {cls:=.type "tuple",data:=.seq ws.toArray} } } e2 (N1.trans N.up) (D1.step N) ⟨_,_,_,Heap.get?_push_size _ rfl,rfl,rfl,BC.mono (N.reg .zero) (.refl _) _ _ (BC.nt w1 c1)⟩⟩
 ·have he:DM n Γ.cx ρ e σ.h (fun v h=>oA (IG v) fun vs=>K vs h)=Γ.res:=by
   cases e<;>first|exact he|exact absurd ⟨_,_,_,rfl⟩ ht
  refine IE Γ ρ e _ σ _ F he fun v1 y1 σ1 e1 N1 D1 w1=>?_;refine AZ (Ax e1 hn) fun vs e2 e3=>?_;refine Sk e2 (fun l0 h e4=>?_) AD;cases e4;clear e2 e1;subst h;refine Cc (NL w1) fun b o xs k z4q h1 h2 h3 h4=>?_;subst z4q;exact q vs b σ1 e3 N1 D1 ⟨o,xs,k,h1,h2,h3,h4⟩
end
section
variable{Γ:Fr} {ρ ρ':Af} {σ σ':St} {K:Fl→Af→HA→RA Mn.X} {Q:Flow→Shared→Prop} {v w:V} {x y:Value} {n:Nat} {p:Pos} {t it:PySem.Expr} {b:List Stmt}
theorem Gx.nx(x:Γ.N σ σ')(q:Gx Γ σ K Q):Gx Γ σ' K Q:=fun fl w ρ' σ'' h1 h2 h3 h4=>q fl w ρ' σ'' h1 (x.trans h2) h3 h4
theorem Ot{env:Env} {v:PySem.Expr} {t:Option PySem.Expr} {k:Nat}(h:JW v=false):swapsWith v t k env=pure false:=by
 cases v<;>first|rfl|exact Di h
theorem Xq(IX:rY n)(IS:ND n):ND (n+1):=fun Γ ρ ss K σ Q T F he q=>by
 cases ss with
 |nil=>exact wpAny_execs_nil (q .next _ ρ σ he (.refl F.S) F rfl)
 |cons s r=>
  rw[execs_cons];refine wpAny_bind (IX Γ ρ s _ σ _ T F he fun fl w ρ' σ1 e1 N1 D1 fr=>?_);cases fl with
  |next=>cases(show w=.next from fr);exact IS Γ ρ' r K σ1 Q T D1 e1 (q.nx N1)
  |brk=>cases(show w=.brk from fr);exact wpAny_pure (q .brk _ ρ' σ1 e1 N1 D1 rfl)
  |cont=>cases(show w=.cont from fr);exact wpAny_pure (q .cont _ ρ' σ1 e1 N1 D1 rfl)
  |ret v=>refine AZ fr fun y z1q hy=>?_;subst z1q;exact wpAny_pure (q (.ret v) _ ρ' σ1 e1 N1 D1 ⟨y,rfl,hy⟩)
theorem eW{cx:CA} {src:V} {k:Nat} {h:HA} {res:RA Mn.X}(he:SM n cx ρ t b src k h K=res)(hn:RA.no≠res):∃l,CP h src=some l:=by
 cases n with
 |zero=>exact absurd he hn
 |succ n=>refine AZ (Ax (show oA (CP h src) _=res from he) hn) fun l e J=>?_;exact⟨l,e⟩
noncomputable abbrev qg(Γ:Fr)(Q:Flow→Shared→Prop):Result→Shared→Prop:=fun r s'=>match r with|.ok f=>Q f s'|.error e=>cameBackBy Γ.M Γ.A Γ.env Γ.E e s'
theorem Gx.lp(x:Γ.N σ σ')(q:Gx Γ σ K Q):Gl Γ σ' K (qg Γ Q):=fun fl w ρ' σ'' h1 h2 h3 h4=>q fl w ρ' σ'' h1 (x.trans h2) h3 h4
theorem Zx(IE:NG n)(IF:lG n)(T:Γ.cp=false)(F:D Γ ρ σ)(he:(DM n Γ.cx ρ it σ.h fun src h=>SM n Γ.cx ρ t b src 0 h K)=Γ.res)(q:Gx Γ σ K Q):wA Γ (exec (.For t it b [] p) Γ.env) Q σ:=by
 have hn:=F.ok.hn;refine wpAny_For (IE Γ ρ it _ σ _ F he fun v1 y1 σ1 e1 N1 D1 w1=>?_) (QA he hn);refine xE (eW e1 hn) fun l0 hl0=>?_;refine A_ (Cw D1.S hl0 w1) fun ax xs k z3q g1 g2=>?_;subst z3q;refine wpAny_pyIter_list (B_ g1) ?_;refine xA (D1.lo T (o:={cls:=.type "list_iterator",data:=.fields #[.ref ax,.int 0 0]}) (.inr ⟨_,rfl⟩) rfl (Yq.of T D1) (q.lp N1)) fun L le=>?_;exact IF Γ ρ t b v1 0 K σ1 _ _ ax _ L (VR.mono le (.refl _) _ _ w1) ⟨_,Heap.get?_push_size _ rfl,rfl,rfl⟩ e1
theorem XC{v:V} {f:Nat→Option (Int×Int)} {r:Int×Int}(e:Ze v f=some r):∃k,v=.int (.ofNat k)∧f k=some r:=DK e (fun i h e=>Ji e (fun k h2 e=>⟨k,by rw[h,h2],e⟩) AD) AD
theorem VZ(IS:Kz n)(IF:lF n){f:Str} {fp cp:Pos} {es:List PySem.Expr}(T:Γ.cp=false)(F:D Γ ρ σ)(he:tB (Tg Γ.cx ρ f es) (Hu n Γ.cx ρ es σ.h fun vs h=>oA (TK vs) fun ij=>RP n Γ.cx ρ t b ij.1 ij.2 h K)=Γ.res)(q:Gx Γ σ K Q):
  wA Γ (exec (.For t (.Call (.Name f fp) es [] cp) b [] p) Γ.env) Q σ:=by
 have hn:=F.ok.hn;refine xA (Ba he hn) fun c he=>?_;refine xA (Bool.and_eq_true_iff.mp c) fun h1 c=>?_;refine xA (Bool.and_eq_true_iff.mp c) fun hg c=>?_;refine xA (Bool.and_eq_true_iff.mp c) fun hc J=>?_;refine xA (Bool.and_eq_true_iff.mp hg) fun J hgl=>?_;have hp:=(Bool.and_eq_true_iff.mp hc).1;have h1:=Nat.eq_of_beq_eq_true h1;have k0:nk f≠0:=by rw[h1];decide+kernel
 have hf:f="range":=EI h1 k0;refine wpAny_For ?_ (fun J=>rfl);show wA Γ (do let fv←eval (.Name f fp) Γ.env;callWith cp fv [] (backTo cp (starEach es Γ.env)) (backToKw cp (keywordEach [] Γ.env))) _ σ;refine wpAny_bind (Ir F k0 hgl (show GN Γ.W f (.type "range") by rw[hf];exact F.ok.wf.rng) (by rw[hf];decide) (E8 IS F hp (fun J J=>Nl) he fun vs ws σ1 e3 N1 D1 w1=>?_));have go:∀(i j:Int) (tk:Nat) (xs:Array Value) (t1 t2 t3:Tok),xs= #[.int i t1,.int j t2,.int 1 t3]→0≤i→i<2^61→0≤j→j<2^61→RP n Γ.cx ρ t b i j σ1.h K=Γ.res→wpAny Γ.M Γ.A (pyIter (.ref σ1.s.heap.objs.size)) (fun it s₂=>codeAny Γ.M Γ.A (.forLoop t it b [] Γ.env) (qg Γ Q) s₂) Γ.E {σ1.s with heap:=σ1.s.heap.push {cls:=.type "range",data:=.fields xs},toks:=tk}:=fun i j tk xs t1 t2 t3 ex a1 a2 a3 a4 e4=>by
  subst ex;have N2:Nz Γ.W Γ.l Γ.X Z0 σ1 {σ1 with s:={σ1.s with heap:=σ1.s.heap.push {cls:=.type "range",data:=.fields #[.int i t1,.int j t2,.int 1 t3]},toks:=tk} }:=D1.S.keep (s':={σ1.s with heap:=σ1.s.heap.push {cls:=.type "range",data:=.fields #[.int i t1,.int j t2,.int 1 t3]},toks:=tk}) (fun J J e=>Heap.get?_push_of_some _ e) rfl rfl;have D2:=D1.step N2;refine wpAny_pyIter_range (IsRange.new _ i j 1 t1 t2 t3) (small_one (by omega) (by omega) (by omega) (by omega)) ?_;refine xA (D2.lo T (o:={cls:=.type "range_iterator",data:=.fields #[rawInt i,rawInt (Builtin.Range.rangeSize i j 1),rawInt 1]}) (.inr ⟨_,rfl⟩) rfl (Yq.of T D2) (q.lp (N1.trans N2.up))) fun L le=>?_;exact IF Γ ρ t b i j (Builtin.Range.rangeSize i j 1) K _ _ _ _ L (Heap.get?_push_size _ rfl) (fun h=>by rw[rangeSize_one,if_pos h]) (fun h=>by rw[rangeSize_one,if_neg h];omega) e4
 refine AZ (Ax e3 hn) fun ij e4 e5=>?_;have rn:∀{a b:Nat},dG a b=some ij→(a:Int)<2^61∧(b:Int)<2^61∧ij=(.ofNat a,.ofNat b):=fun{a b} e=>B3 e (fun c e=>by
  refine xA (Bool.and_eq_true_iff.mp c) fun c1 c2=>?_;have c1:a<2^61:=Nat.le_of_ble_eq_true c1;have c2:b<2^61:=Nat.le_of_ble_eq_true c2;clear e5 e4;cases e;exact⟨by omega,by omega,rfl⟩) (fun J=>AD)
 match vs,e4 with
 | [a],e4=>
  refine AZ (XC e4) fun k z1q e6=>?_;clear e3;subst z1q;refine Es (rn e6) fun J r2 z2q=>?_;clear rn e6 e4;subst z2q;refine BE w1.of_cons fun a1 ws' z2q h1 h2=>?_;subst z2q;refine xE h1.i fun t1 z1q=>?_;clear h1;subst z1q;clear w1;cases(by unfold BC at h2;exact h2:ws'= []);exact call_range_1 (go 0 (.ofNat k) _ _ _ _ _ rfl (by decide) (by decide) (Int.natCast_nonneg _) r2 e5)
 | [a,b],e4=>
  refine AZ (XC e4) fun k z1q e6=>?_;subst z1q;refine AZ (XC e6) fun j z1q e6=>?_;clear e3;subst z1q;refine Es (rn e6) fun r1 r2 z2q=>?_;clear rn e6 e4;subst z2q;refine BE w1.of_cons fun a1 ws' z2q h1 h2=>?_;subst z2q;refine BE h2.of_cons fun a2 ws' z2q h3 h4=>?_;subst z2q;refine xE h1.i fun t1 z1q=>?_;clear h1;subst z1q;refine xE h3.i fun t2 z1q=>?_;clear h3;subst z1q;clear h2 w1;cases(by unfold BC at h4;exact h4:ws'= []);exact call_range_2 (go (.ofNat k) (.ofNat j) _ _ _ _ _ rfl (Int.natCast_nonneg _) r1 (Int.natCast_nonneg _) r2 e5)
theorem Vu(IE:NG n)(IA:Yt n)(IS:RJ n)(IT:aO n){v:PySem.Expr}(T:Γ.cp=false)(F:D Γ ρ σ)(he:Fx (n+1) Γ.cx ρ (.Assign [t] v p) σ.h K=Γ.res)(q:Gx Γ σ K Q):wA Γ (exec (.Assign [t] v p) Γ.env) Q σ:=by
 have hn:=F.ok.hn;obtain⟨hcomp,he⟩:=Ba (show tB (!JW v) (match(generalizing:=false) t with
   |.Tuple ts _ _=>tB (Rn ts v) (cY n Γ.cx ρ v σ.h fun vs h=>cC (G9 ts) (tB (Bu ts&&Nat.beq ts.length vs.length) (UB n Γ.cx ρ ts vs h fun ρ h=>K .next ρ h)) (oA (BJ ts) fun ks=>oA (An Γ.cx.sc ks vs ρ) fun ρ=>K .next ρ h))
   |t=>tB (OY t) (DM n Γ.cx ρ v σ.h fun v h=>YY n Γ.cx ρ t v h fun ρ h=>K .next ρ h))=_ from he) hn
 have hcomp:JW v=false:=by simpa using hcomp
 rw[exec_Assign_arm];refine wpAny_bind (wpAny_standAt ?_);show wA Γ (do
  if←swapsWith v (some t) p.line Γ.env then do
   evalThenUse v Γ.env fun v=>assignAll v ((assignEach [t] Γ.env).map (·.2))
   pure .next
  else do
   let v'←eval v Γ.env
   assignStores Γ.env v' (←swappedStores [t] v Γ.env) ((assignEach [t] Γ.env).map (·.2))) Q σ
 rw[Ot hcomp];refine wpAny_bind (wpAny_pure ?_);rw[if_neg (by simp)];have single:(∀x p,t≠ .Starred x p)→swappedStores [t] v Γ.env=pure none→tB (OY t) (DM n Γ.cx ρ v σ.h fun v h=>YY n Γ.cx ρ t v h fun ρ h=>K .next ρ h)=Γ.res→wA Γ (do
   let v'←eval v Γ.env
   assignStores Γ.env v' (←swappedStores [t] v Γ.env) ((assignEach [t] Γ.env).map (·.2))) Q σ:=fun hs hw he=>by
  rw[hw,Je hs];refine xA (Ba he hn) fun J he=>?_;refine wpAny_bind (IE Γ ρ v _ σ _ F he fun v1 y1 σ1 e1 N1 D1 w1=>wpAny_bind (wpAny_pure ?_));show wA Γ (do assign t Γ.env y1;pure .next) Q σ1;exact wpAny_bind (IA Γ ρ t v1 y1 _ σ1 _ T D1 e1 w1 fun ρ2 σ2 e2 N2 D2=>wpAny_pure (q .next _ ρ2 σ2 e2 (N1.trans N2) D2 rfl))
 cases t with
 |Name id np=>exact single (fun J J z=>nomatch z) rfl he
 |Attribute o a np=>exact single (fun J J z=>nomatch z) rfl he
 |Subscript o i np=>exact single (fun J J z=>nomatch z) rfl he
 |Tuple ts k tp=>
  refine xA (Ba he hn) fun hsw he=>?_;refine wpAny_bind (IT Γ ρ v _ σ _ F he fun vs b σ1 e1 N1 D1 ⟨o,xs,k0,h1,h2,h3,h4⟩=>?_);have ht:=Hs h1 h2 h3;have hlen:=h4.length;have keep:∀{h':Heap},(∀b,b≠σ1.s.heap.objs.size→∀o,σ1.s.heap.get? b=some o→h'.get? b=some o)→Nz Γ.W Γ.l Γ.X Z0 σ1 {σ1 with s:={σ1.s with heap:=h'} }:=fun{h'} hb=>D1.S.keep (s':={σ1.s with heap:=h'}) (fun p o e=>hb p (Nat.ne_of_lt (Heap.lt_size e)) o e) rfl rfl;have go:swappedStores [.Tuple ts k tp] v Γ.env=pure none→wA Γ (do assignStores Γ.env (.ref b) (←swappedStores [.Tuple ts k tp] v Γ.env) ((assignEach [.Tuple ts k tp] Γ.env).map (·.2))) Q σ1:=fun hw=>by
   rw[hw];refine wpAny_bind (wpAny_pure ?_);show wA Γ (do assign (.Tuple ts k tp) Γ.env (.ref b);pure .next) Q σ1;refine wpAny_bind ?_;refine B3 e1 (fun hc e1=>?_) fun hc e1=>?_
   ·refine AZ (Ax e1 hn) fun ks e3 e1=>?_
    refine AZ (Ax e1 hn) fun ρ2 e4 e1=>?_;refine xA (EO (env:=Γ.env) e3) fun g1 g2=>?_;refine wpAny_assign_Tuple F.ok.fa.handled ht (by rw[g1,Gi e4];simpa using hlen.symm) g2 fun h' hb=>?_;have N2:=keep fun p h o e=>hb p o h e;exact JR T (σ:={σ1 with s:={σ1.s with heap:=h'} }) e3 e4 (D1.step N2) (D1.vals N2.up (Vs.of_nt h4)) fun h'' k N3 D3=>wpAny_pure (q .next _ ρ2 _ e1 ((N1.trans N2.up).trans N3) D3 rfl)
   ·refine xA (Ba e1 hn) fun hc e1=>?_
    refine xA (Bool.and_eq_true_iff.mp hc) fun c1 c2=>?_;refine xA (Qm (env:=Γ.env) c1) fun g1 g2=>?_;have c2:=Nat.eq_of_beq_eq_true c2;refine wpAny_assign_Tuple F.ok.fa.handled ht (by rw[g1,c2];simpa using hlen.symm) g2 fun h' hb=>?_;have N2:=keep fun p h o e=>hb p o h e;exact IS Γ ρ ts vs xs.toList _ {σ1 with s:={σ1.s with heap:=h'} } _ T (D1.step N2) e1 c1 (D1.vals N2.up (Vs.of_nt h4)) fun ρ3 σ3 e3 N3 D3=>wpAny_pure (q .next _ ρ3 σ3 e3 ((N1.trans N2.up).trans N3) D3 rfl)
  rcases Rl (env:=Γ.env) (k:=k) (p:=tp) hsw with hw|⟨names,hw,h5,h6⟩
  ·exact go hw
  ·rw[hw]
   refine wpAny_bind (wpAny_pure ?_);show wA Γ (do rule "assign.swapped-stores";let items←unpackItems (.ref b) names.length none;assignInOrder (names.reverse.map fun n=>bindName Γ.env n) items.reverse;pure .next) Q σ1;refine wpAny_bind (wpAny_rule (wpAny_bind ?_));rw[L0 h5,h5] at e1;refine AZ (Ax (show oA (An Γ.cx.sc (names.map nk) vs ρ) (fun ρ=>K .next ρ σ1.h)=_ from e1) hn) fun ρ2 e4 e1=>?_;refine Es (Hy e4) fun l1 ok J=>?_;have l2:names.length=xs.size:=by
    simp at l1 hlen;omega
   rw[l2];have nd:(names.map nk).Nodup:=Nd h6 fun a ha b hb e=>EI e (ok _ (List.mem_map_of_mem ha)).1;refine AZ (Q7 e4 nd) fun ρ3 r1 r2=>?_;refine wpAny_unpackItems_tuple F.ok.fa.handled ht fun h' hb=>?_;have N2:=keep fun p h o e=>hb p o h e;exact wpAny_bind (L3 T (σ:={σ1 with s:={σ1.s with heap:=h'} }) (by rw[List.map_reverse];exact r1) (D1.step N2) (Vs.rev (D1.vals N2.up (Vs.of_nt h4))) fun h'' k N3 D3=>wpAny_pure (q .next _ ρ2 _ e1 ((N1.trans N2.up).trans N3) (D3.perm r2) rfl))
 |_=>exact absurd he hn
theorem fL(IE:NG n){v:PySem.Expr} {op:Operator}(T:Γ.cp=false)(F:D Γ ρ σ)(he:Fx (n+1) Γ.cx ρ (.AugAssign t op v p) σ.h K=Γ.res)(q:Gx Γ σ K Q):wA Γ (exec (.AugAssign t op v p) Γ.env) Q σ:=by
 have hn:=F.ok.hn;cases t with
 |Name x0 xp=>
  refine AZ (Ax (show oA (AK (nk x0) ρ) _=_ from he) hn) fun a e0 he=>?_;refine BU F.nm fun m hns J nm=>?_;refine UM (nm.val x0 a e0) fun h1 y0 h2 h3=>?_;have T':=F.ok.fits;refine wpAny_AugAssign_Name (wpAny_loadName_local (by rw[T'.scope];exact T'.kind) (by show Γ.env.scope.names.lookup x0=_;rw[T'.scope];exact h1) (by rw[T'.locals];exact hns) h2 ?_);refine IE Γ ρ v _ σ _ F he fun v1 y1 σ1 e1 N1 D1 w1=>?_;refine AZ (Ax e1 hn) fun r e2 e1=>?_;refine AZ (Ax e1 hn) fun ρ1 e3 e1=>?_;refine bg D1 e2 (F.val N1 h3) w1 fun y2 k w2=>?_;have N2:=D1.toks k;exact GW T (D1.step N2) e3 (D1.val N2.up w2) fun h' k' N3 D3=>q .next _ ρ1 _ e1 ((N1.trans N2.up).trans N3) D3 rfl
 |Attribute o x0 xp=>
  refine wpAny_AugAssign_AttributeAny (IE Γ ρ o _ σ _ F he fun v1 y1 σ1 e1 N1 D1 w1=>?_);refine AZ (Ax e1 hn) fun a e2 e1=>?_;refine Sq D1 e2 w1 fun y2 k w2=>?_;have N2:=D1.toks k;have D2:=D1.step N2;refine IE Γ ρ v _ {σ1 with s:={σ1.s with toks:=k} } _ D2 e1 fun v3 y3 σ3 e3 N3 D3 w3=>?_;refine AZ (Ax e3 hn) fun r e4 e3=>?_;refine AZ (Ax e3 hn) fun h5 e5 e3=>?_;refine bg D3 e4 (D2.val N3 (D1.val N2.up w2)) w3 fun y4 k4 w4=>?_;have N4:=D3.toks k4;refine NP (D3.step N4) e5 (D3.val N4.up (D2.val N3 (D1.val N2.up w1))) (D3.val N4.up w4) fun s' N5=>?_;exact q .next _ ρ ⟨h5,σ3.μ,s'⟩ e3 ((((N1.trans N2.up).trans N3).trans N4.up).trans N5.up) ((D3.step N4).step N5) rfl
 |_=>exact absurd he hn
theorem Z3(IE:NG n)(IS:Kz n)(IT:Pe n)(IX:ND n)(IA:Yt n)(IAs:RJ n)(ITp:aO n)(IW:ki n)(IFo:lG n)(IFr:lF n):rY (n+1):=fun Γ ρ s K σ Q T F he q=>by
 have hn:=F.ok.hn;cases s with
 |Expr v p=>
  refine xA (Ba (show tB (!JW v) (DM n Γ.cx ρ v σ.h fun J h=>K .next ρ h)=_ from he) hn) fun c he=>?_;exact wpAny_Expr_any (IE Γ ρ v _ σ _ F he fun v1 y1 σ1 e1 N1 D1 w1=>q .next _ ρ σ1 e1 N1 D1 rfl) (by unfold interactive;rw[F.ok.fits.scope,F.ok.fits.kind];rfl) (Ot (by simpa using c))
 |Pass p=>exact wpAny_Pass (q .next _ ρ σ he (.refl F.S) F rfl)
 |Break p=>exact wpAny_Break (q .brk _ ρ σ he (.refl F.S) F rfl)
 |Continue p=>exact wpAny_Continue (q .cont _ ρ σ he (.refl F.S) F rfl)
 |Return v p=>
  refine BQ he (fun e h he=>?_) fun h he=>?_
  ·subst h
   exact wpAny_Return_some (IE Γ ρ e _ σ _ F he fun v1 y1 σ1 e1 N1 D1 w1=>q (.ret v1) _ ρ σ1 e1 N1 D1 ⟨y1,rfl,w1⟩)
  ·subst h
   exact wpAny_Return_none (q (.ret .none) _ ρ σ he (.refl F.S) F ⟨_,rfl,.of_no⟩)
 |Assign ts v p=>
  match ts,he with
  | [],he=>exact absurd he hn
  | [t],he=>exact Vu IE IA IAs ITp T F he q
  |_::_::_,he=>exact absurd he hn
 |AugAssign t op v p=>exact fL IE T F he q
 |If t a b p=>
  refine wpAny_If (IT Γ ρ t _ σ _ F he fun c σ1 e1 N1 D1=>?_);cases c with
  |true=>rw[if_pos rfl];exact IX Γ ρ a K σ1 Q T D1 e1 (q.nx N1)
  |false=>rw[if_neg (by simp)];exact IX Γ ρ b K σ1 Q T D1 e1 (q.nx N1)
 |While t b c p=>
  cases c with
  |cons=>exact absurd he hn
  |nil=>
   refine xA (Ba (show tB (!Γ.cx.nl) (cH n Γ.cx ρ t b σ.h K)=_ from he) hn) fun J he=>?_;exact WA IW T F he rfl q
 |For t it b c p=>
  cases c with
  |cons=>exact absurd he hn
  |nil=>
   have gen:(DM n Γ.cx ρ it σ.h fun src h=>SM n Γ.cx ρ t b src 0 h K)=Γ.res→wA Γ (exec (.For t it b [] p) Γ.env) Q σ:=fun he=>Zx IE IFo T F he q;cases it with
   |Call f es kws cp=>
    cases f with
    |Name y yp=>
     cases kws with
     |nil=>exact VZ IS IFr T F he q
     |cons=>exact gen he
    |_=>exact gen he
   |_=>exact gen he
 |_=>exact absurd he hn
end
section
open Builtin Builtin.ObjectAttr
variable{w:World} {A:Around} {E:Value→Shared→Prop} {h:Heap} {g:Array GenState} {d:Drawn} {t:Nat} {os:OsState}
variable{y:lH} {C x:Addr} {mN mA:Str→Option Value} {name:Str} {v:Value} {vs:Array Value}
theorem SU{Q:Unit→Shared→Prop} {B sa owner:String}(SF:StoreFacts B PG sa owner)(hC:h.get? C=some (y.o C))(hn:h.Ns y.N mN)(hns:mN "__setattr__"=none)(hna:mN name=none)
  (hB:typeLookup (.type B) name=pure none) {o:Obj} (hx:h.get? x=some o) (hc:o.cls=.ref C) (hdn:o.dict=none) (hd:o.data=.fields vs)
  (hq:∀h' tk',h'.Inst x C (fun y=>if y=name then some v else none)→h'.get? x=some {o with dict:=some h.objs.size}→(∀b o,b≠x→h.get? b=some o→h'.get? b=some o)→Q () ⟨h',g,d,tk',os⟩):
  wpAny (model pg w) A (setAttr (.ref x) name v) Q E ⟨h,g,d,t,os⟩:=by
 have f3:=SF.slot.bind (.ref x);unfold setAttr callSpecial? specialOf
 repeat (any_goals (first|assumption|(with_reducible refine wpAny_loadPart_at hx ?_;rw[hc])|(with_reducible refine wpAny_typeLookup_exc hC hn SF.mro SF.slot.lookup ?_;rw[hns])|wp_step))
 refine codeAny_call_builtin SF.slot.plain SF.entry (wpAny_check_sa SF hC hx hc ?_);have hpass:=SF.passes (.ref x);unfold Builtin.«object.__setattr__»
 repeat (first|rw[refuse_eq]|(rw[refuseLoop_ref,hpass])|(with_reducible refine wpAny_loadPart_at hx ?_;rw[hc])|with_reducible refine wpAny_mroOf_exc hC ?_|(with_reducible refine wpAny_typeLookup_exc hC hn SF.mro hB ?_;rw[hna])|wp_step)
 rw[hdn,if_neg (by simp[typeHasDict])];have nc:∀c,o.data≠ .cls c:=fun c z=>by rw[hd] at z;cases z
 split
 ·rename_i z;exact AD z
 split
 ·rename_i c z;exact absurd z (nc c)
 ·have hx₁:(h.push {cls:=.type "dict",data:=.dict #[]}).get? x=some o:=Heap.get?_push_of_some _ hx
  have hxs:x≠h.objs.size:=Nat.ne_of_lt (Heap.lt_size hx);refine wpAny_bind (wpAny_alloc' ?_);refine wpAny_bind (wpAny_update' hx₁ ?_);refine wpAny_pure ?_;have hgd:((h.push {cls:=.type "dict",data:=.dict #[]}).update x fun o=>{cls:=o.cls,dict:=some h.objs.size,data:=o.data,slots:=o.slots}).get? h.objs.size=some {cls:=.type "dict",data:=.dict #[]}:=
   (Heap.get?_update_ne _ _ _ _ hxs.symm).trans (Heap.get?_push_at rfl rfl)
  have hnd:((h.push {cls:=.type "dict",data:=.dict #[]}).update x fun o=>{cls:=o.cls,dict:=some h.objs.size,data:=o.data,slots:=o.slots}).Ns h.objs.size (fun J=>none):=
   ⟨_,#[],_,hgd,rfl,fun e he=>absurd he (by simp),fun J=>rfl⟩
  show wpAny _ _ (storeInDict h.objs.size (.str name t) name v) _ _ _;unfold storeInDict newKeyGuard;refine wpAny_bind (wpAny_pure (wpAny_bind (wpAny_nsSet1 (Heap.Ns1.of_empty hnd) fun h' hn' hs=>?_)));refine A_ (hn'.count (Within.cons name v Within.nil)) fun oD esD epD hoD hdD hcD=>?_;refine wpAny_bind (wpAny_lookBehind hoD (by rw[hdD];exact pastItsLine_dict (Nat.le_trans hcD (by rw[List.length_cons,List.length_nil,sizeLine_eq];omega))) ?_)
  wp_walk
  have hx':h'.get? x=some {cls:=o.cls,dict:=some h.objs.size,data:=o.data,slots:=o.slots}:=by
   refine(hs.2 x hxs).trans (Heap.get?_update_self _ hx₁ ?_);have hfr:=(Heap.get?_some_iff.mp hx).2;obtain⟨oc,od,odt,osl⟩:=o;clear hdn hx x_4 hq hc hd hx₁ nc;cases odt<;>first|rfl|exact hfr
  refine hq h' _ ⟨{cls:=o.cls,dict:=some h.objs.size,data:=o.data,slots:=o.slots},hx',hc,nc,.inr ⟨h.objs.size,rfl,hxs.symm,hn'⟩⟩ hx' (fun b ob hbx hb=>?_);exact(hs.2 b (Nat.ne_of_lt (Heap.lt_size hb))).trans ((Heap.get?_update_ne _ _ _ _ hbx).trans (Heap.get?_push_of_some _ hb))
end
theorem XJ:∀{l names:List Str},l.map nk=names.map nk→(∀x∈names,nk x≠0)→l=names
 | [],[],_,_=>rfl
 | [],_::_,h,_=>by cases h
 |_::_,[],h,_=>by cases h
 |a::l,b::q,h,h0=>by
  refine xA (List.cons.inj (show nk a::l.map nk=nk b::q.map nk from h)) fun h1 h2=>?_;rw[EI h1 (h1▸h0 b (.head _)),XJ h2 fun x hx=>h0 x (.tail _ hx)]
section
variable{M:Model} {A:Around} {E:Value→Shared→Prop} {env:Env}
variable{y:lH} {C:Addr}
theorem Mo{s:Shared} {x:Sem Value} {Q:Flow→Shared→Prop}(hh:A.handled=none)
  (h:wpAny M A x (fun v s₁=>∃e oe vs,v=.ref e∧s₁.heap.get? C=some (y.o C)∧
   s₁.heap.get? e=some oe∧oe.cls=.ref C∧oe.data=.fields vs∧vs[1]? =some .none∧E (.ref e) s₁) E s):
  wpAny M A (raiseStmt env (some x) none) Q E s:=by
 have hcB:(Value.ref C::PG).contains (.type "BaseException")=true:=by rw[List.contains_cons,show PG.contains (.type "BaseException")=true by decide+kernel,Bool.or_true]
 unfold raiseStmt;refine wpAny_bind (wpAny_mono h (fun v s₁ h₁=>?_) fun J J x=>x);obtain⟨e,oe,vs,rfl,hC,he,hcls,hd,h1,hE⟩:=h₁;obtain⟨hp,g,d,tk,os⟩:=s₁
 repeat (first|(with_reducible refine wpAny_loadPart_at he ?_;rw[hcls])|with_reducible refine wpAny_loadPart_at hC ?_|(with_reducible refine wpAny_isSubtype_exc hC ?_;rw[hcB])|wp_step)
 rw[hd];refine wpAny_pure ?_;rw[h1];refine wpAny_pure ?_;rw[if_neg (by simp)];exact wpAny_pure (wpAny_raiseNew_none hh hE)
end
noncomputable def Iv:List Str:= ["self","text","line"]
theorem Za:typeLookup (.type "Exception") "text"=pure none:=by rw[typeLookup_type,builtinLookup_eq_fast];kernel_rfl
theorem Zb:typeLookup (.type "Exception") "line"=pure none:=by rw[typeLookup_type,builtinLookup_eq_fast];kernel_rfl
section
variable{W:Wd} {A:Around} {E:Value→Shared→Prop} {K:Frag} {C e fI:Addr} {s:Shared} {fi:Fn}
set_option backward.match.sparseCases true in
theorem Vp(KI:K.In s.heap)(lim:s.heap.NoLimit){f:Addr} {fn:Fn}(F:Jm K f fn){names:List Str}(hps:fn.ps=names.map nk)(h0:∀x∈names,nk x≠0){ws:List Value}(hl:names.length=ws.length)(hloc:∀x∈names,fn.sc.names.lookup x=some .local)(hroom:A.depth<recursionLimit){RR:Result→Shared→Prop}
  (h:∀(env':Env) (L':Addr) (h₁:Heap) (tk:Nat),(∀b o,s.heap.get? b=some o→h₁.get? b=some o)→s.heap.get? L'=none→fW fn.sc L' env'→h₁.Ns L' (fun x=>(names.zip ws).reverse.lookup x)→
   wpAny (mo W) (A.deeper env') (execs fn.body env') (fun fl s'=>RR (.ok (.ret (match fl with|.ret v=>v|_=>.none))) s')
    (fun e s'=>wpAny (mo W) (A.deeper env') (leaving env' e) (fun J s''=>RR (.error e) s'') (fun e' s''=>RR (.error e') s'') s') {s with heap:=h₁,toks:=tk}):
  codeAny (mo W) A (.call (.ref f) ⟨ws,[]⟩) RR s:=by
 refine F.obj.elim fun u Z=>?_;have hsc:=F.sc;unfold WV at hsc;simp only[Bool.and_eq_true,Bool.not_eq_true',beq_iff_eq,List.all_eq_true] at hsc;obtain⟨⟨⟨hk,hco⟩,hgen⟩,hcell⟩:=hsc;have en:u.ps.args.map (·.arg)=names:=XJ (by rw[←hps,Z.p];unfold Ib;rw[List.map_map];rfl) h0;refine codeAny_call_function hroom (KI _ _ Z.o) rfl hco hgen rfl (codeRec_of KI Z.c) ?_;rw[MK (fd:=u.d fn) Z.k rfl rfl (by show(u.ps.args.map (·.arg)).length=_;rw[en];exact hl)];refine wpAny_pure ?_;refine Ng (fun x hx z=>by have:=hcell x hx;rw[z] at this;exact Ak this) (fun x hx=>?_) hk fun h₁ hns hfr hkeep hsame=>⟨lim.keeps hkeep,?_⟩
 ·have hx:x∈names.zip ws:=by rw[←en];exact hx
  exact hloc x.1 (List.of_mem_zip hx).1
 ·have hns:h₁.Ns s.heap.objs.size (fun x=>(names.zip ws).reverse.lookup x):=by rw[←en];exact hns
  exact codeAny_func (h (newEnv fn.sc s.heap.objs.size mainGlobals [] (u.q++ ".<locals>.") (some f) u.cd none builtinsNs) s.heap.objs.size h₁ _ hkeep (Heap.get?_none_of_le (Nat.le_refl _)) ⟨rfl,hk,rfl,rfl,rfl⟩ hns)
set_option tactic.hygienic true in
theorem R_{h:Heap} {N:Addr} {mg:Str→Option Value} {n:Str} {v:Value}(X:K.In h)(G:h.Ns N mg)(e:nsIn K N n=some (some v)):mg n=some v:=by
 refine FN G fun o es ep ho hd J hf=>?_;unfold nsIn at e
 split at e
 ·rename_i c d es' n' sl q
  have:=X _ _ q;rw[ho] at this;cases this;clear q ho;cases hd
  split at e
  ·rename_i en he
   rw[←hf];unfold nsFind findBy;rw[←Array.find?_toList,he];exact Option.some.inj e
  ·split at e<;>cases e
 ·exact AD e
theorem Xe{h0:Heap}(KI:K.In h0)(lim:s.heap.NoLimit)(XF:aR K C fI fi){a1 a2:Value} {vs:Array Value}(hk0:∀b o,h0.get? b=some o→s.heap.get? b=some o)(hnew:h0.get? e=none)(he:s.heap.get? e=some {cls:=.ref C,data:=.fields vs})(hroom:A.depth<recursionLimit)
  {RR:Result→Shared→Prop} (q:∀h' tk oe,(∀b o,h0.get? b=some o→h'.get? b=some o)→h'.get? e=some oe→oe.cls=.ref C→oe.data=.fields vs→RR (.ok (.ret .none)) {s with heap:=h',toks:=tk}):
  codeAny (mo W) A (.call (.ref fI) ⟨[.ref e,a1,a2],[]⟩) RR s:=by
 refine XF.cls.elim fun x X=>gB XF.body fun pp pq hb=>?_;refine Es XF.sc fun l1 l2 l3=>?_;have ne0:∀{b o},h0.get? b=some o→b≠e:=fun h z=>by rw[z,hnew] at h;exact AD h
 refine Vp (KI.keeps hk0) lim XF.fn (names:=Iv) XF.ps (by decide+kernel) rfl (fun x hx=>?_) hroom fun env' L' h₁ tk hk1 hL fits hnsL=>?_
 ·rcases List.mem_cons.mp hx with rfl|hx
  ·exact l1
  ·rcases List.mem_cons.mp hx with rfl|hx
   ·exact l2
   ·cases List.mem_singleton.mp hx;exact l3
 rw[hb];have hLe:L'≠e:=fun z=>by rw[z,he] at hL;exact Cq hL
 have name_:∀{h:Heap} {tk:Nat} {x:Str} {p:Pos} {v:Value} {Q:Value→Shared→Prop},h.Ns L' (fun x=>(Iv.zip [.ref e,a1,a2]).reverse.lookup x)→fi.sc.names.lookup x=some .local→(x==("__debug__":Str))=false→(Iv.zip [Value.ref e,a1,a2]).reverse.lookup x=some v→Q v {s with heap:=h,toks:=tk}→
   ∀{E:Value→Shared→Prop},wpAny (mo W) (A.deeper env') (eval (.Name x p) env') Q E {s with heap:=h,toks:=tk}:=fun hn hl hd hv q=>by
  refine wpAny_Name (wpAny_loadName_local (by rw[fits.scope];exact fits.kind) (by show env'.scope.names.lookup _=_;rw[fits.scope];exact hl) (by rw[fits.locals];exact hn) hv q) hd
 have XI:K.In h₁:=(KI.keeps hk0).keeps hk1;have G₁:h₁.Ns x.N (h₁.nsMap x.N):=.of_isNs (isNs_of_in XI X.ns);have he₁:=hk1 _ _ he;refine wpAny_execs_cons (plainObj_wpAny_Assign_Attribute (name_ hnsL l2 (by decide) (by rfl) (name_ hnsL l1 (by decide) (by rfl) ?_)));have hCe:∀{h:Heap},(∀b o,h0.get? b=some o→h.get? b=some o)→h.get? C=some (x.o C):=fun hk=>hk _ _ (KI _ _ X.o);have k01:∀b o,h0.get? b=some o→h₁.get? b=some o:=fun b o h=>hk1 b o (hk0 b o h);refine SU PySem.F.store_Exception (hCe k01) G₁ (nsMap_none_of_in XI X.ns X.sa) (nsMap_none_of_in XI X.ns X.t) Za he₁ rfl rfl rfl fun h₂ tk₂ I₂ he₂ kk₂=>?_;have k02:∀b o,h0.get? b=some o→h₂.get? b=some o:=fun b o h=>kk₂ b o (ne0 h) (k01 b o h);have XI₂:K.In h₂:=KI.keeps k02;have G₂:h₂.Ns x.N (h₂.nsMap x.N):=.of_isNs (isNs_of_in XI₂ X.ns);have hnsL₂:h₂.Ns L' (fun x=>(Iv.zip [.ref e,a1,a2]).reverse.lookup x):=by
  refine Fi hnsL fun o es ep ho r=>?_;exact⟨o,es,ep,kk₂ L' o hLe ho,r⟩
 refine wpAny_execs_cons (plainObj_wpAny_Assign_Attribute (name_ hnsL₂ l3 (by decide) (by rfl) (name_ hnsL₂ l1 (by decide) (by rfl) ?_)));have hxC:e≠C:=fun z=>ne0 (KI _ _ X.o) z.symm;refine store_attr PySem.F.store_Exception (hCe k02) G₂ (nsMap_none_of_in XI₂ X.ns X.sa) (nsMap_none_of_in XI₂ X.ns X.l) Zb hxC I₂ (fun h₃ tk₃ I₃ kk₃ hx₃=>?_) (ns:= ["text"]) (Within.cons _ _ Within.nil);refine V7 (hx₃ _ he₂) fun oe q1 q2 q3 q4 q5=>?_;have hdx:h₁.get? h₁.objs.size=none:=Heap.get?_none_of_le (Nat.le_refl _);refine wpAny_execs_nil (q h₃ tk₃ oe (fun b o h=>kk₃ b o (ne0 h) (fun o₀ dx z1 z2=>?_) (k02 b o h)) q1 q2 q3);rw[he₂] at z1;cases z1;cases z2;exact fun z=>by rw[z] at h;rw[k01 _ _ h] at hdx;exact Cq hdx
end
section
variable{Γ:Fr} {ρ:Af} {σ:St} {Q:Flow→Shared→Prop} {n:Nat} {p:Pos} {C e:Addr} {fi:Fn} {res:RA Mn.X}
theorem Zf(F:D Γ ρ σ){s':Shared}(hk:∀b o,σ.s.heap.get? b=some o→s'.heap.get? b=some o)(hnew:σ.s.heap.get? e=none){oe:Obj} {vs:Array Value} {a0:Value}(he:s'.heap.get? e=some oe)(hc:oe.cls=.ref C)(hd:oe.data=.fields vs)(h1:vs[1]? =some .none)(h0:vs[0]? =some a0)
  (ho:s'.os=σ.s.os) (hg:s'.gens=σ.s.gens):Vx Γ.W Γ.l Γ.Z Γ.σ0 s' C e:=by
 have fr:∀{b o},σ.s.heap.get? b=some o→NF o→b∉Γ.l.filterMap (·.frame):=fun h n hm=>by
  refine AZ (List.mem_filterMap.mp hm) fun env' he' hf=>?_;refine GF (F.S.fr env' he') fun J L' o' q1 q2 q3 q4 q5=>?_;rw[hf] at q1;cases q1;rw[h] at q3;cases q3;exact Lw q4 q5 n
 have toB:∀{b o},σ.s.heap.get? b=some o→NF o→(hideAll σ.s.heap (Γ.l.filterMap (·.frame))).get? b=some o:=fun h n=>hideAll_get _ h (fr h n);refine⟨hideAll σ.s.heap (Γ.l.filterMap (·.frame)),oe,vs,a0,⟨fun b o h=>?_,fun p o h hz hy n=>toB ((F.n0.kp p o h hz hy).1 n) n,fun p o h hz n=>?_,ho.trans F.S.os,hg.trans F.S.gens⟩,fun b o h=>hk _ _ (of_hideAll _ h),?_,?_,he,hc,hd,h1,h0⟩
 ·refine hideAll_get _ (F.S.base b o h) fun hm=>?_
  refine AZ (List.mem_filterMap.mp hm) fun env' he' hf=>?_;refine V8 (F.S.fr env' he') fun J L' o' q1 q2 J=>?_;rw[hf] at q1;clear J;cases q1;rw[q2] at h;exact AD h
 ·refine xE ((F.n0.kp p o h hz (F.ok.s0 p o h n)).2 n) fun sl q=>?_
  exact⟨sl,hk _ _ q⟩
 ·cases q:(hideAll σ.s.heap (Γ.l.filterMap (·.frame))).get? e with
  |none=>rfl
  |some o=>have:=of_hideAll _ q;rw[hnew] at this;exact AD this
 ·refine FF.fun fun env' he'=>?_
  refine GF (F.S.fr env' he') fun hk' L' o' q1 q2 q3 q4 q5=>?_;exact⟨hk',L',o',q1,hideAll_none _ (List.mem_filterMap.mpr ⟨env',he',q1⟩),hk _ _ q3,q4,q5⟩
theorem ZL(IS:Kz n){e:PySem.Expr}(F:D Γ ρ σ)(he:nN (n+1) Γ.cx ρ e σ.h=Γ.res)(x:∀s' e c C,Γ.res=.ex c→Γ.W.ce c=some C→Vx Γ.W Γ.l Γ.Z Γ.σ0 s' C e→Γ.E (.ref e) s'):wA Γ (execs [.Raise (some e) none p] Γ.env) Q σ:=by
 have hn:=F.ok.hn;have wf:=F.ok.wf;obtain⟨c,np,es,cp,rfl⟩:∃c np es cp,e=.Call (.Name c np) es [] cp:=by
  cases e with
  |Call f es ks cp=>
   cases f with
   |Name c np=>cases ks with
    |nil=>exact⟨_,_,_,_,rfl⟩
    |cons=>exact absurd he hn
   |_=>exact absurd he hn
  |_=>exact absurd he hn
 refine xA (Ba (show tB (Dz Γ.cx ρ c&&(FX es&&!(AK (nk c) Γ.cx.g.fns).isSome)) (oA (AK (nk c) Γ.cx.g.cls) fun k=>tB k.exc (oA (AK Cz k.ms) fun fi=>Hu n Γ.cx ρ es σ.h fun vs J=>tB (JX fi.body&&Nat.beq fi.ps.length (Nat.succ vs.length)) (.ex (nk c))))=_ from he) hn) fun c0 he=>?_;refine xA (Bool.and_eq_true_iff.mp c0) fun hg c0=>?_;refine xA (Bool.and_eq_true_iff.mp c0) fun hc J=>?_;refine xA (Bool.and_eq_true_iff.mp hg) fun J hgl=>?_;have hp:=(Bool.and_eq_true_iff.mp hc).1;refine AZ (Ax he hn) fun k e1 he=>?_;refine xA (Ba he hn) fun e2 he=>?_;refine AZ (Ax he hn) fun fi e3 he=>?_;refine xEEA (wf.exci c k fi (F.ok.hg▸e1) e2 e3) fun C fI hC XF=>?_;refine OI (wf.excs c C hC) fun k1 k2 k3 J=>?_;refine XF.cls.elim fun y Y=>XF.fn.obj.elim fun z Z=>?_;rw[execs_cons];refine wpAny_bind ?_;show wA Γ (do standAt p;raiseStmt Γ.env (some (do let v←eval (.Call (.Name c np) es [] cp) Γ.env;standAt p;pure v)) none) _ σ;refine wpAny_bind (wpAny_standAt (Mo (C:=C) (y:=y) F.ok.fa.handled (wpAny_bind ?_)));show wA Γ (do let fv←eval (.Name c np) Γ.env;callWith cp fv [] (backTo cp (starEach es Γ.env)) (backToKw cp (keywordEach [] Γ.env))) _ σ;refine wpAny_bind (Ir F k1 hgl k3 k2 (E8 IS F hp (fun h hB=>keeps_K XF.keep h (wf.kin.keeps hB)) he fun vs ws σ1 e4 N1 D1 w1=>?_));refine xA (Ba e4 hn) fun c1 e4=>?_;refine xA (Bool.and_eq_true_iff.mp c1) fun hb hl=>?_;have hl:fi.ps.length=vs.length+1:=Nat.eq_of_beq_eq_true hl;rw[XF.ps] at hl;have hlen:=w1.length;obtain⟨a1,a2,rfl⟩:∃a1 a2,ws= [a1,a2]:=by
  match ws,hlen with
  | [a1,a2],_=>exact⟨a1,a2,rfl⟩
  | [],h=>simp at h hl;omega
  | [_],h=>simp at h hl;omega
  |_::_::_::_,h=>simp at h hl;omega
 have XI:=wf.kin.keeps D1.S.base;have hdep:=F.ok.fa.depth;have hroom:=F.ok.room;refine wpAny_call_exc_init (h:=σ1.s.heap) (g:=σ1.s.gens) (d:=σ1.s.drawn) (t:=σ1.s.toks) (os:=σ1.s.os) PySem.F.excBase_Exception (XI _ _ Y.o) (.of_isNs (isNs_of_in XI Y.ns)) (R_ XI (.of_isNs (isNs_of_in XI Y.ns)) Y.i) (XI _ _ Z.o) rfl (fun h' e hm=>?_) (by show 2≤sizeLine;rw[sizeLine_eq];omega);refine BU hm.there fun t het J J=>?_;refine wpAny_call (Xe (s:=⟨h',σ1.s.gens,σ1.s.drawn,σ1.s.toks,σ1.s.os⟩) (h0:=σ1.s.heap) XI (wf.lim.keeps fun b o h=>hm.keeps b o (D1.S.base b o h)) XF hm.keeps hm.new het (by show Γ.A.depth+1<1000;omega) fun h3 tk oe kk q1 q2 q3=>?_);refine⟨rfl,wpAny_bind (wpAny_standAt (wpAny_pure ⟨e,oe,_,rfl,kk _ _ (XI _ _ Y.o),q1,q2,q3,rfl,?_⟩))⟩;exact x {σ1.s with heap:=h3,toks:=tk} e (nk c) C e4.symm hC (Zf D1 kk hm.new q1 q2 q3 rfl rfl rfl rfl)
theorem YR(IS:∀m,m<n→Kz m)(IX:ND n):fY (n+1):=fun Γ ρ ss K σ Q T F he q x=>by
 have hn:=F.ok.hn;have plain:BS n Γ.cx ρ ss σ.h K=Γ.res→wA Γ (execs ss Γ.env) Q σ:=fun he=>IX Γ ρ ss K σ Q T F he q;cases ss with
 |nil=>exact wpAny_execs_nil (q .next _ ρ σ he (.refl F.S) F rfl)
 |cons s r=>
  cases s with
  |Raise e c p=>
   cases r with
   |cons=>exact absurd he hn
   |nil=>
    refine AZ (Ax (show oA e (fun e=>tB (!c.isSome) (nN n Γ.cx ρ e σ.h))=_ from he) hn) fun e z1q he=>?_;subst z1q;refine xA (Ba he hn) fun hc he=>?_;cases c with
    |some _=>exact Ak hc
    |none=>clear IX he plain;cases n with
     |zero=>exact absurd he hn
     |succ n=>exact ZL (IS n (Nat.lt_succ_self n)) F he x
  |_=>exact plain he
end
structure sk(n:Nat):Prop where
 ev:NG n
 evo:aS n
 evs:Kz n
 bo:l4 n
 ch:lz n
 cht:aU n
 tc:rT n
 tst:Pe n
 al:l6 n
 ex:rY n
 exs:ND n
 asg:Yt n
 asgs:RJ n
 tps:aO n
 bod:fY n
 inn:Y1 n
 wh:ki n
 fo:lG n
 fr:lF n
 ts:lq n
 lc:ku n
theorem HJ:∀n,∀m,m≤n→sk m
 |0=>fun m h=>by
  cases Nat.le_zero.mp h;exact⟨fun J J J J J J F e=>absurd e F.ok.hn,fun J J J J J J F e=>absurd e F.ok.hn,fun J J J J J J J F e=>absurd e F.ok.hn,fun J J J J J J J J F e=>absurd e F.ok.hn,fun J J J J J J J J J J F e=>absurd e F.ok.hn,fun J J J J J J J J J J F e=>absurd e F.ok.hn,fun J J J J J J J J J F e=>absurd e F.ok.hn,fun J J J J J J F e=>absurd e F.ok.hn,fun J J J J J J J F e=>absurd e F.ok.hn,fun J J J J J J J F e=>absurd e F.ok.hn,fun J J J J J J J F e=>absurd e F.ok.hn,fun J J J J J J J J J F e=>absurd e F.ok.hn,fun J J J J J J J J J F e=>absurd e F.ok.hn,fun J J J J J J F e=>absurd e F.ok.hn,fun J J J J J J J F e=>absurd e F.ok.hn,fun J J J J J J J J J J J J F J J J J J J J J e=>absurd e F.ok.hn,fun J J J J J J J J F J e=>absurd e F.ok.hn,fun J J J J J J J J J J J J L J J e=>absurd e L.ok.hn,fun J J J J J J J J J J J J L J J J e=>absurd e L.ok.hn,fun J J J J J J J J e=>(nomatch e),fun J J J J J J J J J J J J J J J J J J J J J J J hn J J J J J e=>absurd e hn⟩
 |n+1=>fun m h=>by
  rcases Nat.lt_or_eq_of_le h with h|rfl
  ·exact HJ n m (Nat.le_of_lt_succ h)
  ·have a:=HJ n n (Nat.le_refl n)
   have lt:∀m,m<n→sk m:=fun m h=>HJ n m (Nat.le_of_lt h);exact⟨Z4 a.ev a.evo a.evs a.bo a.ch a.tst (fun m h=>(lt m h).inn) a.lc,Xs a.ev,Xr a.ev a.evs,aJ a.ev a.bo,aE a.ev a.ch,X9 a.ev a.cht,ZE a.ev a.cht,WI a.ev a.tst a.tc a.al,aN a.tst a.al,Z3 a.ev a.evs a.tst a.exs a.asg a.asgs a.tps a.wh a.fo a.fr,Xq a.ex a.exs,YX a.ev,Vv a.asg a.asgs,WJ a.ev a.evs,YR (fun m h=>(lt m h).evs) a.exs,Zr a.bod,Y2 a.tst a.exs a.wh,Zy a.exs a.fo,Zv a.exs a.fr,ZC a.tst a.ts,Zl a.ev a.ts a.lc⟩
noncomputable def DQ(T:Pl)(md li n:Nat)(lk:Bool)(fn:Fn)(vs:List V)(h:HA):RA X:=oA (An fn.sc fn.ps vs []) fun ρ=>Q6 n ⟨md,T,gT,0,li,fn.sc,lk,false⟩ ρ fn.body h (ES md h.tmp.isSome)
def UI(P Z:PF):Prop:=∀vs h,P vs h=.no∨P vs h=Z vs h
section
variable{W:Wd} {l:List Env} {X Z:AS} {σ σ':St} {md δ li n d:Nat} {A:Around} {fn:Fn} {f:Addr} {vs:List V} {as:List Value} {R:Result→Shared→Prop} {v:V} {a:Value}
theorem LA{s:Sl} {c:B5}(e:(EX σ).cel s=some c):σ.cel s=some c:=by
 cases s with
 |lo i=>refine xA (Ai (show B0 ([]:List Ob)[i]? ([]:List AA)[i]? (EX σ).μ.nt=some c from e)) fun e J=>?_;exact absurd e (by simp)
 |lex=>revert e;show B0 (some (.inst kL (C5 (EX σ).h σ.μ.lx))) σ.μ.lex (EX σ).μ.nlo=_→B0 (some (.inst kL (C5 σ.h σ.μ.lx))) σ.μ.lex σ.μ.nlo=_;cases σ.μ.lx<;>exact id
 |_=>exact e
theorem X4{a:Addr}:(EX σ).Y a→σ.Y a:=fun⟨s,c,e,h⟩=>⟨s,c,LA e,h⟩
theorem X5:Le (σ.reg X) ((EX σ).reg X):=fun b o e J=>by
 refine xA (AR e) fun e h=>?_;exact Ac e fun q=>h (X4 q)
theorem Nz.cut(N:Nz W l X Z0 σ σ')(h0:σ.μ.lo= []):Nz W l X Z0 σ (EX σ'):=
 {N with
  sr:=⟨fun s c e=>(N.sr.cell s c (LA e)).mono (m':=c.m) (fun b x J h=>h) X5 (.refl _),fun s s' c c' a e1 e2=>N.sr.inj s s' c c' a (LA e1) (LA e2),fun a h=>N.sr.low a (X4 h),N.sr.nt,rfl,N.sr.ngl,N.sr.tx,N.sr.lx,N.sr.base,N.sr.xs,N.sr.fr,N.sr.os,N.sr.gens⟩
  lo:=fun i p h=>by rw[h0] at h;simp at h
  nw:=fun p h=>N.nw p (X4 h)}
theorem VY{n:Nat} {h:HA} {p:V×HA}(e:Jb n v h=some p):CQ p.1=true:=by
 cases n with
 |zero=>exact B3 e (fun c e=>by cases e;exact c) (fun J=>AD)
 |succ n=>exact BQ e (fun l J e=>BQ e (fun q J e=>BQ e (fun J J e=>by cases e;rfl) (fun J=>AD)) (fun J=>AD)) fun J e=>B3 e (fun c e=>by cases e;exact c) (fun J=>AD)
theorem Ja{h:HA} {p:V×HA}(e:SK v h=some p):(CQ p.1||JK p.1)=true:=B3 e (fun c e=>by cases e;rw[c,Bool.or_true]) fun J e=>by rw[VY e];rfl
theorem Vd{b:Bool} {h:HA} {p:V×HA}(e:M6 b v h=some p):(CQ p.1||JK p.1)=true:=by
 cases b with
 |true=>exact BQ e (fun J J e=>aG e (fun J=>AD) Ja) (fun J=>AD)
 |false=>exact BQ e (fun J J e=>aG e (fun J e=>by cases e;rfl) AD) fun J e=>Ja e
theorem eU(N:Nz W l X Z0 σ σ'){p:V×HA}(e:SK v σ'.h=some p)(h:VT W X σ' v a):∃μ',Nz W l X Z0 σ ⟨p.2,μ',σ'.s⟩∧VT W X ⟨p.2,μ',σ'.s⟩ p.1 a:=by
 refine B3 e (fun J e=>?_) fun J e=>?_
 ·cases e;exact⟨_,N,h⟩
 ·refine xA (O7 4 N.sr h e) fun N1 w=>?_
  exact⟨_,N.trans N1,VR.mono (Le.refl _) (.zero _) _ _ w⟩
theorem az{res:RA Mn.X} {fl:Fl} {ρ:Af}(S:SR W l X σ)(h0:σ.μ.lo= [])(hn:RA.no≠res)(hf:fl=.ret v∨fl=.next∧v=.none)(e:ES md σ.h.tmp.isSome fl ρ σ'.h=res)(N:Nz W l X Z0 σ σ')(h:VT W X σ' v a)(C:UL W l X σ (Dj res) R):R (.ok (.ret a)) σ'.s:=by
 have e:Wz md σ.h.tmp.isSome v σ'.h=res:=by
  rcases hf with rfl|⟨rfl,rfl⟩<;>exact e
 refine AZ (Ax (show oA (cC (Nat.beq md 1) (M6 σ.h.tmp.isSome v σ'.h) (SK v σ'.h)) _=res from e) hn) fun p e1 e2=>?_;have:(∃μ',Nz W l X Z0 σ ⟨p.2,μ',σ'.s⟩∧VT W X ⟨p.2,μ',σ'.s⟩ p.1 a)∧(CQ p.1||JK p.1)=true:=B3 e1 (fun J e=>⟨eU N e h,Ja e⟩) fun J e=>⟨Xv S N e h,Vd e⟩;obtain⟨⟨μ',N1,w⟩,c⟩:=this;exact C.ok p.1 [] (EX ⟨p.2,μ',σ'.s⟩) a (by rw[←e2];rfl) (N1.cut h0) (VR.mono X5 (.refl _) _ _ (VR.ret w c rfl))
theorem Wy{fl:Fl} {ρ:Af} {h:HA} {res:RA Mn.X} {b:Bool}(hn:RA.no≠res)(e:ES md b fl ρ h=res):fl≠ .brk∧fl≠ .cont:=by
 constructor<;>(intro z;subst z;exact hn e)
theorem JT(S:SR W l X σ)(h:σ.h.lo= []):σ.μ.lo= []:=by
 have:=S.nlo;rw[h] at this;exact List.length_eq_zero_iff.mp this.symm
theorem LR{T:Pl} {P:PF} {lk:Bool}(wf:WF W)(A:Fg W md δ T)(e:UI P (DQ T md li n lk fn)):Fc W md (δ+li+1) fn P:=fun d A1 l X σ f vs as R fa hd FF S M hlo hv out C=>by
 rcases e vs σ.h with e|e
 ·rw[e] at out
  rcases out with⟨_,_,_,z⟩|⟨_,z⟩<;>cases z
 rw[e] at out C;have hn:RA.no≠DQ T md li n lk fn vs σ.h:=fun z=>by
  rw[←z] at out;rcases out with⟨_,_,_,z⟩|⟨_,z⟩<;>cases z
 refine AZ (Ax (show oA (An fn.sc fn.ps vs []) _=DQ T md li n lk fn vs σ.h from rfl) hn) fun ρ e1 e2=>?_;refine Qh (cx:=⟨md,T,gT,0,li,fn.sc,lk,false⟩) (K:=ES md σ.h.tmp.isSome) (res:=DQ T md li n lk fn vs σ.h) wf S M ⟨fa,Nat.zero_le _,by show d+1+δ+(li-0)≤599;omega,rfl,A⟩ FF rfl e1 hv hn (fun Γ s1 T1 F h1 h2 h3 Q gx hx=>(HJ n n (Nat.le_refl n)).bod Γ ρ fn.body _ _ Q T1 F (by rw[h2,h3];exact e2) gx hx) (fun fl ρ' σ' a v hf e N h=>az S (JT S hlo) hn hf e N h C) (fun c s' e C' h1 h2 h3=>C.ex c s' e C' (by rw[h1];rfl) h2 h3) fun fl ρ h e=>Wy hn e
theorem Fc.mono{δ':Nat} {P:PF}(h:δ≤δ')(s:Fc W md δ fn P):Fc W md δ' fn P:=fun d A l X σ f vs as R fa hd=>s d A l X σ f vs as R fa (by omega)
theorem Fg.mono{δ':Nat} {T:Pl}(h:δ≤δ')(A:Fg W md δ T):Fg W md δ' T:=⟨fun f P e=>let⟨fn,x,y⟩:=A.fn f P e; ⟨fn,x,y.mono h⟩,fun f P e=>let⟨fn,x,y,y0,z⟩:=A.mt f P e; ⟨fn,x,y,y0,z.mono h⟩,fun f bld e=>⟨Nat.le_trans (A.ci f bld e).1 h,(A.ci f bld e).2⟩,fun hm s a l t r e=>let⟨h1,h2,a',l',h3,h4,h5⟩:=A.nxt hm s a l t r e; ⟨h1,h2,a',l',h3,h4,fun d A1 le X σ f fn p R fa hd=>h5 d A1 le X σ f fn p R fa (by omega)⟩⟩
theorem Ce{α:Type} {f g:Nat} {P Q:α} {r:List (Nat×α)} {G:Prop}(e:AK g ((f,P)::r)=some Q)(h:f=g→P=Q→G)(h':AK g r=some Q→G):G:=by
 rw[A7] at e
 by_cases c:f=g
 ·rw[if_pos c] at e;cases e;exact h c rfl
 ·rw[if_neg c] at e;exact h' e
end
noncomputable def Ee:List Nat→Af→Af
 | [],_=> []
 |x::r,ρ=>cO (AK x ρ) (Ee r ρ) fun v=>(x,v)::Ee r ρ
noncomputable def cE:List Nat→List V→Af
 |x::r,v::q=>(x,v)::cE r q
 |_,_=> []
noncomputable def un:List Nat→Af→(List V→RA X)→RA X
 | [],ρ,k=>match ρ with
  | []=>k []
  |_::_=>.no
 |n::ns,ρ,k=>match ρ with
  |p::r=>tB (Nat.beq p.1 n) (un ns r fun vs=>k (p.2::vs))
  | []=>.no
noncomputable def ah(md:Nat):V:=cC (Nat.beq md 1) .lex .par
noncomputable def HX(md:Nat)(v:V):Bool:=match v with
 |.par=>Nat.beq md 1
 |.lex=>!Nat.beq md 1
 |_=>false
noncomputable def RS(md:Nat)(ns:List Nat)(vs:List V):Af:=(k_self,ah md)::cE ns vs
noncomputable def cJ(md:Nat)(ns:List Nat)(ρ:Af)(k:List V→RA X):RA X:=match ρ with
 |p::r=>tB (Nat.beq p.1 k_self&&HX md p.2) (un ns r k)
 | []=>.no
noncomputable def cy(md:Nat)(ns:List Nat)(P:PF)(ρ:Af)(h:HA):RA X:=cJ md ns ρ fun vs=>P vs h
noncomputable def lY(ns:List Nat)(x:Fl)(ρ:Af)(h:HA):RA X:=match x with
 |.ret v=>.ok (.ret v,[]) h
 |x=>.ok (x,Ee (k_self::ns) ρ) h
noncomputable def Jv(n:Nat)(cx:CA)(ns:List Nat)(ρ:Af)(t:Expr)(b:List Stmt)(P:Af→HA→RA X)(h:HA):RA X:=IH n cx ρ t h fun c h=>cC c (lY ns .next ρ h) (BS n cx ρ b h (qh (lY ns) fun ρ h=>P (Ee (k_self::ns) ρ) h))
noncomputable def t0:Nat:=0
noncomputable def t1:Nat:=t0
noncomputable def t2:Nat:=t1
noncomputable def t3:Nat:=t2
noncomputable def t4:Nat:=t3
noncomputable def t5:Nat:=t4
noncomputable def t6:Nat:=t5
noncomputable def t7:Nat:=t6
noncomputable def t8:Nat:=t7
noncomputable def bS(r:RA X)(K:X→HA→RA X):RA X:=(fun(_:Nat)=>bA r K) t8
noncomputable def Mf(x:X)(k:Af→RA X)(r:V→RA X):RA X:=match x.1 with
 |.next=>k x.2
 |.ret v=>r v
 |_=>.no
noncomputable def nH(n:Nat)(cx:CA)(ns:List Nat)(ρ:Af)(pre post:List Stmt)(P:Af→HA→RA X)(h:HA)(K:Fl→Af→HA→RA X):RA X:=BS n cx ρ pre h fun fl ρ h=>match fl with
 |.next=>bS (P (Ee (k_self::ns) ρ) h) fun x h=>Mf x (fun ρ=>cJ cx.md ns ρ fun vs=>BS n cx (RS cx.md ns vs) post h K) fun v=>K (.ret v) [] h
 |fl=>K fl ρ h
noncomputable def WZ(T:Pl)(md li n:Nat)(lk:Bool)(fn:Fn)(ns:List Nat)(pre post:List Stmt)(P:Af→HA→RA X)(vs:List V)(h:HA):RA X:=oA (An fn.sc fn.ps vs []) fun ρ=>nH n ⟨md,T,gT,0,li,fn.sc,lk,true⟩ ns ρ pre post P h (ES md h.tmp.isSome)
theorem aa:∀{ns:List Nat} {ρ:Af} {k:List V→RA X},un ns ρ k=.no∨∃vs,ρ=cE ns vs∧un ns ρ k=k vs
 | [],[],_=>.inr ⟨[],rfl,rfl⟩
 | [],_::_,_=>.inl rfl
 |_::_,[],_=>.inl rfl
 |n::ns,(x,v)::r,k=>by
  show tB (Nat.beq x n) (un ns r fun vs=>k (v::vs))=_∨∃vs,_∧tB (Nat.beq x n) (un ns r fun vs=>k (v::vs))=_;cases z:Nat.beq x n with
  |false=>exact .inl rfl
  |true=>
   cases Nat.eq_of_beq_eq_true z;exact(aa (ns:=ns) (ρ:=r) (k:=fun vs=>k (v::vs))).imp id fun⟨vs,e,e2⟩=>⟨v::vs,by rw[e];rfl,e2⟩
theorem Tf{md:Nat} {v:V}(e:HX md v=true):v=ah md:=by
 unfold ah;cases v with
 |par=>rw[show Nat.beq md 1=true from e]
 |lex=>rw[show Nat.beq md 1=false from Bool.not_eq_true' _▸e]
 |_=>exact Ak e
theorem Rd{md:Nat} {ns:List Nat} {ρ:Af} {k:List V→RA X}:cJ md ns ρ k=.no∨∃vs,ρ=RS md ns vs∧cJ md ns ρ k=k vs:=by
 cases ρ with
 |nil=>exact .inl rfl
 |cons p r=>
  show tB (Nat.beq p.1 k_self&&HX md p.2) (un ns r k)=_∨∃vs,_∧tB (Nat.beq p.1 k_self&&HX md p.2) (un ns r k)=_;cases z:Nat.beq p.1 k_self&&HX md p.2 with
  |false=>exact .inl rfl
  |true=>
   refine xA (Bool.and_eq_true_iff.mp z) fun z1 z2=>?_;refine aa.imp id fun⟨vs,e,e2⟩=>⟨vs,?_,e2⟩;clear z;obtain⟨x,v⟩:=p;rw[e,show x=k_self from Nat.eq_of_beq_eq_true z1,show v=ah md from Tf z2];rfl
theorem Hr{x:Nat} {v:V} {ρ:Af}:∀{ns:List Nat},AK x (Ee ns ρ)=some v→AK x ρ=some v
 | [],e=>by exact AD e
 |y::r,e=>by
  have e:AK x (cO (AK y ρ) (Ee r ρ) fun v=>(y,v)::Ee r ρ)=some v:=e;cases c:AK y ρ with
  |none=>rw[c] at e;exact Hr e
  |some u=>
   rw[c] at e;exact Ce e (fun z w=>by rw[←z,←w];exact c) Hr
section
variable{W:Wd} {md δ li n:Nat} {T:Pl} {Γ:Fr} {ρ ρ':Af} {σ σ':St} {fn:Fn} {t:PySem.Expr} {b:List Stmt} {K:Fl→Af→HA→RA Mn.X} {cx:CA}
theorem D.less(F:D Γ ρ σ)(h:∀x v,AK x ρ'=some v→AK x ρ=some v):D Γ ρ' σ:=by
 refine BU F.nm fun m h1 h2 h3=>?_;have no:∀{k},AK k ρ=none→AK k ρ'=none:=fun{k} e=>by
  cases c:AK k ρ' with
  |none=>rfl
  |some v=>rw[h _ v c] at e;exact Cq e
 exact⟨F.ok,F.n0,F.md,F.fr,m,h1,h2,fun x v e=>h3.val x v (h _ v e),no h3.nz,no h3.dbg⟩
theorem D.keepL(F:D Γ ρ σ){ns:List Nat}:D Γ (Ee ns ρ) σ:=F.less fun J J=>Hr
theorem D.nil(F:D Γ ρ σ):D Γ [] σ:=F.less fun J J e=>nomatch e
theorem D.bd(F:D Γ ρ σ){r:RA Mn.X} {k:Mn.X→HA→RA Mn.X} {E:Value→Shared→Prop}(e:bA r k=Γ.res)(hx:∀s' e c C,Γ.res=.ex c→Γ.W.ce c=some C→(Ci Γ.W Γ.l Γ.Z Γ.σ0 s' C e∨Eg Γ.W Γ.l Γ.Z Γ.L Γ.σ0 s' C e)→E (.ref e) s'):D (fb Γ r E) ρ σ:=
 ⟨⟨F.ok.wf,fun z=>F.ok.hn (by rw[←e,←(show RA.no=r from z)]),F.ok.fa,F.ok.fits,F.ok.frame,F.ok.hg,F.ok.il,F.ok.room,F.ok.tab,fun s' e' c C h=>hx s' e' c C (by rw[←e,show r=.ex c from h]),F.ok.s0⟩,F.n0,F.md,F.fr,F.nm⟩
def LS(W:Wd)(cx:CA)(t:PySem.Expr)(b:List Stmt)(P:Af→HA→RA Mn.X):Prop:=∀Γ ρ σ k RR,Γ.cp=false→Γ.W=W→Γ.cx=cx→D Γ ρ σ→Yq Γ RR→bA (P ρ σ.h) k=Γ.res→Gl Γ σ (fun fl ρ h=>k (fl,ρ) h) RR→codeAny Γ.M Γ.A (.whileLoop t b [] Γ.env) RR σ.s
theorem Zh{P P':Af→HA→RA Mn.X} {ns:List Nat}(S:LS W cx t b P)(e:∀ρ h,P' ρ h=.no∨P' ρ h=Jv n cx ns ρ t b P h):LS W cx t b P':=fun Γ ρ σ k RR T hW hc F h he q=>by
 rcases e ρ σ.h with e|e
 ·rw[e] at he;exact absurd he F.ok.hn
 rw[e] at he;have F':D (fb Γ (Jv n cx ns ρ t b P σ.h) Γ.E) ρ σ:=F.bd he F.ok.x;refine LL (Γ:=fb Γ (Jv n cx ns ρ t b P σ.h) Γ.E) (HJ n n (Nat.le_refl n)).tst (HJ n n (Nat.le_refl n)).exs T F' (K:=lY ns) (P:=fun ρ h=>P (Ee (k_self::ns) ρ) h) (fun s' e' c C h1 h2 h3=>h s' e' c C (by rw[←he,show Jv n cx ns ρ t b P σ.h=.ex c from h1]) h2 h3) (by show IH n Γ.cx ρ t σ.h _=_;rw[hc];rfl) (fun fl w ρ' σ' h1 N D' fr=>?_) fun ρ' σ' h1 N D'=>?_
 ·have D2:=F.as D'
  have h1:lY ns fl ρ' σ'.h=Jv n cx ns ρ t b P σ.h:=h1;rw[←h1] at he;cases fl with
  |ret v=>exact q (.ret v) w [] σ' he N D2.nil fr
  |next=>exact q .next w _ σ' he N D2.keepL fr
  |brk=>exact q .brk w _ σ' he N D2.keepL fr
  |cont=>exact q .cont w _ σ' he N D2.keepL fr
 ·exact S Γ (Ee (k_self::ns) ρ') σ' k RR T hW hc (F.as D').keepL h (by rw[show P (Ee (k_self::ns) ρ') σ'.h=Jv n cx ns ρ t b P σ.h from h1];exact he) (q.nx N)
theorem jc{P P':PF} {ns:List Nat}(S:LS W cx t b (cy md ns P))(e:∀vs h,P' vs h=.no∨P' vs h=Jv n cx ns (RS md ns vs) t b (cy md ns P) h):LS W cx t b (cy md ns P'):=
 Zh S fun ρ h=>by
  rcases Rd (md:=md) (ns:=ns) (ρ:=ρ) (k:=fun vs=>P' vs h) with z|⟨vs,e1,e2⟩
  ·exact .inl z
  ·rcases e vs h with z|z
   ·exact .inl (e2.trans z)
   ·exact .inr (e2.trans (z.trans (by rw[e1])))
theorem jd{ns:List Nat}:LS W cx t b (cy md ns fun J J=>.no):=fun Γ ρ σ k RR J J J F J he J=>by
 refine absurd ?_ F.ok.hn;rw[←he];rcases Rd (md:=md) (ns:=ns) (ρ:=ρ) (k:=fun J=>(.no:RA Mn.X)) with e|⟨_,_,e⟩<;>(show RA.no=bA (cJ md ns ρ fun J=>.no) k;rw[e])
theorem aq{rest:List Stmt} {Q:Flow→Shared→Prop}(T:Γ.cp=false):∀(pre:List Stmt) (k:Nat) {ρ:Af} {σ:St},D Γ ρ σ→BS k Γ.cx ρ pre σ.h K=Γ.res→(∀ρ' σ',K .next ρ' σ'.h=Γ.res→Γ.N σ σ'→D Γ ρ' σ'→wA Γ (execs rest Γ.env) Q σ')→(∀fl w ρ' σ',fl≠ .next→K fl ρ' σ'.h=Γ.res→Γ.N σ σ'→D Γ ρ' σ'→rX Γ.W Γ.X σ' fl w→Q w σ'.s)→wA Γ (execs (pre++rest) Γ.env) Q σ
 |pre,0,ρ,σ,F,e,_,_=>absurd e F.ok.hn
 | [],k+1,ρ,σ,F,e,q,_=>q ρ σ e (.refl F.S) F
 |s::r,k+1,ρ,σ,F,e,q,q'=>by
  show wA Γ (execs (s::(r++rest)) Γ.env) Q σ;rw[execs_cons];refine wpAny_bind ((HJ k k (Nat.le_refl k)).ex Γ ρ s _ σ _ T F e fun fl w ρ' σ1 e1 N1 D1 fr=>?_);cases fl with
  |next=>cases(show w=.next from fr);exact aq T r k D1 e1 (fun ρ2 σ2 a N2=>q ρ2 σ2 a (N1.trans N2)) fun fl w ρ2 σ2 n a N2=>q' fl w ρ2 σ2 n a (N1.trans N2)
  |brk=>cases(show w=.brk from fr);exact wpAny_pure (q' .brk _ ρ' σ1 nofun e1 N1 D1 rfl)
  |cont=>cases(show w=.cont from fr);exact wpAny_pure (q' .cont _ ρ' σ1 nofun e1 N1 D1 rfl)
  |ret v=>refine AZ fr fun y z1q hy=>?_;subst z1q;exact wpAny_pure (q' (.ret v) _ ρ' σ1 nofun e1 N1 D1 ⟨y,rfl,hy⟩)
theorem ZI{lk:Bool} {ns:List Nat} {pre post:List Stmt} {p:Pos} {P:Af→HA→RA Mn.X} {P':PF}(wf:WF W)(A:Fg W md δ T)(S:LS W ⟨md,T,gT,0,li,fn.sc,lk,true⟩ t b P)(hb:fn.body=pre++ .While t b [] p::post)(e:UI P' (WZ T md li n lk fn ns pre post P)):Fc W md (δ+li+1) fn P':=fun d A1 l X σ f vs as R fa hd FF S0 M hlo hv out C=>by
 rcases e vs σ.h with e|e
 ·rw[e] at out
  rcases out with⟨_,_,_,z⟩|⟨_,z⟩<;>cases z
 rw[e] at out C;have hn:RA.no≠WZ T md li n lk fn ns pre post P vs σ.h:=fun z=>by
  rw[←z] at out;rcases out with⟨_,_,_,z⟩|⟨_,z⟩<;>cases z
 refine AZ (Ax (show oA (An fn.sc fn.ps vs []) _=WZ T md li n lk fn ns pre post P vs σ.h from rfl) hn) fun ρ e1 e2=>?_;refine Qh (cx:=⟨md,T,gT,0,li,fn.sc,lk,true⟩) (K:=ES md σ.h.tmp.isSome) (res:=WZ T md li n lk fn ns pre post P vs σ.h) wf S0 M ⟨fa,Nat.zero_le _,by show d+1+δ+(li-0)≤599;omega,rfl,A⟩ FF rfl e1 hv hn (fun Γ s1 T1 F h1 h2 h3 Q gx J=>?_) (fun fl ρ' σ' a v hf e N h=>az S0 (JT S0 hlo) hn hf e N h C) (fun c s' e C' h1 h2 h3=>C.ex c s' e C' (by rw[h1];rfl) h2 h3) fun fl ρ h e=>Wy hn e;rw[hb];have I:=HJ n n (Nat.le_refl n);refine aq (K:=fun fl ρ h=>match fl with
  |.next=>bA (P (Ee (k_self::ns) ρ) h) fun x h=>Mf x (fun ρ=>cJ md ns ρ fun vs=>BS n ⟨md,T,gT,0,li,fn.sc,lk,true⟩ (RS md ns vs) post h (ES md σ.h.tmp.isSome)) fun v=>ES md σ.h.tmp.isSome (.ret v) [] h
  |fl=>ES md σ.h.tmp.isSome fl ρ h) T1 pre n F (by show BS n Γ.cx ρ pre σ.h _=_;rw[h2,h3];exact e2) (fun ρ' σ' e3 N1 D1=>?_) (fun fl w ρ' σ' hne e3 N1 D1 fr=>?_)
 ·show wA Γ (execs (.While t b [] p::post) Γ.env) Q σ'
  rw[execs_cons];refine wpAny_bind (wpAny_While (S Γ _ σ' _ (qg Γ _) T1 h1 h2 D1.keepL (Yq.of T1 D1) e3 fun fl w ρ2 σ2 e4 N2 D2 fr=>?_));cases fl with
  |next=>
   cases(show w=.next from fr);have e4:(cJ md ns ρ2 fun vs=>BS n ⟨md,T,gT,0,li,fn.sc,lk,true⟩ (RS md ns vs) post σ2.h (ES md σ.h.tmp.isSome))=Γ.res:=e4;rcases Rd (md:=md) (ns:=ns) (ρ:=ρ2) (k:=fun vs=>BS n ⟨md,T,gT,0,li,fn.sc,lk,true⟩ (RS md ns vs) post σ2.h (ES md σ.h.tmp.isSome)) with z|⟨ws,e5,z⟩
   ·rw[z] at e4;exact absurd e4 F.ok.hn
   ·rw[z] at e4
    exact I.exs Γ ρ2 post _ σ2 Q T1 D2 (by rw[h2,e5];exact e4) (gx.nx (N1.trans N2))
  |ret v=>refine AZ fr fun y z1q hy=>?_;subst z1q;exact wpAny_pure (gx (.ret v) _ [] σ2 e4 (N1.trans N2) D2.nil ⟨y,rfl,hy⟩)
  |brk=>exact absurd e4 F.ok.hn
  |cont=>exact absurd e4 F.ok.hn
 ·cases fl with
  |next=>exact absurd rfl hne
  |_=>exact gx _ w ρ' σ' e3 N1 D1 fr
end
noncomputable def Al(vs:List V):Option (List (Nat×V)):=match vs with
 | [a,b,c]=>some [(AJ,a),(AI,b),(DB,c),(K8,.none)]
 |_=>none
noncomputable def kZ(vs:List V):Option (List (Nat×V)):=match vs with
 | [a,b,c,d,e,f]=>some [(AJ,a),(AG,b),(AI,c),(AW,d),(CR,e),(Dt,f),(Ao,.bool false),(BK,.bool true)]
 |_=>none
noncomputable def fG:List (Nat×(List V→Option (List (Nat×V)))):= [(AL,Al),(Bh,kZ)]
noncomputable abbrev Me(f:Fn):CA:=⟨3,⟨[],[],[],[]⟩,gT,0,0,f.sc,false,false⟩
noncomputable abbrev Mc:Fl→Af→HA→RA X:=fun fl ρ h=>.ok (fl,ρ) h
noncomputable abbrev hT(h:HA)(c:Nat)(fs:List (Nat×V)):HA:={h with tmp:=some (c,fs)}
theorem OU{h:HA} {c:Nat} {fs:List (Nat×V)} {k:Nat} {v:V} {r:HA→RA X} {q:RA X}(hv:cN v=true)(hb:Nat.blt fs.length 900=true)(e:r (hT h c (IK k v fs))=q):oA (sv 3 (hT h c fs) .tmp k v) r=q:=by
 have e1:GK (hT h c fs) v=v:=by cases v<;>first|rfl|exact Ak hv
 rw[show sv 3 (hT h c fs) .tmp k v=cC (cN (GK (hT h c fs) v)&&Nat.blt fs.length 900) none (some (hT h c (IK k (GK (hT h c fs) v) fs))) from rfl,e1,hv,hb];exact e
noncomputable abbrev J3(a b c:V):Af:= [(DB,c),(AI,b),(AJ,a),(k_self,.tmp)]
theorem dh{h:HA} {a b c:V}(h1:cN a=true)(h2:cN b=true)(h3:cN c=true):Q6 30 (Me BA) (J3 a b c) BA.body (hT h AL []) Mc=.ok (.next,J3 a b c) (hT h AL [(AJ,a),(AI,b),(DB,c),(K8,.none)]):=by
 refine(show Q6 30 (Me BA) (J3 a b c) BA.body (hT h AL []) Mc=oA (sv 3 (hT h AL []) .tmp AJ a) fun h=>BS 28 (Me BA) (J3 a b c) (BA.body.drop 1) h Mc by kernel_rfl).trans (OU h1 rfl ?_);refine(show BS 28 (Me BA) (J3 a b c) (BA.body.drop 1) (hT h AL [(AJ,a)]) Mc=oA (sv 3 (hT h AL [(AJ,a)]) .tmp AI b) fun h=>BS 27 (Me BA) (J3 a b c) (BA.body.drop 2) h Mc by kernel_rfl).trans (OU h2 rfl ?_);refine(show BS 27 (Me BA) (J3 a b c) (BA.body.drop 2) (hT h AL [(AJ,a),(AI,b)]) Mc=oA (sv 3 (hT h AL [(AJ,a),(AI,b)]) .tmp DB c) fun h=>BS 26 (Me BA) (J3 a b c) (BA.body.drop 3) h Mc by kernel_rfl).trans (OU h3 rfl ?_);kernel_rfl
noncomputable abbrev IQ(a b c e f g:V):Af:= [(Dt,g),(CR,f),(AW,e),(AI,c),(AG,b),(AJ,a),(k_self,.tmp)]
theorem gO{h:HA} {a b c e f g:V}(h1:cN a=true)(h2:cN b=true)(h3:cN c=true)(h4:cN e=true)(h5:cN f=true)(h6:cN g=true):Q6 30 (Me AN) (IQ a b c e f g) AN.body (hT h Bh []) Mc=.ok (.next,IQ a b c e f g) (hT h Bh [(AJ,a),(AG,b),(AI,c),(AW,e),(CR,f),(Dt,g),(Ao,.bool false),(BK,.bool true)]):=by
 refine(show Q6 30 (Me AN) (IQ a b c e f g) AN.body (hT h Bh []) Mc=oA (sv 3 (hT h Bh []) .tmp AJ a) fun h=>BS 28 (Me AN) (IQ a b c e f g) (AN.body.drop 1) h Mc by kernel_rfl).trans (OU h1 rfl ?_);refine(show BS 28 (Me AN) (IQ a b c e f g) (AN.body.drop 1) (hT h Bh [(AJ,a)]) Mc=oA (sv 3 (hT h Bh [(AJ,a)]) .tmp AG b) fun h=>BS 27 (Me AN) (IQ a b c e f g) (AN.body.drop 2) h Mc by kernel_rfl).trans (OU h2 rfl ?_);refine(show BS 27 (Me AN) (IQ a b c e f g) (AN.body.drop 2) (hT h Bh [(AJ,a),(AG,b)]) Mc=oA (sv 3 (hT h Bh [(AJ,a),(AG,b)]) .tmp AI c) fun h=>BS 26 (Me AN) (IQ a b c e f g) (AN.body.drop 3) h Mc by kernel_rfl).trans (OU h3 rfl ?_);refine(show BS 26 (Me AN) (IQ a b c e f g) (AN.body.drop 3) (hT h Bh [(AJ,a),(AG,b),(AI,c)]) Mc=oA (sv 3 (hT h Bh [(AJ,a),(AG,b),(AI,c)]) .tmp AW e) fun h=>BS 25 (Me AN) (IQ a b c e f g) (AN.body.drop 4) h Mc by kernel_rfl).trans (OU h4 rfl ?_);refine(show BS 25 (Me AN) (IQ a b c e f g) (AN.body.drop 4) (hT h Bh [(AJ,a),(AG,b),(AI,c),(AW,e)]) Mc=oA (sv 3 (hT h Bh [(AJ,a),(AG,b),(AI,c),(AW,e)]) .tmp CR f) fun h=>BS 24 (Me AN) (IQ a b c e f g) (AN.body.drop 5) h Mc by kernel_rfl).trans (OU h5 rfl ?_);refine(show BS 24 (Me AN) (IQ a b c e f g) (AN.body.drop 5) (hT h Bh [(AJ,a),(AG,b),(AI,c),(AW,e),(CR,f)]) Mc=oA (sv 3 (hT h Bh [(AJ,a),(AG,b),(AI,c),(AW,e),(CR,f)]) .tmp Dt g) fun h=>BS 23 (Me AN) (IQ a b c e f g) (AN.body.drop 6) h Mc by kernel_rfl).trans (OU h6 rfl ?_);kernel_rfl
section
variable{W:Wd}
theorem ba(wf:WF W){f:Nat} {bld:List V→Option (List (Nat×V))} {fi:Fn}(hf:DR gT f Cz=some fi)(hb:∀h vs fs,bld vs=some fs→vs.all cN=true→∃ρ,An fi.sc fi.ps (.tmp::vs) []=some ρ∧Q6 30 (Me fi) ρ fi.body (hT h f []) Mc=.ok (.next,ρ) (hT h f fs)):lI W f bld:=fun A l d X σ C vs ws fs R hC fa hd S ht e hc hv q=>by
 refine AZ (hb σ.h vs fs e hc) fun ρ e1 e2=>?_;refine XK wf S hC hf fun fI FF=>?_;have N:=Zd S hC ht;have hv':Q8 W X ⟨hT σ.h f [],{σ.μ with tm:=some (Dk σ)},KO σ C⟩ (.tmp::vs) (.ref (Dk σ).1::ws):=.cons (by unfold VR;exact⟨_,rfl,rfl⟩) (hv.nz .zero N);refine Qh (σ:=⟨hT σ.h f [],{σ.μ with tm:=some (Dk σ)},KO σ C⟩) (cx:=Me fi) (K:=Mc) (res:=.ok (.next,ρ) (hT σ.h f fs)) (R:=InitBack (Dk σ).1 R) (d:=d+1) (δ:=0) wf N.sr ⟨nofun,nofun,nofun⟩ ⟨fa.under,Nat.le_refl _,by show d+1+1+0+0≤599;omega,rfl,⟨(fun J J=>AD),(fun J J=>AD),(fun J J=>AD),nofun⟩⟩ FF rfl e1 hv' nofun (fun Γ s1 T1 F h1 h2 h3 Q gx hx=>(HJ 30 30 (Nat.le_refl _)).bod Γ ρ fi.body _ _ Q T1 F (by rw[h2,h3];exact e2) gx hx) (fun fl ρ' σ' a v hf e N' h=>?_) (fun c s' e C' h1=>nomatch h1) fun fl ρ' h e=>by cases e;exact⟨nofun,nofun⟩
 rcases hf with rfl|⟨rfl,rfl⟩
 ·cases e
 ·cases VR.no h
  injection e with e3 e4
  have N2:=N.trans N';obtain⟨h',μ',s'⟩:=σ';have e4:hT σ.h f fs=h':=e4.symm;clear h;subst e4;exact⟨rfl,q (Dk σ) μ' s' (N'.tm _ rfl) N2⟩
theorem kK(wf:WF W)(f:Nat)(bld:List V→Option (List (Nat×V)))(e:AK f fG=some bld):lI W f bld:=Ce e
 (fun z y=>by
  subst z;clear e;subst y;refine ba wf (fi:=BA) (by kernel_rfl) fun h vs fs e c=>?_
  match vs,e,c with
  | [a,b,c],e,hc=>
   cases e;refine xA (A8 hc) fun c1 hc=>?_;refine xA (A8 hc) fun c2 hc=>?_;refine xA (A8 hc) fun c3 hc=>?_;exact⟨_,by kernel_rfl,dh c1 c2 c3⟩)
 fun e=>Ce e (fun z y=>by
  subst z;clear e;subst y;refine ba wf (fi:=AN) (by kernel_rfl) fun h vs fs e c=>?_
  match vs,e,c with
  | [a,b,c,e,f,g],e',hc=>
   cases e';refine xA (A8 hc) fun c1 hc=>?_;refine xA (A8 hc) fun c2 hc=>?_;refine xA (A8 hc) fun c3 hc=>?_;refine xA (A8 hc) fun c4 hc=>?_;refine xA (A8 hc) fun c5 hc=>?_;refine xA (A8 hc) fun c6 hc=>?_;exact⟨_,by kernel_rfl,gO c1 c2 c3 c4 c5 c6⟩) AD
end
noncomputable def jm(i:Nat):Ob:=.inst DD [(Ez,gr i),(DZ,.int 0),(DU,.int 0)]
noncomputable def SY(i:Nat)(v:V):Bool:=cG v false fun k=>Nat.beq k i
noncomputable def eH(i:Nat)(o:Ob):Bool:=cF o false fun c fs=>match fs with
 |a::r=>(match r with
  |b::r=>c1 r false fun d=>(Nat.beq c DD&&(Nat.beq a.1 Ez&&(Nat.beq b.1 DZ&&Nat.beq d.1 DU)))&&(SY i a.2&&(f6 b.2&&f6 d.2))
  | []=>false)
 | []=>false
noncomputable def dp(o:Ob):Bool:=cL o false fun l=>match l with
 | []=>true
 |_::_=>false
noncomputable def jq(v:V):Bool:=match v with
 |.lv l=>(match l with
  | []=>true
  |_::_=>false)
 |_=>false
noncomputable def P_(h:HA):Bool:=(cA h.tok&&cA h.later)&&((cA h.strict&&cA h.depth)&&jq h.pend)
noncomputable def WL(j:Nat)(gl:List Ob):Bool:=match gl with
 |a::r=>(match r with
  |b::_=>eH (Nat.succ j) a&&dp b
  | []=>false)
 | []=>false
noncomputable def gb(h:HA)(j:Nat):Bool:=(P_ h&&SY j h.jumps)&&(WL j (h.gl.drop j)&&Nat.beq h.gl.length (Nat.add j 2))
noncomputable def qk(h:HA):Nat:=cG h.jumps 0 id
noncomputable abbrev lZ(h:HA):HA:={h with gl:= [jm 1,.list []],jumps:=gr 0}
noncomputable abbrev R7(h h3:HA):HA:={h3 with gl:=h.gl,jumps:=h.jumps,lo:= []}
noncomputable def kM(v:V):Bool:=match v with
 |.par=>true
 |v=>cA v
noncomputable def wB(P:PF):PF:=fun vs h=>tB (gb h (qk h)&&vs.all kM) (bA (P vs (lZ h)) fun x h3=>tB ((P_ h3&&SY 0 h3.jumps)&&WL 0 h3.gl) (Wb x fun v=>tB (CQ v) (.ok x (R7 h h3))))
theorem SX{i:Nat} {v:V}(e:SY i v=true):v=gr i:=rK e (fun k h e=>by rw[h,Nat.eq_of_beq_eq_true e]) Ak
theorem bO{v:V}(e:f6 v=true):v=.int 0:=DK e (fun i h e=>Ji e (fun n h2 e=>by rw[h,h2,Nat.eq_of_beq_eq_true e];rfl) Ak) Ak
theorem eG{i:Nat} {o:Ob}(e:eH i o=true):o=jm i:=aI e (fun c fs h e=>by
 match fs,e with
 | [(a,x),(b,y),(d,z)],e=>
  refine xA (A8 (show((Nat.beq c DD&&(Nat.beq a Ez&&(Nat.beq b DZ&&Nat.beq d DU)))&&(SY i x&&(f6 y&&f6 z)))=true from e)) fun a b=>?_;refine xA (A8 a) fun a1 a=>?_;refine xA (A8 a) fun a2 a=>?_;refine xA (A8 a) fun a3 a4=>?_;refine xA (A8 b) fun b1 b=>?_;refine xA (A8 b) fun b2 b3=>?_;rw[h,Nat.eq_of_beq_eq_true a1,Nat.eq_of_beq_eq_true a2,Nat.eq_of_beq_eq_true a3,Nat.eq_of_beq_eq_true a4,SX b1,bO b2,bO b3];rfl) Ak
theorem dn{o:Ob}(e:dp o=true):o=.list []:=aH e (fun l h e=>by
 cases l with
 |nil=>exact h
 |cons=>exact Ak e) Ak
theorem eK{v:V}(e:jq v=true):v=lv []:=by
 cases v with
 |lv l=>cases l with
  |nil=>rfl
  |cons=>exact Ak e
 |_=>exact Ak e
theorem WK{j:Nat} {gl:List Ob}(e:WL j gl=true):gl[0]? =some (jm (j+1))∧gl[1]? =some (.list []):=by
 match gl,e with
 |a::b::r,e=>
  refine xA (A8 (show(eH (Nat.succ j) a&&dp b)=true from e)) fun e1 e2=>?_;rw[eG e1,dn e2];exact⟨rfl,rfl⟩
 | [_],e=>exact Ak e
 | [],e=>exact Ak e
section
variable{P:Params} {ca:Ca} {gf g:Hp} {m m':Mu}
abbrev Vt(P:Params)(ca:Ca)(m m':Mu)(v w:V):Prop:=∀g a,VR P ca g m v a→VR P ca g m' w a
noncomputable def Rf(P:Params)(ca:Ca)(m m':Mu):List (Nat×V)→List (Nat×V)→Prop
 | [],[]=>True
 |p::r,q::s=>(p.1=q.1∧Vt P ca m m' p.2 q.2)∧Rf P ca m m' r s
 |_,_=>False
theorem Cs.rel:∀{fs fs':List (Nat×V)} {es:List DictEntry},Rf P ca m m' fs fs'→Cs P ca gf m fs es→Cs P ca gf m' fs' es
 | [],[],_,_,h=>by unfold Cs at h⊢;exact h
 |(k,v)::r,(k',w)::s,_,⟨⟨e,h1⟩,h2⟩,h=>by
  cases e;unfold Cs at h⊢;refine Bq h fun hs x t a q e k1 k2 k3 k4=>?_;exact⟨hs,x,t,a,q,e,k1,k2,h1 _ _ k3,Cs.rel h2 k4⟩
 | [],_::_,_,h,_=>h.elim
 |_::_,[],_,h,_=>h.elim
theorem DI.rel{c c':Nat} {fs fs':List (Nat×V)} {p:AA}(e:c=c')(h:Rf P ca m m' fs fs')(o:DI P ca gf g ⟨.inst c fs,p,m⟩):DI P ca gf g ⟨.inst c' fs',p,m'⟩:=by
 subst e;refine CV o fun C es n e h1 h2 h3 h4=>?_;exact⟨C,es,n,e,h1,h2,h3.rel h,h4⟩
theorem Vt.c{v w:V}(e:w=v)(c:cA v=true):Vt P ca m m' v w:=fun J J h=>e▸h.cl c
theorem Vt.gg{i j:Nat}(h:∀p,m.gl[i]? =some p→m'.gl[j]? =some p):Vt P ca m m' (gr i) (gr j):=fun J J e=>by
 unfold VR at e⊢;refine AZ e fun p e q=>?_;exact⟨p,h p e,q⟩
theorem Vt.l0:Vt P ca m m' (lv []) (lv []):=fun J J e=>by
 unfold VR at e⊢;refine A_ e fun b xs n e h1 h2=>?_;exact⟨b,xs,n,e,h1,by unfold BC at h2⊢;exact h2⟩
theorem Wn{h h':HA} {i j:Nat} {p:AA}(s:P_ h=true)(e1:h'.tok=h.tok)(e2:h'.later=h.later)(e3:h'.strict=h.strict)(e4:h'.depth=h.depth)(e5:h'.pend=h.pend)(j1:h.jumps=gr i)(j2:h'.jumps=gr j)(hl:m'.lex=m.lex)(hg:∀p,m.gl[i]? =some p→m'.gl[j]? =some p)(o:DI P ca gf g ⟨.inst kP (Dn h 7),p,m⟩):DI P ca gf g ⟨.inst kP (Dn h' 7),p,m'⟩:=by
 refine xA (A8 s) fun s1 s2=>?_;refine xA (A8 s1) fun s1 s3=>?_;refine xA (A8 s2) fun s2 s6=>?_;refine xA (A8 s2) fun s2 s4=>?_;have p1:=eK s6;refine DI.rel rfl (show Rf P ca m m' (Dn h 7) (Dn h' 7) from⟨⟨rfl,fun J J h=>?_⟩,⟨rfl,Vt.c e1 s1⟩,⟨rfl,Vt.c e2 s3⟩,⟨rfl,Vt.c e3 s2⟩,⟨rfl,Vt.c e4 s4⟩,⟨rfl,?_⟩,⟨rfl,?_⟩,trivial⟩) o
 ·show VR _ _ _ _ .lex _
  have h:VR P ca _ m .lex _:=h;unfold VR at h⊢;rw[hl];exact h
 ·show Vt P ca m m' h.jumps h'.jumps
  rw[j1,j2];exact Vt.gg hg
 ·show Vt P ca m m' h.pend h'.pend
  rw[e5,p1];exact Vt.l0
theorem Te{i j:Nat} {p:AA}(hg:∀p,m.gl[i]? =some p→m'.gl[j]? =some p)(o:DI P ca gf g ⟨jm i,p,m⟩):DI P ca gf g ⟨jm j,p,m'⟩:=
 DI.rel rfl (show Rf P ca m m' [(Ez,gr i),(DZ,.int 0),(DU,.int 0)] [(Ez,gr j),(DZ,.int 0),(DU,.int 0)] from⟨⟨rfl,Vt.gg hg⟩,⟨rfl,Vt.c rfl rfl⟩,⟨rfl,Vt.c rfl rfl⟩,trivial⟩) o
theorem Ow{p:AA}(o:DI P ca gf g ⟨.list [],p,m⟩):DI P ca gf g ⟨.list [],p,m'⟩:=by
 refine xEEA o fun xs n h1 h2=>?_;exact⟨xs,n,h1,by unfold BC at h2⊢;exact h2⟩
end
noncomputable def jl(j:Nat):Sl→Sl
 |.gl i=>.gl (j+i)
 |s=>s
noncomputable def sJ(j:Nat):Sl→Option Sl
 |.gl i=>if j≤i then some (.gl (i-j)) else none
 |s=>some s
theorem Zo{j:Nat} {s s':Sl}(h:jl j s=jl j s'):s=s':=by
 cases s<;>cases s'<;>first|exact h|(cases h;done)|exact congrArg Sl.gl (Nat.add_left_cancel (Sl.gl.inj h))
theorem bI{j:Nat} {s t:Sl}(h:sJ j s=some t):s=jl j t:=by
 cases s with
 |gl i=>
  have h:(if j≤i then some (Sl.gl (i-j)) else none)=some t:=h
  split at h
  ·cases h;exact congrArg Sl.gl (by omega)
  ·exact AD h
 |_=>cases h;rfl
section
variable{W:Wd} {δ:Nat} {fn:Fn} {P:PF}
noncomputable abbrev To(σ:St)(p q:AA):St:=⟨lZ σ.h,{σ.μ with gl:= [p,q]},σ.s⟩
noncomputable abbrev VP(σ σ':St):St:=⟨R7 σ.h σ'.h,{σ'.μ with gl:=σ.μ.gl,lo:= []},σ'.s⟩
theorem gK(hx:∀s a l r,W.LX s a l r→cA l=true)(H:Fc W 1 δ fn P):Fc W 1 δ fn (wB P):=fun d A1 l X σ f vs as R fa hd FF S M hlo hv out C=>by
 have hn:RA.no≠wB P vs σ.h:=fun z=>by
  rw[←z] at out;rcases out with⟨_,_,_,z⟩|⟨_,z⟩<;>cases z
 refine xA (Ba (show tB (gb σ.h (qk σ.h)&&vs.all kM) _=wB P vs σ.h from rfl) hn) fun c e=>?_
 generalize qk σ.h=j at c
 refine xA (A8 c) fun c cv=>?_;refine xA (A8 c) fun c1 c2=>?_;refine xA (A8 c1) fun cs cj=>?_;refine xA (A8 c2) fun ct cl=>?_;have cl:σ.h.gl.length=j+2:=Nat.eq_of_beq_eq_true cl;have cj:=SX cj;refine xA (WK ct) fun g0 g1=>?_;rw[List.getElem?_drop] at g0 g1;have g0:σ.h.gl[j]? =some (jm (j+1)):=g0;have ml:σ.μ.gl.length=j+2:=S.ngl.symm.trans cl;obtain⟨p,hp⟩:∃p,σ.μ.gl[j]? =some p:=⟨_,List.getElem?_eq_getElem (by omega)⟩;obtain⟨q,hq⟩:∃q,σ.μ.gl[j+1]? =some q:=⟨_,List.getElem?_eq_getElem (by omega)⟩;refine OI (M.m1 rfl) fun m1 m2 m3 m4=>?_;refine xE (Option.ne_none_iff_exists'.mp m3) fun x ex=>?_;have lo0:=JT S hlo;have cx:((C5 σ.h (some x)).all fun p=>cA p.2)=true:=JV (hx _ _ _ _ (S.lx x ex));have gl_in:∀i c1,(To σ p q).cel (.gl i)=some c1→(i=0∧c1=⟨jm 1,p,(To σ p q).μ.nlo⟩)∨(i=1∧c1=⟨.list [],q,(To σ p q).μ.nlo⟩):=fun i c1 e=>by
  refine Es (Ai (show B0 [jm 1,Ob.list []][i]? [p,q][i]? (To σ p q).μ.nlo=some c1 from e)) fun e1 e2 e3=>?_;obtain⟨o1,p1,k1⟩:=c1;subst e3
  match i,e1,e2 with
  |0,e1,e2=>exact .inl ⟨rfl,by rw[show o1=jm 1 from(Option.some.inj e1).symm,show p1=p from(Option.some.inj e2).symm]⟩
  |1,e1,e2=>exact .inr ⟨rfl,by rw[show o1=.list [] from(Option.some.inj e1).symm,show p1=q from(Option.some.inj e2).symm]⟩
  |i+2,e1,_=>exact absurd e1 (by simp)
 have out0:∀{o p i},σ.h.gl[i]? =some o→σ.μ.gl[i]? =some p→σ.cel (.gl i)=some ⟨o,p,σ.μ.nlo⟩:=fun e1 e2=>by show B0 _ _ _=_;rw[e1,e2];rfl
 refine xE (Option.ne_none_iff_exists'.mp m1) fun pp ep=>?_;refine xE (Option.ne_none_iff_exists'.mp m2) fun pl el=>?_;have w:Pd W (jl j) σ (To σ p q):=by
  refine⟨rfl,fun s c1 e=>?_,fun s s' c c' J J h=>?_⟩
  ·cases s with
   |par=>
    cases e.symm.trans (Df (h:=lZ σ.h) (μ:={σ.μ with gl:= [p,q]}) ep m4);exact⟨_,Df ep m4,fun J h=>h,fun gf g o=>Wn (m:=σ.μ.nlo) cs rfl rfl rfl rfl rfl cj rfl rfl (fun r h=>by cases hp.symm.trans h;rfl) o⟩
   |lex=>
    cases e.symm.trans (Bc (h:=lZ σ.h) (μ:={σ.μ with gl:= [p,q]}) el ex);exact⟨_,Bc el ex,fun J h=>h,fun gf g o=>DI.cl o cx⟩
   |tmp=>exact⟨c1,e,fun J h=>h,fun J J h=>h⟩
   |lo i=>refine xA (Ai (show B0 σ.h.lo[i]? σ.μ.lo[i]? _=some c1 from e)) fun e J=>?_;rw[hlo] at e;simp at e
   |gl i=>
    rcases gl_in i c1 e with⟨rfl,rfl⟩|⟨rfl,rfl⟩
    ·exact⟨_,out0 g0 hp,fun J h=>h,fun gf g o=>Te (m:=σ.μ.nlo) (fun r h=>by cases hq.symm.trans h;rfl) o⟩
    ·exact⟨_,out0 g1 hq,fun J h=>h,fun gf g o=>Ow o⟩
  ·exact Zo h
 have S1:SR W l (Kl X σ (To σ p q)) (To σ p q):=S.view (LX:=W.LX) w S.nt S.nlo rfl S.tx S.lx;have le:=Og (X:=X) (fun a=>w.sub (a:=a)) w.sh;have out1:Np (P vs (To σ p q).h):=by
  cases z:P vs (To σ p q).h with
  |no=>rw[z] at e;exact absurd e hn
  |ex c=>exact .inr ⟨c,rfl⟩
  |ok y h=>
   rw[z] at e;refine xA (Ba (show tB _ (Wb y _)=_ from e) hn) fun J e=>?_;obtain⟨fl,ρ⟩:=y;cases fl with
   |ret v=>exact .inl ⟨v,ρ,h,rfl⟩
   |_=>exact absurd e hn
 refine H d A1 l _ (To σ p q) f vs as R fa hd FF S1 ⟨M.m0,M.m1,M.m2⟩ hlo (BC.mono le (.refl _) _ _ (hv.all (fun{v a} h n=>by
  cases v with
  |par=>unfold VR at h⊢;exact h
  |_=>exact h.cl n) cv)) out1 ⟨fun v ρ σ' a z N h=>?_,fun c s' e' C' z hC fl=>?_⟩
 ·cases z1:P vs (To σ p q).h with
  |no=>rw[z1] at e;exact absurd e hn
  |ex c=>rw[z1] at z;cases z
  |ok y h1=>
   rw[z1] at z e;have z:RA.ok y (JQ h1)=.ok (.ret v,ρ) σ'.h:=z;have hh:JQ h1=σ'.h:=by injection z
   have hy:y=(.ret v,ρ):=by injection z
   clear z;subst hy;refine xA (Ba (show tB ((P_ h1&&SY 0 h1.jumps)&&WL 0 h1.gl) (tB (CQ v) (.ok (.ret v,ρ) (R7 σ.h h1)))=_ from e) hn) fun c2 e=>?_;refine xA (Ba e hn) fun c4 e=>?_;have c2:((P_ σ'.h&&SY 0 σ'.h.jumps)&&WL 0 σ'.h.gl)=true:=hh▸c2;refine xA (A8 c2) fun c2 t3=>?_;refine xA (A8 c2) fun s3 j3=>?_;have j3:=SX j3;refine xA (WK t3) fun t0 t1=>?_;have γ0:σ'.μ.gl[0]? =some p:=N.gl 0 p rfl;have γ1:σ'.μ.gl[1]? =some q:=N.gl 1 q rfl;have in0:∀{o p i},σ'.h.gl[i]? =some o→σ'.μ.gl[i]? =some p→σ'.cel (.gl i)=some ⟨o,p,σ'.μ.nlo⟩:=fun e1 e2=>by show B0 _ _ _=_;rw[e1,e2];rfl
   have mu:Bk σ.μ (VP σ σ').μ:=⟨fun p h=>N.par.trans h,fun p h=>N.lex.trans h,N.tm,fun i p h=>(by rw[lo0] at h;simp at h),fun J J h=>h,fun p h=>N.tx.trans h⟩;have B:K5 W (sJ j) σ (To σ p q) σ' (VP σ σ'):=by
    refine⟨rfl,rfl,fun a=>w.sub,fun s c3 e=>?_,fun s s' t h1 h2=>?_,mu,N.par,N.lex,N.tx,N.np,N.lx,N.sr.nt,rfl,S.ngl,N.sr.tx,N.sr.lx⟩
    ·cases s with
     |par=>
      cases e.symm.trans (Df (h:=R7 σ.h σ'.h) (μ:={σ'.μ with gl:=σ.μ.gl,lo:= []}) (N.par.trans ep) (N.np.trans m4));exact .inr ⟨.par,_,rfl,Df (N.par.trans ep) (N.np.trans m4),fun J h=>h,fun gf g o=>Wn (m:=σ'.μ.nlo) s3 rfl rfl rfl rfl rfl j3 cj rfl (fun r h=>by cases γ0.symm.trans h;exact hp) o⟩
     |lex=>
      obtain⟨x',ex'⟩:∃x',σ'.μ.lx=some x':=by
       have:=N.lx;rw[show(To σ p q).μ.lx=some x from ex] at this;exact Option.isSome_iff_exists.mp this
      cases e.symm.trans (Bc (h:=R7 σ.h σ'.h) (μ:={σ'.μ with gl:=σ.μ.gl,lo:= []}) (N.lex.trans el) ex');exact .inr ⟨.lex,_,rfl,Bc (N.lex.trans el) ex',fun J h=>h,fun gf g o=>DI.cl o (JV (h:=σ'.h) (hx _ _ _ _ (N.sr.lx x' ex')))⟩
     |tmp=>exact .inr ⟨.tmp,c3,rfl,e,fun J h=>h,fun J J h=>h⟩
     |lo i=>refine xA (Ai (show B0 ([]:List Ob)[i]? ([]:List AA)[i]? (VP σ σ').μ.nt=some c3 from e)) fun e J=>?_;simp at e
     |gl i=>
      refine Es (Ai (show B0 σ.h.gl[i]? σ.μ.gl[i]? (VP σ σ').μ.nlo=some c3 from e)) fun e1 e2 e3=>?_;obtain⟨o3,p3,k3⟩:=c3;subst e3;have hi:=(List.getElem?_eq_some_iff.mp e1).1;rcases(show i<j∨i=j∨i=j+1 by omega) with hi|rfl|rfl
      ·refine .inl ⟨⟨o3,p3,σ.μ.nlo⟩,out0 e1 e2,rfl,rfl,mu.nlo,fun a ha ⟨s1,c1,k1,k2⟩=>?_⟩
       refine BU (w.cel s1 c1 k1) fun c k3 k4 J=>?_;have:=S.inj (.gl i) (jl j s1) _ c a (out0 e1 e2) k3 ha (k4 a k2);clear k1 k3;cases s1<;>first|(cases this;done)|(have:=Sl.gl.inj this;omega)
      ·clear e;cases g0.symm.trans e1;clear S1 N le w h z1 out1 gl_in;cases hp.symm.trans e2
       exact .inr ⟨.gl 0,_,by show(if i≤i then some (Sl.gl (i-i)) else none)=_;rw[if_pos (Nat.le_refl _),Nat.sub_self],in0 t0 γ0,fun J h=>h,fun gf g o=>Te (m:=σ'.μ.nlo) (fun r h=>by cases γ1.symm.trans h;exact hq) o⟩
      ·clear e;cases g1.symm.trans e1;clear S1 N le h w z1 out1 gl_in;cases hq.symm.trans e2
       exact .inr ⟨.gl 1,_,by show(if j≤j+1 then some (Sl.gl (j+1-j)) else none)=_;rw[if_pos (Nat.le_succ _),Nat.add_sub_cancel_left],in0 t1 γ1,fun J h=>h,fun gf g o=>Ow o⟩
    ·exact(bI h1).trans (bI h2).symm
   exact C.ok v ρ (VP σ σ') a (by rw[←e,show(VP σ σ').h=R7 σ.h (JQ h1) from congrArg (R7 σ.h) hh.symm];rfl) (B.nz S (LX:=W.LX) N) (VR.mono (B.hid (LX:=W.LX) N) (.refl _) _ _ (h.shut c4))
 ·cases z1:P vs (To σ p q).h with
  |no=>rw[z1] at e;exact absurd e hn
  |ok y h1=>rw[z1] at z;cases z
  |ex c0=>
   rw[z1] at z e;cases z;refine xEEA fl fun B a0 y1 y2=>?_;exact C.ex c s' e' C' (by rw[←e];rfl) hC ⟨B,a0,⟨y1.base,fun p o e hz hy n=>y1.kn p o e hz (fun q=>hy (w.sub q)) n,y1.kf,y1.os,y1.gens⟩,y2⟩
end
end Mn
namespace Mn
open PySem
noncomputable def iB(b:Bool)(t f:RA X):RA X:=Bool.rec f t b
noncomputable def rt(v:V)(h:HA):RA X:=.ok (.ret v,[]) h
noncomputable def oV(md:Nat)(h0:HA)(v:V)(h:HA):RA X:=Wz md h0.tmp.isSome v h
noncomputable def AP(v:V)(c:RA X):RA X:=bc v .no .no c
noncomputable def np:PF:=fun J J=>.no
noncomputable def FI:Nat:=12
noncomputable def un0(vs:List V)(k:RA X):RA X:=match vs with
 | []=>k
 |_=>.no
noncomputable def Rj(vs:List V)(k:V→RA X):RA X:=match vs with
 |a::r=>un0 r (k a)
 |_=>.no
noncomputable def lN(vs:List V)(k:V→V→RA X):RA X:=match vs with
 |a::r=>Rj r (k a)
 |_=>.no
noncomputable def Vy(vs:List V)(k:V→V→V→RA X):RA X:=match vs with
 |a::r=>lN r (k a)
 |_=>.no
noncomputable def lL(vs:List V)(k:V→V→V→V→RA X):RA X:=match vs with
 |a::r=>Vy r (k a)
 |_=>.no
noncomputable def gU(md:Nat)(v:V)(k:RA X):RA X:=match HX md v with
 |true=>k
 |false=>.no
noncomputable def O5(k:V→HA→RA X):PF:=fun vs h=>Rj vs fun a=>k a h
noncomputable def Xm(k:V→V→HA→RA X):PF:=fun vs h=>lN vs fun a b=>k a b h
noncomputable def bX(k:V→V→V→HA→RA X):PF:=fun vs h=>Vy vs fun a b c=>k a b c h
noncomputable def qu(k:V→V→V→V→HA→RA X):PF:=fun vs h=>lL vs fun a b c d=>k a b c d h
noncomputable def Fv(md:Nat)(k:HA→RA X):PF:=O5 fun s h=>gU md s (k h)
noncomputable def HT(md:Nat)(k:V→HA→RA X):PF:=Xm fun s a h=>gU md s (k a h)
noncomputable def bD(md:Nat)(k:V→V→HA→RA X):PF:=bX fun s a b h=>gU md s (k a b h)
section
variable{Z:PF}
theorem OQ{vs:List V} {k:V→RA X} {q:RA X}(e:∀a,vs= [a]→k a=.no∨k a=q):Rj vs k=.no∨Rj vs k=q:=by
 match vs,e with
 | [],_=>exact .inl rfl
 | [a],e=>exact e a rfl
 |_::_::_,_=>exact .inl rfl
theorem Ri{vs:List V} {k:V→V→RA X} {q:RA X}(e:∀a b,vs= [a,b]→k a b=.no∨k a b=q):lN vs k=.no∨lN vs k=q:=by
 cases vs with
 |nil=>exact .inl rfl
 |cons a r=>exact OQ fun b z=>e a b (by rw[z])
theorem Rg{vs:List V} {k:V→V→V→RA X} {q:RA X}(e:∀a b c,vs= [a,b,c]→k a b c=.no∨k a b c=q):Vy vs k=.no∨Vy vs k=q:=by
 cases vs with
 |nil=>exact .inl rfl
 |cons a r=>exact Ri fun b c z=>e a b c (by rw[z])
theorem cQ{vs:List V} {k:V→V→V→V→RA X} {q:RA X}(e:∀a b c d,vs= [a,b,c,d]→k a b c d=.no∨k a b c d=q):lL vs k=.no∨lL vs k=q:=by
 cases vs with
 |nil=>exact .inl rfl
 |cons a r=>exact Rg fun b c d z=>e a b c d (by rw[z])
theorem Cn{k:V→HA→RA X}(e:∀a h,k a h=Z [a] h):UI (O5 k) Z:=fun J h=>OQ fun a z=>.inr (z▸e a h)
theorem FW{k:V→V→HA→RA X}(e:∀a b h,k a b h=Z [a,b] h):UI (Xm k) Z:=fun J h=>Ri fun a b z=>.inr (z▸e a b h)
theorem JZ{k:V→V→V→HA→RA X}(e:∀a b c h,k a b c h=Z [a,b,c] h):UI (bX k) Z:=fun J h=>Rg fun a b c z=>.inr (z▸e a b c h)
theorem eR{k:V→V→V→V→HA→RA X}(e:∀a b c d h,k a b c d h=Z [a,b,c,d] h):UI (qu k) Z:=fun J h=>cQ fun a b c d z=>.inr (z▸e a b c d h)
theorem Rp{md:Nat} {v:V} {k q:RA X}(e:v=ah md→k=q):gU md v k=.no∨gU md v k=q:=by
 show(match HX md v with|true=>k|false=>.no)=_∨(match HX md v with|true=>k|false=>.no)=_;cases z:HX md v with
 |true=>exact .inr (e (Tf z))
 |false=>exact .inl rfl
theorem BP{md:Nat} {k:HA→RA X}(e:∀h,k h=Z [ah md] h):UI (Fv md k) Z:=fun J h=>OQ fun s z=>Rp fun y=>by rw[z,y];exact e h
theorem Be{md:Nat} {k:V→HA→RA X}(e:∀a h,k a h=Z [ah md,a] h):UI (HT md k) Z:=fun J h=>Ri fun s a z=>Rp fun y=>by rw[z,y];exact e a h
theorem L4{md:Nat} {k:V→V→HA→RA X}(e:∀a b h,k a b h=Z [ah md,a,b] h):UI (bD md k) Z:=fun J h=>Rg fun s a b z=>Rp fun y=>by rw[z,y];exact e a b h
end
noncomputable def AO:Nat→List Stmt→Stmt
 |0,s::_=>s
 |n+1,_::r=>AO n r
 |_,[]=>.Pass ⟨0,0,0,0⟩
noncomputable def gC:Stmt→PySem.Expr
 |.While t _ _ _=>t
 |_=>.Name "" ⟨0,0,0,0⟩
noncomputable def gG:Stmt→List Stmt
 |.While _ b _ _=>b
 |_=> []
abbrev Cj(md:Nat)(T:Pl)(lk:Bool)(f:Fn)(P:PF):Prop:=UI P (DQ T md 2 90 lk f)
abbrev Pm(md:Nat)(T:Pl)(f:Fn)(i:Nat)(ns:List Nat)(P P':PF):Prop:=UI P' fun vs h=>Jv 90 ⟨md,T,gT,0,2,f.sc,false,true⟩ ns (RS md ns vs) (gC (AO i f.body)) (gG (AO i f.body)) (cy md ns P) h
abbrev RF(md:Nat)(T:Pl)(f:Fn)(i:Nat)(ns:List Nat)(P P':PF):Prop:=UI P' (WZ T md 2 90 false f ns (f.body.take i) (f.body.drop (i+1)) (cy md ns P))
noncomputable def EV(t:PF→PF):Nat→PF
 |0=>np
 |k+1=>t (EV t k)
noncomputable def VQ:Nat:=4607182418800017408
noncomputable def dv(v:V)(k:Nat→RA X):RA X:=match v with
 |.int i=>(match i with
  |.ofNat n=>k n
  |_=>.no)
 |_=>.no
noncomputable def l7:Stmt→Pos
 |.While _ _ _ p=>p
 |_=>⟨0,0,0,0⟩
noncomputable def ra:List Nat→Af→(List V→RA X)→RA X
 | [],ρ,k=>match ρ with
  | []=>k []
  |_::_=>.no
 |n::ns,ρ,k=>match ρ with
  |p::r=>tB (Nat.beq p.1 n) (ra ns r fun vs=>k (p.2::vs))
  | []=>.no
noncomputable def NK(md:Nat)(ns:List Nat)(ρ:Af)(k:List V→RA X):RA X:=match ρ with
 |p::r=>tB (Nat.beq p.1 k_self&&HX md p.2) (ra ns r k)
 | []=>.no
def ly(W:Wd)(δ:Nat):Prop:=∀s a l t r,W.LX s a l (t::r)→cA l=true∧cA t=true∧∃a' l',cA l'=true∧W.LX s a' l' r∧Nx W δ s a l t a' l'
section
variable{W:Wd} {δ md:Nat} {T:Pl}
theorem Fg.base(wf:WF W)(h:2≤δ)(n:md=1→ly W δ):Fg W md δ ⟨[],[],[Cy,DD],fG⟩:=⟨(fun J J=>AD),(fun J J=>AD),fun f b e=>⟨h,kK wf f b e⟩,n⟩
theorem Fg.nil(wf:WF W){s:Nat}(h:2≤s)(A:Fg W md δ T):Fg W md (δ+s) ⟨[],[],[Cy,DD],fG⟩:=.base wf (Nat.le_trans h (Nat.le_add_left _ _)) (A.mono (Nat.le_add_right _ _)).nxt
theorem WS{fn:Fn}:Fc W md δ fn np:=fun J J J J J J J J J J J J J J J J o J=>o.elim (fun⟨_,_,_,e⟩=>nomatch e) fun⟨_,e⟩=>nomatch e
theorem lQ{f:Fn} {li n s:Nat} {lk:Bool} {P:PF}(wf:WF W)(A:Fg W md δ T)(hl:li+1≤s)(e:UI P (DQ T md li n lk f)):Fc W md (δ+s) f P:=(LR wf A e).mono (by omega)
theorem sP{f:Fn} {s:Nat} {lk:Bool} {P:PF}(wf:WF W)(A:Fg W md δ T)(hs:3≤s)(e:Cj md T lk f P):Fc W md (δ+s) f P:=lQ wf A hs e
theorem bJ{f:Fn} {i:Nat} {ns:List Nat} {t:PF→PF}(e:∀P,Pm md T f i ns P (t P)):∀k,LS W ⟨md,T,gT,0,2,f.sc,false,true⟩ (gC (AO i f.body)) (gG (AO i f.body)) (cy md ns (EV t k))
 |0=>jd
 |k+1=>jc (bJ e k) (e (EV t k))
theorem sL{s:Nat} {f:Fn} {i:Nat} {ns:List Nat} {t:PF→PF} {P:PF}(wf:WF W)(A:Fg W md δ T)(hs:3≤s)(e:∀P,Pm md T f i ns P (t P))(e2:RF md T f i ns (EV t FI) P)(hb:f.body=f.body.take i++ .While (gC (AO i f.body)) (gG (AO i f.body)) [] (l7 (AO i f.body))::f.body.drop (i+1)):Fc W md (δ+s) f P:=
 (ZI (li:=2) wf A (bJ e FI) hb e2).mono (by omega)
end
noncomputable def TF(a b:V):Bool:=match a with
 |.int i=>(match b with
  |.int j=>decide (i=j)
  |_=>false)
 |.str s=>(match b with
  |.str t=>DT s t
  |_=>false)
 |_=>false
noncomputable def LV:List V→List V→Bool
 | [],q=>(match q with
  | []=>true
  |_=>false)
 |a::r,q=>(match q with
  |b::q=>(match TF a b with
   |true=>LV r q
   |false=>false)
  | []=>false)
noncomputable def de:List (List V×V)→List V→HA→RA X
 | [],_,_=>.no
 |p::r,vs,h=>(match LV p.1 vs with
  |true=>rt p.2 h
  |false=>de r vs h)
noncomputable def bk(Z:PF)(h:HA):List (List V×V)→Prop
 | []=>True
 |p::r=>rt p.2 h=Z p.1 h∧bk Z h r
theorem XX:∀{a b:List Nat},DT a b=true→a=b
 | [],[],_=>rfl
 | [],_::_,e=>nomatch e
 |_::_,[],e=>nomatch e
 |x::p,y::q,e=>by
  have e:(Bool.rec false (DT p q) (Nat.beq x y):Bool)=true:=e;cases z:Nat.beq x y with
  |false=>rw[z] at e;exact Ak e
  |true=>rw[z] at e;rw[Nat.eq_of_beq_eq_true z,XX e]
theorem WW{a b:V}(e:TF a b=true):a=b:=by
 cases a with
 |int i=>cases b with
  |int j=>rw[of_decide_eq_true (show decide (i=j)=true from e)]
  |_=>exact Ak e
 |str s=>cases b with
  |str t=>rw[XX e]
  |_=>exact Ak e
 |_=>exact Ak e
theorem QB:∀{a b:List V},LV a b=true→a=b
 | [],[],_=>rfl
 | [],_::_,e=>nomatch e
 |_::_,[],e=>nomatch e
 |x::p,y::q,e=>by
  have e:(match TF x y with|true=>LV p q|false=>false)=true:=e;cases z:TF x y with
  |false=>rw[z] at e;exact Ak e
  |true=>rw[z] at e;rw[WW z,QB e]
theorem R9{Z:PF} {h:HA}:∀{l:List (List V×V)} {vs:List V},bk Z h l→de l vs h=.no∨de l vs h=Z vs h
 | [],_,_=>.inl rfl
 |p::r,vs,⟨e,k⟩=>by
  show(match LV p.1 vs with|true=>rt p.2 h|false=>de r vs h)=_∨(match LV p.1 vs with|true=>rt p.2 h|false=>de r vs h)=_;cases z:LV p.1 vs with
  |true=>cases QB z;exact .inr e
  |false=>exact R9 k
theorem Hi{α β γ:Type} {f:α→γ} {g:β→γ}:∀{ns:List α} {l:List β},ns.map f=l.map g→∀z∈ns.zip l,f z.1=g z.2
 | [],_,_,z,h=>by cases h
 |n::ns,[],e,z,h=>by cases h
 |n::ns,p::l,e,z,h=>by
  obtain⟨e1,e2⟩:=List.cons.inj (show f n::ns.map f=g p::l.map g from e);rcases List.mem_cons.mp (show z∈(n,p)::ns.zip l from h) with rfl|h
  ·exact e1
  ·exact Hi e2 z h
section
variable{W:Wd} {md δ:Nat}
noncomputable def UD(W:Wd)(md δ:Nat):List (Nat×PF)→List Fn→Prop
 | [],_=>True
 |p::r,q=>match q with
  | []=>False
  |fn::q=>Fc W md δ fn p.2∧UD W md δ r q
theorem UD.n{q:List Fn}:UD W md δ [] q:=trivial
theorem UD.c{fn:Fn} {k:Nat} {P:PF} {r:List (Nat×PF)} {q:List Fn}(h:Fc W md δ fn P)(t:UD W md δ r q):UD W md δ ((k,P)::r) (fn::q):=⟨h,t⟩
theorem UD.np:∀{ks:List Nat} {q:List Fn},Nat.ble ks.length q.length=true→UD W md δ (ks.map fun k=>(k,Mn.np)) q
 | [],_,_=>trivial
 |_::_,[],h=>nomatch h
 |_::_,_::_,h=>⟨WS,UD.np (Nat.ble_eq_true_of_le (Nat.le_of_succ_le_succ (Nat.le_of_ble_eq_true h)))⟩
theorem UD.at:∀{T:List (Nat×PF)} {q:List Fn},UD W md δ T q→∀{f:Nat} {P:PF},AK f T=some P→∃fn,(f,fn)∈(T.map (·.1)).zip q∧Fc W md δ fn P
 | [],_,_,_,_,e=>nomatch e
 |_::_,[],h,_,_,_=>h.elim
 |(k,P0)::r,fn::q,h,f,P,e=>Ce e (fun z y=>⟨fn,z▸ .head _,y▸h.1⟩) fun e=>(UD.at h.2 e).elim fun fn x=>⟨fn,.tail _ x.1,x.2⟩
theorem Fg.tab{T:Pl}(A:Fg W md δ ⟨[],[],T.lk,T.ci⟩)(h0:md≠0)(fs ms:List Fn)(k1:(T.fn.map (·.1)).map (fun f=>AK f gT.fns)=fs.map some)(k2:md=1→(T.mt.map (·.1)).map (fun f=>(DR gT kP f,E6 f jG))=ms.map fun x=>(some x,false))(k3:md=2→(T.mt.map (·.1)).map (fun f=>(DR gT kL f,E6 f jf))=ms.map fun x=>(some x,false))(h1:UD W md δ T.fn fs)(h2:UD W md δ T.mt ms):Fg W md δ T:=
 ⟨fun f P e=>(h1.at e).elim fun fn x=>⟨fn,Hi k1 _ x.1,x.2⟩,fun f P e=>(h2.at e).elim fun fn x=>⟨fn,fun z=>Prod.mk.inj (Hi (k2 z) _ x.1),fun z=>Prod.mk.inj (Hi (k3 z) _ x.1),fun z=>absurd z h0,x.2⟩,A.ci,A.nxt⟩
end
structure FS where
 Dw:PF
 Cu:PF
 D_:PF
 GC:PF
 DX:PF
 Er:PF
 GA:PF
 V4:PF
 RT:PF
 Ay:PF
 RU:PF
 Aa:PF
 Bn:PF
 GB:PF
 BO:PF
 Pq:PF
 A9:PF
 Av:PF
 Au:PF
 Jp:PF
 C8:PF
 Ct:PF
 G6:PF
 BB:PF
 AY:PF
 DY:PF
 CN:PF
 Hj:PF
 Ea:PF
 D8:PF
 CL:PF
 Bo:PF
 G5:PF
 C0:PF
 Dh:PF
 A6:PF
 BI:PF
 Fh:PF
 BD:PF
 Ah:PF
 BZ:PF
 Jr:PF
 Pt:PF
 Jq:PF
 RW:PF
 D9:PF
 NH:PF
 Az:PF
 ED:PF
 Bv:PF
 CT:PF
 C1:PF
 EC:PF
 Bt:PF
 FK:PF
 Jo:PF
 H6:PF
 Pp:PF
 Pu:PF
 V5:PF
 LG:PF
 V6:PF
 RX:PF
noncomputable def Ar(F:FS):Pl:=⟨[(1030918316728608732917,F.Dw),(1931088750310994940364961525,F.Cu),(17797306330407069313513205,F.D_),(15384121581691550008456949,F.GC),(133157085114346877335285,F.DX),(244585762082741833280471807733,F.Er),(17192842992753392079451893,F.GA),(245004408,F.V4),(65767868888365685,F.RT)],[(246986342,F.Ay),(238662508,F.RU),(470204674651247,F.Aa),(470204683139557,F.Bn),(1683829,F.GB),(234468197,F.BO),(8056265930559994341,F.Pq),(Xb,F.A9),(58418525355243635,F.Av),(1096414250256192861029,F.Au),(8056265930540889958,F.Jp),(16895214208713187045062632,F.C8),(2203249466437902982757005158,F.Ct),(443201904818149,F.G6),(1989860916980616898729850869,F.BB),(912314912511136217077,F.AY),(131993861006188110033781,F.DY),(119100235460994081223021,F.CN),(64122792525347578,F.Hj),(31909788154,F.Ea),(500858932032889,F.D8),(500959312132602,F.CL),(18267181575880710827849701,F.Bo),(27615132154,F.G5),(7412880592462361466,F.C0),(3398864320485,F.Dh),(452373568403445,F.A6),(58506655712327791,F.BI),(2010273383062235597019592550,F.Fh),(8424981109210200053,F.BD),(4618612752755518877728969705830511,F.Ah),(299289502939520030857060005877,F.BZ),(7269301480773564527,F.Jr),(3464396190310,F.Pt),(7917824634756281082,F.Jq),(61251413601958001,F.RW),(482918321010664,F.D9),(435060270151925,F.NH),(949567039293938645103,F.Az),(3430302661114,F.ED),(7912155690254776293,F.Bv),(18260116761121684285143540,F.CT),(7126844941390314228,F.C1),(3875091886709,F.EC),(EK,F.Bt),(26805547628,F.FK),(8630532229945848692,F.Jo),(1049367858440706832884,F.H6),(4018166133353,F.Pp),(7261442203295953658,F.Pu),(230439025,F.V5),(Cy,F.LG),(226342769,F.V6),(58480403781793905,F.RX)],[Cy,DD],fG⟩
noncomputable def Oi(F:FS)(name is_strict:V)(h:HA):RA X:=(oA (CD (.some is_strict) (BY (AF h .In name (.tup [(.str [105,109,112,108,101,109,101,110,116,115]),(.str [105,110,116,101,114,102,97,99,101]),(.str [108,101,116]),(.str [112,97,99,107,97,103,101]),(.str [112,114,105,118,97,116,101]),(.str [112,114,111,116,101,99,116,101,100]),(.str [112,117,98,108,105,99]),(.str [115,116,97,116,105,99]),(.str [121,105,101,108,100])])))) fun v1=>AE v1 fun b2=>iB b2 (A2 false h .Add (.str [114,101,115,101,114,118,101,100,32,119,111,114,100,32]) name fun v3 h4=>oV 1 h v3 h4) (rt .none h))
noncomputable def Ie(F:FS):PF:=Xm (Oi F)
noncomputable def Ki(F:FS)(name is_strict:V)(h:HA):RA X:=(oA (CD (.some is_strict) (BY (AF h .In name (.tup [(.str [97,114,103,117,109,101,110,116,115]),(.str [101,118,97,108])])))) fun v1=>AE v1 fun b2=>iB b2 (A2 false h .Add name (.str [32,99,97,110,32,110,111,116,32,98,101,32,98,111,117,110,100,32,105,110,32,115,116,114,105,99,116,32,99,111,100,101]) fun v3 h4=>oV 1 h v3 h4) (AB F.Dw [name,is_strict] h fun v5 h6=>oV 1 h v5 h6))
noncomputable def Ft(F:FS):PF:=Xm (Ki F)
noncomputable def La(F:FS)(kind name is_strict:V)(h:HA):RA X:=(oA (AF h .NotIn kind (.tup [(.str [78,97,109,101]),(.str [77,101,109,98,101,114]),(.str [73,110,100,101,120])])) fun b1=>iB b1 (rt (.str [105,110,118,97,108,105,100,32,116,97,114,103,101,116,32,111,102,32,97,110,32,97,115,115,105,103,110,109,101,110,116]) h) (oA (AF h .Eq kind (.str [78,97,109,101])) fun b2=>iB b2 (AB F.Cu [name,is_strict] h fun v3 h4=>oV 1 h v3 h4) (rt .none h)))
noncomputable def GR(F:FS):PF:=bX (La F)
noncomputable def Lc(F:FS)(kind is_strict:V)(h:HA):RA X:=(oA (CD (.some is_strict) (BY (AF h .Eq kind (.str [78,97,109,101])))) fun v1=>AE v1 fun b2=>iB b2 (rt (.str [100,101,108,101,116,101,32,111,102,32,97,32,110,97,109,101,32,105,110,32,115,116,114,105,99,116,32,99,111,100,101]) h) (rt .none h))
noncomputable def GU(F:FS):PF:=Xm (Lc F)
noncomputable def Mp(F:FS)(is_octal is_strict:V)(h:HA):RA X:=(oA (CD (.some is_strict) (.some is_octal)) fun v1=>AE v1 fun b2=>iB b2 (rt (.str [111,99,116,97,108,32,108,105,116,101,114,97,108,32,105,110,32,115,116,114,105,99,116,32,99,111,100,101]) h) (rt .none h))
noncomputable def HQ(F:FS):PF:=Xm (Mp F)
noncomputable def JN(F:FS)(sort params:V)(h:HA):RA X:=(oA (AF h .Eq sort (.str [103,101,116])) fun b1=>iB b1 (Aq false .len [params] h fun v2 h3=>oA (AF h3 .Eq v2 (.int 0)) fun b4=>iB b4 (rt .none h3) (rt (.str [119,114,111,110,103,32,110,117,109,98,101,114,32,111,102,32,112,97,114,97,109,101,116,101,114,115,32,111,102,32,97,110,32,97,99,99,101,115,115,111,114]) h3)) (Aq false .len [params] h fun v5 h6=>oA (AF h6 .Eq v5 (.int 1)) fun b7=>iB b7 (rt .none h6) (rt (.str [119,114,111,110,103,32,110,117,109,98,101,114,32,111,102,32,112,97,114,97,109,101,116,101,114,115,32,111,102,32,97,110,32,97,99,99,101,115,115,111,114]) h6)))
noncomputable def Ew(F:FS):PF:=Xm (JN F)
noncomputable def dJ(F:FS)(h:HA):RA X:=(oA (AF h .Is h.later .none) fun b1=>iB b1 (QX h fun v2 h3=>oA (sv 1 h3 .par Am v2) fun h4=>oV 1 h h.tok h4) (oA (sv 1 h .par Am h.later) fun h5=>oA (sv 1 h5 .par Dc .none) fun h6=>oV 1 h h.tok h6))
noncomputable def Wr(F:FS):PF:=Fv 1 (dJ F)
noncomputable def dK(F:FS)(h:HA):RA X:=(oA (AF h .Is h.later .none) fun b1=>iB b1 (QX h fun v2 h3=>oA (sv 1 h3 .par Dc v2) fun h4=>oV 1 h h4.later h4) (oV 1 h h.later h))
noncomputable def Wt(F:FS):PF:=Fv 1 (dK F)
noncomputable def JM(F:FS)(sign:V)(h:HA):RA X:=(oA (CD (EU (EU (gv 1 h .par Am) fun v1=>gv 1 h v1 AJ) fun v2=>BY (AF h .Eq v2 (.str [112,117,110,99,116]))) (EU (EU (gv 1 h .par Am) fun v3=>gv 1 h v3 AG) fun v4=>BY (AF h .Eq v4 sign))) fun v5=>oV 1 h v5 h)
noncomputable def JO(F:FS):PF:=HT 1 (JM F)
noncomputable def Ug(F:FS)(word:V)(h:HA):RA X:=(oA (CD (EU (EU (gv 1 h .par Am) fun v1=>gv 1 h v1 AJ) fun v2=>BY (AF h .Eq v2 (.str [107,101,121,119,111,114,100]))) (CD (EU (EU (gv 1 h .par Am) fun v3=>gv 1 h v3 AG) fun v4=>BY (AF h .Eq v4 word)) (EU (gv 1 h .par Am) fun v5=>gv 1 h v5 BK))) fun v6=>oV 1 h v6 h)
noncomputable def NY(F:FS):PF:=HT 1 (Ug F)
noncomputable def gc(F:FS)(sign:V)(h:HA):RA X:=(AB F.Aa [.par,sign] h fun v1 h2=>AE v1 fun b3=>iB (!b3) (rt (.bool false) h2) (AB F.Ay [.par] h2 fun v4 h5=>rt (.bool true) h5))
noncomputable def ay(F:FS):PF:=HT 1 (gc F)
noncomputable def dN(F:FS)(sign:V)(h:HA):RA X:=(AB F.GB [.par,sign] h fun v1 h2=>AE v1 fun b3=>iB (!b3) (AB F.Au [.par] h2 fun v4 h5=>rt .none h5) (rt .none h2))
noncomputable def Wv(F:FS):PF:=HT 1 (dN F)
noncomputable def QH(F:FS)(word:V)(h:HA):RA X:=(AB F.Bn [.par,word] h fun v1 h2=>AE v1 fun b3=>iB (!b3) (AB F.Au [.par] h2 fun v4 h5=>AB F.Ay [.par] h5 fun v6 h7=>rt .none h7) (AB F.Ay [.par] h2 fun v8 h9=>rt .none h9))
noncomputable def J7(F:FS):PF:=HT 1 (QH F)
noncomputable def dO(F:FS)(text:V)(h:HA):RA X:=(oA (gv 1 h h.tok AI) fun v1=>.ex Ab)
noncomputable def Ww(F:FS):PF:=HT 1 (dO F)
noncomputable def R2(F:FS)(fault:V)(h:HA):RA X:=(oA (AF h .IsNot fault .none) fun b1=>iB b1 (AB F.A9 [.par,fault] h fun v2 h3=>rt .none h3) (rt .none h))
noncomputable def Lu(F:FS):PF:=HT 1 (R2 F)
noncomputable def Oh(F:FS)(h:HA):RA X:=(oA (gv 1 h h.tok AJ) fun v1=>oA (AF h .Eq v1 (.str [101,110,100])) fun b2=>iB b2 (AB F.A9 [.par,(.str [117,110,101,120,112,101,99,116,101,100,32,101,110,100])] h fun v3 h4=>rt .none h4) (oA (gv 1 h h.tok AG) fun v5=>Aq false .str [v5] h fun v6 h7=>A2 false h7 .Add (.str [117,110,101,120,112,101,99,116,101,100,32,116,111,107,101,110,32]) v6 fun v8 h9=>AB F.A9 [.par,v8] h9 fun v10 h11=>rt .none h11))
noncomputable def Ic(F:FS):PF:=Fv 1 (Oh F)
noncomputable def QI(F:FS)(h:HA):RA X:=(oA (gv 1 h h.tok AJ) fun v1=>oA (AF h .NotEq v1 (.str [110,97,109,101])) fun b2=>iB b2 (AB F.Au [.par] h fun v3 h4=>oA (gv 1 h4 h4.tok AG) fun v5=>AB F.Dw [v5,h4.strict] h4 fun v6 h7=>AB F.Av [.par,v6] h7 fun v8 h9=>AB F.Ay [.par] h9 fun v10 h11=>oA (gv 1 h11 v10 AG) fun v12=>oV 1 h v12 h11) (oA (gv 1 h h.tok AG) fun v13=>AB F.Dw [v13,h.strict] h fun v14 h15=>AB F.Av [.par,v14] h15 fun v16 h17=>AB F.Ay [.par] h17 fun v18 h19=>oA (gv 1 h19 v18 AG) fun v20=>oV 1 h v20 h19))
noncomputable def J8(F:FS):PF:=Fv 1 (QI F)
noncomputable def Lb(F:FS)(h:HA):RA X:=(oA (gv 1 h h.tok AJ) fun v1=>oA (AF h .NotEq v1 (.str [110,97,109,101])) fun b2=>iB b2 (AB F.Au [.par] h fun v3 h4=>oA (gv 1 h4 h4.tok AG) fun v5=>AB F.Cu [v5,h4.strict] h4 fun v6 h7=>AB F.Av [.par,v6] h7 fun v8 h9=>AB F.Ay [.par] h9 fun v10 h11=>oA (gv 1 h11 v10 AG) fun v12=>oV 1 h v12 h11) (oA (gv 1 h h.tok AG) fun v13=>AB F.Cu [v13,h.strict] h fun v14 h15=>AB F.Av [.par,v14] h15 fun v16 h17=>AB F.Ay [.par] h17 fun v18 h19=>oA (gv 1 h19 v18 AG) fun v20=>oV 1 h v20 h19))
noncomputable def GS(F:FS):PF:=Fv 1 (Lb F)
noncomputable def Kf(F:FS)(h:HA):RA X:=(oA (gv 1 h h.tok AJ) fun v1=>tB (BX [(.str [110,97,109,101]),(.str [107,101,121,119,111,114,100])]) (oA (AF h .NotIn v1 (.tup [(.str [110,97,109,101]),(.str [107,101,121,119,111,114,100])])) fun b2=>iB b2 (AB F.Au [.par] h fun v3 h4=>AB F.Ay [.par] h4 fun v5 h6=>oA (gv 1 h6 v5 AG) fun v7=>oV 1 h v7 h6) (AB F.Ay [.par] h fun v8 h9=>oA (gv 1 h9 v8 AG) fun v10=>oV 1 h v10 h9)))
noncomputable def Fp(F:FS):PF:=Fv 1 (Kf F)
noncomputable def Ui(F:FS)(h:HA):RA X:=(AB F.Aa [.par,(.str [59])] h fun v1 h2=>AE v1 fun b3=>iB b3 (rt (.bool true) h2) (AB F.Aa [.par,(.str [125])] h2 fun v4 h5=>AE v4 fun b6=>iB b6 (rt (.bool true) h5) (oA (gv 1 h5 h5.tok AJ) fun v7=>oA (AF h5 .Eq v7 (.str [101,110,100])) fun b8=>iB b8 (rt (.bool true) h5) (oA (gv 1 h5 h5.tok AW) fun v9=>oV 1 h v9 h5))))
noncomputable def Na(F:FS):PF:=Fv 1 (Ui F)
noncomputable def Kh(F:FS)(h:HA):RA X:=(AB F.GB [.par,(.str [59])] h fun v1 h2=>AE v1 fun b3=>iB (!b3) (AB F.G6 [.par] h2 fun v4 h5=>AE v4 fun b6=>iB (!b6) (AB F.Au [.par] h5 fun v7 h8=>rt .none h8) (rt .none h5)) (rt .none h2))
noncomputable def Fs(F:FS):PF:=Fv 1 (Kh F)
noncomputable def B2(F:FS)(O:PF)(can_in:V)(h:HA):RA X:=(AB O [.par,can_in] h fun v1 h2=>oA (TS (EU (EU (gv 1 h2 .par Am) fun v3=>gv 1 h2 v3 AJ) fun v4=>BY (AF h2 .NotEq v4 (.str [112,117,110,99,116]))) (EU (EU (gv 1 h2 .par Am) fun v5=>gv 1 h2 v5 AG) fun v6=>BY (AF h2 .NotIn v6 (.tup [(.str [61]),(.str [43,61]),(.str [45,61]),(.str [42,61]),(.str [47,61]),(.str [37,61]),(.str [60,60,61]),(.str [62,62,61]),(.str [62,62,62,61]),(.str [38,61]),(.str [94,61]),(.str [124,61])])))) fun v7=>AE v7 fun b8=>iB b8 (oV 1 h v1 h2) (AB F.DY [.par,v1] h2 fun v9 h10=>AB F.Ay [.par] h10 fun v11 h12=>oA (gv 1 h12 v11 AG) fun v13=>oA (gv 1 h12 v1 AI) fun v14=>AB F.AY [.par,can_in] h12 fun v15 h16=>As false h16 [v13,v1,v15] fun v17 h18=>BN AL Al [(.str [65,115,115,105,103,110]),v14,v17] h18 fun v19 h20=>oV 1 h v19 h20))
noncomputable def Oj(F:FS)(can_in:V)(h:HA):RA X:=B2 F F.CN can_in h
noncomputable def Ig(F:FS):PF:=HT 1 (Oj F)
noncomputable def Mq(F:FS)(node:V)(h:HA):RA X:=(oA (gv 1 h node AJ) fun v1=>oA (gv 1 h node AJ) fun v2=>oA (AF h .Eq v2 (.str [78,97,109,101])) fun b3=>iB b3 (oA (gv 1 h node DB) fun v4=>oA (Ap h v4 (.int 0)) fun v5=>AB F.D_ [v1,v5,h.strict] h fun v6 h7=>AB F.Av [.par,v6] h7 fun v8 h9=>rt .none h9) (AB F.D_ [v1,.none,h.strict] h fun v10 h11=>AB F.Av [.par,v10] h11 fun v12 h13=>rt .none h13))
noncomputable def HR(F:FS):PF:=HT 1 (Mq F)
noncomputable def Cb(F:FS)(O:PF)(can_in:V)(h:HA):RA X:=(AB O [.par,(.int 1),can_in] h fun v1 h2=>AB F.GB [.par,(.str [63])] h2 fun v3 h4=>AE v3 fun b5=>iB (!b5) (oV 1 h v1 h4) (AB F.AY [.par,(.bool true)] h4 fun v6 h7=>AB F.BO [.par,(.str [58])] h7 fun v8 h9=>oA (gv 1 h9 v1 AI) fun v10=>AB F.AY [.par,can_in] h9 fun v11 h12=>As false h12 [v1,v6,v11] fun v13 h14=>BN AL Al [(.str [67,111,110,100]),v10,v13] h14 fun v15 h16=>oV 1 h v15 h16))
noncomputable def Mr(F:FS)(can_in:V)(h:HA):RA X:=Cb F F.ED can_in h
noncomputable def HS(F:FS):PF:=HT 1 (Mr F)
noncomputable def Ry(F:FS)(can_in:V)(h:HA):RA X:=(oA (gv 1 h h.tok AJ) fun v1=>oA (AF h .Eq v1 (.str [112,117,110,99,116])) fun b2=>iB b2 (AP (.dct [([124,124],(.int 1)),([38,38],(.int 2)),([124],(.int 3)),([94],(.int 4)),([38],(.int 5)),([61,61],(.int 6)),([33,61],(.int 6)),([61,61,61],(.int 6)),([33,61,61],(.int 6)),([60],(.int 7)),([62],(.int 7)),([60,61],(.int 7)),([62,61],(.int 7)),([105,110,115,116,97,110,99,101,111,102],(.int 7)),([105,110],(.int 7)),([60,60],(.int 8)),([62,62],(.int 8)),([62,62,62],(.int 8)),([43],(.int 9)),([45],(.int 9)),([42],(.int 10)),([47],(.int 10)),([37],(.int 10))]) (tB (B7 h .get (.dct [([124,124],(.int 1)),([38,38],(.int 2)),([124],(.int 3)),([94],(.int 4)),([38],(.int 5)),([61,61],(.int 6)),([33,61],(.int 6)),([61,61,61],(.int 6)),([33,61,61],(.int 6)),([60],(.int 7)),([62],(.int 7)),([60,61],(.int 7)),([62,61],(.int 7)),([105,110,115,116,97,110,99,101,111,102],(.int 7)),([105,110],(.int 7)),([60,60],(.int 8)),([62,62],(.int 8)),([62,62,62],(.int 8)),([43],(.int 9)),([45],(.int 9)),([42],(.int 10)),([47],(.int 10)),([37],(.int 10))])) (oA (gv 1 h h.tok AG) fun v3=>AH .get (.dct [([124,124],(.int 1)),([38,38],(.int 2)),([124],(.int 3)),([94],(.int 4)),([38],(.int 5)),([61,61],(.int 6)),([33,61],(.int 6)),([61,61,61],(.int 6)),([33,61,61],(.int 6)),([60],(.int 7)),([62],(.int 7)),([60,61],(.int 7)),([62,61],(.int 7)),([105,110,115,116,97,110,99,101,111,102],(.int 7)),([105,110],(.int 7)),([60,60],(.int 8)),([62,62],(.int 8)),([62,62,62],(.int 8)),([43],(.int 9)),([45],(.int 9)),([42],(.int 10)),([47],(.int 10)),([37],(.int 10))]) [v3,(.int 0)] h fun v4 h5=>oV 1 h v4 h5))) (AB F.Bn [.par,(.str [105,110])] h fun v6 h7=>AE v6 fun b8=>iB b8 (AE can_in fun b9=>iB b9 (oA (Ap h7 (.dct [([124,124],(.int 1)),([38,38],(.int 2)),([124],(.int 3)),([94],(.int 4)),([38],(.int 5)),([61,61],(.int 6)),([33,61],(.int 6)),([61,61,61],(.int 6)),([33,61,61],(.int 6)),([60],(.int 7)),([62],(.int 7)),([60,61],(.int 7)),([62,61],(.int 7)),([105,110,115,116,97,110,99,101,111,102],(.int 7)),([105,110],(.int 7)),([60,60],(.int 8)),([62,62],(.int 8)),([62,62,62],(.int 8)),([43],(.int 9)),([45],(.int 9)),([42],(.int 10)),([47],(.int 10)),([37],(.int 10))]) (.str [105,110])) fun v10=>oV 1 h v10 h7) (rt (.int 0) h7)) (AB F.Bn [.par,(.str [105,110,115,116,97,110,99,101,111,102])] h7 fun v11 h12=>AE v11 fun b13=>iB b13 (oA (Ap h12 (.dct [([124,124],(.int 1)),([38,38],(.int 2)),([124],(.int 3)),([94],(.int 4)),([38],(.int 5)),([61,61],(.int 6)),([33,61],(.int 6)),([61,61,61],(.int 6)),([33,61,61],(.int 6)),([60],(.int 7)),([62],(.int 7)),([60,61],(.int 7)),([62,61],(.int 7)),([105,110,115,116,97,110,99,101,111,102],(.int 7)),([105,110],(.int 7)),([60,60],(.int 8)),([62,62],(.int 8)),([62,62,62],(.int 8)),([43],(.int 9)),([45],(.int 9)),([42],(.int 10)),([47],(.int 10)),([37],(.int 10))]) (.str [105,110,115,116,97,110,99,101,111,102])) fun v14=>oV 1 h v14 h12) (rt (.int 0) h12))))
noncomputable def Lp(F:FS):PF:=HT 1 (Ry F)
noncomputable def Ds(F:FS)(O:PF)(h:HA):RA X:=(oA (CD (EU (gv 1 h h.tok AJ) fun v1=>BY (AF h .Eq v1 (.str [112,117,110,99,116]))) (EU (gv 1 h h.tok AG) fun v2=>BY (AF h .In v2 (.tup [(.str [43,43]),(.str [45,45])])))) fun v3=>AE v3 fun b4=>iB b4 (AB F.Ay [.par] h fun v5 h6=>AB F.Ea [.par] h6 fun v7 h8=>AB F.DY [.par,v7] h8 fun v9 h10=>oA (gv 1 h10 h.tok AI) fun v11=>oA (gv 1 h10 h.tok AG) fun v12=>As false h10 [v12,(.bool true),v7] fun v13 h14=>BN AL Al [(.str [85,112,100,97,116,101]),v11,v13] h14 fun v15 h16=>oV 1 h v15 h16) (oA (CD (EU (gv 1 h h.tok AJ) fun v17=>BY (AF h .Eq v17 (.str [112,117,110,99,116]))) (EU (gv 1 h h.tok AG) fun v18=>BY (AF h .In v18 (.tup [(.str [45]),(.str [43]),(.str [33]),(.str [126])])))) fun v19=>oA (CD (EU (gv 1 h h.tok AJ) fun v20=>BY (AF h .Eq v20 (.str [107,101,121,119,111,114,100]))) (CD (EU (gv 1 h h.tok AG) fun v21=>BY (AF h .In v21 (.tup [(.str [116,121,112,101,111,102]),(.str [118,111,105,100]),(.str [100,101,108,101,116,101])]))) (gv 1 h h.tok BK))) fun v22=>oA (CD (Kk (.some v19)) (Kk (.some v22))) fun v23=>AE v23 fun b24=>iB b24 (AB O [.par] h fun v25 h26=>oV 1 h v25 h26) (AB F.Ay [.par] h fun v27 h28=>AB F.Ea [.par] h28 fun v29 h30=>oA (gv 1 h30 h.tok AG) fun v31=>oA (AF h30 .Eq v31 (.str [100,101,108,101,116,101])) fun b32=>iB b32 (oA (gv 1 h30 v29 AJ) fun v33=>AB F.GC [v33,h30.strict] h30 fun v34 h35=>AB F.Av [.par,v34] h35 fun v36 h37=>oA (gv 1 h37 h.tok AI) fun v38=>oA (gv 1 h37 h.tok AG) fun v39=>As false h37 [v39,v29] fun v40 h41=>BN AL Al [(.str [85,110,97,114,121]),v38,v40] h41 fun v42 h43=>oV 1 h v42 h43) (oA (gv 1 h30 h.tok AI) fun v44=>oA (gv 1 h30 h.tok AG) fun v45=>As false h30 [v45,v29] fun v46 h47=>BN AL Al [(.str [85,110,97,114,121]),v44,v46] h47 fun v48 h49=>oV 1 h v48 h49))))
noncomputable def ZM(F:FS)(h:HA):RA X:=Ds F F.D8 h
noncomputable def TQ(F:FS):PF:=Fv 1 (ZM F)
noncomputable def Cp(F:FS)(O:PF)(h:HA):RA X:=(AB O [.par] h fun v1 h2=>oA (TS (EU (EU (gv 1 h2 .par Am) fun v3=>gv 1 h2 v3 AJ) fun v4=>BY (AF h2 .NotEq v4 (.str [112,117,110,99,116]))) (TS (EU (EU (gv 1 h2 .par Am) fun v5=>gv 1 h2 v5 AG) fun v6=>BY (AF h2 .NotIn v6 (.tup [(.str [43,43]),(.str [45,45])]))) (EU (gv 1 h2 .par Am) fun v7=>gv 1 h2 v7 AW))) fun v8=>AE v8 fun b9=>iB b9 (oV 1 h v1 h2) (AB F.DY [.par,v1] h2 fun v10 h11=>oA (gv 1 h11 v1 AI) fun v12=>AB F.Ay [.par] h11 fun v13 h14=>oA (gv 1 h14 v13 AG) fun v15=>As false h14 [v15,(.bool false),v1] fun v16 h17=>BN AL Al [(.str [85,112,100,97,116,101]),v12,v16] h17 fun v18 h19=>oV 1 h v18 h19))
noncomputable def Ud(F:FS)(h:HA):RA X:=Cp F F.Bv h
noncomputable def NW(F:FS):PF:=Fv 1 (Ud F)
noncomputable def Hw(F:FS)(O1 O2:PF)(h:HA):RA X:=(oA (gv 1 h h.tok AJ) fun v1=>oA (AF h .Eq v1 (.str [110,97,109,101])) fun b2=>iB b2 (oA (gv 1 h h.tok AI) fun v3=>AB F.Jp [.par] h fun v4 h5=>As false h5 [v4] fun v6 h7=>BN AL Al [(.str [78,97,109,101]),v3,v6] h7 fun v8 h9=>oV 1 h v8 h9) (oA (gv 1 h h.tok AJ) fun v10=>tB (BX [(.str [110,117,109,98,101,114]),(.str [116,101,120,116])]) (oA (AF h .In v10 (.tup [(.str [110,117,109,98,101,114]),(.str [116,101,120,116])])) fun b11=>iB b11 (oA (gv 1 h h.tok Ao) fun v12=>AB F.DX [v12,h.strict] h fun v13 h14=>AB F.Av [.par,v13] h14 fun v15 h16=>AB F.Ay [.par] h16 fun v17 h18=>oA (gv 1 h18 h.tok AJ) fun v19=>oA (AF h18 .Eq v19 (.str [110,117,109,98,101,114])) fun b20=>iB b20 (oA (gv 1 h18 h.tok AI) fun v21=>oA (gv 1 h18 h.tok AG) fun v22=>As false h18 [v22] fun v23 h24=>BN AL Al [(.str [78,117,109]),v21,v23] h24 fun v25 h26=>oV 1 h v25 h26) (oA (gv 1 h18 h.tok AI) fun v27=>oA (gv 1 h18 h.tok AG) fun v28=>As false h18 [v28] fun v29 h30=>BN AL Al [(.str [83,116,114]),v27,v29] h30 fun v31 h32=>oV 1 h v31 h32)) (oA (gv 1 h h.tok AJ) fun v33=>oA (AF h .Eq v33 (.str [107,101,121,119,111,114,100])) fun b34=>iB b34 (AB O1 [.par] h fun v35 h36=>oV 1 h v35 h36) (AB F.GB [.par,(.str [40])] h fun v37 h38=>AE v37 fun b39=>iB b39 (AB F.Az [.par,(.bool true)] h38 fun v40 h41=>AB F.BO [.par,(.str [41])] h41 fun v42 h43=>oV 1 h v40 h43) (AB F.Aa [.par,(.str [91])] h38 fun v44 h45=>AE v44 fun b46=>iB b46 (.no) (AB F.Aa [.par,(.str [123])] h45 fun v47 h48=>AE v47 fun b49=>iB b49 (AB O2 [.par] h48 fun v50 h51=>oV 1 h v50 h51) (AB F.Aa [.par,(.str [47])] h48 fun v52 h53=>AE v52 fun b54=>iB b54 (.no) (AB F.Aa [.par,(.str [47,61])] h53 fun v55 h56=>AE v55 fun b57=>iB b57 (.no) (AB F.Au [.par] h56 fun v58 h59=>oV 1 h v58 h59))))))))))
noncomputable def Uc(F:FS)(h:HA):RA X:=Hw F F.Bo F.EC h
noncomputable def NV(F:FS):PF:=Fv 1 (Uc F)
noncomputable def CB(F:FS)(O:PF)(h:HA):RA X:=(AB F.Bn [.par,(.str [102,117,110,99,116,105,111,110])] h fun v1 h2=>AE v1 fun b3=>iB b3 (AB F.Ay [.par] h2 fun v4 h5=>AB O [.par,(.str [101,120,112,114])] h5 fun v6 h7=>oV 1 h v6 h7) (oA (gv 1 h2 h.tok AG) fun v8=>tB (BX [(.str [116,104,105,115]),(.str [110,117,108,108]),(.str [116,114,117,101]),(.str [102,97,108,115,101])]) (oA (AF h2 .NotIn v8 (.tup [(.str [116,104,105,115]),(.str [110,117,108,108]),(.str [116,114,117,101]),(.str [102,97,108,115,101])])) fun b9=>iB b9 (AB F.Au [.par] h2 fun v10 h11=>AB F.Ay [.par] h11 fun v12 h13=>oA (gv 1 h13 h.tok AG) fun v14=>oA (AF h13 .Eq v14 (.str [116,104,105,115])) fun b15=>iB b15 (oA (gv 1 h13 h.tok AI) fun v16=>As false h13 [] fun v17 h18=>BN AL Al [(.str [84,104,105,115]),v16,v17] h18 fun v19 h20=>oV 1 h v19 h20) (oA (gv 1 h13 h.tok AG) fun v21=>oA (AF h13 .Eq v21 (.str [110,117,108,108])) fun b22=>iB b22 (oA (gv 1 h13 h.tok AI) fun v23=>As false h13 [] fun v24 h25=>BN AL Al [(.str [78,117,108,108]),v23,v24] h25 fun v26 h27=>oV 1 h v26 h27) (oA (gv 1 h13 h.tok AI) fun v28=>oA (gv 1 h13 h.tok AG) fun v29=>oA (AF h13 .Eq v29 (.str [116,114,117,101])) fun b30=>As false h13 [(.bool b30)] fun v31 h32=>BN AL Al [(.str [66,111,111,108]),v28,v31] h32 fun v33 h34=>oV 1 h v33 h34))) (oA (gv 1 h2 h.tok BK) fun v35=>AE v35 fun b36=>iB (!b36) (AB F.Au [.par] h2 fun v37 h38=>AB F.Ay [.par] h38 fun v39 h40=>oA (gv 1 h40 h.tok AG) fun v41=>oA (AF h40 .Eq v41 (.str [116,104,105,115])) fun b42=>iB b42 (oA (gv 1 h40 h.tok AI) fun v43=>As false h40 [] fun v44 h45=>BN AL Al [(.str [84,104,105,115]),v43,v44] h45 fun v46 h47=>oV 1 h v46 h47) (oA (gv 1 h40 h.tok AG) fun v48=>oA (AF h40 .Eq v48 (.str [110,117,108,108])) fun b49=>iB b49 (oA (gv 1 h40 h.tok AI) fun v50=>As false h40 [] fun v51 h52=>BN AL Al [(.str [78,117,108,108]),v50,v51] h52 fun v53 h54=>oV 1 h v53 h54) (oA (gv 1 h40 h.tok AI) fun v55=>oA (gv 1 h40 h.tok AG) fun v56=>oA (AF h40 .Eq v56 (.str [116,114,117,101])) fun b57=>As false h40 [(.bool b57)] fun v58 h59=>BN AL Al [(.str [66,111,111,108]),v55,v58] h59 fun v60 h61=>oV 1 h v60 h61))) (AB F.Ay [.par] h2 fun v62 h63=>oA (gv 1 h63 h.tok AG) fun v64=>oA (AF h63 .Eq v64 (.str [116,104,105,115])) fun b65=>iB b65 (oA (gv 1 h63 h.tok AI) fun v66=>As false h63 [] fun v67 h68=>BN AL Al [(.str [84,104,105,115]),v66,v67] h68 fun v69 h70=>oV 1 h v69 h70) (oA (gv 1 h63 h.tok AG) fun v71=>oA (AF h63 .Eq v71 (.str [110,117,108,108])) fun b72=>iB b72 (oA (gv 1 h63 h.tok AI) fun v73=>As false h63 [] fun v74 h75=>BN AL Al [(.str [78,117,108,108]),v73,v74] h75 fun v76 h77=>oV 1 h v76 h77) (oA (gv 1 h63 h.tok AI) fun v78=>oA (gv 1 h63 h.tok AG) fun v79=>oA (AF h63 .Eq v79 (.str [116,114,117,101])) fun b80=>As false h63 [(.bool b80)] fun v81 h82=>BN AL Al [(.str [66,111,111,108]),v78,v81] h82 fun v83 h84=>oV 1 h v83 h84)))))))
noncomputable def LZ(F:FS)(h:HA):RA X:=CB F F.BI h
noncomputable def GQ(F:FS):PF:=Fv 1 (LZ F)
noncomputable def DW(F:FS)(O:PF)(h:HA):RA X:=(oA (gv 1 h h.tok AJ) fun v1=>oA (AF h .Eq v1 (.str [110,97,109,101])) fun b2=>iB b2 (oA (gv 1 h h.tok AG) fun v3=>tB (BX [(.str [103,101,116]),(.str [115,101,116])]) (oA (AF h .In v3 (.tup [(.str [103,101,116]),(.str [115,101,116])])) fun b4=>iB b4 (oA (gv 1 h h.tok BK) fun v5=>AE v5 fun b6=>iB b6 (AB F.RU [.par] h fun v7 h8=>oA (gv 1 h8 v7 AJ) fun v9=>oA (AF h8 .NotEq v9 (.str [112,117,110,99,116])) fun b10=>iB b10 (AB F.Ay [.par] h8 fun v11 h12=>AB F.C0 [.par] h12 fun v13 h14=>oA (gv 1 h14 h.tok AG) fun v15=>AB O [.par,v15] h14 fun v16 h17=>oA (gv 1 h17 h.tok AG) fun v18=>oA (gv 1 h17 v16 DB) fun v19=>oA (Ap h17 v19 (.int 1)) fun v20=>AB F.Er [v18,v20] h17 fun v21 h22=>AB F.Av [.par,v21] h22 fun v23 h24=>oA (gv 1 h24 h.tok AG) fun v25=>tB (BX [v25,v13,v16]) (oV 1 h (.tup [v25,v13,v16]) h24)) (AB F.C0 [.par] h8 fun v26 h27=>AB F.BO [.par,(.str [58])] h27 fun v28 h29=>AB F.AY [.par,(.bool true)] h29 fun v30 h31=>tB (BX [(.str [105,110,105,116]),v26,v30]) (oV 1 h (.tup [(.str [105,110,105,116]),v26,v30]) h31))) (AB F.C0 [.par] h fun v32 h33=>AB F.BO [.par,(.str [58])] h33 fun v34 h35=>AB F.AY [.par,(.bool true)] h35 fun v36 h37=>tB (BX [(.str [105,110,105,116]),v32,v36]) (oV 1 h (.tup [(.str [105,110,105,116]),v32,v36]) h37))) (AB F.C0 [.par] h fun v38 h39=>AB F.BO [.par,(.str [58])] h39 fun v40 h41=>AB F.AY [.par,(.bool true)] h41 fun v42 h43=>tB (BX [(.str [105,110,105,116]),v38,v42]) (oV 1 h (.tup [(.str [105,110,105,116]),v38,v42]) h43)))) (AB F.C0 [.par] h fun v44 h45=>AB F.BO [.par,(.str [58])] h45 fun v46 h47=>AB F.AY [.par,(.bool true)] h47 fun v48 h49=>tB (BX [(.str [105,110,105,116]),v44,v48]) (oV 1 h (.tup [(.str [105,110,105,116]),v44,v48]) h49)))
noncomputable def ZN(F:FS)(h:HA):RA X:=DW F F.BI h
noncomputable def TR(F:FS):PF:=Fv 1 (ZN F)
noncomputable def QK(F:FS)(h:HA):RA X:=(oA (TS (EU (gv 1 h h.tok AJ) fun v1=>BY (AF h .Eq v1 (.str [116,101,120,116]))) (EU (gv 1 h h.tok AJ) fun v2=>BY (AF h .Eq v2 (.str [110,117,109,98,101,114])))) fun v3=>AE v3 fun b4=>iB b4 (oA (gv 1 h h.tok Ao) fun v5=>AB F.DX [v5,h.strict] h fun v6 h7=>AB F.Av [.par,v6] h7 fun v8 h9=>AB F.Ay [.par] h9 fun v10 h11=>oA (gv 1 h11 h.tok AJ) fun v12=>oA (AF h11 .Eq v12 (.str [116,101,120,116])) fun b13=>iB b13 (oA (gv 1 h11 h.tok AG) fun v14=>oV 1 h v14 h11) (oA (gv 1 h11 h.tok AG) fun v15=>AB F.V4 [v15] h11 fun v16 h17=>oV 1 h v16 h17)) (AB F.Ct [.par] h fun v18 h19=>oV 1 h v18 h19))
noncomputable def J_(F:FS):PF:=Fv 1 (QK F)
noncomputable def Wf(F:FS)(is_end:V)(h:HA):RA X:=(AE is_end fun b1=>iB b1 (oA (gv 1 h h.tok AJ) fun v2=>oA (AF h .Eq v2 (.str [101,110,100])) fun b3=>rt (.bool b3) h) (AB F.Aa [.par,(.str [125])] h fun v4 h5=>oV 1 h v4 h5))
noncomputable def Lv(F:FS):PF:=HT 1 (Wf F)
noncomputable def Hx(F:FS)(O1 O2:PF)(h:HA):RA X:=(AB F.Bn [.par,(.str [102,117,110,99,116,105,111,110])] h fun v1 h2=>AE v1 fun b3=>iB (!b3) (AB O2 [.par] h2 fun v4 h5=>oV 1 h v4 h5) (AB F.Ay [.par] h2 fun v6 h7=>AB O1 [.par,(.str [100,101,99,108])] h7 fun v8 h9=>oV 1 h v8 h9))
noncomputable def Uh(F:FS)(h:HA):RA X:=Hx F F.BI F.BD h
noncomputable def NZ(F:FS):PF:=Fv 1 (Uh F)
noncomputable def Cx(F:FS)(O:PF)(sort:V)(h:HA):RA X:=(oA (gv 1 h h.tok AI) fun v1=>tB (QV [h.strict,h.jumps]) (AB F.Fh [.par,sort] h fun v2 h3=>AB F.H6 [.par] h3 fun v4 h5=>AB F.BO [.par,(.str [123])] h5 fun v6 h7=>A2 false h7 .Add h7.depth (.int 1) fun v8 h9=>FU true h9 (.inst DD []) fun v10 h11=>As true h11 [] fun v12 h13=>oA (sv 1 h13 v10 Ez v12) fun h14=>oA (sv 1 h14 v10 DZ (.int 0)) fun h15=>oA (sv 1 h15 v10 DU (.int 0)) fun h16=>bA (Jc (tS h11) (.ok (.next,[(k_self,v10)]) h16)) fun v17 h18=>Nc v17 (tB (QV [v8,v10]) (oA (sv 1 h18 .par De v8) fun h19=>oA (sv 1 h19 .par Dd v10) fun h20=>AB O [.par,(.bool false)] h20 fun v21 h22=>AB F.GA [v2,v4,h22.strict] h22 fun v23 h24=>AB F.Av [.par,v23] h24 fun v25 h26=>As false h26 [v2,v4,v21,h26.strict,sort] fun v27 h28=>BN AL Al [(.str [70,117,110,99,116,105,111,110]),v1,v27] h28 fun v29 h30=>A2 false h30 .Sub h30.depth (.int 1) fun v31 h32=>tB (QV [v31,h.jumps,h.strict]) (oA (sv 1 h32 .par De v31) fun h33=>oA (sv 1 h33 .par Dd h.jumps) fun h34=>oA (sv 1 h34 .par Ad h.strict) fun h35=>AB F.BO [.par,(.str [125])] h35 fun v36 h37=>oV 1 h v29 h37)))))
noncomputable def R1(F:FS)(sort:V)(h:HA):RA X:=Cx F F.Bt sort h
noncomputable def Ls(F:FS):PF:=HT 1 (R1 F)
noncomputable def Kg(F:FS)(sort:V)(h:HA):RA X:=(oA (TS (BY (AF h .Eq sort (.str [100,101,99,108]))) (CD (BY (AF h .Eq sort (.str [101,120,112,114]))) (EU (EU (gv 1 h .par Am) fun v1=>gv 1 h v1 AJ) fun v2=>BY (AF h .Eq v2 (.str [110,97,109,101]))))) fun v3=>AE v3 fun b4=>iB b4 (AB F.C8 [.par] h fun v5 h6=>oV 1 h v5 h6) (rt .none h))
noncomputable def Fq(F:FS):PF:=HT 1 (Kg F)
noncomputable def FY(F:FS)(O1 O2:PF)(h:HA):RA X:=tB (QV [h.tok,h.pend]) (As false h [] fun v1 h2=>oA (sv 1 h2 .par Cf v1) fun h3=>oA (gv 1 h3 h.tok AJ) fun v4=>oA (AF h3 .Eq v4 (.str [110,97,109,101])) fun b5=>iB b5 (AB F.RU [.par] h3 fun v6 h7=>oA (CD (EU (gv 1 h7 v6 AJ) fun v8=>BY (AF h7 .Eq v8 (.str [112,117,110,99,116]))) (EU (gv 1 h7 v6 AG) fun v9=>BY (AF h7 .Eq v9 (.str [58])))) fun v10=>AE v10 fun b11=>iB b11 (AB F.LG [.par,h.pend] h7 fun v12 h13=>oV 1 h v12 h13) (oA (CD (EU (gv 1 h7 h.tok AJ) fun v14=>BY (AF h7 .Eq v14 (.str [107,101,121,119,111,114,100]))) (gv 1 h7 h.tok BK)) fun v15=>AE v15 fun b16=>iB b16 (oA (gv 1 h7 h.tok AG) fun v17=>AB O2 [.par,v17,h.pend] h7 fun v18 h19=>oV 1 h v18 h19) (AB F.Aa [.par,(.str [123])] h7 fun v20 h21=>AE v20 fun b22=>iB b22 (oA (gv 1 h21 h.tok AI) fun v23=>AB F.FK [.par] h21 fun v24 h25=>As false h25 [v24] fun v26 h27=>BN AL Al [(.str [66,108,111,99,107]),v23,v26] h27 fun v28 h29=>oV 1 h v28 h29) (AB F.GB [.par,(.str [59])] h21 fun v30 h31=>AE v30 fun b32=>iB b32 (oA (gv 1 h31 h.tok AI) fun v33=>As false h31 [] fun v34 h35=>BN AL Al [(.str [69,109,112,116,121]),v33,v34] h35 fun v36 h37=>oV 1 h v36 h37) (AB O1 [.par] h31 fun v38 h39=>oV 1 h v38 h39))))) (oA (CD (EU (gv 1 h3 h.tok AJ) fun v40=>BY (AF h3 .Eq v40 (.str [107,101,121,119,111,114,100]))) (gv 1 h3 h.tok BK)) fun v41=>AE v41 fun b42=>iB b42 (oA (gv 1 h3 h.tok AG) fun v43=>AB O2 [.par,v43,h.pend] h3 fun v44 h45=>oV 1 h v44 h45) (AB F.Aa [.par,(.str [123])] h3 fun v46 h47=>AE v46 fun b48=>iB b48 (oA (gv 1 h47 h.tok AI) fun v49=>AB F.FK [.par] h47 fun v50 h51=>As false h51 [v50] fun v52 h53=>BN AL Al [(.str [66,108,111,99,107]),v49,v52] h53 fun v54 h55=>oV 1 h v54 h55) (AB F.GB [.par,(.str [59])] h47 fun v56 h57=>AE v56 fun b58=>iB b58 (oA (gv 1 h57 h.tok AI) fun v59=>As false h57 [] fun v60 h61=>BN AL Al [(.str [69,109,112,116,121]),v59,v60] h61 fun v62 h63=>oV 1 h v62 h63) (AB O1 [.par] h57 fun v64 h65=>oV 1 h v64 h65)))))
noncomputable def QF(F:FS)(h:HA):RA X:=FY F F.Ah F.BZ h
noncomputable def J6(F:FS):PF:=Fv 1 (QF F)
noncomputable def Bf(F:FS)(O:PF)(h:HA):RA X:=(oA (gv 1 h h.tok AI) fun v1=>AB O [.par,(.bool true)] h fun v2 h3=>AB F.BB [.par] h3 fun v4 h5=>As false h5 [v2] fun v6 h7=>BN AL Al [(.str [69,120,112,114]),v1,v6] h7 fun v8 h9=>oV 1 h v8 h9)
noncomputable def Ho(F:FS)(h:HA):RA X:=Bf F F.Az h
noncomputable def EG(F:FS):PF:=Fv 1 (Ho F)
noncomputable def B1(F:FS)(O:PF)(word pending:V)(h:HA):RA X:=(oA (gv 1 h h.tok AI) fun v1=>oA (AF h .In word (.tup [(.str [100,111]),(.str [119,104,105,108,101]),(.str [102,111,114])])) fun b2=>iB b2 (AB F.V5 [.par,word,v1,pending] h fun v3 h4=>oV 1 h v3 h4) (oA (AF h .Eq word (.str [118,97,114])) fun b5=>iB b5 (AB F.Ay [.par] h fun v6 h7=>AB F.Jo [.par,(.bool true)] h7 fun v8 h9=>As false h9 [v8] fun v10 h11=>BN AL Al [(.str [86,97,114]),v1,v10] h11 fun v12 h13=>AB F.BB [.par] h13 fun v14 h15=>oV 1 h v12 h15) (oA (AF h .Eq word (.str [105,102])) fun b16=>iB b16 (AB F.Pt [.par,v1] h fun v17 h18=>oV 1 h v17 h18) (tB (BX [(.str [98,114,101,97,107]),(.str [99,111,110,116,105,110,117,101])]) (oA (AF h .In word (.tup [(.str [98,114,101,97,107]),(.str [99,111,110,116,105,110,117,101])])) fun b19=>iB b19 (AB F.V6 [.par,word,v1] h fun v20 h21=>oV 1 h v20 h21) (tB (BX [(.str [114,101,116,117,114,110]),(.str [116,104,114,111,119])]) (oA (AF h .In word (.tup [(.str [114,101,116,117,114,110]),(.str [116,104,114,111,119])])) fun b22=>iB b22 (AB O [.par,word,v1] h fun v23 h24=>oV 1 h v23 h24) (oA (AF h .Eq word (.str [115,119,105,116,99,104])) fun b25=>iB b25 (AB F.Pp [.par,v1] h fun v26 h27=>oV 1 h v26 h27) (oA (AF h .Eq word (.str [116,114,121])) fun b28=>iB b28 (AB F.NH [.par,v1] h fun v29 h30=>oV 1 h v29 h30) (oA (AF h .Eq word (.str [100,101,98,117,103,103,101,114])) fun b31=>iB b31 (AB F.Ay [.par] h fun v32 h33=>AB F.BB [.par] h33 fun v34 h35=>As false h35 [] fun v36 h37=>BN AL Al [(.str [68,101,98,117,103,103,101,114]),v1,v36] h37 fun v38 h39=>oV 1 h v38 h39) (oA (AF h .Eq word (.str [102,117,110,99,116,105,111,110])) fun b40=>iB b40 (AB F.A9 [.par,(.str [97,32,102,117,110,99,116,105,111,110,32,115,116,97,110,100,115,32,119,104,101,114,101,32,97,32,115,116,97,116,101,109,101,110,116,32,105,115,32,119,97,110,116,101,100])] h fun v41 h42=>oA (AF h42 .Eq word (.str [119,105,116,104])) fun b43=>iB b43 (AB F.A9 [.par,(.str [119,105,116,104,32,105,115,32,108,101,102,116,32,111,117,116])] h42 fun v44 h45=>AB F.Ah [.par] h45 fun v46 h47=>oV 1 h v46 h47) (AB F.Ah [.par] h42 fun v48 h49=>oV 1 h v48 h49)) (oA (AF h .Eq word (.str [119,105,116,104])) fun b50=>iB b50 (AB F.A9 [.par,(.str [119,105,116,104,32,105,115,32,108,101,102,116,32,111,117,116])] h fun v51 h52=>AB F.Ah [.par] h52 fun v53 h54=>oV 1 h v53 h54) (AB F.Ah [.par] h fun v55 h56=>oV 1 h v55 h56)))))))))))))
noncomputable def JL(F:FS)(word pending:V)(h:HA):RA X:=B1 F F.D9 word pending h
noncomputable def Eu(F:FS):PF:=bD 1 (JL F)
noncomputable def QL(F:FS)(h:HA):RA X:=(AB F.BO [.par,(.str [40])] h fun v1 h2=>AB F.Az [.par,(.bool true)] h2 fun v3 h4=>AB F.BO [.par,(.str [41])] h4 fun v5 h6=>oV 1 h v3 h6)
noncomputable def KC(F:FS):PF:=Fv 1 (QL F)
noncomputable def We(F:FS)(line:V)(h:HA):RA X:=(AB F.Ay [.par] h fun v1 h2=>AB F.Jr [.par] h2 fun v3 h4=>AB F.BD [.par] h4 fun v5 h6=>tB (QV [v5,.none]) (AB F.Bn [.par,(.str [101,108,115,101])] h6 fun v7 h8=>AE v7 fun b9=>iB b9 (AB F.Ay [.par] h8 fun v10 h11=>AB F.BD [.par] h11 fun v12 h13=>As false h13 [v3,v5,v12] fun v14 h15=>BN AL Al [(.str [73,102]),line,v14] h15 fun v16 h17=>oV 1 h v16 h17) (As false h8 [v3,v5,.none] fun v18 h19=>BN AL Al [(.str [73,102]),line,v18] h19 fun v20 h21=>oV 1 h v20 h21)))
noncomputable def QS(F:FS):PF:=HT 1 (We F)
noncomputable def QJ(F:FS)(h:HA):RA X:=(oA (gv 1 h h.jumps DZ) fun v1=>oA (D7 .Add v1 (.int 1)) fun v2=>oA (sv 1 h h.jumps DZ v2) fun h3=>AB F.BD [.par] h3 fun v4 h5=>oA (gv 1 h5 h5.jumps DZ) fun v6=>oA (D7 .Sub v6 (.int 1)) fun v7=>oA (sv 1 h5 h5.jumps DZ v7) fun h8=>oV 1 h v4 h8)
noncomputable def J9(F:FS):PF:=Fv 1 (QJ F)
noncomputable def Rz(F:FS)(line target:V)(h:HA):RA X:=(AB F.Ay [.par] h fun v1 h2=>AB F.Az [.par,(.bool true)] h2 fun v3 h4=>AB F.BO [.par,(.str [41])] h4 fun v5 h6=>AB F.Jq [.par] h6 fun v7 h8=>As false h8 [target,v3,v7] fun v9 h10=>BN AL Al [(.str [70,111,114,73,110]),line,v9] h10 fun v11 h12=>oV 1 h v11 h12)
noncomputable def Lr(F:FS):PF:=bD 1 (Rz F)
noncomputable def CZ(F:FS)(O:PF)(word line:V)(h:HA):RA X:=(AB F.Ay [.par] h fun v1 h2=>oA (AF h2 .Eq word (.str [114,101,116,117,114,110])) fun b3=>iB b3 (oA (AF h2 .Eq h2.depth (.int 0)) fun b4=>iB b4 (AB F.A9 [.par,(.str [114,101,116,117,114,110,32,111,117,116,115,105,100,101,32,111,102,32,102,117,110,99,116,105,111,110,115])] h2 fun v5 h6=>AB F.G6 [.par] h6 fun v7 h8=>AE v7 fun b9=>iB b9 (AB F.BB [.par] h8 fun v10 h11=>oA (AF h11 .Eq word (.str [114,101,116,117,114,110])) fun b12=>iB b12 (As false h11 [.none] fun v13 h14=>BN AL Al [(.str [82,101,116,117,114,110]),line,v13] h14 fun v15 h16=>oV 1 h v15 h16) (As false h11 [.none] fun v17 h18=>BN AL Al [(.str [84,104,114,111,119]),line,v17] h18 fun v19 h20=>oV 1 h v19 h20)) (AB O [.par,(.bool true)] h8 fun v21 h22=>AB F.BB [.par] h22 fun v23 h24=>oA (AF h24 .Eq word (.str [114,101,116,117,114,110])) fun b25=>iB b25 (As false h24 [v21] fun v26 h27=>BN AL Al [(.str [82,101,116,117,114,110]),line,v26] h27 fun v28 h29=>oV 1 h v28 h29) (As false h24 [v21] fun v30 h31=>BN AL Al [(.str [84,104,114,111,119]),line,v30] h31 fun v32 h33=>oV 1 h v32 h33))) (AB F.G6 [.par] h2 fun v34 h35=>AE v34 fun b36=>iB b36 (AB F.BB [.par] h35 fun v37 h38=>oA (AF h38 .Eq word (.str [114,101,116,117,114,110])) fun b39=>iB b39 (As false h38 [.none] fun v40 h41=>BN AL Al [(.str [82,101,116,117,114,110]),line,v40] h41 fun v42 h43=>oV 1 h v42 h43) (As false h38 [.none] fun v44 h45=>BN AL Al [(.str [84,104,114,111,119]),line,v44] h45 fun v46 h47=>oV 1 h v46 h47)) (AB O [.par,(.bool true)] h35 fun v48 h49=>AB F.BB [.par] h49 fun v50 h51=>oA (AF h51 .Eq word (.str [114,101,116,117,114,110])) fun b52=>iB b52 (As false h51 [v48] fun v53 h54=>BN AL Al [(.str [82,101,116,117,114,110]),line,v53] h54 fun v55 h56=>oV 1 h v55 h56) (As false h51 [v48] fun v57 h58=>BN AL Al [(.str [84,104,114,111,119]),line,v57] h58 fun v59 h60=>oV 1 h v59 h60)))) (oA (gv 1 h2 h2.tok AW) fun v61=>AE v61 fun b62=>iB b62 (AB F.A9 [.par,(.str [97,110,32,101,110,100,32,111,102,32,116,104,101,32,108,105,110,101,32,98,101,104,105,110,100,32,116,104,114,111,119])] h2 fun v63 h64=>AB O [.par,(.bool true)] h64 fun v65 h66=>AB F.BB [.par] h66 fun v67 h68=>oA (AF h68 .Eq word (.str [114,101,116,117,114,110])) fun b69=>iB b69 (As false h68 [v65] fun v70 h71=>BN AL Al [(.str [82,101,116,117,114,110]),line,v70] h71 fun v72 h73=>oV 1 h v72 h73) (As false h68 [v65] fun v74 h75=>BN AL Al [(.str [84,104,114,111,119]),line,v74] h75 fun v76 h77=>oV 1 h v76 h77)) (AB O [.par,(.bool true)] h2 fun v78 h79=>AB F.BB [.par] h79 fun v80 h81=>oA (AF h81 .Eq word (.str [114,101,116,117,114,110])) fun b82=>iB b82 (As false h81 [v78] fun v83 h84=>BN AL Al [(.str [82,101,116,117,114,110]),line,v83] h84 fun v85 h86=>oV 1 h v85 h86) (As false h81 [v78] fun v87 h88=>BN AL Al [(.str [84,104,114,111,119]),line,v87] h88 fun v89 h90=>oV 1 h v89 h90))))
noncomputable def Ue(F:FS)(word line:V)(h:HA):RA X:=CZ F F.Az word line h
noncomputable def NX(F:FS):PF:=bD 1 (Ue F)
noncomputable def Uj(F:FS)(line:V)(h:HA):RA X:=(AB F.Ay [.par] h fun v1 h2=>AB F.FK [.par] h2 fun v3 h4=>tB (QV [.none,.none,.none]) (AB F.Bn [.par,(.str [99,97,116,99,104])] h4 fun v5 h6=>AE v5 fun b7=>iB b7 (AB F.Ay [.par] h6 fun v8 h9=>AB F.BO [.par,(.str [40])] h9 fun v10 h11=>AB F.C8 [.par] h11 fun v12 h13=>AB F.BO [.par,(.str [41])] h13 fun v14 h15=>AB F.FK [.par] h15 fun v16 h17=>AB F.Bn [.par,(.str [102,105,110,97,108,108,121])] h17 fun v18 h19=>AE v18 fun b20=>iB b20 (AB F.Ay [.par] h19 fun v21 h22=>AB F.FK [.par] h22 fun v23 h24=>oA (CD (BY (AF h24 .Is v16 .none)) (BY (AF h24 .Is v23 .none))) fun v25=>AE v25 fun b26=>iB b26 (AB F.Au [.par] h24 fun v27 h28=>As false h28 [v3,v12,v16,v23] fun v29 h30=>BN AL Al [(.str [84,114,121]),line,v29] h30 fun v31 h32=>oV 1 h v31 h32) (As false h24 [v3,v12,v16,v23] fun v33 h34=>BN AL Al [(.str [84,114,121]),line,v33] h34 fun v35 h36=>oV 1 h v35 h36)) (oA (CD (BY (AF h19 .Is v16 .none)) (BY (AF h19 .Is .none .none))) fun v37=>AE v37 fun b38=>iB b38 (AB F.Au [.par] h19 fun v39 h40=>As false h40 [v3,v12,v16,.none] fun v41 h42=>BN AL Al [(.str [84,114,121]),line,v41] h42 fun v43 h44=>oV 1 h v43 h44) (As false h19 [v3,v12,v16,.none] fun v45 h46=>BN AL Al [(.str [84,114,121]),line,v45] h46 fun v47 h48=>oV 1 h v47 h48))) (AB F.Bn [.par,(.str [102,105,110,97,108,108,121])] h6 fun v49 h50=>AE v49 fun b51=>iB b51 (AB F.Ay [.par] h50 fun v52 h53=>AB F.FK [.par] h53 fun v54 h55=>oA (CD (BY (AF h55 .Is .none .none)) (BY (AF h55 .Is v54 .none))) fun v56=>AE v56 fun b57=>iB b57 (AB F.Au [.par] h55 fun v58 h59=>As false h59 [v3,.none,.none,v54] fun v60 h61=>BN AL Al [(.str [84,114,121]),line,v60] h61 fun v62 h63=>oV 1 h v62 h63) (As false h55 [v3,.none,.none,v54] fun v64 h65=>BN AL Al [(.str [84,114,121]),line,v64] h65 fun v66 h67=>oV 1 h v66 h67)) (oA (CD (BY (AF h50 .Is .none .none)) (BY (AF h50 .Is .none .none))) fun v68=>AE v68 fun b69=>iB b69 (AB F.Au [.par] h50 fun v70 h71=>As false h71 [v3,.none,.none,.none] fun v72 h73=>BN AL Al [(.str [84,114,121]),line,v72] h73 fun v74 h75=>oV 1 h v74 h75) (As false h50 [v3,.none,.none,.none] fun v76 h77=>BN AL Al [(.str [84,114,121]),line,v76] h77 fun v78 h79=>oV 1 h v78 h79)))))
noncomputable def Nb(F:FS):PF:=HT 1 (Uj F)
noncomputable def FO(F:FS)(P:PF):PF:=bX fun can_in first found h=>(AB F.GB [.par,(.str [44])] h fun v1 h2=>AE v1 fun b3=>iB b3 (AP found (tB (B7 h2 .append found) (AB F.AY [.par,can_in] h2 fun v4 h5=>AH .append found [v4] h5 fun v6 h7=>P [can_in,first,found] h7))) (.ok (.next,[(k_self,.par),(Cr,can_in),(Ip,first),(Aj,found)]) h2))
noncomputable def IP(F:FS)(P:PF)(can_in:V)(h:HA):RA X:=(AB F.AY [.par,can_in] h fun v1 h2=>AB F.Aa [.par,(.str [44])] h2 fun v3 h4=>AE v3 fun b5=>iB (!b5) (oV 1 h v1 h4) (As false h4 [v1] fun v6 h7=>bS (P [can_in,v1,v6] h7) fun z8 h9=>Mf z8 (fun z10=>NK 1 [Cr,Ip,Aj] z10 fun vs=>Vy vs fun v11 v12 v13=>oA (gv 1 h9 v12 AI) fun v14=>As false h9 [v13] fun v15 h16=>BN AL Al [(.str [67,111,109,109,97]),v14,v15] h16 fun v17 h18=>oV 1 h v17 h18) fun v19=>oV 1 h v19 h9))
noncomputable def Oo(F:FS):PF:=HT 1 (IP F (EV (FO F) FI))
noncomputable def LQ(F:FS)(P:PF):PF:=bX fun least can_in left h=>(AB F.Hj [.par,can_in] h fun v1 h2=>oA (AF h2 .GtE v1 least) fun b3=>iB b3 (AB F.Hj [.par,can_in] h2 fun v4 h5=>AB F.Ay [.par] h5 fun v6 h7=>oA (gv 1 h7 v6 AG) fun v8=>A2 false h7 .Add v4 (.int 1) fun v9 h10=>AB F.ED [.par,v9,can_in] h10 fun v11 h12=>oA (AF h12 .Lt v4 (.int 3)) fun b13=>iB b13 (oA (gv 1 h12 left AI) fun v14=>As false h12 [v8,left,v11] fun v15 h16=>BN AL Al [(.str [76,111,103,105,99,97,108]),v14,v15] h16 fun v17 h18=>P [least,can_in,v17] h18) (oA (gv 1 h12 left AI) fun v19=>As false h12 [v8,left,v11] fun v20 h21=>BN AL Al [(.str [66,105,110,97,114,121]),v19,v20] h21 fun v22 h23=>P [least,can_in,v22] h23)) (.ok (.next,[(k_self,.par),(Io,least),(Cr,can_in),(L7,left)]) h2))
noncomputable def QM(F:FS)(P:PF)(least can_in:V)(h:HA):RA X:=(AB F.Ea [.par] h fun v1 h2=>bS (P [least,can_in,v1] h2) fun z3 h4=>Mf z3 (fun z5=>NK 1 [Io,Cr,L7] z5 fun vs=>Vy vs fun v6 v7 v8=>oV 1 h v8 h4) fun v9=>oV 1 h v9 h4)
noncomputable def Wx(F:FS):PF:=bD 1 (QM F (EV (LQ F) FI))
noncomputable def DF(F:FS)(O:PF)(P:PF):PF:=O5 fun node h=>(AB F.Aa [.par,(.str [40])] h fun v1 h2=>AE v1 fun b3=>iB b3 (oA (gv 1 h2 node AI) fun v4=>AB O [.par] h2 fun v5 h6=>As false h6 [node,v5] fun v7 h8=>BN AL Al [(.str [67,97,108,108]),v4,v7] h8 fun v9 h10=>AB F.CT [.par,v9] h10 fun v11 h12=>P [v11] h12) (.ok (.next,[(k_self,.par),(El,node)]) h2))
noncomputable def Ec(F:FS)(P:PF):PF:=DF F F.C1 P
noncomputable def J1(F:FS)(P:PF)(h:HA):RA X:=(AB F.Bn [.par,(.str [110,101,119])] h fun v1 h2=>AE v1 fun b3=>iB b3 (.no) (AB F.CL [.par] h2 fun v4 h5=>AB F.CT [.par,v4] h5 fun v6 h7=>bS (P [v6] h7) fun z8 h9=>Mf z8 (fun z10=>NK 1 [El] z10 fun vs=>Rj vs fun v11=>oV 1 h v11 h9) fun v12=>oV 1 h v12 h9))
noncomputable def QR(F:FS):PF:=Fv 1 (J1 F (EV (Ec F) FI))
noncomputable def GG(F:FS)(P:PF):PF:=O5 fun node h=>(AB F.Aa [.par,(.str [46])] h fun v1 h2=>AE v1 fun b3=>iB b3 (AB F.Ay [.par] h2 fun v4 h5=>oA (gv 1 h5 v4 AG) fun v6=>oA (AF h5 .Eq v6 (.str [46])) fun b7=>iB b7 (oA (gv 1 h5 node AI) fun v8=>AB F.Ct [.par] h5 fun v9 h10=>As false h10 [node,v9] fun v11 h12=>BN AL Al [(.str [77,101,109,98,101,114]),v8,v11] h12 fun v13 h14=>P [v13] h14) (AB F.Az [.par,(.bool true)] h5 fun v15 h16=>AB F.BO [.par,(.str [93])] h16 fun v17 h18=>oA (gv 1 h18 node AI) fun v19=>As false h18 [node,v15] fun v20 h21=>BN AL Al [(.str [73,110,100,101,120]),v19,v20] h21 fun v22 h23=>P [v22] h23)) (AB F.Aa [.par,(.str [91])] h2 fun v24 h25=>AE v24 fun b26=>iB b26 (AB F.Ay [.par] h25 fun v27 h28=>oA (gv 1 h28 v27 AG) fun v29=>oA (AF h28 .Eq v29 (.str [46])) fun b30=>iB b30 (oA (gv 1 h28 node AI) fun v31=>AB F.Ct [.par] h28 fun v32 h33=>As false h33 [node,v32] fun v34 h35=>BN AL Al [(.str [77,101,109,98,101,114]),v31,v34] h35 fun v36 h37=>P [v36] h37) (AB F.Az [.par,(.bool true)] h28 fun v38 h39=>AB F.BO [.par,(.str [93])] h39 fun v40 h41=>oA (gv 1 h41 node AI) fun v42=>As false h41 [node,v38] fun v43 h44=>BN AL Al [(.str [73,110,100,101,120]),v42,v43] h44 fun v45 h46=>P [v45] h46)) (.ok (.next,[(k_self,.par),(El,node)]) h25)))
noncomputable def GL(F:FS)(P:PF)(node:V)(h:HA):RA X:=(bS (P [node] h) fun z1 h2=>Mf z1 (fun z3=>NK 1 [El] z3 fun vs=>Rj vs fun v4=>oV 1 h v4 h2) fun v5=>oV 1 h v5 h2)
noncomputable def Lm(F:FS):PF:=HT 1 (GL F (EV (GG F) FI))
noncomputable def C3(F:FS)(O:PF)(P:PF):PF:=O5 fun found h=>(AB F.Aa [.par,(.str [41])] h fun v1 h2=>AE v1 fun b3=>iB (!b3) (AP found (tB (B7 h2 .append found) (AB O [.par,(.bool true)] h2 fun v4 h5=>AH .append found [v4] h5 fun v6 h7=>AB F.GB [.par,(.str [44])] h7 fun v8 h9=>AE v8 fun b10=>iB (!b10) (.ok (.next,[(k_self,.par),(Aj,found)]) h9) (AB F.Aa [.par,(.str [41])] h9 fun v11 h12=>AE v11 fun b13=>iB b13 (AB F.Au [.par] h12 fun v14 h15=>P [found] h15) (P [found] h12))))) (.ok (.next,[(k_self,.par),(Aj,found)]) h2))
noncomputable def GH(F:FS)(P:PF):PF:=C3 F F.AY P
noncomputable def J2(F:FS)(P:PF)(h:HA):RA X:=(AB F.BO [.par,(.str [40])] h fun v1 h2=>As false h2 [] fun v3 h4=>bS (P [v3] h4) fun z5 h6=>Mf z5 (fun z7=>NK 1 [Aj] z7 fun vs=>Rj vs fun v8=>AB F.BO [.par,(.str [41])] h6 fun v9 h10=>oV 1 h v8 h10) fun v11=>oV 1 h v11 h6)
noncomputable def QU(F:FS):PF:=Fv 1 (J2 F (EV (GH F) FI))
noncomputable def Fy(F:FS)(O:PF)(P:PF):PF:=bX fun line found known h=>(AB F.Aa [.par,(.str [125])] h fun v1 h2=>AE v1 fun b3=>iB (!b3) (AB O [.par] h2 fun v4 h5=>oA (Ap h5 v4 (.int 0)) fun v6=>oA (Ap h5 v4 (.int 1)) fun v7=>AP known (tB (B7 h5 .get known) (As false h5 [] fun v8 h9=>AH .get known [v7,v8] h9 fun v10 h11=>As false h11 [v6] fun v12 h13=>A2 false h13 .Add v10 v12 fun v14 h15=>oA (WU h15 known v7 v14) fun h16=>oA (AF h16 .Eq v6 (.str [105,110,105,116])) fun b17=>iB b17 (oA (TS (BY (AF h16 .In (.str [103,101,116]) v10)) (BY (AF h16 .In (.str [115,101,116]) v10))) fun v18=>AE v18 fun b19=>iB b19 (A2 false h16 .Add (.str [112,114,111,112,101,114,116,121,32]) v7 fun v20 h21=>A2 false h21 .Add v20 (.str [32,119,105,116,104,32,97,32,118,97,108,117,101,32,97,110,100,32,97,110,32,97,99,99,101,115,115,111,114]) fun v22 h23=>bA (Jc (tS h5) (.ok ((.ret v22),[(HC,v10),(Ad,h5.strict),(Nn,v7),(Dp,v6),(DC,known)]) h23)) fun v24 h25=>AB F.Av [.par,v24] h25 fun v26 h27=>AP found (tB (B7 h27 .append found) (AH .append found [v4] h27 fun v28 h29=>AB F.Aa [.par,(.str [125])] h29 fun v30 h31=>AE v30 fun b32=>iB (!b32) (AB F.BO [.par,(.str [44])] h31 fun v33 h34=>P [line,found,known] h34) (P [line,found,known] h31)))) (oA (CD (.some h5.strict) (BY (AF h16 .In (.str [105,110,105,116]) v10))) fun v35=>AE v35 fun b36=>iB b36 (A2 false h16 .Add (.str [112,114,111,112,101,114,116,121,32]) v7 fun v37 h38=>A2 false h38 .Add v37 (.str [32,116,119,105,99,101]) fun v39 h40=>bA (Jc (tS h5) (.ok ((.ret v39),[(HC,v10),(Ad,h5.strict),(Nn,v7),(Dp,v6),(DC,known)]) h40)) fun v41 h42=>AB F.Av [.par,v41] h42 fun v43 h44=>AP found (tB (B7 h44 .append found) (AH .append found [v4] h44 fun v45 h46=>AB F.Aa [.par,(.str [125])] h46 fun v47 h48=>AE v47 fun b49=>iB (!b49) (AB F.BO [.par,(.str [44])] h48 fun v50 h51=>P [line,found,known] h51) (P [line,found,known] h48)))) (bA (Jc (tS h5) (.ok ((.ret .none),[(HC,v10),(Ad,h5.strict),(Nn,v7),(Dp,v6),(DC,known)]) h16)) fun v52 h53=>AB F.Av [.par,v52] h53 fun v54 h55=>AP found (tB (B7 h55 .append found) (AH .append found [v4] h55 fun v56 h57=>AB F.Aa [.par,(.str [125])] h57 fun v58 h59=>AE v58 fun b60=>iB (!b60) (AB F.BO [.par,(.str [44])] h59 fun v61 h62=>P [line,found,known] h62) (P [line,found,known] h59)))))) (oA (AF h16 .In (.str [105,110,105,116]) v10) fun b63=>iB b63 (A2 false h16 .Add (.str [112,114,111,112,101,114,116,121,32]) v7 fun v64 h65=>A2 false h65 .Add v64 (.str [32,119,105,116,104,32,97,32,118,97,108,117,101,32,97,110,100,32,97,110,32,97,99,99,101,115,115,111,114]) fun v66 h67=>bA (Jc (tS h5) (.ok ((.ret v66),[(HC,v10),(Ad,h5.strict),(Nn,v7),(Dp,v6),(DC,known)]) h67)) fun v68 h69=>AB F.Av [.par,v68] h69 fun v70 h71=>AP found (tB (B7 h71 .append found) (AH .append found [v4] h71 fun v72 h73=>AB F.Aa [.par,(.str [125])] h73 fun v74 h75=>AE v74 fun b76=>iB (!b76) (AB F.BO [.par,(.str [44])] h75 fun v77 h78=>P [line,found,known] h78) (P [line,found,known] h75)))) (oA (AF h16 .In v6 v10) fun b79=>iB b79 (A2 false h16 .Add (.str [97,99,99,101,115,115,111,114,32,111,102,32]) v7 fun v80 h81=>A2 false h81 .Add v80 (.str [32,116,119,105,99,101]) fun v82 h83=>bA (Jc (tS h5) (.ok ((.ret v82),[(HC,v10),(Ad,h5.strict),(Nn,v7),(Dp,v6),(DC,known)]) h83)) fun v84 h85=>AB F.Av [.par,v84] h85 fun v86 h87=>AP found (tB (B7 h87 .append found) (AH .append found [v4] h87 fun v88 h89=>AB F.Aa [.par,(.str [125])] h89 fun v90 h91=>AE v90 fun b92=>iB (!b92) (AB F.BO [.par,(.str [44])] h91 fun v93 h94=>P [line,found,known] h94) (P [line,found,known] h91)))) (bA (Jc (tS h5) (.ok ((.ret .none),[(HC,v10),(Ad,h5.strict),(Nn,v7),(Dp,v6),(DC,known)]) h16)) fun v95 h96=>AB F.Av [.par,v95] h96 fun v97 h98=>AP found (tB (B7 h98 .append found) (AH .append found [v4] h98 fun v99 h100=>AB F.Aa [.par,(.str [125])] h100 fun v101 h102=>AE v101 fun b103=>iB (!b103) (AB F.BO [.par,(.str [44])] h102 fun v104 h105=>P [line,found,known] h105) (P [line,found,known] h102))))))))) (.ok (.next,[(k_self,.par),(AI,line),(Aj,found),(DC,known)]) h2))
noncomputable def LP(F:FS)(P:PF):PF:=Fy F F.G5 P
noncomputable def QG(F:FS)(P:PF)(h:HA):RA X:=(AB F.Ay [.par] h fun v1 h2=>oA (gv 1 h2 v1 AI) fun v3=>As false h2 [] fun v4 h5=>FU false h5 (.dict []) fun v6 h7=>tB (QV [v4,v6]) (bS (P [v3,v4,v6] h7) fun z8 h9=>Mf z8 (fun z10=>NK 1 [AI,Aj,DC] z10 fun vs=>Vy vs fun v11 v12 v13=>AB F.BO [.par,(.str [125])] h9 fun v14 h15=>As false h15 [v12] fun v16 h17=>BN AL Al [(.str [79,98,106,101,99,116]),v11,v16] h17 fun v18 h19=>oV 1 h v18 h19) fun v20=>oV 1 h v20 h9))
noncomputable def Wu(F:FS):PF:=Fv 1 (QG F (EV (LP F) FI))
noncomputable def Bl(F:FS)(P:PF):PF:=qu fun is_end found has_octal is_ahead h=>(AB F.Dh [.par,is_end] h fun v1 h2=>AE v1 fun b3=>iB (!b3) (oA (CD (.some is_ahead) (EU (EU (gv 1 h2 .par Am) fun v4=>gv 1 h2 v4 AJ) fun v5=>BY (AF h2 .Eq v5 (.str [116,101,120,116])))) fun v6=>AE v6 fun b7=>iB (!b7) (AP found (tB (B7 h2 .append found) (AB F.A6 [.par] h2 fun v8 h9=>AH .append found [v8] h9 fun v10 h11=>P [is_end,found,has_octal,v6] h11))) (oA (gv 1 h2 h2.tok BK) fun v12=>oA (TS (.some has_octal) (EU (gv 1 h2 .par Am) fun v13=>gv 1 h2 v13 Ao)) fun v14=>tB (QV [v12,v14]) (AB F.BD [.par] h2 fun v15 h16=>oA (gv 1 h16 v15 DB) fun v17=>oA (Ap h16 v17 (.int 0)) fun v18=>oA (gv 1 h16 v18 AJ) fun v19=>oA (AF h16 .Eq v19 (.str [83,116,114])) fun b20=>iB b20 (AE v12 fun b21=>iB b21 (oA (gv 1 h16 v15 DB) fun v22=>oA (Ap h16 v22 (.int 0)) fun v23=>oA (gv 1 h16 v23 DB) fun v24=>oA (Ap h16 v24 (.int 0)) fun v25=>oA (AF h16 .Eq v25 (.str [117,115,101,32,115,116,114,105,99,116])) fun b26=>iB b26 (oA (sv 1 h16 .par Ad (.bool true)) fun h27=>AB F.DX [v14,(.bool true)] h27 fun v28 h29=>AB F.Av [.par,v28] h29 fun v30 h31=>AP found (tB (B7 h31 .append found) (AH .append found [v15] h31 fun v32 h33=>P [is_end,found,v14,(.bool b20)] h33))) (AP found (tB (B7 h16 .append found) (AH .append found [v15] h16 fun v34 h35=>P [is_end,found,v14,(.bool b20)] h35)))) (AP found (tB (B7 h16 .append found) (AH .append found [v15] h16 fun v36 h37=>P [is_end,found,v14,(.bool b20)] h37)))) (AP found (tB (B7 h16 .append found) (AH .append found [v15] h16 fun v38 h39=>P [is_end,found,v14,(.bool b20)] h39)))))) (.ok (.next,[(k_self,.par),(E4,is_end),(Aj,found),(C2,has_octal),(DV,is_ahead)]) h2))
noncomputable def C9(F:FS)(P:PF)(is_end:V)(h:HA):RA X:=(As false h [] fun v1 h2=>tB (QV [v1,(.bool false)]) (bS (P [is_end,v1,(.bool false),(.bool true)] h2) fun z3 h4=>Mf z3 (fun z5=>NK 1 [E4,Aj,C2,DV] z5 fun vs=>lL vs fun v6 v7 v8 v9=>oV 1 h v7 h4) fun v10=>oV 1 h v10 h4))
noncomputable def Dy(F:FS):PF:=HT 1 (C9 F (EV (Bl F) FI))
noncomputable def JP(F:FS):PF:=wB (Dy F)
noncomputable def S_(F:FS)(P:PF):PF:=O5 fun found h=>(AB F.Aa [.par,(.str [125])] h fun v1 h2=>AE v1 fun b3=>iB (!b3) (AP found (tB (B7 h2 .append found) (AB F.BD [.par] h2 fun v4 h5=>AH .append found [v4] h5 fun v6 h7=>P [found] h7))) (.ok (.next,[(k_self,.par),(Aj,found)]) h2))
noncomputable def TM(F:FS)(P:PF)(h:HA):RA X:=(AB F.BO [.par,(.str [123])] h fun v1 h2=>As false h2 [] fun v3 h4=>bS (P [v3] h4) fun z5 h6=>Mf z5 (fun z7=>NK 1 [Aj] z7 fun vs=>Rj vs fun v8=>AB F.BO [.par,(.str [125])] h6 fun v9 h10=>oV 1 h v8 h10) fun v11=>oV 1 h v11 h6)
noncomputable def ZV(F:FS):PF:=Fv 1 (TM F (EV (S_ F) FI))
noncomputable def Jx(F:FS)(P:PF):PF:=O5 fun found h=>(AB F.C8 [.par] h fun v1 h2=>AP found (tB (B7 h2 .append found) (AB F.GB [.par,(.str [61])] h2 fun v3 h4=>AE v3 fun b5=>iB b5 (.no) (tB (BX [v1,.none]) (AH .append found [(.tup [v1,.none])] h4 fun v6 h7=>AB F.GB [.par,(.str [44])] h7 fun v8 h9=>AE v8 fun b10=>iB (!b10) (.ok ((.ret found),[]) h9) (P [found] h9))))))
noncomputable def J0(F:FS)(P:PF)(can_in:V)(h:HA):RA X:=(As false h [] fun v1 h2=>bS (P [v1] h2) fun z3 h4=>Mf z3 (fun z5=>NK 1 [Aj] z5 fun vs=>Rj vs fun v6=>rt .none h4) fun v7=>oV 1 h v7 h4)
noncomputable def QQ(F:FS):PF:=HT 1 (J0 F (EV (Jx F) FI))
noncomputable def Lq(F:FS):PF:=DQ (Ar F) 1 2 90 false Gs
noncomputable def dT(F:FS):PF:=DQ (Ar F) 1 2 90 false Yk
noncomputable def Ln(F:FS):PF:=O5 fun a h=>dv a fun i=>iB (Nat.beq i VQ) (iB (tS h||!h.lo.isEmpty) .no (rt (.tup [.str [49],.int 1]) {h with lo:= [.list [.str [49]]]})) .no
noncomputable def Om(F:FS):PF:=DQ (Ar F) 1 2 90 false I8
noncomputable def Ws(F:FS):PF:=DQ (Ar F) 1 2 90 false RB
noncomputable def QT(F:FS):PF:=DQ (Ar F) 1 2 90 false Kc
noncomputable def dU(F:FS):PF:=DQ (Ar F) 1 2 90 false Yn
noncomputable def R5(F:FS):PF:=DQ (Ar F) 1 2 90 true MR
noncomputable def dW(F:FS):PF:=DQ (Ar F) 1 2 90 false Yo
noncomputable def R6(F:FS):PF:=DQ (Ar F) 1 2 90 false MY
noncomputable def WO(F:FS):FS:=⟨Ie F,Ft F,GR F,GU F,HQ F,Ew F,Lq F,dT F,Ln F,Wr F,Wt F,JO F,NY F,ay F,Wv F,J7 F,Ww F,Lu F,Ic F,J8 F,GS F,Fp F,Na F,Fs F,Ig F,HR F,HS F,Lp F,TQ F,NW F,NV F,GQ F,TR F,J_ F,Lv F,NZ F,Ls F,Fq F,J6 F,EG F,Eu F,KC F,QS F,J9 F,Lr F,NX F,Nb F,Oo F,Wx F,QR F,Lm F,QU F,Wu F,JP F,ZV F,QQ F,Om F,Ws F,QT F,dU F,R5 F,dW F,R6 F⟩
noncomputable def lU:FS:=⟨np,np,np,np,np,np,np,np,np,np,np,np,np,np,np,np,np,np,np,np,np,np,np,np,np,np,np,np,np,np,np,np,np,np,np,np,np,np,np,np,np,np,np,np,np,np,np,np,np,np,np,np,np,np,np,np,np,np,np,np,np,np,np⟩
noncomputable def AX:Nat→FS
 |0=>lU
 |k+1=>WO (AX k)
structure FL where
 Ae:PF
 LH:PF
 CM:PF
 Bp:PF
 B8:PF
 Bb:PF
 Dx:PF
 Pr:PF
 Dm:PF
 HG:PF
 H7:PF
 LF:PF
 H8:PF
 EB:PF
 LI:PF
 CU:PF
 Hk:PF
 JD:PF
 A9:PF
 LJ:PF
 Eb:PF
 Eh:PF
 EA:PF
 CI:PF
 G4:PF
 FJ:PF
 HF:PF
 F_:PF
 CK:PF
 H5:PF
 F9:PF
noncomputable def Bw(F:FL):Pl:=⟨[(443680269283701,F.Ae),(60186199427037926,F.LH),(126219602312927760725989,F.CM),(60186194328827253,F.Bp),(264701694916625859923322484085,F.B8),(126219600601576073902581,F.Bb),(986090629699806476789,F.Dx),(7624003763545275238,F.Pr),(2124516889947096111495429606,F.Dm),(136715939258171007744230,F.HG),(986090638537253468645,F.H7),(64136155246375285,F.LF),(3635408286069,F.H8),(17044106894636370733086950,F.EB),(58493498572847093,F.LI),(15701728962415254818238829,F.CU),(60186193532041192,F.Hk)],[(Dq,F.JD),(Xb,F.A9),(57912574745425894,F.LJ),(8054049349469647983,F.Eb),(136715939258480803246963,F.Eh),(17499640225041009925140845,F.EA),(2239953948805896231544535029,F.CI),(452613524714341,F.G4),(1068093275457418162805,F.FJ),(137952454327156329936500,F.HF),(8344478714506557286,F.F_),(137952454327224256609012,F.CK),(1068093275457112076653,F.H5),(8344478714519207157,F.F9)],[Cy,DD],fG⟩
noncomputable def Ub(F:FL)(text ax:V)(h:HA):RA X:=(Aq false .len [text] h fun v1 h2=>oA (AF h2 .Lt ax v1) fun b3=>iB b3 (oA (Ap h2 text ax) fun v4=>Aq false .ord [v4] h2 fun v5 h6=>oV 2 h v5 h6) (Ey (.int 1) fun v7=>oV 2 h v7 h2))
noncomputable def NU(F:FL):PF:=Xm (Ub F)
noncomputable def Ru(F:FL)(code:V)(h:HA):RA X:=(oA (AF h .In code (.lst [(.int 9),(.int 11),(.int 12),(.int 32),(.int 160),(.int 5760),(.int 6158),(.int 8239),(.int 8287),(.int 12288),(.int 65279)])) fun b1=>iB b1 (oV 2 h (.bool true) h) (oA (AF h .LtE (.int 8192) code) fun b2=>iB b2 (oA (AF h .LtE code (.int 8202)) fun b3=>oV 2 h (.bool b3) h) (oV 2 h (.bool false) h)))
noncomputable def Lg(F:FL):PF:=O5 (Ru F)
noncomputable def Mk(F:FL)(code:V)(h:HA):RA X:=(oA (AF h .In code (.lst [(.int 10),(.int 13),(.int 8232),(.int 8233)])) fun b1=>oV 2 h (.bool b1) h)
noncomputable def HO(F:FL):PF:=O5 (Mk F)
noncomputable def Rv(F:FL)(code:V)(h:HA):RA X:=(oA (AF h .LtE (.int 48) code) fun b1=>iB b1 (oA (AF h .LtE code (.int 57)) fun b2=>oV 2 h (.bool b2) h) (oV 2 h (.bool false) h))
noncomputable def Lh(F:FL):PF:=O5 (Rv F)
noncomputable def JJ(F:FL)(code:V)(h:HA):RA X:=(oA (AF h .LtE (.int 48) code) fun b1=>iB b1 (oA (AF h .LtE code (.int 55)) fun b2=>oV 2 h (.bool b2) h) (oV 2 h (.bool false) h))
noncomputable def Et(F:FL):PF:=O5 (JJ F)
noncomputable def Ml(F:FL)(code:V)(h:HA):RA X:=(oA (AF h .Lt code (.int 128)) fun b1=>iB b1 (oA (AF h .LtE (.int 65) code) fun b2=>iB b2 (oA (AF h .LtE code (.int 90)) fun b3=>iB b3 (oV 2 h (.bool true) h) (oA (AF h .LtE (.int 97) code) fun b4=>iB b4 (oA (AF h .LtE code (.int 122)) fun b5=>iB b5 (oV 2 h (.bool true) h) (oA (AF h .Eq code (.int 36)) fun b6=>iB b6 (oV 2 h (.bool true) h) (oA (AF h .Eq code (.int 95)) fun b7=>oV 2 h (.bool b7) h))) (oA (AF h .Eq code (.int 36)) fun b8=>iB b8 (oV 2 h (.bool true) h) (oA (AF h .Eq code (.int 95)) fun b9=>oV 2 h (.bool b9) h)))) (oA (AF h .LtE (.int 97) code) fun b10=>iB b10 (oA (AF h .LtE code (.int 122)) fun b11=>iB b11 (oV 2 h (.bool true) h) (oA (AF h .Eq code (.int 36)) fun b12=>iB b12 (oV 2 h (.bool true) h) (oA (AF h .Eq code (.int 95)) fun b13=>oV 2 h (.bool b13) h))) (oA (AF h .Eq code (.int 36)) fun b14=>iB b14 (oV 2 h (.bool true) h) (oA (AF h .Eq code (.int 95)) fun b15=>oV 2 h (.bool b15) h)))) (AB F.Hk [code,(.lst [(.tup [(.int 170),(.int 170)]),(.tup [(.int 181),(.int 181)]),(.tup [(.int 186),(.int 186)]),(.tup [(.int 192),(.int 214)]),(.tup [(.int 216),(.int 246)]),(.tup [(.int 248),(.int 705)]),(.tup [(.int 880),(.int 883)]),(.tup [(.int 886),(.int 887)]),(.tup [(.int 891),(.int 893)]),(.tup [(.int 902),(.int 902)]),(.tup [(.int 904),(.int 906)]),(.tup [(.int 908),(.int 908)]),(.tup [(.int 910),(.int 929)]),(.tup [(.int 931),(.int 1013)]),(.tup [(.int 1015),(.int 1153)]),(.tup [(.int 1162),(.int 1315)]),(.tup [(.int 1329),(.int 1366)]),(.tup [(.int 1377),(.int 1415)]),(.tup [(.int 1488),(.int 1514)]),(.tup [(.int 1569),(.int 1594)]),(.tup [(.int 1601),(.int 1610)]),(.tup [(.int 2308),(.int 2361)]),(.tup [(.int 4256),(.int 4293)]),(.tup [(.int 4304),(.int 4346)]),(.tup [(.int 7680),(.int 7835)]),(.tup [(.int 7840),(.int 7929)]),(.tup [(.int 8544),(.int 8578)]),(.tup [(.int 12353),(.int 12438)]),(.tup [(.int 12449),(.int 12538)]),(.tup [(.int 12549),(.int 12588)]),(.tup [(.int 19968),(.int 40891)]),(.tup [(.int 44032),(.int 55203)])])] h fun v16 h17=>oV 2 h v16 h17))
noncomputable def HP(F:FL):PF:=O5 (Ml F)
noncomputable def Oc(F:FL)(code:V)(h:HA):RA X:=(AB F.Bb [code] h fun v1 h2=>AE v1 fun b3=>iB b3 (oV 2 h (.bool true) h2) (AB F.Bp [code] h2 fun v4 h5=>AE v4 fun b6=>iB b6 (oV 2 h (.bool true) h5) (oA (AF h5 .Gt code (.int 127)) fun b7=>iB b7 (AB F.Hk [code,(.lst [(.tup [(.int 768),(.int 879)]),(.tup [(.int 1632),(.int 1641)]),(.tup [(.int 2406),(.int 2415)]),(.tup [(.int 8204),(.int 8205)]),(.tup [(.int 8255),(.int 8256)]),(.tup [(.int 8276),(.int 8276)])])] h5 fun v8 h9=>oV 2 h v8 h9) (oV 2 h (.bool false) h5))))
noncomputable def IY(F:FL):PF:=O5 (Oc F)
noncomputable def QD(F:FL)(code:V)(h:HA):RA X:=(oA (AF h .LtE (.int 48) code) fun b1=>iB b1 (oA (AF h .LtE code (.int 57)) fun b2=>iB b2 (A2 false h .Sub code (.int 48) fun v3 h4=>oV 2 h v3 h4) (oA (AF h .LtE (.int 65) code) fun b5=>iB b5 (oA (AF h .LtE code (.int 70)) fun b6=>iB b6 (A2 false h .Sub code (.int 55) fun v7 h8=>oV 2 h v7 h8) (oA (AF h .LtE (.int 97) code) fun b9=>iB b9 (oA (AF h .LtE code (.int 102)) fun b10=>iB b10 (A2 false h .Sub code (.int 87) fun v11 h12=>oV 2 h v11 h12) (Ey (.int 1) fun v13=>oV 2 h v13 h)) (Ey (.int 1) fun v14=>oV 2 h v14 h))) (oA (AF h .LtE (.int 97) code) fun b15=>iB b15 (oA (AF h .LtE code (.int 102)) fun b16=>iB b16 (A2 false h .Sub code (.int 87) fun v17 h18=>oV 2 h v17 h18) (Ey (.int 1) fun v19=>oV 2 h v19 h)) (Ey (.int 1) fun v20=>oV 2 h v20 h)))) (oA (AF h .LtE (.int 65) code) fun b21=>iB b21 (oA (AF h .LtE code (.int 70)) fun b22=>iB b22 (A2 false h .Sub code (.int 55) fun v23 h24=>oV 2 h v23 h24) (oA (AF h .LtE (.int 97) code) fun b25=>iB b25 (oA (AF h .LtE code (.int 102)) fun b26=>iB b26 (A2 false h .Sub code (.int 87) fun v27 h28=>oV 2 h v27 h28) (Ey (.int 1) fun v29=>oV 2 h v29 h)) (Ey (.int 1) fun v30=>oV 2 h v30 h))) (oA (AF h .LtE (.int 97) code) fun b31=>iB b31 (oA (AF h .LtE code (.int 102)) fun b32=>iB b32 (A2 false h .Sub code (.int 87) fun v33 h34=>oV 2 h v33 h34) (Ey (.int 1) fun v35=>oV 2 h v35 h)) (Ey (.int 1) fun v36=>oV 2 h v36 h))))
noncomputable def J5(F:FL):PF:=O5 (QD F)
noncomputable def Ke(F:FL)(text ax:V)(h:HA):RA X:=(AB F.Ae [text,ax] h fun v1 h2=>oA (AF h2 .Eq v1 (.int 13)) fun b3=>iB b3 (A2 false h2 .Add ax (.int 1) fun v4 h5=>AB F.Ae [text,v4] h5 fun v6 h7=>oA (AF h7 .Eq v6 (.int 10)) fun b8=>iB b8 (oV 2 h (.int 2) h7) (oV 2 h (.int 1) h7)) (oV 2 h (.int 1) h2))
noncomputable def Fo(F:FL):PF:=Xm (Ke F)
noncomputable def Mj(F:FL)(text ax:V)(h:HA):RA X:=(AB F.Ae [text,ax] h fun v1 h2=>oA (AF h2 .Lt v1 (.int 0)) fun b3=>iB b3 (oV 2 h .none h2) (AB F.CM [v1] h2 fun v4 h5=>AE v4 fun b6=>iB b6 (AB F.Dm [text,ax] h5 fun v7 h8=>A2 false h8 .Add ax v7 fun v9 h10=>tB (BX [(.str []),v9,(.bool false)]) (oV 2 h (.tup [(.str []),v9,(.bool false)]) h10)) (oA (TS (BY (AF h5 .Eq v1 (.int 120))) (BY (AF h5 .Eq v1 (.int 117)))) fun v11=>AE v11 fun b12=>iB b12 (oA (AF h5 .Eq v1 (.int 120)) fun b13=>iB b13 (A2 false h5 .Add ax (.int 1) fun v14 h15=>AB F.H8 [text,v14,(.int 2)] h15 fun v16 h17=>oA (AF h17 .Lt v16 (.int 0)) fun b18=>iB b18 (oV 2 h .none h17) (Aq false .chr [v16] h17 fun v19 h20=>A2 false h20 .Add ax (.int 1) fun v21 h22=>A2 false h22 .Add v21 (.int 2) fun v23 h24=>tB (BX [v19,v23,(.bool false)]) (oV 2 h (.tup [v19,v23,(.bool false)]) h24))) (A2 false h5 .Add ax (.int 1) fun v25 h26=>AB F.H8 [text,v25,(.int 4)] h26 fun v27 h28=>oA (AF h28 .Lt v27 (.int 0)) fun b29=>iB b29 (oV 2 h .none h28) (Aq false .chr [v27] h28 fun v30 h31=>A2 false h31 .Add ax (.int 1) fun v32 h33=>A2 false h33 .Add v32 (.int 4) fun v34 h35=>tB (BX [v30,v34,(.bool false)]) (oV 2 h (.tup [v30,v34,(.bool false)]) h35)))) (oA (AF h5 .Eq v1 (.int 48)) fun b36=>iB b36 (A2 false h5 .Add ax (.int 1) fun v37 h38=>AB F.Ae [text,v37] h38 fun v39 h40=>AB F.Bp [v39] h40 fun v41 h42=>AE v41 fun b43=>iB (!b43) (Aq false .chr [(.int 0)] h42 fun v44 h45=>A2 false h45 .Add ax (.int 1) fun v46 h47=>tB (BX [v44,v46,(.bool false)]) (oV 2 h (.tup [v44,v46,(.bool false)]) h47)) (AB F.B8 [v1] h42 fun v48 h49=>AE v48 fun b50=>iB b50 (AB F.EB [text,ax] h49 fun v51 h52=>oA (AF h52 .Is v51 .none) fun b53=>iB b53 (oV 2 h .none h52) (oA (Ap h52 v51 (.int 0)) fun v54=>Aq false .chr [v54] h52 fun v55 h56=>oA (Ap h56 v51 (.int 1)) fun v57=>A2 false h56 .Add ax v57 fun v58 h59=>tB (BX [v55,v58,(.bool true)]) (oV 2 h (.tup [v55,v58,(.bool true)]) h59))) (AB F.Bp [v1] h49 fun v60 h61=>AE v60 fun b62=>iB b62 (oV 2 h .none h61) (oA (Ap h61 text ax) fun v63=>oA (AF h61 .In v63 (.dct [([98],(.int 8)),([116],(.int 9)),([110],(.int 10)),([118],(.int 11)),([102],(.int 12)),([114],(.int 13))])) fun b64=>iB b64 (oA (Ap h61 (.dct [([98],(.int 8)),([116],(.int 9)),([110],(.int 10)),([118],(.int 11)),([102],(.int 12)),([114],(.int 13))]) v63) fun v65=>Aq false .chr [v65] h61 fun v66 h67=>A2 false h67 .Add ax (.int 1) fun v68 h69=>tB (BX [v66,v68,(.bool false)]) (oV 2 h (.tup [v66,v68,(.bool false)]) h69)) (A2 false h61 .Add ax (.int 1) fun v70 h71=>tB (BX [v63,v70,(.bool false)]) (oV 2 h (.tup [v63,v70,(.bool false)]) h71)))))) (AB F.B8 [v1] h5 fun v72 h73=>AE v72 fun b74=>iB b74 (AB F.EB [text,ax] h73 fun v75 h76=>oA (AF h76 .Is v75 .none) fun b77=>iB b77 (oV 2 h .none h76) (oA (Ap h76 v75 (.int 0)) fun v78=>Aq false .chr [v78] h76 fun v79 h80=>oA (Ap h80 v75 (.int 1)) fun v81=>A2 false h80 .Add ax v81 fun v82 h83=>tB (BX [v79,v82,(.bool true)]) (oV 2 h (.tup [v79,v82,(.bool true)]) h83))) (AB F.Bp [v1] h73 fun v84 h85=>AE v84 fun b86=>iB b86 (oV 2 h .none h85) (oA (Ap h85 text ax) fun v87=>oA (AF h85 .In v87 (.dct [([98],(.int 8)),([116],(.int 9)),([110],(.int 10)),([118],(.int 11)),([102],(.int 12)),([114],(.int 13))])) fun b88=>iB b88 (oA (Ap h85 (.dct [([98],(.int 8)),([116],(.int 9)),([110],(.int 10)),([118],(.int 11)),([102],(.int 12)),([114],(.int 13))]) v87) fun v89=>Aq false .chr [v89] h85 fun v90 h91=>A2 false h91 .Add ax (.int 1) fun v92 h93=>tB (BX [v90,v92,(.bool false)]) (oV 2 h (.tup [v90,v92,(.bool false)]) h93)) (A2 false h85 .Add ax (.int 1) fun v94 h95=>tB (BX [v87,v94,(.bool false)]) (oV 2 h (.tup [v87,v94,(.bool false)]) h95)))))))))
noncomputable def HN(F:FL):PF:=Xm (Mj F)
noncomputable def Oa(F:FL)(word:V)(h:HA):RA X:=(oA (AF h .In word (.lst [(.str [98,114,101,97,107]),(.str [99,97,115,101]),(.str [99,97,116,99,104]),(.str [99,111,110,116,105,110,117,101]),(.str [100,101,98,117,103,103,101,114]),(.str [100,101,102,97,117,108,116]),(.str [100,101,108,101,116,101]),(.str [100,111]),(.str [101,108,115,101]),(.str [102,105,110,97,108,108,121]),(.str [102,111,114]),(.str [102,117,110,99,116,105,111,110]),(.str [105,102]),(.str [105,110]),(.str [105,110,115,116,97,110,99,101,111,102]),(.str [110,101,119]),(.str [114,101,116,117,114,110]),(.str [115,119,105,116,99,104]),(.str [116,104,105,115]),(.str [116,104,114,111,119]),(.str [116,114,121]),(.str [116,121,112,101,111,102]),(.str [118,97,114]),(.str [118,111,105,100]),(.str [119,104,105,108,101]),(.str [119,105,116,104]),(.str [99,108,97,115,115]),(.str [99,111,110,115,116]),(.str [101,110,117,109]),(.str [101,120,112,111,114,116]),(.str [101,120,116,101,110,100,115]),(.str [105,109,112,111,114,116]),(.str [115,117,112,101,114]),(.str [110,117,108,108]),(.str [116,114,117,101]),(.str [102,97,108,115,101])])) fun b1=>oV 2 h (.bool b1) h)
noncomputable def IV(F:FL):PF:=O5 (Oa F)
noncomputable def Rt(F:FL)(text ax:V)(h:HA):RA X:=AP text (tB (B7 h .startswith text) (AH .startswith text [(.str [62,62,62,61]),ax] h fun v1 h2=>AE v1 fun b3=>iB b3 (oV 2 h (.str [62,62,62,61]) h2) (AP text (tB (B7 h2 .startswith text) (AH .startswith text [(.str [61,61,61]),ax] h2 fun v4 h5=>AE v4 fun b6=>iB b6 (oV 2 h (.str [61,61,61]) h5) (AP text (tB (B7 h5 .startswith text) (AH .startswith text [(.str [33,61,61]),ax] h5 fun v7 h8=>AE v7 fun b9=>iB b9 (oV 2 h (.str [33,61,61]) h8) (AP text (tB (B7 h8 .startswith text) (AH .startswith text [(.str [62,62,62]),ax] h8 fun v10 h11=>AE v10 fun b12=>iB b12 (oV 2 h (.str [62,62,62]) h11) (AP text (tB (B7 h11 .startswith text) (AH .startswith text [(.str [60,60,61]),ax] h11 fun v13 h14=>AE v13 fun b15=>iB b15 (oV 2 h (.str [60,60,61]) h14) (AP text (tB (B7 h14 .startswith text) (AH .startswith text [(.str [62,62,61]),ax] h14 fun v16 h17=>AE v16 fun b18=>iB b18 (oV 2 h (.str [62,62,61]) h17) (AP text (tB (B7 h17 .startswith text) (AH .startswith text [(.str [60,61]),ax] h17 fun v19 h20=>AE v19 fun b21=>iB b21 (oV 2 h (.str [60,61]) h20) (AP text (tB (B7 h20 .startswith text) (AH .startswith text [(.str [62,61]),ax] h20 fun v22 h23=>AE v22 fun b24=>iB b24 (oV 2 h (.str [62,61]) h23) (AP text (tB (B7 h23 .startswith text) (AH .startswith text [(.str [61,61]),ax] h23 fun v25 h26=>AE v25 fun b27=>iB b27 (oV 2 h (.str [61,61]) h26) (AP text (tB (B7 h26 .startswith text) (AH .startswith text [(.str [33,61]),ax] h26 fun v28 h29=>AE v28 fun b30=>iB b30 (oV 2 h (.str [33,61]) h29) (AP text (tB (B7 h29 .startswith text) (AH .startswith text [(.str [43,43]),ax] h29 fun v31 h32=>AE v31 fun b33=>iB b33 (oV 2 h (.str [43,43]) h32) (AP text (tB (B7 h32 .startswith text) (AH .startswith text [(.str [45,45]),ax] h32 fun v34 h35=>AE v34 fun b36=>iB b36 (oV 2 h (.str [45,45]) h35) (AP text (tB (B7 h35 .startswith text) (AH .startswith text [(.str [60,60]),ax] h35 fun v37 h38=>AE v37 fun b39=>iB b39 (oV 2 h (.str [60,60]) h38) (AP text (tB (B7 h38 .startswith text) (AH .startswith text [(.str [62,62]),ax] h38 fun v40 h41=>AE v40 fun b42=>iB b42 (oV 2 h (.str [62,62]) h41) (AP text (tB (B7 h41 .startswith text) (AH .startswith text [(.str [38,38]),ax] h41 fun v43 h44=>AE v43 fun b45=>iB b45 (oV 2 h (.str [38,38]) h44) (AP text (tB (B7 h44 .startswith text) (AH .startswith text [(.str [124,124]),ax] h44 fun v46 h47=>AE v46 fun b48=>iB b48 (oV 2 h (.str [124,124]) h47) (AP text (tB (B7 h47 .startswith text) (AH .startswith text [(.str [43,61]),ax] h47 fun v49 h50=>AE v49 fun b51=>iB b51 (oV 2 h (.str [43,61]) h50) (AP text (tB (B7 h50 .startswith text) (AH .startswith text [(.str [45,61]),ax] h50 fun v52 h53=>AE v52 fun b54=>iB b54 (oV 2 h (.str [45,61]) h53) (AP text (tB (B7 h53 .startswith text) (AH .startswith text [(.str [42,61]),ax] h53 fun v55 h56=>AE v55 fun b57=>iB b57 (oV 2 h (.str [42,61]) h56) (AP text (tB (B7 h56 .startswith text) (AH .startswith text [(.str [37,61]),ax] h56 fun v58 h59=>AE v58 fun b60=>iB b60 (oV 2 h (.str [37,61]) h59) (AP text (tB (B7 h59 .startswith text) (AH .startswith text [(.str [38,61]),ax] h59 fun v61 h62=>AE v61 fun b63=>iB b63 (oV 2 h (.str [38,61]) h62) (AP text (tB (B7 h62 .startswith text) (AH .startswith text [(.str [124,61]),ax] h62 fun v64 h65=>AE v64 fun b66=>iB b66 (oV 2 h (.str [124,61]) h65) (AP text (tB (B7 h65 .startswith text) (AH .startswith text [(.str [94,61]),ax] h65 fun v67 h68=>AE v67 fun b69=>iB b69 (oV 2 h (.str [94,61]) h68) (AP text (tB (B7 h68 .startswith text) (AH .startswith text [(.str [47,61]),ax] h68 fun v70 h71=>AE v70 fun b72=>iB b72 (oV 2 h (.str [47,61]) h71) (AP text (tB (B7 h71 .startswith text) (AH .startswith text [(.str [123]),ax] h71 fun v73 h74=>AE v73 fun b75=>iB b75 (oV 2 h (.str [123]) h74) (AP text (tB (B7 h74 .startswith text) (AH .startswith text [(.str [125]),ax] h74 fun v76 h77=>AE v76 fun b78=>iB b78 (oV 2 h (.str [125]) h77) (AP text (tB (B7 h77 .startswith text) (AH .startswith text [(.str [40]),ax] h77 fun v79 h80=>AE v79 fun b81=>iB b81 (oV 2 h (.str [40]) h80) (AP text (tB (B7 h80 .startswith text) (AH .startswith text [(.str [41]),ax] h80 fun v82 h83=>AE v82 fun b84=>iB b84 (oV 2 h (.str [41]) h83) (AP text (tB (B7 h83 .startswith text) (AH .startswith text [(.str [91]),ax] h83 fun v85 h86=>AE v85 fun b87=>iB b87 (oV 2 h (.str [91]) h86) (AP text (tB (B7 h86 .startswith text) (AH .startswith text [(.str [93]),ax] h86 fun v88 h89=>AE v88 fun b90=>iB b90 (oV 2 h (.str [93]) h89) (AP text (tB (B7 h89 .startswith text) (AH .startswith text [(.str [46]),ax] h89 fun v91 h92=>AE v91 fun b93=>iB b93 (oV 2 h (.str [46]) h92) (AP text (tB (B7 h92 .startswith text) (AH .startswith text [(.str [59]),ax] h92 fun v94 h95=>AE v94 fun b96=>iB b96 (oV 2 h (.str [59]) h95) (AP text (tB (B7 h95 .startswith text) (AH .startswith text [(.str [44]),ax] h95 fun v97 h98=>AE v97 fun b99=>iB b99 (oV 2 h (.str [44]) h98) (AP text (tB (B7 h98 .startswith text) (AH .startswith text [(.str [60]),ax] h98 fun v100 h101=>AE v100 fun b102=>iB b102 (oV 2 h (.str [60]) h101) (AP text (tB (B7 h101 .startswith text) (AH .startswith text [(.str [62]),ax] h101 fun v103 h104=>AE v103 fun b105=>iB b105 (oV 2 h (.str [62]) h104) (AP text (tB (B7 h104 .startswith text) (AH .startswith text [(.str [43]),ax] h104 fun v106 h107=>AE v106 fun b108=>iB b108 (oV 2 h (.str [43]) h107) (AP text (tB (B7 h107 .startswith text) (AH .startswith text [(.str [45]),ax] h107 fun v109 h110=>AE v109 fun b111=>iB b111 (oV 2 h (.str [45]) h110) (AP text (tB (B7 h110 .startswith text) (AH .startswith text [(.str [42]),ax] h110 fun v112 h113=>AE v112 fun b114=>iB b114 (oV 2 h (.str [42]) h113) (AP text (tB (B7 h113 .startswith text) (AH .startswith text [(.str [37]),ax] h113 fun v115 h116=>AE v115 fun b117=>iB b117 (oV 2 h (.str [37]) h116) (AP text (tB (B7 h116 .startswith text) (AH .startswith text [(.str [38]),ax] h116 fun v118 h119=>AE v118 fun b120=>iB b120 (oV 2 h (.str [38]) h119) (AP text (tB (B7 h119 .startswith text) (AH .startswith text [(.str [124]),ax] h119 fun v121 h122=>AE v121 fun b123=>iB b123 (oV 2 h (.str [124]) h122) (AP text (tB (B7 h122 .startswith text) (AH .startswith text [(.str [94]),ax] h122 fun v124 h125=>AE v124 fun b126=>iB b126 (oV 2 h (.str [94]) h125) (AP text (tB (B7 h125 .startswith text) (AH .startswith text [(.str [33]),ax] h125 fun v127 h128=>AE v127 fun b129=>iB b129 (oV 2 h (.str [33]) h128) (AP text (tB (B7 h128 .startswith text) (AH .startswith text [(.str [126]),ax] h128 fun v130 h131=>AE v130 fun b132=>iB b132 (oV 2 h (.str [126]) h131) (AP text (tB (B7 h131 .startswith text) (AH .startswith text [(.str [63]),ax] h131 fun v133 h134=>AE v133 fun b135=>iB b135 (oV 2 h (.str [63]) h134) (AP text (tB (B7 h134 .startswith text) (AH .startswith text [(.str [58]),ax] h134 fun v136 h137=>AE v136 fun b138=>iB b138 (oV 2 h (.str [58]) h137) (AP text (tB (B7 h137 .startswith text) (AH .startswith text [(.str [61]),ax] h137 fun v139 h140=>AE v139 fun b141=>iB b141 (oV 2 h (.str [61]) h140) (AP text (tB (B7 h140 .startswith text) (AH .startswith text [(.str [47]),ax] h140 fun v142 h143=>AE v142 fun b144=>iB b144 (oV 2 h (.str [47]) h143) (oV 2 h .none h143))))))))))))))))))))))))))))))))))))))))))))))))))))))))))))))))))))))))))))))))))))))))))))))))))))))))))))))))))))))))))))))))))))))))))))))))
noncomputable def Ld(F:FL):PF:=Xm (Rt F)
noncomputable def dD(F:FL)(h:HA):RA X:=(AB F.HF [.lex] h fun v1 h2=>AB F.Ae [.tx,(.ps h2.at_)] h2 fun v3 h4=>tB (QV [(.ps h2.at_),v3]) (du Bh kZ [(.str [101,110,100]),(.str []),h4.line,v1,(.ps h2.at_),(.ps h2.at_)] h4 fun v5 h6=>oA (AF h6 .Lt v3 (.int 0)) fun b7=>iB b7 (oV 2 h v5 h6) (AB F.Bb [v3] h6 fun v8 h9=>AE v8 fun b10=>iB b10 (AB F.F_ [.lex,v5] h9 fun v11 h12=>oA (sv 2 h12 v5 Dt (.ps h12.at_)) fun h13=>oV 2 h v5 h13) (oA (AF h9 .Eq v3 (.int 92)) fun b14=>iB b14 (AB F.F_ [.lex,v5] h9 fun v15 h16=>oA (sv 2 h16 v5 Dt (.ps h16.at_)) fun h17=>oV 2 h v5 h17) (AB F.Bp [v3] h9 fun v18 h19=>AE v18 fun b20=>iB b20 (AB F.Eh [.lex,v5] h19 fun v21 h22=>oA (sv 2 h22 v5 Dt (.ps h22.at_)) fun h23=>oV 2 h v5 h23) (oA (AF h19 .Eq v3 (.int 46)) fun b24=>iB b24 (A2 false h19 .Add (.ps h2.at_) (.int 1) fun v25 h26=>AB F.Ae [.tx,v25] h26 fun v27 h28=>AB F.Bp [v27] h28 fun v29 h30=>AE v29 fun b31=>iB b31 (AB F.Eh [.lex,v5] h30 fun v32 h33=>oA (sv 2 h33 v5 Dt (.ps h33.at_)) fun h34=>oV 2 h v5 h34) (oA (TS (BY (AF h30 .Eq v3 (.int 34))) (BY (AF h30 .Eq v3 (.int 39)))) fun v35=>AE v35 fun b36=>iB b36 (AB F.F9 [.lex,v5,v3] h30 fun v37 h38=>oA (sv 2 h38 v5 Dt (.ps h38.at_)) fun h39=>oV 2 h v5 h39) (AB F.FJ [.lex,v5] h30 fun v40 h41=>oA (sv 2 h41 v5 Dt (.ps h41.at_)) fun h42=>oV 2 h v5 h42))) (oA (TS (BY (AF h19 .Eq v3 (.int 34))) (BY (AF h19 .Eq v3 (.int 39)))) fun v43=>AE v43 fun b44=>iB b44 (AB F.F9 [.lex,v5,v3] h19 fun v45 h46=>oA (sv 2 h46 v5 Dt (.ps h46.at_)) fun h47=>oV 2 h v5 h47) (AB F.FJ [.lex,v5] h19 fun v48 h49=>oA (sv 2 h49 v5 Dt (.ps h49.at_)) fun h50=>oV 2 h v5 h50))))))))
noncomputable def Wg(F:FL):PF:=Fv 2 (dD F)
noncomputable def Od(F:FL)(text:V)(h:HA):RA X:=.ex Ab
noncomputable def IZ(F:FL):PF:=HT 2 (Od F)
noncomputable def Rx(F:FL)(h:HA):RA X:=(AB F.Dm [.tx,(.ps h.at_)] h fun v1 h2=>oA (D7 .Add (.ps h.at_) v1) fun v3=>oA (sv 2 h2 .lex CS v3) fun h4=>oA (D7 .Add h4.line (.int 1)) fun v5=>oA (sv 2 h4 .lex AI v5) fun h6=>oV 2 h .none h6)
noncomputable def Lj(F:FL):PF:=Fv 2 (Rx F)
noncomputable def QC(F:FL)(is_first:V)(h:HA):RA X:=(AB F.Ae [.tx,(.ps h.at_)] h fun v1 h2=>A2 false h2 .Add (.ps h2.at_) (.int 1) fun v3 h4=>tB (QV [v1,v3,(.bool false)]) (oA (AF h4 .Eq v1 (.int 92)) fun b5=>iB b5 (A2 false h4 .Add (.ps h4.at_) (.int 1) fun v6 h7=>AB F.Ae [.tx,v6] h7 fun v8 h9=>oA (AF h9 .Eq v8 (.int 117)) fun b10=>iB b10 (A2 false h9 .Add (.ps h9.at_) (.int 2) fun v11 h12=>AB F.H8 [.tx,v11,(.int 4)] h12 fun v13 h14=>A2 false h14 .Add (.ps h14.at_) (.int 6) fun v15 h16=>oA (AF h16 .GtE v13 (.int 0)) fun b17=>iB b17 (AE is_first fun b18=>iB b18 (AB F.Bb [v13] h16 fun v19 h20=>oA (CD (.some (.bool true)) (Kk (.some v19))) fun v21=>AE v21 fun b22=>iB b22 (AB F.A9 [.lex,(.str [97,32,110,97,109,101,32,104,97,115,32,97,32,119,114,111,110,103,32,101,115,99,97,112,101])] h20 fun v23 h24=>AE v19 fun b25=>iB b25 (Aq false .chr [v13] h24 fun v26 h27=>tB (BX [v26,v15]) (oV 2 h (.tup [v26,v15]) h27)) (oV 2 h .none h24)) (AE v19 fun b28=>iB b28 (Aq false .chr [v13] h20 fun v29 h30=>tB (BX [v29,v15]) (oV 2 h (.tup [v29,v15]) h30)) (oV 2 h .none h20))) (AB F.Dx [v13] h16 fun v31 h32=>oA (CD (.some (.bool true)) (Kk (.some v31))) fun v33=>AE v33 fun b34=>iB b34 (AB F.A9 [.lex,(.str [97,32,110,97,109,101,32,104,97,115,32,97,32,119,114,111,110,103,32,101,115,99,97,112,101])] h32 fun v35 h36=>AE v31 fun b37=>iB b37 (Aq false .chr [v13] h36 fun v38 h39=>tB (BX [v38,v15]) (oV 2 h (.tup [v38,v15]) h39)) (oV 2 h .none h36)) (AE v31 fun b40=>iB b40 (Aq false .chr [v13] h32 fun v41 h42=>tB (BX [v41,v15]) (oV 2 h (.tup [v41,v15]) h42)) (oV 2 h .none h32)))) (oA (CD (.some (.bool true)) (Kk (.some (.bool false)))) fun v43=>AE v43 fun b44=>iB b44 (AB F.A9 [.lex,(.str [97,32,110,97,109,101,32,104,97,115,32,97,32,119,114,111,110,103,32,101,115,99,97,112,101])] h16 fun v45 h46=>oV 2 h .none h46) (oV 2 h .none h16))) (Ey (.int 1) fun v47=>A2 false h9 .Add (.ps h9.at_) (.int 6) fun v48 h49=>oA (AF h49 .GtE v47 (.int 0)) fun b50=>iB b50 (AE is_first fun b51=>iB b51 (AB F.Bb [v47] h49 fun v52 h53=>oA (CD (.some (.bool true)) (Kk (.some v52))) fun v54=>AE v54 fun b55=>iB b55 (AB F.A9 [.lex,(.str [97,32,110,97,109,101,32,104,97,115,32,97,32,119,114,111,110,103,32,101,115,99,97,112,101])] h53 fun v56 h57=>AE v52 fun b58=>iB b58 (Aq false .chr [v47] h57 fun v59 h60=>tB (BX [v59,v48]) (oV 2 h (.tup [v59,v48]) h60)) (oV 2 h .none h57)) (AE v52 fun b61=>iB b61 (Aq false .chr [v47] h53 fun v62 h63=>tB (BX [v62,v48]) (oV 2 h (.tup [v62,v48]) h63)) (oV 2 h .none h53))) (AB F.Dx [v47] h49 fun v64 h65=>oA (CD (.some (.bool true)) (Kk (.some v64))) fun v66=>AE v66 fun b67=>iB b67 (AB F.A9 [.lex,(.str [97,32,110,97,109,101,32,104,97,115,32,97,32,119,114,111,110,103,32,101,115,99,97,112,101])] h65 fun v68 h69=>AE v64 fun b70=>iB b70 (Aq false .chr [v47] h69 fun v71 h72=>tB (BX [v71,v48]) (oV 2 h (.tup [v71,v48]) h72)) (oV 2 h .none h69)) (AE v64 fun b73=>iB b73 (Aq false .chr [v47] h65 fun v74 h75=>tB (BX [v74,v48]) (oV 2 h (.tup [v74,v48]) h75)) (oV 2 h .none h65)))) (oA (CD (.some (.bool true)) (Kk (.some (.bool false)))) fun v76=>AE v76 fun b77=>iB b77 (AB F.A9 [.lex,(.str [97,32,110,97,109,101,32,104,97,115,32,97,32,119,114,111,110,103,32,101,115,99,97,112,101])] h49 fun v78 h79=>oV 2 h .none h79) (oV 2 h .none h49)))) (oA (AF h4 .GtE v1 (.int 0)) fun b80=>iB b80 (AE is_first fun b81=>iB b81 (AB F.Bb [v1] h4 fun v82 h83=>oA (CD (.some (.bool false)) (Kk (.some v82))) fun v84=>AE v84 fun b85=>iB b85 (AB F.A9 [.lex,(.str [97,32,110,97,109,101,32,104,97,115,32,97,32,119,114,111,110,103,32,101,115,99,97,112,101])] h83 fun v86 h87=>AE v82 fun b88=>iB b88 (Aq false .chr [v1] h87 fun v89 h90=>tB (BX [v89,v3]) (oV 2 h (.tup [v89,v3]) h90)) (oV 2 h .none h87)) (AE v82 fun b91=>iB b91 (Aq false .chr [v1] h83 fun v92 h93=>tB (BX [v92,v3]) (oV 2 h (.tup [v92,v3]) h93)) (oV 2 h .none h83))) (AB F.Dx [v1] h4 fun v94 h95=>oA (CD (.some (.bool false)) (Kk (.some v94))) fun v96=>AE v96 fun b97=>iB b97 (AB F.A9 [.lex,(.str [97,32,110,97,109,101,32,104,97,115,32,97,32,119,114,111,110,103,32,101,115,99,97,112,101])] h95 fun v98 h99=>AE v94 fun b100=>iB b100 (Aq false .chr [v1] h99 fun v101 h102=>tB (BX [v101,v3]) (oV 2 h (.tup [v101,v3]) h102)) (oV 2 h .none h99)) (AE v94 fun b103=>iB b103 (Aq false .chr [v1] h95 fun v104 h105=>tB (BX [v104,v3]) (oV 2 h (.tup [v104,v3]) h105)) (oV 2 h .none h95)))) (oA (CD (.some (.bool false)) (Kk (.some (.bool false)))) fun v106=>AE v106 fun b107=>iB b107 (AB F.A9 [.lex,(.str [97,32,110,97,109,101,32,104,97,115,32,97,32,119,114,111,110,103,32,101,115,99,97,112,101])] h4 fun v108 h109=>oV 2 h .none h109) (oV 2 h .none h4)))))
noncomputable def J4(F:FL):PF:=HT 2 (QC F)
noncomputable def Mi(F:FL)(token:V)(h:HA):RA X:=(oA (sv 2 h token AJ (.str [110,117,109,98,101,114])) fun h1=>AB F.Ae [.tx,(.ps h1.at_)] h1 fun v2 h3=>A2 false h3 .Add (.ps h3.at_) (.int 1) fun v4 h5=>AB F.Ae [.tx,v4] h5 fun v6 h7=>tB (QV [v2,v6]) (oA (CD (BY (AF h7 .Eq v2 (.int 48))) (TS (BY (AF h7 .Eq v6 (.int 120))) (BY (AF h7 .Eq v6 (.int 88))))) fun v8=>AE v8 fun b9=>iB b9 (.no) (oA (AF h7 .Eq v2 (.int 48)) fun b10=>iB b10 (AB F.B8 [v6] h7 fun v11 h12=>AE v11 fun b13=>iB b13 (oA (sv 2 h12 token Ao (.bool true)) fun h14=>AB F.H5 [.lex] h14 fun v15 h16=>AB F.LI [v15] h16 fun v17 h18=>oA (sv 2 h18 token AG v17) fun h19=>AB F.Ae [.tx,(.ps h19.at_)] h19 fun v20 h21=>AB F.Bp [v20] h21 fun v22 h23=>AE v22 fun b24=>iB b24 (AB F.A9 [.lex,(.str [97,32,110,117,109,98,101,114,32,104,97,115,32,97,32,119,114,111,110,103,32,101,110,100])] h23 fun v25 h26=>oV 2 h .none h26) (AB F.Bb [v20] h23 fun v27 h28=>AE v27 fun b29=>iB b29 (AB F.A9 [.lex,(.str [97,32,110,117,109,98,101,114,32,104,97,115,32,97,32,119,114,111,110,103,32,101,110,100])] h28 fun v30 h31=>oV 2 h .none h31) (oA (AF h28 .Eq v20 (.int 92)) fun b32=>iB b32 (AB F.A9 [.lex,(.str [97,32,110,117,109,98,101,114,32,104,97,115,32,97,32,119,114,111,110,103,32,101,110,100])] h28 fun v33 h34=>oV 2 h .none h34) (oV 2 h .none h28)))) (AB F.EA [.lex] h12 fun v35 h36=>oA (sv 2 h36 token AG v35) fun h37=>AB F.Ae [.tx,(.ps h37.at_)] h37 fun v38 h39=>AB F.Bp [v38] h39 fun v40 h41=>AE v40 fun b42=>iB b42 (AB F.A9 [.lex,(.str [97,32,110,117,109,98,101,114,32,104,97,115,32,97,32,119,114,111,110,103,32,101,110,100])] h41 fun v43 h44=>oV 2 h .none h44) (AB F.Bb [v38] h41 fun v45 h46=>AE v45 fun b47=>iB b47 (AB F.A9 [.lex,(.str [97,32,110,117,109,98,101,114,32,104,97,115,32,97,32,119,114,111,110,103,32,101,110,100])] h46 fun v48 h49=>oV 2 h .none h49) (oA (AF h46 .Eq v38 (.int 92)) fun b50=>iB b50 (AB F.A9 [.lex,(.str [97,32,110,117,109,98,101,114,32,104,97,115,32,97,32,119,114,111,110,103,32,101,110,100])] h46 fun v51 h52=>oV 2 h .none h52) (oV 2 h .none h46))))) (AB F.EA [.lex] h7 fun v53 h54=>oA (sv 2 h54 token AG v53) fun h55=>AB F.Ae [.tx,(.ps h55.at_)] h55 fun v56 h57=>AB F.Bp [v56] h57 fun v58 h59=>AE v58 fun b60=>iB b60 (AB F.A9 [.lex,(.str [97,32,110,117,109,98,101,114,32,104,97,115,32,97,32,119,114,111,110,103,32,101,110,100])] h59 fun v61 h62=>oV 2 h .none h62) (AB F.Bb [v56] h59 fun v63 h64=>AE v63 fun b65=>iB b65 (AB F.A9 [.lex,(.str [97,32,110,117,109,98,101,114,32,104,97,115,32,97,32,119,114,111,110,103,32,101,110,100])] h64 fun v66 h67=>oV 2 h .none h67) (oA (AF h64 .Eq v56 (.int 92)) fun b68=>iB b68 (AB F.A9 [.lex,(.str [97,32,110,117,109,98,101,114,32,104,97,115,32,97,32,119,114,111,110,103,32,101,110,100])] h64 fun v69 h70=>oV 2 h .none h70) (oV 2 h .none h64)))))))
noncomputable def HM(F:FL):PF:=HT 2 (Mi F)
noncomputable def LW(F:FL)(h:HA):RA X:=(AB F.Ae [.tx,(.ps h.at_)] h fun v1 h2=>oA (AF h2 .Eq v1 (.int 48)) fun b3=>iB b3 (oA (D7 .Add (.ps h2.at_) (.int 1)) fun v4=>oA (sv 2 h2 .lex CS v4) fun h5=>AB F.Ae [.tx,(.ps h5.at_)] h5 fun v6 h7=>oA (AF h7 .Eq v6 (.int 46)) fun b8=>iB b8 (oA (D7 .Add (.ps h7.at_) (.int 1)) fun v9=>oA (sv 2 h7 .lex CS v9) fun h10=>AB F.CK [.lex] h10 fun v11 h12=>A2 false h12 .Add (.str [48]) v11 fun v13 h14=>AB F.CI [.lex] h14 fun v15 h16=>Aq false .len [v11] h16 fun v17 h18=>A2 false h18 .Sub v15 v17 fun v19 h20=>AB F.CU [v13,v19] h20 fun v21 h22=>oV 2 h v21 h22) (A2 false h7 .Add (.str [48]) (.str []) fun v23 h24=>AB F.CI [.lex] h24 fun v25 h26=>Aq false .len [(.str [])] h26 fun v27 h28=>A2 false h28 .Sub v25 v27 fun v29 h30=>AB F.CU [v23,v29] h30 fun v31 h32=>oV 2 h v31 h32)) (AB F.CK [.lex] h2 fun v33 h34=>AB F.Ae [.tx,(.ps h34.at_)] h34 fun v35 h36=>oA (AF h36 .Eq v35 (.int 46)) fun b37=>iB b37 (oA (D7 .Add (.ps h36.at_) (.int 1)) fun v38=>oA (sv 2 h36 .lex CS v38) fun h39=>AB F.CK [.lex] h39 fun v40 h41=>A2 false h41 .Add v33 v40 fun v42 h43=>AB F.CI [.lex] h43 fun v44 h45=>Aq false .len [v40] h45 fun v46 h47=>A2 false h47 .Sub v44 v46 fun v48 h49=>AB F.CU [v42,v48] h49 fun v50 h51=>oV 2 h v50 h51) (A2 false h36 .Add v33 (.str []) fun v52 h53=>AB F.CI [.lex] h53 fun v54 h55=>Aq false .len [(.str [])] h55 fun v56 h57=>A2 false h57 .Sub v54 v56 fun v58 h59=>AB F.CU [v52,v58] h59 fun v60 h61=>oV 2 h v60 h61)))
noncomputable def GO(F:FL):PF:=Fv 2 (LW F)
noncomputable def Kd(F:FL)(h:HA):RA X:=(AB F.Ae [.tx,(.ps h.at_)] h fun v1 h2=>tB (BX [(.int 69),(.int 101)]) (oA (AF h2 .NotIn v1 (.tup [(.int 69),(.int 101)])) fun b3=>iB b3 (oV 2 h (.int 0) h2) (oA (D7 .Add (.ps h2.at_) (.int 1)) fun v4=>oA (sv 2 h2 .lex CS v4) fun h5=>AB F.Ae [.tx,(.ps h5.at_)] h5 fun v6 h7=>oA (TS (BY (AF h7 .Eq v6 (.int 43))) (BY (AF h7 .Eq v6 (.int 45)))) fun v8=>AE v8 fun b9=>iB b9 (oA (D7 .Add (.ps h7.at_) (.int 1)) fun v10=>oA (sv 2 h7 .lex CS v10) fun h11=>AB F.CK [.lex] h11 fun v12 h13=>oA (AF h13 .Eq v12 (.str [])) fun b14=>iB b14 (AB F.A9 [.lex,(.str [97,110,32,101,120,112,111,110,101,110,116,32,104,97,115,32,110,111,32,102,105,103,117,114,101,115])] h13 fun v15 h16=>AP v12 (tB (B7 h16 .lstrip v12) (AH .lstrip v12 [(.str [48])] h16 fun v17 h18=>Aq false .len [v17] h18 fun v19 h20=>oA (AF h20 .Gt v19 (.int 9)) fun b21=>iB b21 (A2 false h20 .Pow (.int 10) (.int 9) fun v22 h23=>oA (AF h23 .Eq v6 (.int 45)) fun b24=>iB b24 (Ey v22 fun v25=>oV 2 h v25 h23) (oV 2 h v22 h23)) (A2 false h20 .Add (.str [48]) v17 fun v26 h27=>Aq false .int [v26] h27 fun v28 h29=>oA (AF h29 .Eq v6 (.int 45)) fun b30=>iB b30 (Ey v28 fun v31=>oV 2 h v31 h29) (oV 2 h v28 h29))))) (AP v12 (tB (B7 h13 .lstrip v12) (AH .lstrip v12 [(.str [48])] h13 fun v32 h33=>Aq false .len [v32] h33 fun v34 h35=>oA (AF h35 .Gt v34 (.int 9)) fun b36=>iB b36 (A2 false h35 .Pow (.int 10) (.int 9) fun v37 h38=>oA (AF h38 .Eq v6 (.int 45)) fun b39=>iB b39 (Ey v37 fun v40=>oV 2 h v40 h38) (oV 2 h v37 h38)) (A2 false h35 .Add (.str [48]) v32 fun v41 h42=>Aq false .int [v41] h42 fun v43 h44=>oA (AF h44 .Eq v6 (.int 45)) fun b45=>iB b45 (Ey v43 fun v46=>oV 2 h v46 h44) (oV 2 h v43 h44)))))) (AB F.CK [.lex] h7 fun v47 h48=>oA (AF h48 .Eq v47 (.str [])) fun b49=>iB b49 (AB F.A9 [.lex,(.str [97,110,32,101,120,112,111,110,101,110,116,32,104,97,115,32,110,111,32,102,105,103,117,114,101,115])] h48 fun v50 h51=>AP v47 (tB (B7 h51 .lstrip v47) (AH .lstrip v47 [(.str [48])] h51 fun v52 h53=>Aq false .len [v52] h53 fun v54 h55=>oA (AF h55 .Gt v54 (.int 9)) fun b56=>iB b56 (A2 false h55 .Pow (.int 10) (.int 9) fun v57 h58=>oA (AF h58 .Eq v6 (.int 45)) fun b59=>iB b59 (Ey v57 fun v60=>oV 2 h v60 h58) (oV 2 h v57 h58)) (A2 false h55 .Add (.str [48]) v52 fun v61 h62=>Aq false .int [v61] h62 fun v63 h64=>oA (AF h64 .Eq v6 (.int 45)) fun b65=>iB b65 (Ey v63 fun v66=>oV 2 h v66 h64) (oV 2 h v63 h64))))) (AP v47 (tB (B7 h48 .lstrip v47) (AH .lstrip v47 [(.str [48])] h48 fun v67 h68=>Aq false .len [v67] h68 fun v69 h70=>oA (AF h70 .Gt v69 (.int 9)) fun b71=>iB b71 (A2 false h70 .Pow (.int 10) (.int 9) fun v72 h73=>oA (AF h73 .Eq v6 (.int 45)) fun b74=>iB b74 (Ey v72 fun v75=>oV 2 h v75 h73) (oV 2 h v72 h73)) (A2 false h70 .Add (.str [48]) v67 fun v76 h77=>Aq false .int [v76] h77 fun v78 h79=>oA (AF h79 .Eq v6 (.int 45)) fun b80=>iB b80 (Ey v78 fun v81=>oV 2 h v81 h79) (oV 2 h v78 h79)))))))))
noncomputable def Fm(F:FL):PF:=Fv 2 (Kd F)
noncomputable def Ua(F:FL)(token:V)(h:HA):RA X:=(oA (sv 2 h token BK (.bool false)) fun h1=>A2 false h1 .Add (.ps h1.at_) (.int 1) fun v2 h3=>AB F.HG [.tx,v2] h3 fun v4 h5=>oA (AF h5 .Is v4 .none) fun b6=>iB b6 (AB F.A9 [.lex,(.str [97,32,115,116,114,105,110,103,32,104,97,115,32,97,32,119,114,111,110,103,32,101,115,99,97,112,101])] h5 fun v7 h8=>A2 false h8 .Add (.ps h8.at_) (.int 1) fun v9 h10=>AB F.Ae [.tx,v9] h10 fun v11 h12=>AB F.CM [v11] h12 fun v13 h14=>AE v13 fun b15=>iB b15 (oA (D7 .Add h14.line (.int 1)) fun v16=>oA (sv 2 h14 .lex AI v16) fun h17=>oA (gv 2 h17 token Ao) fun v18=>AE v18 fun b19=>iB b19 (oA (sv 2 h17 token Ao (.bool true)) fun h20=>oA (Ap h20 v4 (.int 1)) fun v21=>oA (sv 2 h20 .lex CS v21) fun h22=>oA (Ap h22 v4 (.int 0)) fun v23=>oV 2 h v23 h22) (oA (Ap h17 v4 (.int 2)) fun v24=>oA (sv 2 h17 token Ao v24) fun h25=>oA (Ap h25 v4 (.int 1)) fun v26=>oA (sv 2 h25 .lex CS v26) fun h27=>oA (Ap h27 v4 (.int 0)) fun v28=>oV 2 h v28 h27)) (oA (gv 2 h14 token Ao) fun v29=>AE v29 fun b30=>iB b30 (oA (sv 2 h14 token Ao (.bool true)) fun h31=>oA (Ap h31 v4 (.int 1)) fun v32=>oA (sv 2 h31 .lex CS v32) fun h33=>oA (Ap h33 v4 (.int 0)) fun v34=>oV 2 h v34 h33) (oA (Ap h14 v4 (.int 2)) fun v35=>oA (sv 2 h14 token Ao v35) fun h36=>oA (Ap h36 v4 (.int 1)) fun v37=>oA (sv 2 h36 .lex CS v37) fun h38=>oA (Ap h38 v4 (.int 0)) fun v39=>oV 2 h v39 h38))) (A2 false h5 .Add (.ps h5.at_) (.int 1) fun v40 h41=>AB F.Ae [.tx,v40] h41 fun v42 h43=>AB F.CM [v42] h43 fun v44 h45=>AE v44 fun b46=>iB b46 (oA (D7 .Add h45.line (.int 1)) fun v47=>oA (sv 2 h45 .lex AI v47) fun h48=>oA (gv 2 h48 token Ao) fun v49=>AE v49 fun b50=>iB b50 (oA (sv 2 h48 token Ao (.bool true)) fun h51=>oA (Ap h51 v4 (.int 1)) fun v52=>oA (sv 2 h51 .lex CS v52) fun h53=>oA (Ap h53 v4 (.int 0)) fun v54=>oV 2 h v54 h53) (oA (Ap h48 v4 (.int 2)) fun v55=>oA (sv 2 h48 token Ao v55) fun h56=>oA (Ap h56 v4 (.int 1)) fun v57=>oA (sv 2 h56 .lex CS v57) fun h58=>oA (Ap h58 v4 (.int 0)) fun v59=>oV 2 h v59 h58)) (oA (gv 2 h45 token Ao) fun v60=>AE v60 fun b61=>iB b61 (oA (sv 2 h45 token Ao (.bool true)) fun h62=>oA (Ap h62 v4 (.int 1)) fun v63=>oA (sv 2 h62 .lex CS v63) fun h64=>oA (Ap h64 v4 (.int 0)) fun v65=>oV 2 h v65 h64) (oA (Ap h45 v4 (.int 2)) fun v66=>oA (sv 2 h45 token Ao v66) fun h67=>oA (Ap h67 v4 (.int 1)) fun v68=>oA (sv 2 h67 .lex CS v68) fun h69=>oA (Ap h69 v4 (.int 0)) fun v70=>oV 2 h v70 h69))))
noncomputable def NT(F:FL):PF:=HT 2 (Ua F)
noncomputable def OZ(F:FL)(token:V)(h:HA):RA X:=(AB F.LF [.tx,(.ps h.at_)] h fun v1 h2=>oA (AF h2 .Is v1 .none) fun b3=>iB b3 (AB F.A9 [.lex,(.str [97,32,115,105,103,110,32,116,104,97,116,32,110,111,116,104,105,110,103,32,98,101,103,105,110,115,32,119,105,116,104])] h2 fun v4 h5=>oA (sv 2 h5 token AJ (.str [112,117,110,99,116])) fun h6=>oA (sv 2 h6 token AG v1) fun h7=>Aq false .len [v1] h7 fun v8 h9=>oA (D7 .Add (.ps h7.at_) v8) fun v10=>oA (sv 2 h9 .lex CS v10) fun h11=>oV 2 h .none h11) (oA (sv 2 h2 token AJ (.str [112,117,110,99,116])) fun h12=>oA (sv 2 h12 token AG v1) fun h13=>Aq false .len [v1] h13 fun v14 h15=>oA (D7 .Add (.ps h13.at_) v14) fun v16=>oA (sv 2 h15 .lex CS v16) fun h17=>oV 2 h .none h17))
noncomputable def IU(F:FL):PF:=HT 2 (OZ F)
noncomputable def HI(F:FL)(P:PF):PF:=O5 fun line h=>(AB F.Ae [.tx,(.ps h.at_)] h fun v1 h2=>AB F.CM [v1] h2 fun v3 h4=>AE v3 fun b5=>iB b5 (AB F.LJ [.lex] h4 fun v6 h7=>P [line] h7) (AB F.LH [v1] h4 fun v8 h9=>AE v8 fun b10=>iB b10 (oA (D7 .Add (.ps h9.at_) (.int 1)) fun v11=>oA (sv 2 h9 .lex CS v11) fun h12=>P [line] h12) (AP .tx (tB (B7 h9 .startswith .tx) (AH .startswith .tx [(.str [47,47]),(.ps h9.at_)] h9 fun v13 h14=>AE v13 fun b15=>iB b15 (.no) (AP .tx (tB (B7 h14 .startswith .tx) (AH .startswith .tx [(.str [47,42]),(.ps h14.at_)] h14 fun v16 h17=>AE v16 fun b18=>iB b18 (.no) (oA (AF h17 .Gt h17.line line) fun b19=>.ok ((.ret (.bool b19)),[]) h17)))))))))
noncomputable def HL(F:FL)(P:PF)(h:HA):RA X:=(bS (P [h.line] h) fun z1 h2=>Mf z1 (fun z3=>NK 2 [AI] z3 fun vs=>Rj vs fun v4=>oV 2 h .none h2) fun v5=>oV 2 h v5 h2)
noncomputable def Mt(F:FL):PF:=Fv 2 (HL F (EV (HI F) FI))
noncomputable def Ju(F:FL)(P:PF):PF:=bX fun token found told h=>(oA (AF h .IsNot told .none) fun b1=>iB b1 (oA (Ap h told (.int 1)) fun v2=>A2 false h .Add (.ps h.at_) (.int 1) fun v3 h4=>oA (AF h4 .Gt v2 v3) fun b5=>iB b5 (oA (sv 2 h4 token BK (.bool false)) fun h6=>AP found (tB (B7 h6 .append found) (oA (Ap h6 told (.int 0)) fun v7=>AH .append found [v7] h6 fun v8 h9=>oA (Ap h9 told (.int 1)) fun v10=>oA (sv 2 h9 .lex CS v10) fun h11=>AB F.Eb [.lex,(.bool false)] h11 fun v12 h13=>P [token,found,v12] h13))) (AP found (tB (B7 h4 .append found) (oA (Ap h4 told (.int 0)) fun v14=>AH .append found [v14] h4 fun v15 h16=>oA (Ap h16 told (.int 1)) fun v17=>oA (sv 2 h16 .lex CS v17) fun h18=>AB F.Eb [.lex,(.bool false)] h18 fun v19 h20=>P [token,found,v19] h20)))) (.ok (.next,[(k_self,.lex),(Am,token),(Aj,found),(EJ,told)]) h))
noncomputable def Jz(F:FL)(P:PF)(token:V)(h:HA):RA X:=(As false h [] fun v1 h2=>AB F.Eb [.lex,(.bool true)] h2 fun v3 h4=>tB (QV [v1,v3]) (bS (P [token,v1,v3] h4) fun z5 h6=>Mf z5 (fun z7=>NK 2 [Am,Aj,EJ] z7 fun vs=>Vy vs fun v8 v9 v10=>AP (.str []) (tB (B7 h6 .join (.str [])) (AH .join (.str []) [v9] h6 fun v11 h12=>oA (sv 2 h12 v8 AG v11) fun h13=>oA (gv 2 h13 v8 AG) fun v14=>AB F.H7 [v14] h13 fun v15 h16=>AE v15 fun b17=>iB b17 (oA (sv 2 h16 v8 AJ (.str [107,101,121,119,111,114,100])) fun h18=>oV 2 h .none h18) (oA (sv 2 h16 v8 AJ (.str [110,97,109,101])) fun h19=>oV 2 h .none h19)))) fun v20=>oV 2 h v20 h6))
noncomputable def QO(F:FL):PF:=HT 2 (Jz F (EV (Ju F) FI))
noncomputable def HH(F:FL)(P:PF):PF:=O5 fun start h=>(AB F.Ae [.tx,(.ps h.at_)] h fun v1 h2=>AB F.Bp [v1] h2 fun v3 h4=>AE v3 fun b5=>iB b5 (oA (D7 .Add (.ps h4.at_) (.int 1)) fun v6=>oA (sv 2 h4 .lex CS v6) fun h7=>P [start] h7) (.ok (.next,[(k_self,.lex),(CR,start)]) h4))
noncomputable def HK(F:FL)(P:PF)(h:HA):RA X:=(bS (P [(.ps h.at_)] h) fun z1 h2=>Mf z1 (fun z3=>NK 2 [CR] z3 fun vs=>Rj vs fun v4=>Vo false h2 .tx (.some v4) (.some (.ps h2.at_)) fun v5 h6=>oV 2 h v5 h6) fun v7=>oV 2 h v7 h2)
noncomputable def Ms(F:FL):PF:=Fv 2 (HK F (EV (HH F) FI))
noncomputable def ID(F:FL)(P:PF):PF:=O5 fun value h=>(AB F.Ae [.tx,(.ps h.at_)] h fun v1 h2=>AB F.B8 [v1] h2 fun v3 h4=>AE v3 fun b5=>iB b5 (A2 false h4 .Mult value (.int 8) fun v6 h7=>AB F.Ae [.tx,(.ps h7.at_)] h7 fun v8 h9=>A2 false h9 .Add v6 v8 fun v10 h11=>A2 false h11 .Sub v10 (.int 48) fun v12 h13=>oA (D7 .Add (.ps h13.at_) (.int 1)) fun v14=>oA (sv 2 h13 .lex CS v14) fun h15=>P [v12] h15) (.ok (.next,[(k_self,.lex),(AG,value)]) h4))
noncomputable def IM(F:FL)(P:PF)(h:HA):RA X:=(bS (P [(.int 0)] h) fun z1 h2=>Mf z1 (fun z3=>NK 2 [AG] z3 fun vs=>Rj vs fun v4=>oV 2 h v4 h2) fun v5=>oV 2 h v5 h2)
noncomputable def Ol(F:FL):PF:=Fv 2 (IM F (EV (ID F) FI))
noncomputable def Jt(F:FL)(P:PF):PF:=bX fun token quote found h=>(AB F.Ae [.tx,(.ps h.at_)] h fun v1 h2=>oA (AF h2 .NotEq v1 quote) fun b3=>iB b3 (AB F.Ae [.tx,(.ps h2.at_)] h2 fun v4 h5=>oA (AF h5 .Lt v4 (.int 0)) fun b6=>iB b6 (AB F.A9 [.lex,(.str [97,32,115,116,114,105,110,103,32,104,97,115,32,110,111,32,101,110,100])] h5 fun v7 h8=>oA (AF h8 .Eq v4 (.int 92)) fun b9=>iB b9 (AP found (tB (B7 h8 .append found) (AB F.G4 [.lex,token] h8 fun v10 h11=>AH .append found [v10] h11 fun v12 h13=>P [token,quote,found] h13))) (AP found (tB (B7 h8 .append found) (oA (Ap h8 .tx (.ps h8.at_)) fun v14=>AH .append found [v14] h8 fun v15 h16=>oA (D7 .Add (.ps h16.at_) (.int 1)) fun v17=>oA (sv 2 h16 .lex CS v17) fun h18=>P [token,quote,found] h18)))) (AB F.CM [v4] h5 fun v19 h20=>AE v19 fun b21=>iB b21 (AB F.A9 [.lex,(.str [97,32,115,116,114,105,110,103,32,104,97,115,32,110,111,32,101,110,100])] h20 fun v22 h23=>oA (AF h23 .Eq v4 (.int 92)) fun b24=>iB b24 (AP found (tB (B7 h23 .append found) (AB F.G4 [.lex,token] h23 fun v25 h26=>AH .append found [v25] h26 fun v27 h28=>P [token,quote,found] h28))) (AP found (tB (B7 h23 .append found) (oA (Ap h23 .tx (.ps h23.at_)) fun v29=>AH .append found [v29] h23 fun v30 h31=>oA (D7 .Add (.ps h31.at_) (.int 1)) fun v32=>oA (sv 2 h31 .lex CS v32) fun h33=>P [token,quote,found] h33)))) (oA (AF h20 .Eq v4 (.int 92)) fun b34=>iB b34 (AP found (tB (B7 h20 .append found) (AB F.G4 [.lex,token] h20 fun v35 h36=>AH .append found [v35] h36 fun v37 h38=>P [token,quote,found] h38))) (AP found (tB (B7 h20 .append found) (oA (Ap h20 .tx (.ps h20.at_)) fun v39=>AH .append found [v39] h20 fun v40 h41=>oA (D7 .Add (.ps h41.at_) (.int 1)) fun v42=>oA (sv 2 h41 .lex CS v42) fun h43=>P [token,quote,found] h43)))))) (.ok (.next,[(k_self,.lex),(Am,token),(K9,quote),(Aj,found)]) h2))
noncomputable def Jy(F:FL)(P:PF)(token quote:V)(h:HA):RA X:=(oA (sv 2 h token AJ (.str [116,101,120,116])) fun h1=>As false h1 [] fun v2 h3=>oA (D7 .Add (.ps h3.at_) (.int 1)) fun v4=>oA (sv 2 h3 .lex CS v4) fun h5=>bS (P [token,quote,v2] h5) fun z6 h7=>Mf z6 (fun z8=>NK 2 [Am,K9,Aj] z8 fun vs=>Vy vs fun v9 v10 v11=>oA (D7 .Add (.ps h7.at_) (.int 1)) fun v12=>oA (sv 2 h7 .lex CS v12) fun h13=>AP (.str []) (tB (B7 h13 .join (.str [])) (AH .join (.str []) [v11] h13 fun v14 h15=>oA (sv 2 h15 v9 AG v14) fun h16=>oV 2 h .none h16))) fun v17=>oV 2 h v17 h7)
noncomputable def QN(F:FL):PF:=bD 2 (Jy F (EV (Jt F) FI))
noncomputable def Wh(F:FL):PF:=DQ (Bw F) 2 2 90 false RC
noncomputable def Lf(F:FL):PF:=DQ (Bw F) 2 2 90 false Gw
noncomputable def Li(F:FL):PF:=fun vs h=>de [([.int (.ofNat 15)],.int (.ofNat 4624633867356078080))] vs h
noncomputable def GP(F:FL):PF:=fun vs h=>de [([.str [48],.int (.ofNat 0)],.int (.ofNat 0)),([.str [49],.int (.ofNat 0)],.int (.ofNat 4607182418800017408)),([.str [50],.int (.ofNat 0)],.int (.ofNat 4611686018427387904)),([.str [51],.int (.ofNat 0)],.int (.ofNat 4613937818241073152))] vs h
noncomputable def R3(F:FL):PF:=np
noncomputable def ag(F:FL):FL:=⟨NU F,Lg F,HO F,Lh F,Et F,HP F,IY F,J5 F,Fo F,HN F,IV F,Ld F,Wh F,Lf F,Li F,GP F,R3 F,Wg F,IZ F,Lj F,J4 F,HM F,GO F,Fm F,NT F,IU F,Mt F,QO F,Ms F,Ol F,QN F⟩
noncomputable def lV:FL:=⟨np,np,np,np,np,np,np,np,np,np,np,np,np,np,np,np,np,np,np,np,np,np,np,np,np,np,np,np,np,np,np⟩
noncomputable def A4:Nat→FL
 |0=>lV
 |k+1=>ag (A4 k)
theorem Vc(F:FL):Cj 2 (Bw F) false OC (NU F):=FW fun J J J=>by kernel_rfl
theorem SP(F:FL):Cj 2 (Bw F) false MT (Lg F):=Cn fun J J=>by kernel_rfl
theorem M3(F:FL):Cj 2 (Bw F) false Hd (HO F):=Cn fun J J=>by kernel_rfl
theorem SQ(F:FL):Cj 2 (Bw F) false MU (Lh F):=Cn fun J J=>by kernel_rfl
theorem Jd(F:FL):Cj 2 (Bw F) false FE (Et F):=Cn fun J J=>by kernel_rfl
theorem M4(F:FL):Cj 2 (Bw F) false He (HP F):=Cn fun J J=>by kernel_rfl
theorem PD(F:FL):Cj 2 (Bw F) false JA (IY F):=Cn fun J J=>by kernel_rfl
theorem Ql(F:FL):Cj 2 (Bw F) false KZ (J5 F):=Cn fun J J=>by kernel_rfl
theorem Ko(F:FL):Cj 2 (Bw F) false F1 (Fo F):=FW fun J J J=>by kernel_rfl
theorem M1(F:FL):Cj 2 (Bw F) false Ha (HN F):=FW fun J J J=>by kernel_rfl
theorem PC(F:FL):Cj 2 (Bw F) false I_ (IV F):=Cn fun J J=>by kernel_rfl
theorem SO(F:FL):Cj 2 (Bw F) false MO (Ld F):=FW fun J J J=>by kernel_rfl
theorem ed(F:FL):Cj 2 (Bw F) false Jn (Wg F):=BP fun J=>by kernel_rfl
theorem PE(F:FL):Cj 2 (Bw F) false JC (IZ F):=Be fun J J=>by kernel_rfl
theorem SS(F:FL):Cj 2 (Bw F) false Ma (Lj F):=BP fun J=>by kernel_rfl
theorem Qk(F:FL):Cj 2 (Bw F) false KX (J4 F):=Be fun J J=>by kernel_rfl
theorem M0(F:FL):Cj 2 (Bw F) false HZ (HM F):=Be fun J J=>by kernel_rfl
theorem MA(F:FL):Cj 2 (Bw F) false Gr (GO F):=BP fun J=>by kernel_rfl
theorem Kn(F:FL):Cj 2 (Bw F) false Fz (Fm F):=BP fun J=>by kernel_rfl
theorem Vb(F:FL):Cj 2 (Bw F) false OA (NT F):=Be fun J J=>by kernel_rfl
theorem O_(F:FL):Cj 2 (Bw F) false I7 (IU F):=Be fun J J=>by kernel_rfl
theorem L_(F:FL)(P:PF):Pm 2 (Bw F) Ep 1 [AI] P (HI F P):=Cn fun J J=>by kernel_rfl
theorem My(F:FL)(P:PF):RF 2 (Bw F) Ep 1 [AI] P (Fv 2 (HL F P)):=BP fun J=>by kernel_rfl
theorem PB(F:FL)(P:PF):Pm 2 (Bw F) Gq 1 [Am,Aj,EJ] P (Ju F P):=JZ fun J J J J=>by kernel_rfl
theorem Qj(F:FL)(P:PF):RF 2 (Bw F) Gq 1 [Am,Aj,EJ] P (HT 2 (Jz F P)):=Be fun J J=>by kernel_rfl
theorem L9(F:FL)(P:PF):Pm 2 (Bw F) Eo 1 [CR] P (HH F P):=Cn fun J J=>by kernel_rfl
theorem Mx(F:FL)(P:PF):RF 2 (Bw F) Eo 1 [CR] P (Fv 2 (HK F P)):=BP fun J=>by kernel_rfl
theorem Mz(F:FL)(P:PF):Pm 2 (Bw F) Fd 1 [AG] P (ID F P):=Cn fun J J=>by kernel_rfl
theorem PA(F:FL)(P:PF):RF 2 (Bw F) Fd 1 [AG] P (Fv 2 (IM F P)):=BP fun J=>by kernel_rfl
theorem O9(F:FL)(P:PF):Pm 2 (Bw F) Gp 3 [Am,K9,Aj] P (Jt F P):=JZ fun J J J J=>by kernel_rfl
theorem Qi(F:FL)(P:PF):RF 2 (Bw F) Gp 3 [Am,K9,Aj] P (bD 2 (Jy F P)):=L4 fun J J J=>by kernel_rfl
section
variable{W:Wd} {δ:Nat} {F:FL}
theorem Rw(wf:WF W)(A:Fg W 2 δ (Bw F)):Fc W 2 (δ+5) MW (Li F):=lQ wf A (li:=4) (n:=300) (lk:=false) (by omega) fun vs h=>R9 (by
 obtain⟨a,b,c,d,e,f,g,i,j,k,l,t,p,q⟩:=h;cases t with
 |some _=>exact⟨by kernel_rfl,trivial⟩
 |none=>exact⟨by kernel_rfl,trivial⟩)
theorem LY(wf:WF W)(A:Fg W 2 δ (Bw F)):Fc W 2 (δ+5) G0 (GP F):=lQ wf A (li:=4) (n:=300) (lk:=false) (by omega) fun vs h=>R9 (by
 obtain⟨a,b,c,d,e,f,g,i,j,k,l,t,p,q⟩:=h;cases t with
 |some _=>exact⟨by kernel_rfl,by kernel_rfl,by kernel_rfl,by kernel_rfl,trivial⟩
 |none=>exact⟨by kernel_rfl,by kernel_rfl,by kernel_rfl,by kernel_rfl,trivial⟩)
end
noncomputable def sH:List Fn:= [Jn,JC,Ma,KX,HZ,Gr,Fz,OA,I7,Ep,Gq,Eo,Fd,Gp]
noncomputable def sX:List Fn:= [OC,MT,Hd,MU,FE,He,JA,KZ,F1,Ha,I_,MO,RC,Gw,MW,G0,Sw]
section
variable{W:Wd} {δ:Nat} {F:FL}
theorem WQ(wf:WF W)(A:Fg W 2 δ (Bw F)):Fg W 2 (δ+5) (Bw (ag F)):=by
 have e:∀{f:Fn} {lk:Bool} {P:PF},Cj 2 (Bw F) lk f P→Fc W 2 (δ+5) f P:=fun e=>sP wf A (by decide) e;have l:∀{f:Fn} {i:Nat} {ns:List Nat} {t:PF→PF} {P:PF},(∀P,Pm 2 (Bw F) f i ns P (t P))→RF 2 (Bw F) f i ns (EV t FI) P→f.body=f.body.take i++ .While (gC (AO i f.body)) (gG (AO i f.body)) [] (l7 (AO i f.body))::f.body.drop (i+1)→Fc W 2 (δ+5) f P:=fun a b c=>sL wf A (by decide) a b c;exact .tab (.nil wf (by decide) A) (by decide) sX sH (by kernel_rfl) nofun (fun J=>by kernel_rfl)
  (.c (e (Vc F))<|
  .c (e (SP F))<|
  .c (e (M3 F))<|
  .c (e (SQ F))<|
  .c (e (Jd F))<|
  .c (e (M4 F))<|
  .c (e (PD F))<|
  .c (e (Ql F))<|
  .c (e (Ko F))<|
  .c (e (M1 F))<|
  .c (e (PC F))<|
  .c (e (SO F))<|
  .c (e (lk:=false) fun J J=>.inr rfl)<|
  .c (e (lk:=false) fun J J=>.inr rfl)<|
  .c (Rw wf A)<|
  .c (LY wf A)<|
  .c WS<|
  .n)
  (.c (e (ed F))<|
  .c (e (PE F))<|
  .c (e (SS F))<|
  .c (e (Qk F))<|
  .c (e (M0 F))<|
  .c (e (MA F))<|
  .c (e (Kn F))<|
  .c (e (Vb F))<|
  .c (e (O_ F))<|
  .c (l (L_ F) (My F _) (by kernel_rfl))<|
  .c (l (PB F) (Qj F _) (by kernel_rfl))<|
  .c (l (L9 F) (Mx F _) (by kernel_rfl))<|
  .c (l (Mz F) (PA F _) (by kernel_rfl))<|
  .c (l (O9 F) (Qi F _) (by kernel_rfl))<|
  .n)
end
theorem dj{W:Wd}(wf:WF W):Fg W 2 30 (Bw lV):=.tab (.base wf (by decide) nofun) (by decide) sX sH (by kernel_rfl) nofun (fun J=>by kernel_rfl) (.np (ks:=(Bw lV).fn.map (·.1)) (by kernel_rfl)) (.np (ks:=(Bw lV).mt.map (·.1)) (by kernel_rfl))
theorem XQ{W:Wd}(wf:WF W):∀k,Fg W 2 (30+5*k) (Bw (A4 k))
 |0=>dj wf
 |k+1=>WQ wf (XQ wf k)
theorem PK(F:FS):Cj 1 (Ar F) false I9 (Ie F):=FW fun J J J=>by kernel_rfl
theorem Kt(F:FS):Cj 1 (Ar F) false F5 (Ft F):=FW fun J J J=>by kernel_rfl
theorem ME(F:FS):Cj 1 (Ar F) false Gn (GR F):=JZ fun J J J J=>by kernel_rfl
theorem MG(F:FS):Cj 1 (Ar F) false G1 (GU F):=FW fun J J J=>by kernel_rfl
theorem M7(F:FS):Cj 1 (Ar F) false Hb (HQ F):=FW fun J J J=>by kernel_rfl
theorem Jg(F:FS):Cj 1 (Ar F) false FG (Ew F):=FW fun J J J=>by kernel_rfl
theorem ee(F:FS):Cj 1 (Ar F) false Yj (Wr F):=BP fun J=>by kernel_rfl
theorem ef(F:FS):Cj 1 (Ar F) false Yl (Wt F):=BP fun J=>by kernel_rfl
theorem Vj(F:FS):Cj 1 (Ar F) false N_ (JO F):=Be fun J J=>by kernel_rfl
theorem Vi(F:FS):Cj 1 (Ar F) false N9 (NY F):=Be fun J J=>by kernel_rfl
theorem j_(F:FS):Cj 1 (Ar F) false bw (ay F):=Be fun J J=>by kernel_rfl
theorem eg(F:FS):Cj 1 (Ar F) false Ym (Wv F):=Be fun J J=>by kernel_rfl
theorem Qp(F:FS):Cj 1 (Ar F) false KS (J7 F):=Be fun J J=>by kernel_rfl
theorem ei(F:FS):Cj 1 (Ar F) false Yp (Ww F):=Be fun J J=>by kernel_rfl
theorem Se(F:FS):Cj 1 (Ar F) false MZ (Lu F):=Be fun J J=>by kernel_rfl
theorem PJ(F:FS):Cj 1 (Ar F) false I6 (Ic F):=BP fun J=>by kernel_rfl
theorem Qq(F:FS):Cj 1 (Ar F) false KU (J8 F):=BP fun J=>by kernel_rfl
theorem MF(F:FS):Cj 1 (Ar F) false Gy (GS F):=BP fun J=>by kernel_rfl
theorem Kq(F:FS):Cj 1 (Ar F) false F0 (Fp F):=BP fun J=>by kernel_rfl
theorem Vl(F:FS):Cj 1 (Ar F) false OD (Na F):=BP fun J=>by kernel_rfl
theorem Ks(F:FS):Cj 1 (Ar F) false F4 (Fs F):=BP fun J=>by kernel_rfl
theorem PN(F:FS):Cj 1 (Ar F) false JB (Ig F):=Be fun J J=>by kernel_rfl
theorem M8(F:FS):Cj 1 (Ar F) false Hc (HR F):=Be fun J J=>by kernel_rfl
theorem M_(F:FS):Cj 1 (Ar F) false Hf (HS F):=Be fun J J=>by kernel_rfl
theorem Sa(F:FS):Cj 1 (Ar F) false MP (Lp F):=Be fun J J=>by kernel_rfl
theorem Z5(F:FS):Cj 1 (Ar F) false UJ (TQ F):=BP fun J=>by kernel_rfl
theorem Vf(F:FS):Cj 1 (Ar F) false N7 (NW F):=BP fun J=>by kernel_rfl
theorem Ve(F:FS):Cj 1 (Ar F) false Ny (NV F):=BP fun J=>by kernel_rfl
theorem MC(F:FS):Cj 1 (Ar F) false Gk (GQ F):=BP fun J=>by kernel_rfl
theorem Z6(F:FS):Cj 1 (Ar F) false UK (TR F):=BP fun J=>by kernel_rfl
theorem Qt(F:FS):Cj 1 (Ar F) false Ka (J_ F):=BP fun J=>by kernel_rfl
theorem X0(F:FS):Cj 1 (Ar F) false RE (Lv F):=Be fun J J=>by kernel_rfl
theorem Vk(F:FS):Cj 1 (Ar F) false OB (NZ F):=BP fun J=>by kernel_rfl
theorem Sd(F:FS):Cj 1 (Ar F) false MV (Ls F):=Be fun J J=>by kernel_rfl
theorem Kr(F:FS):Cj 1 (Ar F) false F3 (Fq F):=Be fun J J=>by kernel_rfl
theorem Qo(F:FS):Cj 1 (Ar F) false KR (J6 F):=BP fun J=>by kernel_rfl
theorem Hv(F:FS):Cj 1 (Ar F) false ER (EG F):=BP fun J=>by kernel_rfl
theorem Jf(F:FS):Cj 1 (Ar F) false FD (Eu F):=L4 fun J J J=>by kernel_rfl
theorem Qu(F:FS):Cj 1 (Ar F) false Kb (KC F):=BP fun J=>by kernel_rfl
theorem Xx(F:FS):Cj 1 (Ar F) false RD (QS F):=Be fun J J=>by kernel_rfl
theorem Qr(F:FS):Cj 1 (Ar F) false KY (J9 F):=BP fun J=>by kernel_rfl
theorem Sb(F:FS):Cj 1 (Ar F) false MS (Lr F):=L4 fun J J J=>by kernel_rfl
theorem Vh(F:FS):Cj 1 (Ar F) false N8 (NX F):=L4 fun J J J=>by kernel_rfl
theorem Vn(F:FS):Cj 1 (Ar F) false OE (Nb F):=Be fun J J=>by kernel_rfl
theorem M9(F:FS)(P:PF):Pm 1 (Ar F) Fe 3 [Cr,Ip,Aj] P (FO F P):=JZ fun J J J J=>by kernel_rfl
theorem PM(F:FS)(P:PF):RF 1 (Ar F) Fe 3 [Cr,Ip,Aj] P (HT 1 (IP F P)):=Be fun J J=>by kernel_rfl
theorem Vm(F:FS)(P:PF):Pm 1 (Ar F) Mb 1 [Io,Cr,L7] P (LQ F P):=JZ fun J J J J=>by kernel_rfl
theorem Xz(F:FS)(P:PF):RF 1 (Ar F) Mb 1 [Io,Cr,L7] P (bD 1 (QM F P)):=L4 fun J J J=>by kernel_rfl
theorem PL(F:FS)(P:PF):Pm 1 (Ar F) Gz 1 [El] P (Ec F P):=Cn fun J J=>by kernel_rfl
theorem Qs(F:FS)(P:PF):RF 1 (Ar F) Gz 1 [El] P (Fv 1 (J1 F P)):=BP fun J=>by kernel_rfl
theorem Kp(F:FS)(P:PF):Pm 1 (Ar F) EP 0 [El] P (GG F P):=Cn fun J J=>by kernel_rfl
theorem MD(F:FS)(P:PF):RF 1 (Ar F) EP 0 [El] P (HT 1 (GL F P)):=Be fun J J=>by kernel_rfl
theorem PO(F:FS)(P:PF):Pm 1 (Ar F) G2 2 [Aj] P (GH F P):=Cn fun J J=>by kernel_rfl
theorem Qv(F:FS)(P:PF):RF 1 (Ar F) G2 2 [Aj] P (Fv 1 (J2 F P)):=BP fun J=>by kernel_rfl
theorem Vg(F:FS)(P:PF):Pm 1 (Ar F) MQ 2 [AI,Aj,DC] P (LP F P):=JZ fun J J J J=>by kernel_rfl
theorem Xw(F:FS)(P:PF):RF 1 (Ar F) MQ 2 [AI,Aj,DC] P (Fv 1 (QG F P)):=BP fun J=>by kernel_rfl
theorem Z7(F:FS)(P:PF):Pm 1 (Ar F) Ff 2 [E4,Aj,C2,DV] P (Bl F P):=eR fun J J J J J=>by kernel_rfl
theorem ek(F:FS)(P:PF):RF 1 (Ar F) Ff 2 [E4,Aj,C2,DV] P (HT 1 (C9 F P)):=Be fun J J=>by kernel_rfl
theorem Xy(F:FS)(P:PF):Pm 1 (Ar F) Pj 2 [Aj] P (S_ F P):=Cn fun J J=>by kernel_rfl
theorem Z8(F:FS)(P:PF):RF 1 (Ar F) Pj 2 [Aj] P (Fv 1 (TM F P)):=BP fun J=>by kernel_rfl
theorem PI(F:FS)(P:PF):Pm 1 (Ar F) Gm 1 [Aj] P (Jx F P):=Cn fun J J=>by kernel_rfl
theorem Qn(F:FS)(P:PF):RF 1 (Ar F) Gm 1 [Aj] P (HT 1 (J0 F P)):=Be fun J J=>by kernel_rfl
section
variable{W:Wd} {δ:Nat} {F:FS}
theorem Rq(h:HA):iB (tS h||!h.lo.isEmpty) .no (rt (.tup [.str [49],.int 1]) {h with lo:= [.list [.str [49]]]})=.no∨iB (tS h||!h.lo.isEmpty) .no (rt (.tup [.str [49],.int 1]) {h with lo:= [.list [.str [49]]]})=DQ (Ar F) 1 2 300 false H0 [.int (.ofNat VQ)] h:=by
 obtain⟨a,b,c,d,e,f,g,i,j,k,l,t,p,q⟩:=h;cases t with
 |some _=>exact .inl rfl
 |none=>cases q with
  |cons _ _=>exact .inl rfl
  |nil=>exact .inr (by kernel_rfl)
theorem Rr(wf:WF W)(A:Fg W 1 δ (Ar F)):Fc W 1 (δ+3) H0 (Ln F):=lQ wf A (li:=2) (n:=300) (lk:=false) (by omega) fun vs h=>OQ fun a z=>by
 show dv a _=_∨dv a _=_;cases a with
 |int i=>cases i with
  |ofNat n=>
   show iB (Nat.beq n VQ) _ _=_∨iB (Nat.beq n VQ) _ _=_;cases e:Nat.beq n VQ with
   |false=>exact .inl rfl
   |true=>rw[z,Nat.eq_of_beq_eq_true e];exact Rq h
  |negSucc _=>exact .inl rfl
 |_=>exact .inl rfl
end
noncomputable def sG:List Fn:= [Yj,Yl,N_,N9,bw,Ym,KS,Yp,MZ,I6,KU,Gy,F0,OD,F4,JB,Hc,Hf,MP,UJ,N7,Ny,Gk,UK,Ka,RE,OB,MV,F3,KR,ER,FD,Kb,RD,KY,MS,N8,OE,Fe,Mb,Gz,EP,G2,MQ,Ff,Pj,Gm,I8,RB,Kc,Yn,MR,Yo,MY]
noncomputable def sW:List Fn:= [I9,F5,Gn,G1,Hb,FG,Gs,Yk,H0]
section
variable{W:Wd} {δ:Nat} {F:FS}
theorem WN(wf:WF W)(hx:∀s a l r,W.LX s a l r→cA l=true)(A:Fg W 1 δ (Ar F)):Fg W 1 (δ+3) (Ar (WO F)):=by
 have e:∀{f:Fn} {lk:Bool} {P:PF},Cj 1 (Ar F) lk f P→Fc W 1 (δ+3) f P:=fun e=>sP wf A (by decide) e;have l:∀{f:Fn} {i:Nat} {ns:List Nat} {t:PF→PF} {P:PF},(∀P,Pm 1 (Ar F) f i ns P (t P))→RF 1 (Ar F) f i ns (EV t FI) P→f.body=f.body.take i++ .While (gC (AO i f.body)) (gG (AO i f.body)) [] (l7 (AO i f.body))::f.body.drop (i+1)→Fc W 1 (δ+3) f P:=fun a b c=>sL wf A (by decide) a b c;exact .tab (.nil wf (by decide) A) (by decide) sW sG (by kernel_rfl) (fun J=>by kernel_rfl) nofun
  (.c (e (PK F))<|
  .c (e (Kt F))<|
  .c (e (ME F))<|
  .c (e (MG F))<|
  .c (e (M7 F))<|
  .c (e (Jg F))<|
  .c (e (lk:=false) fun J J=>.inr rfl)<|
  .c (e (lk:=false) fun J J=>.inr rfl)<|
  .c (Rr wf A)<|
  .n)
  (.c (e (ee F))<|
  .c (e (ef F))<|
  .c (e (Vj F))<|
  .c (e (Vi F))<|
  .c (e (j_ F))<|
  .c (e (eg F))<|
  .c (e (Qp F))<|
  .c (e (ei F))<|
  .c (e (Se F))<|
  .c (e (PJ F))<|
  .c (e (Qq F))<|
  .c (e (MF F))<|
  .c (e (Kq F))<|
  .c (e (Vl F))<|
  .c (e (Ks F))<|
  .c (e (PN F))<|
  .c (e (M8 F))<|
  .c (e (M_ F))<|
  .c (e (Sa F))<|
  .c (e (Z5 F))<|
  .c (e (Vf F))<|
  .c (e (Ve F))<|
  .c (e (MC F))<|
  .c (e (Z6 F))<|
  .c (e (Qt F))<|
  .c (e (X0 F))<|
  .c (e (Vk F))<|
  .c (e (Sd F))<|
  .c (e (Kr F))<|
  .c (e (Qo F))<|
  .c (e (Hv F))<|
  .c (e (Jf F))<|
  .c (e (Qu F))<|
  .c (e (Xx F))<|
  .c (e (Qr F))<|
  .c (e (Sb F))<|
  .c (e (Vh F))<|
  .c (e (Vn F))<|
  .c (l (M9 F) (PM F _) (by kernel_rfl))<|
  .c (l (Vm F) (Xz F _) (by kernel_rfl))<|
  .c (l (PL F) (Qs F _) (by kernel_rfl))<|
  .c (l (Kp F) (MD F _) (by kernel_rfl))<|
  .c (l (PO F) (Qv F _) (by kernel_rfl))<|
  .c (l (Vg F) (Xw F _) (by kernel_rfl))<|
  .c (gK hx (l (Z7 F) (ek F _) (by kernel_rfl)))<|
  .c (l (Xy F) (Z8 F _) (by kernel_rfl))<|
  .c (l (PI F) (Qn F _) (by kernel_rfl))<|
  .c (e (lk:=false) fun J J=>.inr rfl)<|
  .c (e (lk:=false) fun J J=>.inr rfl)<|
  .c (e (lk:=false) fun J J=>.inr rfl)<|
  .c (e (lk:=false) fun J J=>.inr rfl)<|
  .c (e (lk:=true) fun J J=>.inr rfl)<|
  .c (e (lk:=false) fun J J=>.inr rfl)<|
  .c (e (lk:=false) fun J J=>.inr rfl)<|
  .n)
end
theorem di{W:Wd}(wf:WF W)(n:ly W 100):Fg W 1 100 (Ar lU):=.tab (.base wf (by decide) fun J=>n) (by decide) sW sG (by kernel_rfl) (fun J=>by kernel_rfl) nofun (.np (ks:=(Ar lU).fn.map (·.1)) (by kernel_rfl)) (.np (ks:=(Ar lU).mt.map (·.1)) (by kernel_rfl))
theorem XO{W:Wd}(wf:WF W)(n:ly W 100)(hx:∀s a l r,W.LX s a l r→cA l=true):∀k,Fg W 1 (100+3*k) (Ar (AX k))
 |0=>di wf n
 |k+1=>WN wf hx (XO wf n hx k)
end Mn
namespace Mn
open PySem PySem.W PySem.Calls PyProof.Rows PySem.SeqAt PySem.MeetsSeq
noncomputable abbrev hL(chs:List Nat)(a:Nat)(l:V):HA:=⟨.none,.none,.none,.none,.none,.none,[],chs,a,0,l,none,[],[]⟩
noncomputable def AM(F:FL):Nat→List Nat→Nat→V→Option (List V×List Nat×Nat×V)
 |0,chs,a,l=>some ([],chs,a,l)
 |n+1,chs,a,l=>match F.JD [.lex] (hL chs a l) with
  |.ok x h=>match x.1 with
   |.ret t=>cC (cA t&&cA h.line) none (match h.tmp with
    |none=>cO (AM F n (chs.drop h.at_) (Nat.add a h.at_) h.line) none fun p=>some (t::p.1,p.2)
    |some _=>none)
   |_=>none
  |_=>none
noncomputable def A3:Nat:=8
noncomputable def fy(σ:St)(s:List Nat)(a:Nat)(l:V):St:=⟨hL (s.drop a) a l,⟨none,σ.μ.lex,none,[],[],none,some (s,a),0⟩,σ.s⟩
noncomputable def aL(σ σ':St)(s:List Nat)(a:Nat):St:=⟨σ.h,{σ.μ with lx:=some (s,Nat.add a σ'.h.at_,σ'.h.line)},σ'.s⟩
noncomputable def jJ:Sl→Option Sl
 |.lex=>some .lex
 |_=>none
section
variable{W:Wd} {δ:Nat} {s:List Nat} {a:Nat} {l:V}
theorem kc{P:Params} {ca:Ca} {g:Hp} {m m':Mu} {w:V} {k:Nat}(hm:m'.tx=some (s,a))(e:w=.int (.ofNat (a+k))):(∀x,VR P ca g m w x→VR P ca g m' (.ps k) x)∧∀x,VR P ca g m' (.ps k) x→VR P ca g m w x:=by
 subst e;refine⟨fun x h=>?_,fun x h=>?_⟩
 ·unfold VR at h⊢
  refine xE h fun t z1q=>?_;clear h;subst z1q;exact⟨(s,a),t,hm,rfl⟩
 ·unfold VR at h⊢
  refine xEEA h fun p t e z3q=>?_;subst z3q;clear h;cases hm.symm.trans e;exact⟨t,rfl⟩
theorem gL{P:Params} {ca:Ca} {g:Hp} {m m':Mu}(hm:m'.tx=some (s,a)):(∀x,VR P ca g m (.str s) x→VR P ca g m' .tx x)∧∀x,VR P ca g m' .tx x→VR P ca g m (.str s) x:=by
 refine⟨fun x h=>?_,fun x h=>?_⟩
 ·unfold VR at h⊢
  refine xEEA h fun y t e h=>?_;exact⟨(s,a),y,t,hm,e,h⟩
 ·unfold VR at h⊢
  refine A_ h fun p y t e e2 h=>?_;cases hm.symm.trans e;exact⟨y,t,e2,h⟩
theorem SN{X:AS} {le:List Env} {σ:St} {μ:Mu} {h:HA}(h1:μ.par=none)(h2:μ.tm=none)(h3:μ.lo= [])(h4:μ.gl= []){sl:Sl} {c:B5}(e:cel h μ sl=some c):sl=.lex:=by
 cases sl with
 |lex=>rfl
 |par=>refine Es (Ai (show B0 (some (.inst kP (Dn h μ.np))) μ.par μ.nlo=some c from e)) fun J e J=>?_;rw[h1] at e;cases e
 |tmp=>refine Es (Ai (show B0 (h.tmp.map fun x=>.inst x.1 x.2) μ.tm μ0=some c from e)) fun J e J=>?_;rw[h2] at e;cases e
 |lo i=>refine Es (Ai (show B0 h.lo[i]? μ.lo[i]? μ.nt=some c from e)) fun J e J=>?_;rw[h3] at e;simp at e
 |gl i=>refine Es (Ai (show B0 h.gl[i]? μ.gl[i]? μ.nlo=some c from e)) fun J e J=>?_;rw[h4] at e;simp at e
theorem W7{fn:Fn} {P:PF} {t:V} {ρ:Af} {h:HA}(hm:DR gT kL Dq=some fn)(H:Fc W 2 δ fn P)(ev:P [.lex] (hL (s.drop a) a l)=.ok (.ret t,ρ) h)(ht:h.tmp=none)(c1:cA t=true)(c2:cA l=true)(c3:cA h.line=true)(hs:s.length≤Ei):Nx W δ s a l t (Nat.add a h.at_) h.line:=fun d A1 le X σ f fn' p R fa hd hm' FF S F hp q=>by
 cases hm.symm.trans hm';have rel1:∀{P:Params} {ca:Ca} {k:Nat} {l:V} {m m':Mu},m'.tx=some (s,a)→cA l=true→Rf P ca m m' [(BG,.str s),(CS,.int (.ofNat (Nat.add a k))),(AI,l)] [(BG,.tx),(CS,.ps k),(AI,l)]∧Rf P ca m' m [(BG,.tx),(CS,.ps k),(AI,l)] [(BG,.str s),(CS,.int (.ofNat (Nat.add a k))),(AI,l)]:=fun hm c=>⟨⟨⟨rfl,fun J=>(gL hm).1⟩,⟨rfl,fun J=>(kc hm rfl).1⟩,⟨rfl,Vt.c rfl c⟩,trivial⟩,⟨⟨rfl,fun J=>(gL hm).2⟩,⟨rfl,fun J=>(kc hm rfl).2⟩,⟨rfl,Vt.c rfl c⟩,trivial⟩⟩;have w:Pd W.lx0 id σ (fy σ s a l):=by
  refine⟨rfl,fun sl c1 e=>?_,fun s s' c c' J J h=>h⟩;cases SN (X:=X) (le:=le) (σ:=σ) rfl rfl rfl rfl e;cases e.symm.trans (Bc (h:=hL (s.drop a) a l) (μ:=(fy σ s a l).μ) hp rfl);exact⟨_,Bc hp F.lx,fun J h=>h,fun gf g o=>DI.rel rfl (rel1 (k:=0) rfl c2).1 o⟩
 have S1:SR W le (Kl X σ (fy σ s a l)) (fy σ s a l):=S.view (W:=W.lx0) (LX:=W.LX) w rfl rfl rfl (fun x e=>by cases e;exact⟨rfl,rfl,hs⟩) nofun;refine H d A1 le _ (fy σ s a l) f [.lex] [.ref p.1] R fa hd FF S1 ⟨nofun,nofun,fun J=>⟨rfl,by show σ.μ.lex≠none;rw[hp];nofun,rfl,nofun⟩⟩ rfl (.cons (by unfold VR;exact⟨p,hp,rfl⟩) .nil) (.inl ⟨t,ρ,h,ev⟩) ⟨fun v ρ' σ' b z N hv=>?_,fun c s' e' C' z=>?_⟩
 ·have z:Dj (P [.lex] (hL (s.drop a) a l))=.ok (.ret v,ρ') σ'.h:=z
  rw[ev] at z;have hh:JQ h=σ'.h:=by injection z
  have hy:((Fl.ret t,ρ):Mn.X)=(.ret v,ρ'):=by injection z
  clear z;cases hy;have l0:σ'.μ.lx=none:=by
   have:=N.lx;cases e:σ'.μ.lx with
   |none=>rfl
   |some _=>rw[e] at this;cases this
  have tx:σ'.μ.tx=some (s,a):=N.tx;have e1:σ'.h.at_=h.at_:=by rw[←hh]
  have e2:σ'.h.line=h.line:=by rw[←hh]
  have B:K5 W.lx0 jJ σ (fy σ s a l) σ' (aL σ σ' s a):=by
   refine⟨rfl,rfl,fun a=>w.sub,fun sl c3 e=>.inr ?_,fun s s' t h1 h2=>?_,⟨fun J h=>h,fun J h=>h,fun J h=>h,fun J J h=>h,fun J J h=>h,fun J h=>h⟩,rfl,rfl,rfl,rfl,by show true=σ.μ.lx.isSome;rw[F.lx];rfl,S.nt,S.nlo,S.ngl,S.tx,fun J J=>trivial⟩
   ·cases SN (X:=X) (le:=le) (σ:=σ) (μ:=(aL σ σ' s a).μ) F.par F.tm F.lo F.gl e
    cases e.symm.trans (Bc (h:=σ.h) (μ:=(aL σ σ' s a).μ) hp rfl);exact⟨.lex,_,rfl,Bc (N.lex.trans hp) l0,fun J h=>h,fun gf g o=>DI.rel rfl (rel1 (k:=σ'.h.at_) (l:=σ'.h.line) (m':=σ'.μ.nlo) tx (e2▸c3)).2 o⟩
   ·cases s<;>cases s'<;>first|rfl|(cases h1;done)|cases h2
  refine q (aL σ σ' s a) b (B.nz S N) ⟨F.par,F.lex,F.tm,F.lo,F.gl,by show some _=some _;rw[e1,e2],F.tx⟩ (VR.cl (VR.mono (B.hid N) (.refl _) _ _ hv) c1)
 ·have z:Dj (P [.lex] (hL (s.drop a) a l))=.ex c:=z
  rw[ev] at z;cases z
noncomputable def Ye(W:Wd)(δ:Nat)(s:List Nat):List V→Nat→V→Prop
 | [],_,l=>cA l=true
 |t::r,a,l=>cA l=true∧cA t=true∧∃a' l',cA l'=true∧Ye W δ s r a' l'∧Nx W δ s a l t a' l'
noncomputable abbrev gJ(W:Wd):Wd:={W with LX:=fun s a l r=>Ye W 100 s r a l}
theorem dc:ly (gJ W) 100:=fun J J J J J e=>e
theorem ja:∀s a l r,(gJ W).LX s a l r→cA l=true:=fun s a l r e=>by
 cases r with
 |nil=>exact e
 |cons t r=>exact e.1
set_option tactic.hygienic true in
set_option tactic.hygienic true in
theorem Oz(wf:WF W)(hs:s.length≤Ei):∀{n:Nat} {chs chs':List Nat} {a a':Nat} {l l':V} {ts:List V},AM (A4 A3) n chs a l=some (ts,chs',a',l')→s.drop a=chs→cA l=true→
  s.drop a'=chs'∧cA l'=true∧∀r,Ye W 100 s r a' l'→Ye W 100 s (ts++r) a l
 |0,chs,chs',a,a',l,l',ts,e,hc,hl=>by cases e;exact⟨hc,hl,fun J h=>h⟩
 |n+1,chs,chs',a,a',l,l',ts,e,hc,hl=>by
  unfold AM at e
  split at e
  ·rename_i x h e1
   split at e
   ·rename_i t e2
    refine B3 e (fun c e=>?_) nofun;refine xA (A8 c) fun c1 c3=>?_
    split at e
    ·rename_i e3
     refine BQ e (fun p e4 e=>?_) fun J=>nofun;obtain⟨ts2,chs2,a2,l2⟩:=p;cases e;obtain⟨fl,ρ⟩:=x;cases(show fl=.ret t from e2);refine DL ((XQ wf A3).mt Dq (A4 A3).JD rfl) fun fn J z J S=>?_;refine xA (z rfl) fun hf J=>?_;refine Es (Oz wf hs e4 (show s.drop (Nat.add a h.at_)=_ by rw[←hc,List.drop_drop];rfl) c3) fun i1 i2 i3=>?_;exact⟨i1,i2,fun r hr=>⟨hl,c1,_,_,c3,i3 r hr,W7 hf (S.mono (by have:30+5*A3=70:=rfl;omega)) (hc▸e1) e3 c1 hl c3 hs⟩⟩
    ·cases e
   ·cases e
  ·cases e
end
end Mn
namespace Mn
open PySem
noncomputable def RM(x w b:List Nat):List (List Nat×Nat×Nat):= [(x++([32,61,32,48,49,55,59]),1,4),
 (x++([32,61,32,39,92,55,39,59]),1,4),
 (x++([32,61,32,39,92,48,39,59]),0,4),
 ([100,101,108,101,116,101,32]++(x++([59])),1,3),
 ([100,101,108,101,116,101,32]++(x++([46]++(w++([59])))),0,5),
 ([100,101,108,101,116,101,32]++(x++([91,49,93,59])),0,6),
 (b++([32,61,32,49,59]),1,4),
 (b++([43,43,59]),1,3),
 ([45,45]++(b++([59])),1,3),
 (b++([91,48,93,32,61,32,49,59]),0,7),
 ([102,40]++(b++([41,59])),0,5),
 ([118,97,114,32]++(b++([59])),1,3),
 ([118,97,114,32]++(w++([59])),1,3),
 (w++([32,61,32,49,59]),1,4),
 (w++([58,32,59]),1,3),
 ([102,40]++(w++([41,59])),1,5),
 ([102,111,114,32,40]++(b++([32,105,110,32]++(x++([41,32,59])))),1,7),
 ([102,111,114,32,40,118,97,114,32]++(w++([32,105,110,32]++(x++([41,32,59])))),1,8),
 ([116,114,121,32,123,125,32,99,97,116,99,104,32,40]++(b++([41,32,123,125])),1,9),
 ([116,114,121,32,123,125,32,99,97,116,99,104,32,40]++(x++([41,32,123,125])),0,9),
 ([102,40,102,117,110,99,116,105,111,110,32]++(b++([40,41,32,123,125,41,59])),1,10),
 ([102,40,102,117,110,99,116,105,111,110,32,40]++(b++([41,32,123,125,41,59])),1,10),
 ([102,40,102,117,110,99,116,105,111,110,32,40]++(x++([44,32]++(x++([41,32,123,125,41,59])))),1,12),
 ([102,40,102,117,110,99,116,105,111,110,32,40]++(w++([41,32,123,125,41,59])),1,10),
 ([102,40,123]++(x++([58,32,49,44,32]++(x++([58,32,50,125,41,59])))),1,13),
 ([102,40,123,49,58,32,49,44,32,39,49,39,58,32,50,125,41,59],1,13),
 ([102,40,123,103,101,116,32]++(x++([40,41,32,123,125,44,32]++(x++([58,32,49,125,41,59])))),2,16),
 ([102,40,123,103,101,116,32]++(x++([40,41,32,123,125,44,32,103,101,116,32]++(x++([40,41,32,123,125,125,41,59])))),2,19),
 ([102,40,123,103,101,116,32]++(x++([40,41,32,123,125,44,32,115,101,116,32]++(x++([40,97,41,32,123,125,125,41,59])))),0,20),
 ([102,40,123,115,101,116,32]++(x++([40]++(b++([41,32,123,125,125,41,59])))),1,13),
 ([102,40,123,115,101,116,32]++(x++([40,41,32,123,125,125,41,59])),2,12),
 ([102,40,123,103,101,116,32]++(x++([40,97,41,32,123,125,125,41,59])),2,13),
 ([102,40,123]++(b++([58,32,49,44,32]++(w++([58,32,50,44,32,105,102,58,32,51,125,41,59])))),0,17),
 ([119,105,116,104,32,40]++(x++([41,32,59])),2,5),
 (x++([32,61,32,99,108,97,115,115,59]),2,4),
 (x++([32,43,32,49,32,61,32,50,59]),2,6),
 ([40]++(x++([41,32,61,32,49,59])),0,6),
 ([98,114,101,97,107,59],2,2),
 ([99,111,110,116,105,110,117,101,59],2,2),
 (x++([58,32,99,111,110,116,105,110,117,101,32]++(x++([59]))),2,5),
 (x++([58,32,123,32,98,114,101,97,107,32]++(x++([59,32,125]))),0,7),
 (x++([58,32,119,104,105,108,101,32,40,48,41,32,123,32,99,111,110,116,105,110,117,101,32]++(x++([59,32,125]))),0,11),
 (x++([58,32]++(x++([58,32,59]))),2,5),
 ([105,102,32,40,48,41,32,102,117,110,99,116,105,111,110,32,103,40,41,32,123,125],2,10),
 ([115,119,105,116,99,104,32,40,48,41,32,123,32,100,101,102,97,117,108,116,58,32,100,101,102,97,117,108,116,58,32,125],2,10),
 ([116,114,121,32,123,125],2,3),
 ([116,104,114,111,119,10,49,59],2,3),
 (x++([10,43,43,10,102,59]),0,4),
 ([102,40,49,44,41,59],2,6),
 ([119,104,105,108,101,32,40,48,41,32,102,40,102,117,110,99,116,105,111,110,32,40,41,32,123,32,98,114,101,97,107,59,32,125,41,59],2,15),
 (x++([58,32,102,40,102,117,110,99,116,105,111,110,32,40,41,32,123,32]++(x++([58,32,59,32,125,41,59]))),0,14)]
noncomputable def A5:List (List Nat):= [[120],[121,50],[36],[103,101,116]]
noncomputable def Cm:List (List Nat):= [[108,101,116],[115,116,97,116,105,99],[121,105,101,108,100],[112,117,98,108,105,99],[105,110,116,101,114,102,97,99,101],[105,109,112,108,101,109,101,110,116,115],[112,97,99,107,97,103,101],[112,114,105,118,97,116,101],[112,114,111,116,101,99,116,101,100]]
noncomputable def Bm:List (List Nat):= [[101,118,97,108],[97,114,103,117,109,101,110,116,115]]
noncomputable abbrev sB(t:V)(r:List V)(s:Bool)(z:Int)(G:List Ob)(lo:List Ob):HA:=⟨t,.none,.bool s,.int z,gr 0,lv [],r,[],0,0,.none,none,jm 1::.list []::G,lo⟩
noncomputable abbrev BL(F:FS)(k:Nat)(ie oc:V)(b:Bool)(h:HA):RA X:=EV (Bl F) k [ie,.ref 0,oc,.bool b] h
theorem kg{b:Option V}:CD (some (.bool false)) b=some (.bool false):=by
 cases b with
 |none=>rfl
 |some w=>cases w with
  |bool y=>cases y<;>rfl
  |_=>rfl
section
variable{F:FS} {k:Nat} {ie b s s':Bool} {oc t t' v:V} {r r' acc:List V} {z z':Int} {G G' lo:List Ob} {ρ:Af}
theorem E9{P:PF} {vs:List V} {h h':HA} {K:V→HA→RA X}(ha:vs.all PZ=true)(e:P vs {h with lo:= []}=.ok (.ret v,ρ) h')(c:(CQ v||JK v)=true):AB P vs h K=K v {h' with lo:=h.lo}:=by
 show tB (vs.all PZ) (bA (P vs {h with lo:= []}) _)=_;rw[ha,e];show tB (CQ v||JK v) _=_;rw[c]
theorem Q1{P:PF} {vs:List V} {h:HA} {K:V→HA→RA X} {c:Nat}(ha:vs.all PZ=true)(e:P vs {h with lo:= []}=.ex c):AB P vs h K=.ex c:=by
 show tB (vs.all PZ) (bA (P vs {h with lo:= []}) _)=_;rw[ha,e]
noncomputable abbrev AQ(fs:List (Nat×V)):V:=.inst Bh fs
def eJ(fs:List (Nat×V))(b:Bool):Prop:=∀h,(EU (AK AJ fs) fun v=>BY (AF h .Eq v (.str [116,101,120,116])))=some (.bool b)
theorem T8{P:PF} {vs:List V} {h h':HA}(ha:vs.all PZ=true)(e:P vs {h with lo:= []}=.ok (.ret v,ρ) h')(c:(CQ v||JK v)=true):AB P vs h=fun K=>K v {h' with lo:=h.lo}:=funext fun J=>E9 ha e c
theorem qZ{α:Type} {o:Option α} {a:α} {K:α→RA X}(e:o=some a):oA o K=K a:=by rw[e];rfl
theorem bW{K:V→V→V→V→HA→RA X} {a b c d:V} {h:HA}:qu K [a,b,c,d] h=K a b c d h:=rfl
theorem Yr(hA:F.Dh [.par,.bool ie] (sB t r s z G [])=rt (.bool true) (sB t r s z G [])):BL F (k+1) (.bool ie) oc b (sB t r s z G [.list acc])=.ok (.next,[(k_self,.par),(E4,.bool ie),(Aj,.ref 0),(C2,oc),(DV,.bool b)]) (sB t r s z G [.list acc]):=by
 show Bl F (EV (Bl F) k) [.bool ie,.ref 0,oc,.bool b] _=_;refine bW.trans ?_;exact congrFun (T8 (h:=sB t r s z G [.list acc]) rfl hA rfl) _
theorem bz{fs:List (Nat×V)}(hA:F.Dh [.par,.bool ie] (sB (AQ fs) r s z G [])=rt (.bool false) (sB (AQ fs) r s z G []))(hk:b=false∨eJ fs false):BL F (k+1) (.bool ie) oc b (sB (AQ fs) r s z G [.list acc])=AB F.A6 [.par] (sB (AQ fs) r s z G [.list acc]) fun v8 h9=>AH .append (.ref 0) [v8] h9 fun J h11=>EV (Bl F) k [.bool ie,.ref 0,oc,.bool false] h11:=by
 show Bl F (EV (Bl F) k) [.bool ie,.ref 0,oc,.bool b] _=_;refine bW.trans ?_;refine(congrFun (T8 (h:=sB (AQ fs) r s z G [.list acc]) rfl hA rfl) _).trans ?_;exact qZ (a:=.bool false) (o:=CD (some (.bool b)) (EU (AK AJ fs) fun v=>BY (AF (sB (AQ fs) r s z G [.list acc]) .Eq v (.str [116,101,120,116])))) (hk.elim (fun e=>e▸kg) fun e=>(congrArg (CD _) (e _)).trans (by cases b<;>rfl))
theorem Ys{fs:List (Nat×V)}(hA:F.Dh [.par,.bool ie] (sB (AQ fs) r s z G [])=rt (.bool false) (sB (AQ fs) r s z G []))(hk:b=false∨eJ fs false)(e:F.A6 [.par] (sB (AQ fs) r s z G [])=.ok (.ret v,ρ) (sB t' r' s' z' G' lo))(c:CQ v=true)(hl:Nat.blt acc.length BV=true)(hn:Yv v=true):BL F (k+1) (.bool ie) oc b (sB (AQ fs) r s z G [.list acc])=BL F k (.bool ie) oc false (sB t' r' s' z' G' [.list (acc++ [v])]):=by
 rw[bz hA hk,E9 (h:=sB (AQ fs) r s z G [.list acc]) rfl e (by rw[c];rfl)];show tB (Nat.blt acc.length BV&&Yv v) _=_;rw[hl,hn];rfl
theorem lK{fs:List (Nat×V)} {c:Nat}(hA:F.Dh [.par,.bool ie] (sB (AQ fs) r s z G [])=rt (.bool false) (sB (AQ fs) r s z G []))(hk:b=false∨eJ fs false)(e:F.A6 [.par] (sB (AQ fs) r s z G [])=.ex c):BL F (k+1) (.bool ie) oc b (sB (AQ fs) r s z G [.list acc])=.ex c:=by
 rw[bz hA hk,Q1 rfl e]
end
noncomputable def eZ(k v:V):Bool:=match k with
 |.str k=>(match v with
  |.str v=>!DT k [101,110,100]&&(!DT k [116,101,120,116]&&(!DT k [112,117,110,99,116]||!DT v [125]))
  |_=>false)
 |_=>false
noncomputable def CG(t:V):Bool:=match t with
 |.inst c fs=>Nat.beq c Bh&&(match AK AJ fs with
  |some k=>(match AK AG fs with
   |some v=>eZ k v
   |none=>false)
  |none=>false)
 |_=>false
noncomputable def lX(v:V):Bool:=match v with
 |.int i=>(match i with
  |.ofNat n=>Nat.ble 1 n&&Nat.ble n 3
  |_=>false)
 |_=>false
abbrev XT:=Option (RA X×List Nat×Nat×V)
noncomputable def XP(k:Nat)(p:List Nat×Nat×Nat)(tail:List Nat)(a:Nat)(efs:List (Nat×V))(r:List V)(s:Bool)(z:Int):XT:=match AM (A4 A3) p.2.2 (p.1++tail) a (.int 1) with
 |some q=>(match q.1 with
  |t::ts=>(match CG t&&lX q.2.2.2 with
   |true=>some ((AX k).A6 [.par] (sB t (ts++AQ efs::r) s z [] []),q.2)
   |false=>none)
  | []=>none)
 |none=>none
noncomputable def hX(X:XT):HA:=match X with
 |some q=>(match q.1 with
  |.ok _ h=>h
  |_=>sB .none [] false 0 [] [])
 |none=>sB .none [] false 0 [] []
noncomputable def vX(X:XT):V:=match X with
 |some q=>(match q.1 with
  |.ok x _=>(match x.1 with
   |.ret v=>v
   |_=>.none)
  |_=>.none)
 |none=>.none
noncomputable def pX(X:XT):List Nat×Nat×V:=match X with
 |some q=>q.2
 |none=>([],0,.none)
noncomputable def zX(X:XT):Int:=match(hX X).depth with
 |.int z=>z
 |_=>0
noncomputable def qi(v:V):Nat:=match v with
 |.int i=>(match i with
  |.ofNat n=>n
  |_=>0)
 |_=>0
noncomputable def FH(X:XT)(tail:List Nat)(efs:List (Nat×V))(r:List V)(s:Bool):XT:=match cN (vX X) with
 |true=>some (.ok (.ret (vX X),[]) (sB (AQ efs) r s (zX X) ((hX X).gl.drop 2) (hX X).lo),tail,(pX X).2.1,.int (.ofNat (qi (pX X).2.2)))
 |false=>none
noncomputable def EW(X:XT)(tail:List Nat):XT:=some (.ex Ab,tail,(pX X).2.1,.int (.ofNat (qi (pX X).2.2)))
noncomputable def Aw(i:Nat)(x w b:List Nat):List Nat×Nat×Nat:=((RM x w b)[i]?).getD ([],0,0)
noncomputable def eF(b:Bool)(q1 q2 q3:V):List (Nat×V):= [(AJ,.str (match b with|true=> [101,110,100]|false=> [112,117,110,99,116])),(AG,.str (match b with|true=> []|false=> [125])),(AI,q3),(AW,.bool false),(CR,q1),(Dt,q2),(Ao,.bool false),(BK,.bool true)]
noncomputable def fx:List (List Nat×Nat×Nat):=A5.flatMap fun x=> [Aw 0 x [] []]
theorem r9(tail:List Nat)(a:Nat)(r:List V)(z:Int)(efs:List (Nat×V)):fx.map (fun p=> [XP 60 p tail a efs r false z,XP 60 p tail a efs r true z])=fx.map (fun p=> [FH (XP 60 p tail a efs r false z) tail efs r false,EW (XP 60 p tail a efs r true z) tail]):=by kernel_rfl
noncomputable def fw:List (List Nat×Nat×Nat):=A5.flatMap fun x=> [Aw 1 x [] []]
theorem r8(tail:List Nat)(a:Nat)(r:List V)(z:Int)(efs:List (Nat×V)):fw.map (fun p=> [XP 60 p tail a efs r false z,XP 60 p tail a efs r true z])=fw.map (fun p=> [FH (XP 60 p tail a efs r false z) tail efs r false,EW (XP 60 p tail a efs r true z) tail]):=by kernel_rfl
noncomputable def ft:List (List Nat×Nat×Nat):=A5.flatMap fun x=> [Aw 2 x [] []]
theorem pf2(tail:List Nat)(a:Nat)(r:List V)(z:Int)(s:Bool)(efs:List (Nat×V)):ft.map (fun p=> [XP 60 p tail a efs r s z])=ft.map (fun p=> [FH (XP 60 p tail a efs r s z) tail efs r s]):=by kernel_rfl
noncomputable def fm:List (List Nat×Nat×Nat):=A5.flatMap fun x=> [Aw 3 x [] []]
theorem r7(tail:List Nat)(a:Nat)(r:List V)(z:Int)(efs:List (Nat×V)):fm.map (fun p=> [XP 60 p tail a efs r false z,XP 60 p tail a efs r true z])=fm.map (fun p=> [FH (XP 60 p tail a efs r false z) tail efs r false,EW (XP 60 p tail a efs r true z) tail]):=by kernel_rfl
noncomputable def fk:List (List Nat×Nat×Nat):=A5.flatMap fun x=>Cm.flatMap fun w=> [Aw 4 x w []]
theorem pf4(tail:List Nat)(a:Nat)(r:List V)(z:Int)(s:Bool)(efs:List (Nat×V)):fk.map (fun p=> [XP 60 p tail a efs r s z])=fk.map (fun p=> [FH (XP 60 p tail a efs r s z) tail efs r s]):=by kernel_rfl
noncomputable def fj:List (List Nat×Nat×Nat):=A5.flatMap fun x=> [Aw 5 x [] []]
theorem pf5(tail:List Nat)(a:Nat)(r:List V)(z:Int)(s:Bool)(efs:List (Nat×V)):fj.map (fun p=> [XP 60 p tail a efs r s z])=fj.map (fun p=> [FH (XP 60 p tail a efs r s z) tail efs r s]):=by kernel_rfl
noncomputable def fh:List (List Nat×Nat×Nat):=Bm.flatMap fun b=> [Aw 6 [] [] b]
theorem r6(tail:List Nat)(a:Nat)(r:List V)(z:Int)(efs:List (Nat×V)):fh.map (fun p=> [XP 60 p tail a efs r false z,XP 60 p tail a efs r true z])=fh.map (fun p=> [FH (XP 60 p tail a efs r false z) tail efs r false,EW (XP 60 p tail a efs r true z) tail]):=by kernel_rfl
noncomputable def fg:List (List Nat×Nat×Nat):=Bm.flatMap fun b=> [Aw 7 [] [] b]
theorem rz(tail:List Nat)(a:Nat)(r:List V)(z:Int)(efs:List (Nat×V)):fg.map (fun p=> [XP 60 p tail a efs r false z,XP 60 p tail a efs r true z])=fg.map (fun p=> [FH (XP 60 p tail a efs r false z) tail efs r false,EW (XP 60 p tail a efs r true z) tail]):=by kernel_rfl
noncomputable def ff:List (List Nat×Nat×Nat):=Bm.flatMap fun b=> [Aw 8 [] [] b]
theorem ry(tail:List Nat)(a:Nat)(r:List V)(z:Int)(efs:List (Nat×V)):ff.map (fun p=> [XP 60 p tail a efs r false z,XP 60 p tail a efs r true z])=ff.map (fun p=> [FH (XP 60 p tail a efs r false z) tail efs r false,EW (XP 60 p tail a efs r true z) tail]):=by kernel_rfl
noncomputable def fc:List (List Nat×Nat×Nat):=Bm.flatMap fun b=> [Aw 9 [] [] b]
theorem pf9(tail:List Nat)(a:Nat)(r:List V)(z:Int)(s:Bool)(efs:List (Nat×V)):fc.map (fun p=> [XP 60 p tail a efs r s z])=fc.map (fun p=> [FH (XP 60 p tail a efs r s z) tail efs r s]):=by kernel_rfl
noncomputable def VO:List (List Nat×Nat×Nat):=Bm.flatMap fun b=> [Aw 10 [] [] b]
theorem qM(tail:List Nat)(a:Nat)(r:List V)(z:Int)(s:Bool)(efs:List (Nat×V)):VO.map (fun p=> [XP 60 p tail a efs r s z])=VO.map (fun p=> [FH (XP 60 p tail a efs r s z) tail efs r s]):=by kernel_rfl
noncomputable def VN:List (List Nat×Nat×Nat):=Bm.flatMap fun b=> [Aw 11 [] [] b]
theorem jE(tail:List Nat)(a:Nat)(r:List V)(z:Int)(efs:List (Nat×V)):VN.map (fun p=> [XP 60 p tail a efs r false z,XP 60 p tail a efs r true z])=VN.map (fun p=> [FH (XP 60 p tail a efs r false z) tail efs r false,EW (XP 60 p tail a efs r true z) tail]):=by kernel_rfl
noncomputable def VM:List (List Nat×Nat×Nat):=Cm.flatMap fun w=> [Aw 12 [] w []]
theorem jD(tail:List Nat)(a:Nat)(r:List V)(z:Int)(efs:List (Nat×V)):VM.map (fun p=> [XP 60 p tail a efs r false z,XP 60 p tail a efs r true z])=VM.map (fun p=> [FH (XP 60 p tail a efs r false z) tail efs r false,EW (XP 60 p tail a efs r true z) tail]):=by kernel_rfl
noncomputable def VL:List (List Nat×Nat×Nat):=Cm.flatMap fun w=> [Aw 13 [] w []]
theorem jC(tail:List Nat)(a:Nat)(r:List V)(z:Int)(efs:List (Nat×V)):VL.map (fun p=> [XP 60 p tail a efs r false z,XP 60 p tail a efs r true z])=VL.map (fun p=> [FH (XP 60 p tail a efs r false z) tail efs r false,EW (XP 60 p tail a efs r true z) tail]):=by kernel_rfl
noncomputable def VJ:List (List Nat×Nat×Nat):=Cm.flatMap fun w=> [Aw 14 [] w []]
theorem jB(tail:List Nat)(a:Nat)(r:List V)(z:Int)(efs:List (Nat×V)):VJ.map (fun p=> [XP 60 p tail a efs r false z,XP 60 p tail a efs r true z])=VJ.map (fun p=> [FH (XP 60 p tail a efs r false z) tail efs r false,EW (XP 60 p tail a efs r true z) tail]):=by kernel_rfl
noncomputable def VI:List (List Nat×Nat×Nat):=Cm.flatMap fun w=> [Aw 15 [] w []]
theorem jA(tail:List Nat)(a:Nat)(r:List V)(z:Int)(efs:List (Nat×V)):VI.map (fun p=> [XP 60 p tail a efs r false z,XP 60 p tail a efs r true z])=VI.map (fun p=> [FH (XP 60 p tail a efs r false z) tail efs r false,EW (XP 60 p tail a efs r true z) tail]):=by kernel_rfl
noncomputable def VH:List (List Nat×Nat×Nat):=A5.flatMap fun x=>Bm.flatMap fun b=> [Aw 16 x [] b]
theorem i_(tail:List Nat)(a:Nat)(r:List V)(z:Int)(efs:List (Nat×V)):VH.map (fun p=> [XP 60 p tail a efs r false z,XP 60 p tail a efs r true z])=VH.map (fun p=> [FH (XP 60 p tail a efs r false z) tail efs r false,EW (XP 60 p tail a efs r true z) tail]):=by kernel_rfl
noncomputable def VG:List (List Nat×Nat×Nat):=A5.flatMap fun x=>Cm.flatMap fun w=> [Aw 17 x w []]
theorem i9(tail:List Nat)(a:Nat)(r:List V)(z:Int)(efs:List (Nat×V)):VG.map (fun p=> [XP 60 p tail a efs r false z,XP 60 p tail a efs r true z])=VG.map (fun p=> [FH (XP 60 p tail a efs r false z) tail efs r false,EW (XP 60 p tail a efs r true z) tail]):=by kernel_rfl
noncomputable def VF:List (List Nat×Nat×Nat):=Bm.flatMap fun b=> [Aw 18 [] [] b]
theorem ZQ(tail:List Nat)(a:Nat)(r:List V)(z:Int)(q1 q2 q3:V):VF.map (fun p=> [XP 60 p tail a (eF true q1 q2 q3) r false z,XP 60 p tail a (eF false q1 q2 q3) r false z,XP 60 p tail a (eF true q1 q2 q3) r true z,XP 60 p tail a (eF false q1 q2 q3) r true z])=VF.map (fun p=> [FH (XP 60 p tail a (eF true q1 q2 q3) r false z) tail (eF true q1 q2 q3) r false,FH (XP 60 p tail a (eF false q1 q2 q3) r false z) tail (eF false q1 q2 q3) r false,EW (XP 60 p tail a (eF true q1 q2 q3) r true z) tail,EW (XP 60 p tail a (eF false q1 q2 q3) r true z) tail]):=by kernel_rfl
noncomputable def VE:List (List Nat×Nat×Nat):=A5.flatMap fun x=> [Aw 19 x [] []]
theorem i8(tail:List Nat)(a:Nat)(r:List V)(z:Int)(s:Bool)(q1 q2 q3:V):VE.map (fun p=> [XP 60 p tail a (eF true q1 q2 q3) r s z,XP 60 p tail a (eF false q1 q2 q3) r s z])=VE.map (fun p=> [FH (XP 60 p tail a (eF true q1 q2 q3) r s z) tail (eF true q1 q2 q3) r s,FH (XP 60 p tail a (eF false q1 q2 q3) r s z) tail (eF false q1 q2 q3) r s]):=by kernel_rfl
noncomputable def VD:List (List Nat×Nat×Nat):=Bm.flatMap fun b=> [Aw 20 [] [] b]
theorem i7(tail:List Nat)(a:Nat)(r:List V)(z:Int)(efs:List (Nat×V)):VD.map (fun p=> [XP 60 p tail a efs r false z,XP 60 p tail a efs r true z])=VD.map (fun p=> [FH (XP 60 p tail a efs r false z) tail efs r false,EW (XP 60 p tail a efs r true z) tail]):=by kernel_rfl
noncomputable def VC:List (List Nat×Nat×Nat):=Bm.flatMap fun b=> [Aw 21 [] [] b]
theorem i6(tail:List Nat)(a:Nat)(r:List V)(z:Int)(efs:List (Nat×V)):VC.map (fun p=> [XP 60 p tail a efs r false z,XP 60 p tail a efs r true z])=VC.map (fun p=> [FH (XP 60 p tail a efs r false z) tail efs r false,EW (XP 60 p tail a efs r true z) tail]):=by kernel_rfl
noncomputable def VB:List (List Nat×Nat×Nat):=A5.flatMap fun x=> [Aw 22 x [] []]
theorem iz(tail:List Nat)(a:Nat)(r:List V)(z:Int)(efs:List (Nat×V)):VB.map (fun p=> [XP 60 p tail a efs r false z,XP 60 p tail a efs r true z])=VB.map (fun p=> [FH (XP 60 p tail a efs r false z) tail efs r false,EW (XP 60 p tail a efs r true z) tail]):=by kernel_rfl
noncomputable def VA:List (List Nat×Nat×Nat):=Cm.flatMap fun w=> [Aw 23 [] w []]
theorem iy(tail:List Nat)(a:Nat)(r:List V)(z:Int)(efs:List (Nat×V)):VA.map (fun p=> [XP 60 p tail a efs r false z,XP 60 p tail a efs r true z])=VA.map (fun p=> [FH (XP 60 p tail a efs r false z) tail efs r false,EW (XP 60 p tail a efs r true z) tail]):=by kernel_rfl
noncomputable def U_:List (List Nat×Nat×Nat):=A5.flatMap fun x=> [Aw 24 x [] []]
theorem iw(tail:List Nat)(a:Nat)(r:List V)(z:Int)(efs:List (Nat×V)):U_.map (fun p=> [XP 60 p tail a efs r false z,XP 60 p tail a efs r true z])=U_.map (fun p=> [FH (XP 60 p tail a efs r false z) tail efs r false,EW (XP 60 p tail a efs r true z) tail]):=by kernel_rfl
noncomputable def U9:List (List Nat×Nat×Nat):= [Aw 25 [] [] []]
theorem iu(tail:List Nat)(a:Nat)(r:List V)(z:Int)(efs:List (Nat×V)):U9.map (fun p=> [XP 60 p tail a efs r false z,XP 60 p tail a efs r true z])=U9.map (fun p=> [FH (XP 60 p tail a efs r false z) tail efs r false,EW (XP 60 p tail a efs r true z) tail]):=by kernel_rfl
noncomputable def U8:List (List Nat×Nat×Nat):=A5.flatMap fun x=> [Aw 26 x [] []]
theorem ir(tail:List Nat)(a:Nat)(r:List V)(z:Int)(efs:List (Nat×V)):U8.map (fun p=> [XP 60 p tail a efs r false z,XP 60 p tail a efs r true z])=U8.map (fun p=> [EW (XP 60 p tail a efs r false z) tail,EW (XP 60 p tail a efs r true z) tail]):=by kernel_rfl
noncomputable def U7:List (List Nat×Nat×Nat):=A5.flatMap fun x=> [Aw 27 x [] []]
theorem iq(tail:List Nat)(a:Nat)(r:List V)(z:Int)(efs:List (Nat×V)):U7.map (fun p=> [XP 60 p tail a efs r false z,XP 60 p tail a efs r true z])=U7.map (fun p=> [EW (XP 60 p tail a efs r false z) tail,EW (XP 60 p tail a efs r true z) tail]):=by kernel_rfl
noncomputable def U6:List (List Nat×Nat×Nat):=A5.flatMap fun x=> [Aw 28 x [] []]
theorem ip(tail:List Nat)(a:Nat)(r:List V)(z:Int)(efs:List (Nat×V)):U6.map (fun p=> [XP 60 p tail a efs r false z,XP 60 p tail a efs r true z])=U6.map (fun p=> [FH (XP 60 p tail a efs r false z) tail efs r false,FH (XP 60 p tail a efs r true z) tail efs r true]):=by kernel_rfl
noncomputable def U5:List (List Nat×Nat×Nat):=A5.flatMap fun x=>Bm.flatMap fun b=> [Aw 29 x [] b]
theorem ik(tail:List Nat)(a:Nat)(r:List V)(z:Int)(efs:List (Nat×V)):U5.map (fun p=> [XP 60 p tail a efs r false z,XP 60 p tail a efs r true z])=U5.map (fun p=> [FH (XP 60 p tail a efs r false z) tail efs r false,EW (XP 60 p tail a efs r true z) tail]):=by kernel_rfl
noncomputable def U4:List (List Nat×Nat×Nat):=A5.flatMap fun x=> [Aw 30 x [] []]
theorem ig(tail:List Nat)(a:Nat)(r:List V)(z:Int)(efs:List (Nat×V)):U4.map (fun p=> [XP 60 p tail a efs r false z,XP 60 p tail a efs r true z])=U4.map (fun p=> [EW (XP 60 p tail a efs r false z) tail,EW (XP 60 p tail a efs r true z) tail]):=by kernel_rfl
noncomputable def U3:List (List Nat×Nat×Nat):=A5.flatMap fun x=> [Aw 31 x [] []]
theorem ic(tail:List Nat)(a:Nat)(r:List V)(z:Int)(efs:List (Nat×V)):U3.map (fun p=> [XP 60 p tail a efs r false z,XP 60 p tail a efs r true z])=U3.map (fun p=> [EW (XP 60 p tail a efs r false z) tail,EW (XP 60 p tail a efs r true z) tail]):=by kernel_rfl
noncomputable def U2:List (List Nat×Nat×Nat):=Cm.flatMap fun w=>Bm.flatMap fun b=> [Aw 32 [] w b]
theorem qL(tail:List Nat)(a:Nat)(r:List V)(z:Int)(s:Bool)(efs:List (Nat×V)):U2.map (fun p=> [XP 60 p tail a efs r s z])=U2.map (fun p=> [FH (XP 60 p tail a efs r s z) tail efs r s]):=by kernel_rfl
noncomputable def U1:List (List Nat×Nat×Nat):=A5.flatMap fun x=> [Aw 33 x [] []]
theorem qK(tail:List Nat)(a:Nat)(r:List V)(z:Int)(s:Bool)(efs:List (Nat×V)):U1.map (fun p=> [XP 60 p tail a efs r s z])=U1.map (fun p=> [EW (XP 60 p tail a efs r s z) tail]):=by kernel_rfl
noncomputable def U0:List (List Nat×Nat×Nat):=A5.flatMap fun x=> [Aw 34 x [] []]
theorem qJ(tail:List Nat)(a:Nat)(r:List V)(z:Int)(s:Bool)(efs:List (Nat×V)):U0.map (fun p=> [XP 60 p tail a efs r s z])=U0.map (fun p=> [EW (XP 60 p tail a efs r s z) tail]):=by kernel_rfl
noncomputable def Uz:List (List Nat×Nat×Nat):=A5.flatMap fun x=> [Aw 35 x [] []]
theorem qI(tail:List Nat)(a:Nat)(r:List V)(z:Int)(s:Bool)(efs:List (Nat×V)):Uz.map (fun p=> [XP 60 p tail a efs r s z])=Uz.map (fun p=> [EW (XP 60 p tail a efs r s z) tail]):=by kernel_rfl
noncomputable def Uy:List (List Nat×Nat×Nat):=A5.flatMap fun x=> [Aw 36 x [] []]
theorem qH(tail:List Nat)(a:Nat)(r:List V)(z:Int)(s:Bool)(efs:List (Nat×V)):Uy.map (fun p=> [XP 60 p tail a efs r s z])=Uy.map (fun p=> [FH (XP 60 p tail a efs r s z) tail efs r s]):=by kernel_rfl
noncomputable def Ux:List (List Nat×Nat×Nat):= [Aw 37 [] [] []]
theorem qG(tail:List Nat)(a:Nat)(r:List V)(z:Int)(s:Bool)(efs:List (Nat×V)):Ux.map (fun p=> [XP 60 p tail a efs r s z])=Ux.map (fun p=> [EW (XP 60 p tail a efs r s z) tail]):=by kernel_rfl
noncomputable def Uw:List (List Nat×Nat×Nat):= [Aw 38 [] [] []]
theorem qF(tail:List Nat)(a:Nat)(r:List V)(z:Int)(s:Bool)(efs:List (Nat×V)):Uw.map (fun p=> [XP 60 p tail a efs r s z])=Uw.map (fun p=> [EW (XP 60 p tail a efs r s z) tail]):=by kernel_rfl
noncomputable def Uv:List (List Nat×Nat×Nat):=A5.flatMap fun x=> [Aw 39 x [] []]
theorem qE(tail:List Nat)(a:Nat)(r:List V)(z:Int)(s:Bool)(efs:List (Nat×V)):Uv.map (fun p=> [XP 60 p tail a efs r s z])=Uv.map (fun p=> [EW (XP 60 p tail a efs r s z) tail]):=by kernel_rfl
noncomputable def Uu:List (List Nat×Nat×Nat):=A5.flatMap fun x=> [Aw 40 x [] []]
theorem qD(tail:List Nat)(a:Nat)(r:List V)(z:Int)(s:Bool)(efs:List (Nat×V)):Uu.map (fun p=> [XP 60 p tail a efs r s z])=Uu.map (fun p=> [FH (XP 60 p tail a efs r s z) tail efs r s]):=by kernel_rfl
noncomputable def Ut:List (List Nat×Nat×Nat):=A5.flatMap fun x=> [Aw 41 x [] []]
theorem qC(tail:List Nat)(a:Nat)(r:List V)(z:Int)(s:Bool)(efs:List (Nat×V)):Ut.map (fun p=> [XP 60 p tail a efs r s z])=Ut.map (fun p=> [FH (XP 60 p tail a efs r s z) tail efs r s]):=by kernel_rfl
noncomputable def Us:List (List Nat×Nat×Nat):=A5.flatMap fun x=> [Aw 42 x [] []]
theorem qB(tail:List Nat)(a:Nat)(r:List V)(z:Int)(s:Bool)(efs:List (Nat×V)):Us.map (fun p=> [XP 60 p tail a efs r s z])=Us.map (fun p=> [EW (XP 60 p tail a efs r s z) tail]):=by kernel_rfl
noncomputable def Ur:List (List Nat×Nat×Nat):= [Aw 43 [] [] []]
theorem qA(tail:List Nat)(a:Nat)(r:List V)(z:Int)(s:Bool)(efs:List (Nat×V)):Ur.map (fun p=> [XP 60 p tail a efs r s z])=Ur.map (fun p=> [EW (XP 60 p tail a efs r s z) tail]):=by kernel_rfl
noncomputable def Uq:List (List Nat×Nat×Nat):= [Aw 44 [] [] []]
theorem p_(tail:List Nat)(a:Nat)(r:List V)(z:Int)(s:Bool)(efs:List (Nat×V)):Uq.map (fun p=> [XP 60 p tail a efs r s z])=Uq.map (fun p=> [EW (XP 60 p tail a efs r s z) tail]):=by kernel_rfl
noncomputable def Up:List (List Nat×Nat×Nat):= [Aw 45 [] [] []]
theorem ib(tail:List Nat)(a:Nat)(r:List V)(z:Int)(s:Bool)(q1 q2 q3:V):Up.map (fun p=> [XP 60 p tail a (eF true q1 q2 q3) r s z,XP 60 p tail a (eF false q1 q2 q3) r s z])=Up.map (fun p=> [EW (XP 60 p tail a (eF true q1 q2 q3) r s z) tail,EW (XP 60 p tail a (eF false q1 q2 q3) r s z) tail]):=by kernel_rfl
noncomputable def Uo:List (List Nat×Nat×Nat):= [Aw 46 [] [] []]
theorem pz(tail:List Nat)(a:Nat)(r:List V)(z:Int)(s:Bool)(efs:List (Nat×V)):Uo.map (fun p=> [XP 60 p tail a efs r s z])=Uo.map (fun p=> [EW (XP 60 p tail a efs r s z) tail]):=by kernel_rfl
noncomputable def Mv:List (List Nat×Nat×Nat):=A5.flatMap fun x=> [Aw 47 x [] []]
noncomputable def Un:List (List Nat×Nat×Nat):= [Aw 48 [] [] []]
theorem px(tail:List Nat)(a:Nat)(r:List V)(z:Int)(s:Bool)(efs:List (Nat×V)):Un.map (fun p=> [XP 60 p tail a efs r s z])=Un.map (fun p=> [EW (XP 60 p tail a efs r s z) tail]):=by kernel_rfl
noncomputable def Um:List (List Nat×Nat×Nat):= [Aw 49 [] [] []]
theorem pn(tail:List Nat)(a:Nat)(r:List V)(z:Int)(s:Bool)(efs:List (Nat×V)):Um.map (fun p=> [XP 60 p tail a efs r s z])=Um.map (fun p=> [EW (XP 60 p tail a efs r s z) tail]):=by kernel_rfl
noncomputable def Ul:List (List Nat×Nat×Nat):=A5.flatMap fun x=> [Aw 50 x [] []]
theorem iZ(tail:List Nat)(a:Nat)(r:List V)(z:Int)(efs:List (Nat×V)):Ul.map (fun p=> [XP 60 p tail a efs r false z,XP 60 p tail a efs r true z])=Ul.map (fun p=> [FH (XP 60 p tail a efs r false z) tail efs r false,FH (XP 60 p tail a efs r true z) tail efs r true]):=by kernel_rfl
noncomputable def EM(F:FS)(O:PF)(h:HA):RA X:=Hx F O F.BD h
noncomputable def Dv(F:FS)(O:PF)(h:HA):RA X:=Hx F F.BI O h
noncomputable def DG(F:FS)(O:PF)(h:HA):RA X:=Hw F O F.EC h
noncomputable def E_(F:FS)(O:PF)(h:HA):RA X:=Hw F F.Bo O h
noncomputable def Du(F:FS)(O:PF)(h:HA):RA X:=(AB F.Bn [.par,(.str [110,101,119])] h fun v1 h2=>AE v1 fun b3=>iB b3 (.no) (AB O [.par] h2 fun v4 h5=>AB F.CT [.par,v4] h5 fun v6 h7=>bS (EV (Ec F) FI [v6] h7) fun z8 h9=>Mf z8 (fun z10=>NK 1 [El] z10 fun vs=>Rj vs fun v11=>oV 1 h v11 h9) fun v12=>oV 1 h v12 h9))
noncomputable def DN(F:FS)(O:PF)(h:HA):RA X:=(AB F.Bn [.par,(.str [110,101,119])] h fun v1 h2=>AE v1 fun b3=>iB b3 (.no) (AB F.CL [.par] h2 fun v4 h5=>AB F.CT [.par,v4] h5 fun v6 h7=>bA (DF F O (EV (Ec F) 11) [v6] h7) fun z8 h9=>Mf z8 (fun z10=>NK 1 [El] z10 fun vs=>Rj vs fun v11=>oV 1 h v11 h9) fun v12=>oV 1 h v12 h9))
noncomputable def Gh(F:FS)(O:PF)(least can_in:V)(h:HA):RA X:=(AB O [.par] h fun v1 h2=>bS (EV (LQ F) FI [least,can_in,v1] h2) fun z3 h4=>Mf z3 (fun z5=>NK 1 [Io,Cr,L7] z5 fun vs=>Vy vs fun v6 v7 v8=>oV 1 h v8 h4) fun v9=>oV 1 h v9 h4)
noncomputable def C4(F:FS)(O:PF)(can_in:V)(h:HA):RA X:=(AB O [.par,can_in] h fun v1 h2=>AB F.Aa [.par,(.str [44])] h2 fun v3 h4=>AE v3 fun b5=>iB (!b5) (oV 1 h v1 h4) (As false h4 [v1] fun v6 h7=>bS (EV (FO F) FI [can_in,v1,v6] h7) fun z8 h9=>Mf z8 (fun z10=>NK 1 [Cr,Ip,Aj] z10 fun vs=>Vy vs fun v11 v12 v13=>oA (gv 1 h9 v12 AI) fun v14=>As false h9 [v13] fun v15 h16=>BN AL Al [(.str [67,111,109,109,97]),v14,v15] h16 fun v17 h18=>oV 1 h v17 h18) fun v19=>oV 1 h v19 h9))
noncomputable def DH(F:FS)(O:PF)(h:HA):RA X:=(AB F.BO [.par,(.str [40])] h fun v1 h2=>As false h2 [] fun v3 h4=>bA (C3 F O (EV (GH F) 11) [v3] h4) fun z5 h6=>Mf z5 (fun z7=>NK 1 [Aj] z7 fun vs=>Rj vs fun v8=>AB F.BO [.par,(.str [41])] h6 fun v9 h10=>oV 1 h v8 h10) fun v11=>oV 1 h v11 h6)
noncomputable def CJ(F:FS)(O:PF)(h:HA):RA X:=FY F O F.BZ h
noncomputable def CY(F:FS)(O:PF)(h:HA):RA X:=FY F F.Ah O h
noncomputable def Gg(F:FS)(O:PF)(h:HA):RA X:=(AB F.Ay [.par] h fun v1 h2=>oA (gv 1 h2 v1 AI) fun v3=>As false h2 [] fun v4 h5=>FU false h5 (.dict []) fun v6 h7=>tB (QV [v4,v6]) (bA (Fy F O (EV (LP F) 11) [v3,v4,v6] h7) fun z8 h9=>Mf z8 (fun z10=>NK 1 [AI,Aj,DC] z10 fun vs=>Vy vs fun v11 v12 v13=>AB F.BO [.par,(.str [125])] h9 fun v14 h15=>As false h15 [v12] fun v16 h17=>BN AL Al [(.str [79,98,106,101,99,116]),v11,v16] h17 fun v18 h19=>oV 1 h v18 h19) fun v20=>oV 1 h v20 h9))
noncomputable def C7(pl:Bool)(k v:List Nat)(q1 q2:V):V:=AQ [(AJ,.str k),(AG,.str v),(AI,.int 1),(AW,.bool false),(CR,q1),(Dt,q2),(Ao,.bool false),(BK,.bool pl)]
noncomputable abbrev hF(t:V)(r:List V)(s:Bool)(z:Int):HA:=⟨t,.none,.bool s,.int z,gr 2,lv [],r,[],0,0,.none,none,[jm 1,.list [],jm 3,.list []],[]⟩
noncomputable def kwd:List Nat:= [107,101,121,119,111,114,100]
noncomputable def F8:List Nat:= [110,97,109,101]
noncomputable def Kj:List Nat:= [112,117,110,99,116]
noncomputable def cU:List Nat:= [116,101,120,116]
noncomputable def qt:List Nat:= [102,117,110,99,116,105,111,110]
noncomputable def ZW(X:RA X):V:=match X with
 |.ok x _=>(match x.1 with
  |.ret v=>v
  |_=>.none)
 |_=>.none
noncomputable def Nq(X:RA X):List (Nat×V):=match ZW X with
 |.inst _ fs=>fs
 |_=> []
noncomputable def ltR(X:RA X):List V:=match ZW X with
 |.lst l=>l
 |_=> []
noncomputable def loR(X:RA X):List Ob:=match X with
 |.ok _ h=>h.lo
 |_=> []
def lu{α:Type}(φ:α→V)(Y:RA X)(H:HA):Prop:=∃a ρ lo,Y=.ok (.ret (φ a),ρ) {H with lo:=lo}
noncomputable abbrev nF(fs:List (Nat×V)):V:=.inst AL fs
noncomputable def j7(nm:V)(bd:List V)(s:Bool)(sort:List Nat):V:=.inst AL [(AJ,.str [70,117,110,99,116,105,111,110]),(AI,.int 1),(DB,.lst [nm,.lst [],.lst bd,.bool s,.str sort]),(K8,.none)]
noncomputable abbrev fF(sort:List Nat)(a:V×List V×Bool):V:=j7 a.1 a.2.1 a.2.2 sort
abbrev fQ(Y:RA X)(H:HA):Prop:=lu nF Y H
abbrev fX(Y:RA X)(H:HA):Prop:=lu V.lst Y H
noncomputable def NQ:List Nat:= [100,101,99,108]
noncomputable def QE:List Nat:= [101,120,112,114]
noncomputable def WX:List Nat:= [103,101,116]
noncomputable def eS(c:Nat)(q1 q2 q3:V):List (Nat×V):= [(AJ,.str Kj),(AG,.str [c]),(AI,q3),(AW,.bool false),(CR,q1),(Dt,q2),(Ao,.bool false),(BK,.bool true)]
def F7{α β:Type}(φ:α→V)(ψ:β→V)(Y Z:RA X)(H1 H2:HA):Prop:=(lu φ Y H1→lu ψ Z H2)∧∀c,Y=.ex c→Z=.ex c
section
variable{α β γ:Type} {φ:α→V} {ψ:β→V} {χ:γ→V} {A B C Y Z:RA X} {H1 H2 H3 h1:HA}
theorem F7.tr(x:F7 φ ψ A B H1 H2)(y:F7 ψ χ B C H2 H3):F7 φ χ A C H1 H3:=⟨fun z=>y.1 (x.1 z),fun c z=>y.2 c (x.2 c z)⟩
noncomputable abbrev okW(ψ:β→V)(g:RA X→β)(H2:HA)(Y:RA X):RA X:=.ok (.ret (ψ (g Y)),[]) {H2 with lo:=loR Y}
theorem L5(g:RA X→β)(cf:PF→RA X){O:PF} {vs:List V}(A0:Z=cf O)(A1:∀O,cf O=cf fun J J=>O vs h1)(B:∀a ρ lo,cf (fun J J=>.ok (.ret (φ a),ρ) {H1 with lo:=lo})=okW ψ g H2 (cf fun J J=>.ok (.ret (φ a),ρ) {H1 with lo:=lo}))(C:∀c,cf (fun J J=>.ex c)=.ex c):F7 φ ψ (O vs h1) Z H1 H2:=by
 refine⟨fun⟨a,ρ,lo,e⟩=>?_,fun c e=>?_⟩
 ·have z:=A0.trans (A1 O)
  rw[e] at z;exact⟨_,_,_,z.trans (B a ρ lo)⟩
 ·have z:=A0.trans (A1 O)
  rw[e] at z;exact z.trans (C c)
end
noncomputable abbrev kS(t:Option Bool)(a1 a2:V):V:=match t with
 |none=>C7 true kwd qt a1 a2
 |some false=>C7 true F8 [102] a1 a2
 |some true=>C7 true Kj [123] a1 a2
noncomputable abbrev kE(e:Bool)(p1 p2 p3:V):V:=match e with
 |true=>AQ (eS 41 p1 p2 p3)
 |false=>AQ (eS 59 p1 p2 p3)
noncomputable abbrev hS(h:HA)(t:V):HA:={h with tok:=t,tmp:=none,lo:= []}
noncomputable abbrev hE(g:HA)(t:V):HA:={g with tok:=t,tmp:=none}
theorem Cg{k:Nat}:AX (k+1)=WO (AX k):=rfl
section
variable(k:Nat)(h:HA)
theorem Pz:(AX (k+1)).Bv [.par] h=Du (AX k) (AX k).CL h:=by rw[Cg];generalize AX k=F;kernel_rfl
theorem OK:(AX (k+1)).Bv [.par] h=DN (AX k) (AX k).C1 h:=by rw[Cg];generalize AX k=F;kernel_rfl
theorem UO:(AX (k+1)).D8 [.par] h=Cp (AX k) (AX k).Bv h:=by rw[Cg];generalize AX k=F;kernel_rfl
theorem Y3:(AX (k+1)).Ea [.par] h=Ds (AX k) (AX k).D8 h:=by rw[Cg];generalize AX k=F;kernel_rfl
theorem WC(a b:V):(AX (k+1)).ED [.par,a,b] h=Gh (AX k) (AX k).Ea a b h:=by rw[Cg];generalize AX k=F;kernel_rfl
theorem Mg(b:V):(AX (k+1)).CN [.par,b] h=Cb (AX k) (AX k).ED b h:=by rw[Cg];generalize AX k=F;kernel_rfl
theorem OM(b:V):(AX (k+1)).AY [.par,b] h=B2 (AX k) (AX k).CN b h:=by rw[Cg];generalize AX k=F;kernel_rfl
theorem OL(b:V):(AX (k+1)).Az [.par,b] h=C4 (AX k) (AX k).AY b h:=by rw[Cg];generalize AX k=F;kernel_rfl
theorem P1:(AX (k+1)).C1 [.par] h=DH (AX k) (AX k).AY h:=by rw[Cg];generalize AX k=F;kernel_rfl
theorem Y4:(AX (k+1)).Ah [.par] h=Bf (AX k) (AX k).Az h:=by rw[Cg];generalize AX k=F;kernel_rfl
theorem Py:(AX (k+1)).BD [.par] h=CJ (AX k) (AX k).Ah h:=by rw[Cg];generalize AX k=F;kernel_rfl
theorem OJ:(AX (k+1)).BD [.par] h=CY (AX k) (AX k).BZ h:=by rw[Cg];generalize AX k=F;kernel_rfl
theorem JE(a b:V):(AX (k+1)).BZ [.par,a,b] h=B1 (AX k) (AX k).D9 a b h:=by rw[Cg];generalize AX k=F;kernel_rfl
theorem UP(a b:V):(AX (k+1)).D9 [.par,a,b] h=CZ (AX k) (AX k).Az a b h:=by rw[Cg];generalize AX k=F;kernel_rfl
theorem UQ:(AX (k+1)).A6 [.par] h=Dv (AX k) (AX k).BD h:=by rw[Cg];generalize AX k=F;kernel_rfl
theorem RZ:(AX (k+1)).A6 [.par] h=EM (AX k) (AX k).BI h:=by rw[Cg];generalize AX k=F;kernel_rfl
theorem UN:(AX (k+1)).CL [.par] h=DG (AX k) (AX k).Bo h:=by rw[Cg];generalize AX k=F;kernel_rfl
theorem RY:(AX (k+1)).CL [.par] h=E_ (AX k) (AX k).EC h:=by rw[Cg];generalize AX k=F;kernel_rfl
theorem LM:(AX (k+1)).Bo [.par] h=CB (AX k) (AX k).BI h:=by rw[Cg];generalize AX k=F;kernel_rfl
theorem WB:(AX (k+1)).EC [.par] h=Gg (AX k) (AX k).G5 h:=by rw[Cg];generalize AX k=F;kernel_rfl
theorem Y5:(AX (k+1)).G5 [.par] h=DW (AX k) (AX k).BI h:=by rw[Cg];generalize AX k=F;kernel_rfl
theorem LN(a:V):(AX (k+1)).BI [.par,a] h=Cx (AX k) (AX k).Bt a h:=by rw[Cg];generalize AX k=F;kernel_rfl
end
section
variable{k:Nat} {h g:HA} {a1 a2 b1 b2 c1 c2 d1 d2 e1 e2 f1 f2 g1 g2 p1 p2 p3 q1 q2 q3:V} {r r2:List V} {t:Option Bool} {e:Bool} {fe:List (Nat×V)}
theorem P4:F7 nF nF ((AX (k+6)).CL [.par] (hS h (kS t a1 a2))) ((AX (k+7)).Bv [.par] (hS h (kS t a1 a2))) (hE g (kE e p1 p2 p3)) (hE g (kE e p1 p2 p3)):=
 L5 Nq (fun O=>Du (AX (k+6)) O (hS h (kS t a1 a2))) (Pz (k+6) (hS h (kS t a1 a2))) (fun O=>by rcases t with _|_|_<;>kernel_rfl) (fun a ρ lo=>by rcases t with _|_|_<;>cases e<;>kernel_rfl) fun c=>by rcases t with _|_|_<;>kernel_rfl
theorem US:F7 nF nF ((AX (k+6)).Bv [.par] (hS h (kS t a1 a2))) ((AX (k+7)).D8 [.par] (hS h (kS t a1 a2))) (hE g (kE e p1 p2 p3)) (hE g (kE e p1 p2 p3)):=
 L5 Nq (fun O=>Cp (AX (k+6)) O (hS h (kS t a1 a2))) (UO (k+6) (hS h (kS t a1 a2))) (fun O=>by rcases t with _|_|_<;>kernel_rfl) (fun a ρ lo=>by rcases t with _|_|_<;>cases e<;>kernel_rfl) fun c=>by rcases t with _|_|_<;>kernel_rfl
theorem Y7:F7 nF nF ((AX (k+6)).D8 [.par] (hS h (kS t a1 a2))) ((AX (k+7)).Ea [.par] (hS h (kS t a1 a2))) (hE g (kE e p1 p2 p3)) (hE g (kE e p1 p2 p3)):=
 L5 Nq (fun O=>Ds (AX (k+6)) O (hS h (kS t a1 a2))) (Y3 (k+6) (hS h (kS t a1 a2))) (fun O=>by rcases t with _|_|_<;>kernel_rfl) (fun a ρ lo=>by rcases t with _|_|_<;>cases e<;>kernel_rfl) fun c=>by rcases t with _|_|_<;>kernel_rfl
theorem WE:F7 nF nF ((AX (k+6)).Ea [.par] (hS h (kS t a1 a2))) ((AX (k+7)).ED [.par,.int 1,.bool true] (hS h (kS t a1 a2))) (hE g (kE e p1 p2 p3)) (hE g (kE e p1 p2 p3)):=
 L5 Nq (fun O=>Gh (AX (k+6)) O (.int 1) (.bool true) (hS h (kS t a1 a2))) (WC (k+6) (hS h (kS t a1 a2)) (.int 1) (.bool true)) (fun O=>by rcases t with _|_|_<;>kernel_rfl) (fun a ρ lo=>by rcases t with _|_|_<;>cases e<;>kernel_rfl) fun c=>by rcases t with _|_|_<;>kernel_rfl
theorem Mh:F7 nF nF ((AX (k+6)).ED [.par,.int 1,.bool true] (hS h (kS t a1 a2))) ((AX (k+7)).CN [.par,.bool true] (hS h (kS t a1 a2))) (hE g (kE e p1 p2 p3)) (hE g (kE e p1 p2 p3)):=
 L5 Nq (fun O=>Cb (AX (k+6)) O (.bool true) (hS h (kS t a1 a2))) (Mg (k+6) (hS h (kS t a1 a2)) (.bool true)) (fun O=>by rcases t with _|_|_<;>kernel_rfl) (fun a ρ lo=>by rcases t with _|_|_<;>cases e<;>kernel_rfl) fun c=>by rcases t with _|_|_<;>kernel_rfl
theorem OP:F7 nF nF ((AX (k+6)).CN [.par,.bool true] (hS h (kS t a1 a2))) ((AX (k+7)).AY [.par,.bool true] (hS h (kS t a1 a2))) (hE g (kE e p1 p2 p3)) (hE g (kE e p1 p2 p3)):=
 L5 Nq (fun O=>B2 (AX (k+6)) O (.bool true) (hS h (kS t a1 a2))) (OM (k+6) (hS h (kS t a1 a2)) (.bool true)) (fun O=>by rcases t with _|_|_<;>kernel_rfl) (fun a ρ lo=>by rcases t with _|_|_<;>cases e<;>kernel_rfl) fun c=>by rcases t with _|_|_<;>kernel_rfl
theorem H_:F7 nF nF ((AX (k+6)).AY [.par,.bool true] (hS h (kS t a1 a2))) ((AX (k+7)).Az [.par,.bool true] (hS h (kS t a1 a2))) (hE g (kE e p1 p2 p3)) (hE g (kE e p1 p2 p3)):=
 L5 Nq (fun O=>C4 (AX (k+6)) O (.bool true) (hS h (kS t a1 a2))) (OL (k+6) (hS h (kS t a1 a2)) (.bool true)) (fun O=>by rcases t with _|_|_<;>kernel_rfl) (fun a ρ lo=>by rcases t with _|_|_<;>cases e<;>kernel_rfl) fun c=>by rcases t with _|_|_<;>kernel_rfl
theorem aZ:F7 nF nF ((AX (k+6)).Bv [.par] (hS h (kS t a1 a2))) ((AX (k+11)).AY [.par,.bool true] (hS h (kS t a1 a2))) (hE g (kE e p1 p2 p3)) (hE g (kE e p1 p2 p3)):=
 US.tr ((Y7 (k:=k+1)).tr ((WE (k:=k+2)).tr ((Mh (k:=k+3)).tr (OP (k:=k+4)))))
theorem aY:F7 nF nF ((AX (k+6)).CL [.par] (hS h (kS t a1 a2))) ((AX (k+12)).AY [.par,.bool true] (hS h (kS t a1 a2))) (hE g (kE e p1 p2 p3)) (hE g (kE e p1 p2 p3)):=P4.tr (aZ (k:=k+1))
theorem UR:F7 nF nF ((AX (k+6)).Bo [.par] (hS h (kS none a1 a2))) ((AX (k+7)).CL [.par] (hS h (kS none a1 a2))) (hE g (kE e p1 p2 p3)) (hE g (kE e p1 p2 p3)):=
 L5 Nq (fun O=>DG (AX (k+6)) O (hS h (kS none a1 a2))) (UN (k+6) (hS h (kS none a1 a2))) (fun O=>by kernel_rfl) (fun a ρ lo=>by cases e<;>kernel_rfl) fun c=>by kernel_rfl
theorem Ra:F7 nF nF ((AX (k+6)).EC [.par] (hS h (kS (some true) a1 a2))) ((AX (k+7)).CL [.par] (hS h (kS (some true) a1 a2))) (hE g (kE e p1 p2 p3)) (hE g (kE e p1 p2 p3)):=
 L5 Nq (fun O=>E_ (AX (k+6)) O (hS h (kS (some true) a1 a2))) (RY (k+6) (hS h (kS (some true) a1 a2))) (fun O=>by kernel_rfl) (fun a ρ lo=>by cases e<;>kernel_rfl) fun c=>by kernel_rfl
noncomputable abbrev hR(h:HA)(t:V)(r:List V):HA:={h with tok:=t,later:=.none,tmp:=none,rest:=r,lo:= []}
noncomputable abbrev sg(c:Nat)(b1 b2:V):V:=C7 true Kj [c] b1 b2
theorem LO:F7 (fF QE) nF ((AX (k+6)).BI [.par,.str QE] (hR h (sg 40 b1 b2) r)) ((AX (k+7)).Bo [.par] (hR h (kS none a1 a2) (sg 40 b1 b2::r))) (hE g (kE e p1 p2 p3)) (hE g (kE e p1 p2 p3)):=
 L5 Nq (fun O=>CB (AX (k+6)) O (hR h (kS none a1 a2) (sg 40 b1 b2::r))) (LM (k+6) (hR h (kS none a1 a2) (sg 40 b1 b2::r))) (fun O=>by kernel_rfl) (fun a ρ lo=>by cases e<;>kernel_rfl) fun c=>by kernel_rfl
noncomputable abbrev f9(g:HA)(t:V)(r:List V):HA:={g with tok:=t,later:=.none,tmp:=none,rest:=r}
theorem P5(ht:t=none∨t=some true):F7 nF V.lst ((AX (k+6)).AY [.par,.bool true] (hR h (kS t a1 a2) r)) ((AX (k+7)).C1 [.par] (hR h (sg 40 f1 f2) (kS t a1 a2::r))) (f9 g (kE true p1 p2 p3) (kE false q1 q2 q3::r2)) (f9 g (kE false q1 q2 q3) r2):=by
 exact L5 ltR (fun O=>DH (AX (k+6)) O (hR h (sg 40 f1 f2) (kS t a1 a2::r))) (P1 (k+6) (hR h (sg 40 f1 f2) (kS t a1 a2::r))) (fun O=>by rcases ht with rfl|rfl<;>kernel_rfl) (fun a ρ lo=>by rcases ht with rfl|rfl<;>kernel_rfl) fun c=>by rcases ht with rfl|rfl<;>kernel_rfl
noncomputable abbrev hL'(h:HA)(s:Bool)(t u:V)(r:List V):HA:={hR h t r with strict:=.bool s,later:=u}
theorem OO{s:Bool}:F7 V.lst nF ((AX (k+16)).C1 [.par] (hL' h s (sg 40 f1 f2) .none r)) ((AX (k+17)).Bv [.par] (hL' h s (kS (some false) e1 e2) (sg 40 f1 f2) r)) (hE g (kE false p1 p2 p3)) (hE g (kE false p1 p2 p3)):=
 L5 Nq (fun O=>DN (AX (k+16)) O (hL' h s (kS (some false) e1 e2) (sg 40 f1 f2) r)) (OK (k+16) (hL' h s (kS (some false) e1 e2) (sg 40 f1 f2) r)) (fun O=>by cases s<;>kernel_rfl) (fun a ρ lo=>by cases s<;>kernel_rfl) fun c=>by cases s<;>kernel_rfl
theorem Y8:F7 nF nF ((AX (k+6)).Az [.par,.bool true] (hS h (kS (some false) a1 a2))) ((AX (k+7)).Ah [.par] (hS h (kS (some false) a1 a2))) (f9 g (kE false p1 p2 p3) (AQ fe::r2)) (f9 g (AQ fe) r2):=
 L5 Nq (fun O=>Bf (AX (k+6)) O (hS h (kS (some false) a1 a2))) (Y4 (k+6) (hS h (kS (some false) a1 a2))) (fun O=>by kernel_rfl) (fun a ρ lo=>by kernel_rfl) fun c=>by kernel_rfl
noncomputable abbrev hQ(h:HA):HA:={h with pend:=lv []}
theorem P2:F7 nF nF ((AX (k+6)).Ah [.par] {hR (hQ h) (kS (some false) e1 e2) r with later:=sg 40 f1 f2}) ((AX (k+7)).BD [.par] (hR (hQ h) (kS (some false) e1 e2) (sg 40 f1 f2::r))) (hE g (AQ fe)) (hE g (AQ fe)):=
 L5 Nq (fun O=>CJ (AX (k+6)) O (hR (hQ h) (kS (some false) e1 e2) (sg 40 f1 f2::r))) (Py (k+6) (hR (hQ h) (kS (some false) e1 e2) (sg 40 f1 f2::r))) (fun O=>by kernel_rfl) (fun a ρ lo=>by kernel_rfl) fun c=>by kernel_rfl
noncomputable abbrev Oe:List Nat:= [114,101,116,117,114,110]
noncomputable abbrev tR(a1 a2:V):V:=C7 true kwd Oe a1 a2
theorem NJ{b:Bool}:F7 nF nF ((AX (k+6)).BD [.par] (hS h (match b with|true=>kS (some false) e1 e2|false=>tR e1 e2))) ((AX (k+7)).A6 [.par] (hS h (match b with|true=>kS (some false) e1 e2|false=>tR e1 e2))) (hE g (AQ fe)) (hE g (AQ fe)):=
 L5 Nq (fun O=>Dv (AX (k+6)) O (hS h (match b with|true=>kS (some false) e1 e2|false=>tR e1 e2))) (UQ (k+6) (hS h (match b with|true=>kS (some false) e1 e2|false=>tR e1 e2))) (fun O=>by cases b<;>kernel_rfl) (fun a ρ lo=>by cases b<;>kernel_rfl) fun c=>by cases b<;>kernel_rfl
theorem Rc:F7 (fF NQ) nF ((AX (k+6)).BI [.par,.str NQ] (hR h (C7 true F8 [103] a1 a2) r)) ((AX (k+7)).A6 [.par] (hR h (kS none e1 e2) (C7 true F8 [103] a1 a2::r))) (hE g (AQ fe)) (hE g (AQ fe)):=
 L5 Nq (fun O=>EM (AX (k+6)) O (hR h (kS none e1 e2) (C7 true F8 [103] a1 a2::r))) (RZ (k+6) (hR h (kS none e1 e2) (C7 true F8 [103] a1 a2::r))) (fun O=>by kernel_rfl) (fun a ρ lo=>by kernel_rfl) fun c=>by kernel_rfl
noncomputable abbrev hD(h:HA):HA:={hQ h with depth:=.int 1}
theorem UT:F7 nF nF ((AX (k+6)).Az [.par,.bool true] (hR (hD h) (kS none a1 a2) r)) ((AX (k+7)).D9 [.par,.str Oe,.int 1] (hR (hD h) (tR e1 e2) (kS none a1 a2::r))) (f9 g (kE false p1 p2 p3) (AQ fe::r2)) (f9 g (AQ fe) r2):=
 L5 Nq (fun O=>CZ (AX (k+6)) O (.str Oe) (.int 1) (hR (hD h) (tR e1 e2) (kS none a1 a2::r))) (UP (k+6) (hR (hD h) (tR e1 e2) (kS none a1 a2::r)) (.str Oe) (.int 1)) (fun O=>by kernel_rfl) (fun a ρ lo=>by kernel_rfl) fun c=>by kernel_rfl
theorem JF:F7 nF nF ((AX (k+6)).D9 [.par,.str Oe,.int 1] (hS h (tR e1 e2))) ((AX (k+7)).BZ [.par,.str Oe,lv []] (hS h (tR e1 e2))) (hE g (AQ fe)) (hE g (AQ fe)):=
 L5 Nq (fun O=>B1 (AX (k+6)) O (.str Oe) (lv []) (hS h (tR e1 e2))) (JE (k+6) (hS h (tR e1 e2)) (.str Oe) (lv [])) (fun O=>by kernel_rfl) (fun a ρ lo=>by kernel_rfl) fun c=>by kernel_rfl
theorem ON:F7 nF nF ((AX (k+6)).BZ [.par,.str Oe,lv []] (hR (hD h) (tR e1 e2) r)) ((AX (k+7)).BD [.par] (hR (hD h) (tR e1 e2) r)) (hE g (AQ fe)) (hE g (AQ fe)):=
 L5 Nq (fun O=>CY (AX (k+6)) O (hR (hD h) (tR e1 e2) r)) (OJ (k+6) (hR (hD h) (tR e1 e2) r)) (fun O=>by kernel_rfl) (fun a ρ lo=>by kernel_rfl) fun c=>by kernel_rfl
noncomputable abbrev eN(a:V×List V×Bool):V:=.tup [.str WX,.str [112],fF WX a]
noncomputable def gV(v:V):V×List V×Bool:=match v with
 |.inst _ [_,_,(_,.lst [nm,_,.lst bd,.bool s,_]),_]=>(nm,bd,s)
 |_=>(.none,[],false)
noncomputable def gF(Y:RA X):V×List V×Bool:=gV (ZW Y)
noncomputable def gE(Y:RA X):V×List V×Bool:=match ZW Y with
 |.tup [_,_,v]=>gV v
 |_=>(.none,[],false)
theorem Y9{s:Bool}:F7 (fF WX) eN ((AX (k+16)).BI [.par,.str WX] (hL' h s (sg 40 b1 b2) .none r)) ((AX (k+17)).G5 [.par] (hL' h s (C7 true F8 [103,101,116] g1 g2) .none (C7 true F8 [112] e1 e2::sg 40 b1 b2::r))) (hE g (AQ (eS 125 p1 p2 p3))) (hE g (AQ (eS 125 p1 p2 p3))):=
 L5 gE (fun O=>DW (AX (k+16)) O (hL' h s (C7 true F8 [103,101,116] g1 g2) .none (C7 true F8 [112] e1 e2::sg 40 b1 b2::r))) (Y5 (k+16) (hL' h s (C7 true F8 [103,101,116] g1 g2) .none (C7 true F8 [112] e1 e2::sg 40 b1 b2::r))) (fun O=>by cases s<;>kernel_rfl) (fun a ρ lo=>by cases s<;>kernel_rfl) fun c=>by cases s<;>kernel_rfl
theorem WD{s:Bool}:F7 eN nF ((AX (k+16)).G5 [.par] (hL' h s (C7 true F8 [103,101,116] g1 g2) .none r)) ((AX (k+17)).EC [.par] (hL' h s (kS (some true) a1 a2) .none (C7 true F8 [103,101,116] g1 g2::r))) (hL' g s (AQ (eS 125 p1 p2 p3)) .none (kE true q1 q2 q3::r2)) (hL' g s (kE true q1 q2 q3) .none r2):=
 L5 Nq (fun O=>Gg (AX (k+16)) O (hL' h s (kS (some true) a1 a2) .none (C7 true F8 [103,101,116] g1 g2::r))) (WB (k+16) (hL' h s (kS (some true) a1 a2) .none (C7 true F8 [103,101,116] g1 g2::r))) (fun O=>by cases s<;>kernel_rfl) (fun a ρ lo=>by cases s<;>kernel_rfl) fun c=>by cases s<;>kernel_rfl
variable{tb:List (Nat×V)} {rb re:List V} {z z2:Int} {y1 y2 y3:V} {s s':Bool}
noncomputable abbrev hH(t:V)(r:List V)(s:Bool)(z:Int):HA:=sB t r s z [] []
noncomputable abbrev hJ(t:V)(r:List V)(s:Bool)(z:Int):HA:=sB t r s (z-1) [jm 3,.list []] []
theorem Rb:F7 V.lst (fF NQ) ((AX (k+16)).Bt [.par,.bool false] (hF (AQ tb) rb s (z+1))) ((AX (k+17)).BI [.par,.str NQ] (hH (C7 true F8 [103] a1 a2) (sg 40 b1 b2::sg 41 c1 c2::sg 123 d1 d2::AQ tb::rb) s z)) (hF (AQ (eF false y1 y2 y3)) (AQ fe::re) s' z2) (hJ (AQ fe) re s z2):=
 L5 gF (fun O=>Cx (AX (k+16)) O (.str NQ) (hH (C7 true F8 [103] a1 a2) (sg 40 b1 b2::sg 41 c1 c2::sg 123 d1 d2::AQ tb::rb) s z)) (LN (k+16) (hH (C7 true F8 [103] a1 a2) (sg 40 b1 b2::sg 41 c1 c2::sg 123 d1 d2::AQ tb::rb) s z) (.str NQ)) (fun O=>by cases s<;>kernel_rfl) (fun a ρ lo=>by cases s<;>cases s'<;>kernel_rfl) fun c=>by cases s<;>kernel_rfl
theorem Js{so:List Nat}(hs:so=QE∨so=WX):F7 V.lst (fF so) ((AX (k+16)).Bt [.par,.bool false] (hF (AQ tb) rb s (z+1))) ((AX (k+17)).BI [.par,.str so] (hH (sg 40 b1 b2) (sg 41 c1 c2::sg 123 d1 d2::AQ tb::rb) s z)) (hF (AQ (eF false y1 y2 y3)) (AQ fe::re) s' z2) (hJ (AQ fe) re s z2):=
 L5 gF (fun O=>Cx (AX (k+16)) O (.str so) (hH (sg 40 b1 b2) (sg 41 c1 c2::sg 123 d1 d2::AQ tb::rb) s z)) (LN (k+16) (hH (sg 40 b1 b2) (sg 41 c1 c2::sg 123 d1 d2::AQ tb::rb) s z) (.str so)) (fun O=>by rcases hs with rfl|rfl<;>cases s<;>kernel_rfl) (fun a ρ lo=>by rcases hs with rfl|rfl<;>cases s<;>cases s'<;>kernel_rfl) fun c=>by rcases hs with rfl|rfl<;>cases s<;>kernel_rfl
end
section
variable(a1 a2 b1 b2 c1 c2 d1 d2 e1 e2 f1 f2:V)(tb fe:List (Nat×V))(rb re:List V)(z z2:Int)(y1 y2 y3:V)
theorem q_(s s':Bool)(k:Nat):F7 V.lst nF ((AX (k+16)).Bt [.par,.bool false] (hF (AQ tb) rb s (z+1))) ((AX (k+18)).A6 [.par] (hH (kS none e1 e2) (C7 true F8 [103] a1 a2::sg 40 b1 b2::sg 41 c1 c2::sg 123 d1 d2::AQ tb::rb) s z)) (hF (AQ (eF false y1 y2 y3)) (AQ fe::re) s' z2) (hJ (AQ fe) re s z2):=(Rb (k:=k)).tr (Rc (k:=k+11) (h:=hH .none [] s z) (g:=hJ .none re s z2))
variable(p1 p2 p3 q1 q2 q3:V)
theorem j6(s s' e:Bool)(k:Nat):F7 V.lst nF ((AX (k+16)).Bt [.par,.bool false] (hF (AQ tb) rb s (z+1))) ((AX (k+25)).AY [.par,.bool true] (hH (kS none a1 a2) (sg 40 b1 b2::sg 41 c1 c2::sg 123 d1 d2::AQ tb::rb) s z)) (hF (AQ (eF false y1 y2 y3)) (kE e p1 p2 p3::re) s' z2) (hJ (kE e p1 p2 p3) re s z2):=by
 have x:F7 V.lst (fF QE) ((AX (k+16)).Bt [.par,.bool false] (hF (AQ tb) rb s (z+1))) ((AX (k+17)).BI [.par,.str QE] (hH (sg 40 b1 b2) (sg 41 c1 c2::sg 123 d1 d2::AQ tb::rb) s z)) (hF (AQ (eF false y1 y2 y3)) (kE e p1 p2 p3::re) s' z2) (hJ (kE e p1 p2 p3) re s z2):=by cases e<;>exact Js (.inl rfl)
 exact x.tr ((LO (k:=k+11) (h:=hH .none [] s z) (g:=hJ .none re s z2)).tr ((UR (k:=k+12) (h:=hH .none (sg 40 b1 b2::sg 41 c1 c2::sg 123 d1 d2::AQ tb::rb) s z) (g:=hJ .none re s z2)).tr (aY (k:=k+13) (t:=none) (h:=hH .none (sg 40 b1 b2::sg 41 c1 c2::sg 123 d1 d2::AQ tb::rb) s z) (g:=hJ .none re s z2))))
theorem bh(s:Bool)(k:Nat)(t:Option Bool)(ht:t=none∨t=some true)(r:List V):F7 nF nF ((AX (k+25)).AY [.par,.bool true] (hH (kS t a1 a2) r s z)) ((AX (k+36)).A6 [.par] (hH (kS (some false) e1 e2) (sg 40 f1 f2::kS t a1 a2::r) s z)) (hJ (kE true p1 p2 p3) (kE false q1 q2 q3::AQ fe::re) s z2) (hJ (AQ fe) re s z2):=
 (P5 (k:=k+19) (h:=hH .none [] s z) (g:=hJ .none [] s z2) ht).tr ((OO (k:=k+10) (s:=s) (h:=hH .none [] s z) (g:=hJ .none (AQ fe::re) s z2)).tr ((aZ (k:=k+21) (t:=some false) (e:=false) (h:=hL' (hH .none [] s z) s .none (sg 40 f1 f2) (kS t a1 a2::r)) (g:=hJ .none (AQ fe::re) s z2)).tr ((H_ (k:=k+26) (t:=some false) (e:=false) (h:=hL' (hH .none [] s z) s .none (sg 40 f1 f2) (kS t a1 a2::r)) (g:=hJ .none (AQ fe::re) s z2)).tr ((Y8 (k:=k+27) (h:=hL' (hH .none [] s z) s .none (sg 40 f1 f2) (kS t a1 a2::r)) (g:=hJ .none [] s z2)).tr ((P2 (k:=k+28) (h:=hH .none [] s z) (g:=hJ .none re s z2)).tr (NJ (k:=k+29) (b:=true) (h:=hH .none (sg 40 f1 f2::kS t a1 a2::r) s z) (g:=hJ .none re s z2)))))))
theorem gY(s s':Bool)(k:Nat):F7 V.lst nF ((AX (k+16)).Bt [.par,.bool false] (hF (AQ tb) rb s (1+1))) ((AX (k+30)).A6 [.par] (hH (tR e1 e2) (kS none a1 a2::sg 40 b1 b2::sg 41 c1 c2::sg 123 d1 d2::AQ tb::rb) s 1)) (hF (AQ (eF false y1 y2 y3)) (kE false p1 p2 p3::AQ fe::re) s' z2) (hJ (AQ fe) re s z2):=
 (j6 a1 a2 b1 b2 c1 c2 d1 d2 tb rb (AQ fe::re) 1 z2 y1 y2 y3 p1 p2 p3 s s' false k).tr ((H_ (k:=k+19) (t:=none) (e:=false) (h:=hH .none (sg 40 b1 b2::sg 41 c1 c2::sg 123 d1 d2::AQ tb::rb) s 1) (g:=hJ .none (AQ fe::re) s z2)).tr ((UT (k:=k+20) (h:=hH .none [] s 1) (g:=hJ .none [] s z2)).tr ((JF (k:=k+21) (h:=hH .none (kS none a1 a2::sg 40 b1 b2::sg 41 c1 c2::sg 123 d1 d2::AQ tb::rb) s 1) (g:=hJ .none re s z2)).tr ((ON (k:=k+22) (h:=hH .none [] s 1) (g:=hJ .none re s z2)).tr (NJ (k:=k+23) (b:=false) (h:=hH .none (kS none a1 a2::sg 40 b1 b2::sg 41 c1 c2::sg 123 d1 d2::AQ tb::rb) s 1) (g:=hJ .none re s z2))))))
theorem eO(g1 g2 r1 r2:V)(p0 r3 p4:V)(s s':Bool)(k:Nat):F7 V.lst nF ((AX (k+16)).Bt [.par,.bool false] (hF (AQ tb) rb s (z+1))) ((AX (k+37)).A6 [.par] (hH (kS (some false) e1 e2) (sg 40 f1 f2::kS (some true) a1 a2::C7 true F8 [103,101,116] g1 g2::C7 true F8 [112] r1 r2::sg 40 b1 b2::sg 41 c1 c2::sg 123 d1 d2::AQ tb::rb) s z)) (hF (AQ (eF false y1 y2 y3)) (AQ (eS 125 p0 r3 p4)::kE true p1 p2 p3::kE false q1 q2 q3::AQ fe::re) s' z2) (hJ (AQ fe) re s z2):=
 (Js (k:=k) (.inr rfl)).tr ((Y9 (k:=k+1) (s:=s) (h:=hH .none [] s z) (g:=hJ .none (kE true p1 p2 p3::kE false q1 q2 q3::AQ fe::re) s z2)).tr ((WD (k:=k+2) (s:=s) (h:=hH .none [] s z) (g:=hJ .none [] s z2)).tr ((Ra (k:=k+13) (e:=true) (h:=hH .none (C7 true F8 [103,101,116] g1 g2::C7 true F8 [112] r1 r2::sg 40 b1 b2::sg 41 c1 c2::sg 123 d1 d2::AQ tb::rb) s z) (g:=hJ .none (kE false q1 q2 q3::AQ fe::re) s z2)).tr ((aY (k:=k+14) (t:=some true) (e:=true) (h:=hH .none (C7 true F8 [103,101,116] g1 g2::C7 true F8 [112] r1 r2::sg 40 b1 b2::sg 41 c1 c2::sg 123 d1 d2::AQ tb::rb) s z) (g:=hJ .none (kE false q1 q2 q3::AQ fe::re) s z2)).tr (bh a1 a2 e1 e2 f1 f2 fe re z z2 p1 p2 p3 q1 q2 q3 s (k+1) (some true) (.inr rfl) (C7 true F8 [103,101,116] g1 g2::C7 true F8 [112] r1 r2::sg 40 b1 b2::sg 41 c1 c2::sg 123 d1 d2::AQ tb::rb))))))
end
section
variable{F:FS} {k:Nat} {ie b s s':Bool} {oc v:V} {r r' acc:List V} {z z':Int} {G G' lo:List Ob} {ρ:Af} {fs fs':List (Nat×V)}
theorem eV{n:Nat} {h:HA}(c:cA v=true):Jb n v h=some (v,h):=by
 have sh:CQ v=true:=by
  cases v with
  |tup l=>cases c
  |_=>exact c
 cases n with
 |zero=>
  show cC (CQ v) none (some (v,h))=_;rw[sh]
 |succ n=>
  show cO (C_ h v) (cC (CQ v) none (some (v,h))) _=_;have:C_ h v=none:=by cases v<;>first|rfl|cases c
  rw[this,sh]
theorem Ts{n:Nat} {h:HA}:∀{l:List V},l.all cN=true→KJ (Jb n) l h=some (l,h)
 | [],_=>rfl
 |v::l,c=>by
  refine xA (Bool.and_eq_true_iff.mp c) fun c1 c2=>?_;refine xA (Bool.and_eq_true_iff.mp c1) fun c1 c3=>?_;show cO (Jb n v h) none (fun p=>cC (jL p.1) none (cO (KJ (Jb n) l p.2) none fun q=>some (p.1::q.1,q.2)))=_;rw[eV c1];show cC (jL v) none (cO (KJ (Jb n) l h) none _)=_;rw[show jL v=true from c3,Ts c2]
noncomputable abbrev j9(ie b:Bool)(oc:V)(t:V)(r:List V)(s:Bool)(z:Int)(G:List Ob)(acc:List V):RA X:=.ok (.next,[(k_self,.par),(E4,.bool ie),(Aj,.ref 0),(C2,oc),(DV,.bool b)]) (sB t r s z G [.list acc])
theorem YL(e:BL F FI (.bool ie) (.bool false) true (sB (AQ fs) r s z [] [.list []])=j9 ie b oc (AQ fs') r' s' z' G acc)(c:acc.all cN=true):C9 F (EV (Bl F) FI) (.bool ie) (sB (AQ fs) r s z [] [])=.ok (.ret (.lst acc),[]) (sB (AQ fs') r' s' z' G [.dead]):=by
 show bS (BL F FI (.bool ie) (.bool false) true (sB (AQ fs) r s z [] [.list []])) _=_;rw[e];show Wz 1 false (.ref 0) (sB (AQ fs') r' s' z' G [.list acc])=_;show oA (Jb 4 (.ref 0) (sB (AQ fs') r' s' z' G [.list acc])) (fun p=>RA.ok (Fl.ret p.1,[]) p.2)=_;have:Jb 4 (.ref 0) (sB (AQ fs') r' s' z' G [.list acc])=some (.lst acc,sB (AQ fs') r' s' z' G [.dead]):=by
  show cO (KJ (Jb 3) acc (sB (AQ fs') r' s' z' G [.list acc])) none (fun p=>cO (C_ p.2 (.ref 0)) none fun J=>some (V.lst p.1,GJ p.2 (.ref 0) .dead))=_;rw[Ts c];rfl
 rw[this];rfl
theorem YK{c:Nat}(e:BL F FI (.bool ie) (.bool false) true (sB (AQ fs) r s z [] [.list []])=.ex c):C9 F (EV (Bl F) FI) (.bool ie) (sB (AQ fs) r s z [] [])=.ex c:=by
 show bS (BL F FI (.bool ie) (.bool false) true (sB (AQ fs) r s z [] [.list []])) _=_;rw[e];rfl
theorem YO(e:C9 F (EV (Bl F) FI) (.bool false) (sB (AQ fs) r s z [] [])=.ok (.ret (.lst acc),ρ) (sB (AQ fs') r' s' z' G lo)):JP F [.par,.bool false] (hF (AQ fs) r s z)=.ok (.ret (.lst acc),ρ) (hF (AQ fs') r' s' z'):=by
 show bA (Dy F [.par,.bool false] (sB (AQ fs) r s z [] [])) _=_;rw[show Dy F [.par,.bool false] (sB (AQ fs) r s z [] [])=C9 F (EV (Bl F) FI) (.bool false) (sB (AQ fs) r s z [] []) from rfl,e];rfl
theorem YQ{c:Nat}(e:C9 F (EV (Bl F) FI) (.bool false) (sB (AQ fs) r s z [] [])=.ex c):JP F [.par,.bool false] (hF (AQ fs) r s z)=.ex c:=by
 show bA (Dy F [.par,.bool false] (sB (AQ fs) r s z [] [])) _=_;rw[show Dy F [.par,.bool false] (sB (AQ fs) r s z [] [])=C9 F (EV (Bl F) FI) (.bool false) (sB (AQ fs) r s z [] []) from rfl,e]
theorem YM(e:C9 F (EV (Bl F) FI) (.bool true) (sB (AQ fs) r s z [] [])=.ok (.ret (.lst acc),ρ) (sB (AQ fs') r' s' z' G lo)):JP F [.par,.bool true] (sB (AQ fs) r s z [] [])=.ok (.ret (.lst acc),ρ) (sB (AQ fs') r' s' z' [] []):=by
 show bA (Dy F [.par,.bool true] (sB (AQ fs) r s z [] [])) _=_;rw[show Dy F [.par,.bool true] (sB (AQ fs) r s z [] [])=C9 F (EV (Bl F) FI) (.bool true) (sB (AQ fs) r s z [] []) from rfl,e];rfl
theorem YN{c:Nat}(e:C9 F (EV (Bl F) FI) (.bool true) (sB (AQ fs) r s z [] [])=.ex c):JP F [.par,.bool true] (sB (AQ fs) r s z [] [])=.ex c:=by
 show bA (Dy F [.par,.bool true] (sB (AQ fs) r s z [] [])) _=_;rw[show Dy F [.par,.bool true] (sB (AQ fs) r s z [] [])=C9 F (EV (Bl F) FI) (.bool true) (sB (AQ fs) r s z [] []) from rfl,e]
end
section
variable{ie b s s':Bool} {oc v:V} {r r' acc:List V} {z z':Int} {G G' lo:List Ob} {ρ:Af} {fs fs' efs:List (Nat×V)}
theorem XY(k:Nat)(vs:List V)(h:HA):(AX (k+1)).Dh vs h=Lv (AX k) vs h:=by kernel_rfl
theorem VV(k:Nat)(vs:List V)(h:HA):(AX (k+1)).Aa vs h=JO (AX k) vs h:=by kernel_rfl
theorem VW{k:Nat} {kd vl:List Nat} {c:List Nat} {h:HA}(ht:h.tok=AQ fs)(e1:AK AJ fs=some (.str kd))(e2:AK AG fs=some (.str vl)):(AX (k+1)).Aa [.par,.str c] h=rt (.bool (DT kd Kj&&DT vl c)) h:=by
 rw[VV];show JM (AX k) (.str c) h=_;unfold JM;show oA (CD (EU (gv 1 h h.tok AJ) fun v2=>BY (AF h .Eq v2 (.str [112,117,110,99,116]))) (EU (gv 1 h h.tok AG) fun v4=>BY (AF h .Eq v4 (.str c)))) (fun v5=>oV 1 h v5 h)=_;rw[ht];show oA (CD (EU (AK AJ fs) fun v2=>BY (AF h .Eq v2 (.str [112,117,110,99,116]))) (EU (AK AG fs) fun v4=>BY (AF h .Eq v4 (.str c)))) (fun v5=>oV 1 h v5 h)=_;rw[e1,e2];show oA (CD (some (.bool (DT kd [112,117,110,99,116]))) (some (.bool (DT vl c)))) (fun v5=>oV 1 h v5 h)=rt (.bool (DT kd [112,117,110,99,116]&&DT vl c)) h;cases DT kd [112,117,110,99,116]<;>cases DT vl c<;>rfl
theorem FA{k:Nat} {kd vl:List Nat}(e1:AK AJ fs=some (.str kd))(e2:AK AG fs=some (.str vl)):(AX (k+2)).Dh [.par,.bool ie] (sB (AQ fs) r s z G [])=rt (.bool (match ie with|true=>DT kd [101,110,100]|false=>DT kd Kj&&DT vl [125])) (sB (AQ fs) r s z G []):=by
 rw[XY];cases ie with
 |true=>
  show oA (AK AJ fs) (fun v2=>oA (AF (sB (AQ fs) r s z G []) .Eq v2 (.str [101,110,100])) fun b3=>rt (.bool b3) (sB (AQ fs) r s z G []))=_;rw[e1];rfl
 |false=>
  show AB (AX (k+1)).Aa [.par,.str [125]] (sB (AQ fs) r s z G []) (fun v4 h5=>oV 1 (sB (AQ fs) r s z G []) v4 h5)=_;rw[E9 (h:=sB (AQ fs) r s z G []) rfl (VW (h:=sB (AQ fs) r s z G []) rfl e1 e2) rfl];rfl
theorem first_s{t:V}(e:CG t=true):∃fs kd vl,t=AQ fs∧AK AJ fs=some (.str kd)∧AK AG fs=some (.str vl)∧DT kd [101,110,100]=false∧DT kd [116,101,120,116]=false∧(DT kd Kj&&DT vl [125])=false:=by
 cases t with
 |inst c fs=>
  refine xA (Bool.and_eq_true_iff.mp (show(Nat.beq c Bh&&_)=true from e)) fun e1 e5=>?_;clear e;cases Nat.eq_of_beq_eq_true e1;have e:=e5;clear e5;cases e2:AK AJ fs with
  |none=>rw[e2] at e;cases e
  |some kv=>cases e3:AK AG fs with
   |none=>rw[e2,e3] at e;cases e
   |some vv=>
    rw[e2,e3] at e;cases kv with
    |str kd=>cases vv with
     |str vl=>
      refine xA (Bool.and_eq_true_iff.mp (show(!DT kd [101,110,100]&&(!DT kd [116,101,120,116]&&(!DT kd Kj||!DT vl [125])))=true from e)) fun a1 a=>?_;refine xA (Bool.and_eq_true_iff.mp a) fun a2 a3=>?_;refine⟨fs,kd,vl,rfl,e2,e3,by simpa using a1,by simpa using a2,?_⟩;cases h1:DT kd Kj<;>cases h2:DT vl [125]<;>first|rfl|(rw[h1,h2] at a3;cases a3)
     |_=>cases e
    |_=>cases e
 |_=>cases e
def Yd(L:Nat)(s:Bool)(z:Int)(t:V)(ts:List V)(en:Bool)(efs:List (Nat×V)):Prop:=∀ie oc b k (acc:List V) r,ie=en→acc.length≤5→acc.all cN=true→∃b' acc' z' G',acc'.all cN=true∧BL (AX (L+2)) (k+3) (.bool ie) oc b (sB t (ts++AQ efs::r) s z [] [.list acc])=j9 ie b' oc (AQ efs) r s z' G' acc'
def aQ(L:Nat)(s:Bool)(z:Int)(t:V)(ts:List V)(en:Bool)(efs:List (Nat×V)):Prop:=∀ie oc b k (acc:List V) r,ie=en→BL (AX (L+2)) (k+3) (.bool ie) oc b (sB t (ts++AQ efs::r) s z [] [.list acc])=.ex Ab
def RG(en:Bool)(efs:List (Nat×V)):Prop:=∃kd vl,AK AJ efs=some (.str kd)∧AK AG efs=some (.str vl)∧(match en with|true=>DT kd [101,110,100]|false=>DT kd Kj&&DT vl [125])=true
theorem Dr{en:Bool} {q1 q2 q3:V}:RG en (eF en q1 q2 q3):=by
 cases en with
 |true=>exact⟨[101,110,100],[],rfl,rfl,rfl⟩
 |false=>exact⟨Kj,[125],rfl,rfl,rfl⟩
theorem K7{ie:Bool} {kd vl:List Nat}(a1:DT kd [101,110,100]=false)(a3:(DT kd Kj&&DT vl [125])=false):(match ie with|true=>DT kd [101,110,100]|false=>DT kd Kj&&DT vl [125])=false:=by
 cases ie with
 |true=>exact a1
 |false=>exact a3
theorem TZ{acc:List V}(h:acc.length≤5):Nat.blt acc.length BV=true:=Nat.ble_eq_true_of_le (by show acc.length+1≤1048576;omega)
theorem au{L:Nat} {t:V} {ts:List V} {en:Bool}(f:CG t=true)(E:RG en efs)(e:∀r,∃v ρ z' G' lo,cN v=true∧(AX (L+2)).A6 [.par] (sB t (ts++AQ efs::r) s z [] [])=.ok (.ret v,ρ) (sB (AQ efs) r s z' G' lo)):Yd L s z t ts en efs:=by
 intro ie oc b k acc r hi ha hc;subst hi;refine xEEEAAAAA (first_s f) fun fs kd vl z3q f1 f2 a1 a2 a3=>?_;subst z3q;refine OG (e r) fun v ρ z' G' lo cv e=>?_;refine BE E fun kd' vl' g1 g2 g3=>?_;refine⟨false,acc++ [v],z',G',by rw[List.all_append,hc];simp[cv],?_⟩;have cv0:=cv;have cv:=(Bool.and_eq_true_iff.mp cv).1;have sh:CQ v=true:=by
  cases v with
  |tup l=>cases cv
  |_=>exact cv
 have nt:Yv v=true:=by clear e sh cv cv0;cases v<;>first|rfl|cases cv
 rw[Ys (t':=AQ efs) (ρ:=ρ) (lo:=lo) (by rw[FA (k:=L) f1 f2,K7 a1 a3]) (.inr fun h=>by rw[f1];show some (V.bool (DT kd [116,101,120,116]))=_;rw[a2]) e sh (TZ ha) nt];exact Yr (by rw[FA (k:=L) g1 g2,g3])
theorem aw{L:Nat} {t:V} {ts:List V} {en:Bool}(f:CG t=true)(e:∀r,(AX (L+2)).A6 [.par] (sB t (ts++AQ efs::r) s z [] [])=.ex Ab):aQ L s z t ts en efs:=by
 intro ie oc b k acc r hi;subst hi;refine xEEEAAAAA (first_s f) fun fs kd vl z3q f1 f2 a1 a2 a3=>?_;subst z3q;exact lK (by rw[FA (k:=L) f1 f2,K7 a1 a3]) (.inr fun h=>by rw[f1];show some (V.bool (DT kd [116,101,120,116]))=_;rw[a2]) (e r)
def RI(L:Nat)(s0 s1:Bool)(z:Int)(t:V)(ts:List V)(en:Bool)(efs:List (Nat×V)):Prop:=(∃fs,t=AQ fs)∧∀r,∃acc z' G' lo,C9 (AX (L+2)) (EV (Bl (AX (L+2))) FI) (.bool en) (sB t (ts++AQ efs::r) s0 z [] [])=.ok (.ret (.lst acc),[]) (sB (AQ efs) r s1 z' G' lo)
def RH(L:Nat)(s0:Bool)(z:Int)(t:V)(ts:List V)(en:Bool)(efs:List (Nat×V)):Prop:=(∃fs,t=AQ fs)∧∀r,C9 (AX (L+2)) (EV (Bl (AX (L+2))) FI) (.bool en) (sB t (ts++AQ efs::r) s0 z [] [])=.ex Ab
theorem kT{L:Nat} {t:V} {ts:List V} {en:Bool}(f:CG t=true)(p:Yd L s z t ts en efs):RI L s s z t ts en efs:=by
 refine Fi (first_s f) fun fs kd vl z3q J=>?_;subst z3q;refine⟨⟨fs,rfl⟩,fun r=>?_⟩;refine LK (p en (.bool false) true 9 [] r rfl (Nat.zero_le _) rfl) fun b' acc' z' G' c e=>?_;exact⟨_,_,_,_,YL e c⟩
theorem kQ{L:Nat} {t:V} {ts:List V} {en:Bool}(f:CG t=true)(p:aQ L s z t ts en efs):RH L s z t ts en efs:=by
 refine Fi (first_s f) fun fs kd vl z3q J=>?_;subst z3q;exact⟨⟨fs,rfl⟩,fun r=>YK (p en (.bool false) true 9 [] r rfl)⟩
theorem O3(k:Nat)(vs:List V)(h:HA):(AX (k+1)).Bt vs h=JP (AX k) vs h:=by kernel_rfl
theorem Xo{L:Nat} {t:V} {ts:List V}(p:RI L s s' z t ts false efs)(r:List V):∃z',fX ((AX (L+3)).Bt [.par,.bool false] (hF t (ts++AQ efs::r) s z)) (hF (AQ efs) r s' z'):=by
 obtain⟨⟨fs,rfl⟩,p⟩:=p;refine aW (p r) fun acc z' G' lo e=>?_;exact⟨z',acc,[],[],(O3 (L+2) _ _).trans (YO e)⟩
theorem Xp{L:Nat} {t:V} {ts:List V}(p:RH L s z t ts false efs)(r:List V):(AX (L+3)).Bt [.par,.bool false] (hF t (ts++AQ efs::r) s z)=.ex Ab:=by
 obtain⟨⟨fs,rfl⟩,p⟩:=p;exact(O3 (L+2) _ _).trans (YQ (p r))
theorem Wl{L:Nat} {t:V} {ts:List V}(p:RI L s s' z t ts true efs)(r:List V):∃acc z',(AX (L+3)).Bt [.par,.bool true] (sB t (ts++AQ efs::r) s z [] [])=.ok (.ret (.lst acc),[]) (sB (AQ efs) r s' z' [] []):=by
 obtain⟨⟨fs,rfl⟩,p⟩:=p;refine aW (p r) fun acc z' G' lo e=>?_;exact⟨acc,z',(O3 (L+2) _ _).trans (YM e)⟩
theorem Wm{L:Nat} {t:V} {ts:List V}(p:RH L s z t ts true efs)(r:List V):(AX (L+3)).Bt [.par,.bool true] (sB t (ts++AQ efs::r) s z [] [])=.ex Ab:=by
 obtain⟨⟨fs,rfl⟩,p⟩:=p;exact(O3 (L+2) _ _).trans (YN (p r))
theorem ZT{L:Nat} {t:V} {ts:List V} {en:Bool}(f:CG t=true)(E:RG en efs)(e:∀r,∃z' G',fQ ((AX (L+2)).A6 [.par] (sB t (ts++AQ efs::r) s z [] [])) (sB (AQ efs) r s z' G' [])):Yd L s z t ts en efs:=
 au f E fun r=>let⟨z',G',fs,ρ,lo,e⟩:=e r; ⟨.inst AL fs,ρ,z',G',lo,rfl,e⟩
end
noncomputable def mE(q1 q2:V):V:=AQ [(AJ,.str [110,117,109,98,101,114]),(AG,.int (.ofNat VQ)),(AI,.int 1),(AW,.bool false),(CR,q1),(Dt,q2),(Ao,.bool false),(BK,.bool true)]
noncomputable def MI:PF:=fun J h=>.ok (.next,[]) h
noncomputable def XB(X:RA X):List (Nat×V):=match X with
 |.ok _ h=>(match h.lo with
  | [.list l]=>Nq (.ok (.ret (l.reverse.headD .none),[]) h)
  |_=> [])
 |_=> []
noncomputable abbrev pB(a k:Nat):V:=.int (.ofNat (Nat.add a k))
noncomputable abbrev us:List Nat:= [117,115,101,32,115,116,114,105,99,116]
noncomputable def hdT(j a:Nat):List (List V):=match j with
 |0=> []
 |1=> [[C7 true cU us (pB a 0) (pB a 12),C7 true Kj [59] (pB a 12) (pB a 13)]]
 |2=> [[C7 false cU us (pB a 0) (pB a 15),C7 true Kj [59] (pB a 15) (pB a 16)]]
 |3=> [[C7 true Kj [40] (pB a 0) (pB a 1),C7 true cU us (pB a 1) (pB a 13),C7 true Kj [41] (pB a 13) (pB a 14),C7 true Kj [59] (pB a 14) (pB a 15)]]
 |4=> [[C7 true cU [97] (pB a 0) (pB a 3),C7 true Kj [59] (pB a 3) (pB a 4)],[C7 true cU us (pB a 5) (pB a 17),C7 true Kj [59] (pB a 17) (pB a 18)]]
 |5=> [[C7 true cU us (pB a 0) (pB a 12),C7 true Kj [43] (pB a 13) (pB a 14),mE (pB a 15) (pB a 16),C7 true Kj [59] (pB a 16) (pB a 17)]]
 |_=> [[C7 true F8 [102] (pB a 0) (pB a 1),C7 true Kj [40] (pB a 1) (pB a 2),C7 true Kj [41] (pB a 2) (pB a 3),C7 true Kj [59] (pB a 3) (pB a 4)],[C7 true cU us (pB a 5) (pB a 17),C7 true Kj [59] (pB a 17) (pB a 18)]]
noncomputable def bR(j:Nat):Bool:=Nat.beq j 1||Nat.beq j 4
def UE(L:Nat)(en:Bool)(T:List V)(s s':Bool)(z:Int):Prop:=∀fs r,∃(m:Nat) (b':Bool) (acc:List V),acc.length≤5∧acc.all cN=true∧match T with
 |t::ts=>BL (AX (L+2)) FI (.bool en) (.bool false) true (sB t (ts++AQ fs::r) s z [] [.list []])=BL (AX (L+2)) (m+3) (.bool en) (.bool false) b' (sB (AQ fs) r s' z [] [.list acc])
 | []=>False
section
variable{k:Nat} {a:Nat} {fs:List (Nat×V)} {r:List V} {z:Int} {P:PF} {en:Bool}
noncomputable abbrev ET(k:Nat)(P:PF)(en b:Bool)(T:List V)(fs:List (Nat×V))(r:List V)(z:Int)(acc:List V):RA X:=match T with
 |t::ts=>Bl (AX (k+40)) P [.bool en,.ref 0,.bool false,.bool b] (sB t (ts++AQ fs::r) false z [] [.list acc])
 | []=>.no
noncomputable abbrev HE(j i a:Nat):List V:=((hdT j a)[i]?).getD []
noncomputable abbrev L6(en b s':Bool)(P:PF)(fs:List (Nat×V))(r:List V)(z:Int)(acc:List V):RA X:=P [.bool en,.ref 0,.bool false,.bool b] (sB (AQ fs) r s' z [] [.list acc])
variable{x:List (Nat×V)}
theorem h10:ET k P en true (HE 1 0 a) fs r z []=L6 en true true P fs r z ([]++ [nF (XB (ET k MI en true (HE 1 0 a) fs r z []))]):=by cases en<;>kernel_rfl
theorem h20:ET k P en true (HE 2 0 a) fs r z []=L6 en true false P fs r z ([]++ [nF (XB (ET k MI en true (HE 2 0 a) fs r z []))]):=by cases en<;>kernel_rfl
theorem h30:ET k P en true (HE 3 0 a) fs r z []=L6 en false false P fs r z ([]++ [nF (XB (ET k MI en true (HE 3 0 a) fs r z []))]):=by cases en<;>kernel_rfl
theorem h50:ET k P en true (HE 5 0 a) fs r z []=L6 en false false P fs r z ([]++ [nF (XB (ET k MI en true (HE 5 0 a) fs r z []))]):=by cases en<;>kernel_rfl
theorem h40:ET k P en true (HE 4 0 a) fs r z []=L6 en true false P fs r z ([]++ [nF (XB (ET k MI en true (HE 4 0 a) fs r z []))]):=by cases en<;>kernel_rfl
theorem h41:ET k P en true (HE 4 1 a) fs r z [nF x]=L6 en true true P fs r z ([nF x]++ [nF (XB (ET k MI en true (HE 4 1 a) fs r z [nF x]))]):=by cases en<;>kernel_rfl
theorem h60:ET k P en true (HE 6 0 a) fs r z []=L6 en false false P fs r z ([]++ [nF (XB (ET k MI en true (HE 6 0 a) fs r z []))]):=by cases en<;>kernel_rfl
theorem h61:ET k P en false (HE 6 1 a) fs r z [nF x]=L6 en false false P fs r z ([nF x]++ [nF (XB (ET k MI en false (HE 6 1 a) fs r z [nF x]))]):=by cases en<;>kernel_rfl
theorem NR{j:Nat} {b' s':Bool} {t:V} {ts:List V}(h:∀(P:PF) (fs:List (Nat×V)) (r:List V),ET k P en true (t::ts) fs r z []=L6 en b' s' P fs r z ([]++ [nF (XB (ET k MI en true (t::ts) fs r z []))])):UE (k+38) en (t::ts) false s' z:=fun fs r=>⟨8,b',_,Nat.le_of_ble_eq_true rfl,rfl,h (EV (Bl (AX (k+40))) 11) fs r⟩
theorem TG{b1 b' s':Bool} {t u:V} {ts us:List V}(h1:∀(P:PF) (fs:List (Nat×V)) (r:List V),ET k P en true (t::ts) fs r z []=L6 en b1 false P fs r z ([]++ [nF (XB (ET k MI en true (t::ts) fs r z []))]))(h2:∀(P:PF) (fs:List (Nat×V)) (r:List V) (x:List (Nat×V)),ET k P en b1 (u::us) fs r z [nF x]=L6 en b' s' P fs r z ([nF x]++ [nF (XB (ET k MI en b1 (u::us) fs r z [nF x]))])){fu:List (Nat×V)}(hu:u=AQ fu):UE (k+38) en (t::(ts++u::us)) false s' z:=fun fs r=>by
 subst hu;obtain⟨x,y,e⟩:∃x y,BL (AX (k+40)) FI (.bool en) (.bool false) true (sB t (ts++AQ fu::(us++AQ fs::r)) false z [] [.list []])=BL (AX (k+40)) 10 (.bool en) (.bool false) b' (sB (AQ fs) r s' z [] [.list [nF x,nF y]]):=⟨_,_,(h1 (EV (Bl (AX (k+40))) 11) fu (us++AQ fs::r)).trans (h2 (EV (Bl (AX (k+40))) 10) fs r _)⟩;refine⟨7,b',[nF x,nF y],Nat.le_of_ble_eq_true rfl,rfl,?_⟩;show BL (AX (k+40)) FI _ _ _ (sB t ((ts++AQ fu::us)++AQ fs::r) false z [] [.list []])=_;rw[List.append_assoc];exact e
noncomputable abbrev f7(j a:Nat):List V:=(hdT j a).flatten
theorem Zs{j:Nat}(hj:j∈[1,2,3,4,5,6]):UE (k+38) en (f7 j a) false (bR j) z:=by
 simp only[List.mem_cons,List.not_mem_nil,or_false] at hj;rcases hj with rfl|rfl|rfl|rfl|rfl|rfl
 ·exact NR (j:=1) fun P fs r=>h10
 ·exact NR (j:=2) fun P fs r=>h20
 ·exact NR (j:=3) fun P fs r=>h30
 ·exact TG (fun P fs r=>h40) (fun P fs r x=>h41) rfl
 ·exact NR (j:=5) fun P fs r=>h50
 ·exact TG (fun P fs r=>h60) (fun P fs r x=>h61) rfl
end
def aP(L:Nat)(s:Bool)(z:Int)(T:List V)(en:Bool)(efs:List (Nat×V))(ok:Bool):Prop:=match T with
 |t::ts=>CG t=true∧(match ok with
  |true=>Yd L s z t ts en efs
  |false=>aQ L s z t ts en efs)
 | []=>False
def Hh(L:Nat)(s s':Bool)(z:Int)(T:List V)(en:Bool)(efs:List (Nat×V))(ok:Bool):Prop:=match T with
 |t::ts=>(match ok with
  |true=>RI L s s' z t ts en efs
  |false=>RH L s z t ts en efs)
 | []=>False
section
variable{L M k:Nat} {s s' en ok:Bool} {z:Int} {T H R es:List V} {efs tb:List (Nat×V)} {y1 y2 y3:V}
theorem EN(p:aP L s z T en efs ok):Hh L s s z T en efs ok:=match T,ok,p with
 |_::_,true,p=>kT p.1 p.2
 |_::_,false,p=>kQ p.1 p.2
theorem Z2{t:V}(f:CG t=true):∃fs,t=AQ fs:=let⟨fs,_,_,e,_⟩:=first_s f; ⟨fs,e⟩
theorem kR{t0:V} {hs:List V}(h0:∃fs,t0=AQ fs)(h:UE L en (t0::hs) s s' z)(p:aP L s' z T en efs ok):Hh L s s' z (t0::(hs++T)) en efs ok:=by
 cases T with
 |nil=>exact p.elim
 |cons t ts=>
  refine xA p fun f p=>?_;refine xE (Z2 f) fun fs z1q=>?_;subst z1q;refine xE h0 fun fs0 z1q=>?_;subst z1q;cases ok with
  |true=>
   refine⟨⟨fs0,rfl⟩,fun r=>?_⟩;refine A_ (h fs (ts++AQ efs::r)) fun m b' acc a1 a2 a3=>?_;refine LK (p en (.bool false) b' m acc r rfl a1 a2) fun b'' acc' z' G' c e=>?_;refine⟨acc',z',G',[.dead],YL (oc:=.bool false) (b:=b'') ?_ c⟩;rw[List.append_assoc];exact a3.trans e
  |false=>
   refine⟨⟨fs0,rfl⟩,fun r=>?_⟩;refine A_ (h fs (ts++AQ efs::r)) fun m b' acc J J a3=>?_;refine YK ?_;rw[List.append_assoc];exact a3.trans (p en (.bool false) b' m acc r rfl)
theorem Zt{j a:Nat}(hj:j∈[1,2,3,4,5,6]):∃t hs,f7 j a=t::hs∧∃fs,t=AQ fs:=by
 simp only[List.mem_cons,List.not_mem_nil,or_false] at hj;rcases hj with rfl|rfl|rfl|rfl|rfl|rfl<;>exact⟨_,_,rfl,_,rfl⟩
theorem PW{j a:Nat}(hj:j∈[1,2,3,4,5,6])(p:aP (k+38) (bR j) z T en efs ok):Hh (k+38) false (bR j) z (f7 j a++T) en efs ok:=by
 have h:=Zs (k:=k) (a:=a) (en:=en) (z:=z) hj;refine xEEA (Zt (a:=a) hj) fun t hs e ht=>?_;rw[e] at h⊢;exact kR ht h p
theorem S7{t0:V}(hk:CG t0=true)(E:RG en efs)(v:∀tb rb fe re z2,F7 V.lst nF ((AX (L+3)).Bt [.par,.bool false] (hF (AQ tb) rb s (z+1))) ((AX (M+2)).A6 [.par] (hH t0 (R++AQ tb::rb) s z)) (hF (AQ (eF false y1 y2 y3)) (es++AQ fe::re) s' z2) (hJ (AQ fe) re s z2))(p:Hh L s s' (z+1) T false (eF false y1 y2 y3) ok):aP M s z (t0::(R++(T++AQ (eF false y1 y2 y3)::es))) en efs ok:=by
 refine⟨hk,?_⟩;cases T with
 |nil=>exact p.elim
 |cons t ts=>
  have ea:∀r,(R++((t::ts)++AQ (eF false y1 y2 y3)::es))++AQ efs::r=R++t::(ts++AQ (eF false y1 y2 y3)::(es++AQ efs::r)):=fun r=>by simp only[List.append_assoc,List.cons_append]
  cases ok with
  |true=>
   obtain⟨⟨fs,rfl⟩,_⟩:=id p;refine ZT hk E fun r=>?_;refine xE (Xo p (es++AQ efs::r)) fun z2 h=>?_;refine⟨z2-1,[jm 3,.list []],?_⟩;rw[ea];exact(v fs _ efs r z2).1 h
  |false=>
   obtain⟨⟨fs,rfl⟩,_⟩:=id p;refine aw hk fun r=>?_;have h:=Xp p (es++AQ efs::r);rw[ea];exact(v fs _ efs r 0).2 _ h
end
section
variable{s s' en ok:Bool} {z:Int} {T:List V} {efs:List (Nat×V)} {a1 a2 b1 b2 c1 c2 d1 d2 e1 e2 f1 f2 g1 g2 y1 y2 y3 p0 p1 p2 p3 q1 q2 q3 r1 r2 r3 p0':V} {k:Nat}
theorem w1(E:RG en efs)(p:Hh (k+13) s s' (z+1) T false (eF false y1 y2 y3) ok):aP (k+16) s z (kS none e1 e2::([C7 true F8 [103] a1 a2,sg 40 b1 b2,sg 41 c1 c2,sg 123 d1 d2]++(T++AQ (eF false y1 y2 y3):: []))) en efs ok:=
 S7 (by kernel_rfl) E (fun tb rb fe re z2=>q_ a1 a2 b1 b2 c1 c2 d1 d2 e1 e2 tb fe rb re z z2 y1 y2 y3 s s' k) p
theorem w2(E:RG en efs)(p:Hh (k+13) s s' (z+1) T false (eF false y1 y2 y3) ok):aP (k+34) s z (kS (some false) e1 e2::([sg 40 f1 f2,kS none a1 a2,sg 40 b1 b2,sg 41 c1 c2,sg 123 d1 d2]++(T++AQ (eF false y1 y2 y3):: [kE true p1 p2 p3,kE false q1 q2 q3]))) en efs ok:=
 S7 (by kernel_rfl) E (fun tb rb fe re z2=>(j6 a1 a2 b1 b2 c1 c2 d1 d2 tb rb (kE false q1 q2 q3::AQ fe::re) z z2 y1 y2 y3 p1 p2 p3 s s' true k).tr (bh a1 a2 e1 e2 f1 f2 fe re z z2 p1 p2 p3 q1 q2 q3 s k none (.inl rfl) _)) p
theorem w3(E:RG en efs)(p:Hh (k+13) s s' (1+1) T false (eF false y1 y2 y3) ok):aP (k+28) s 1 (tR e1 e2::([kS none a1 a2,sg 40 b1 b2,sg 41 c1 c2,sg 123 d1 d2]++(T++AQ (eF false y1 y2 y3):: [kE false p1 p2 p3]))) en efs ok:=
 S7 (by kernel_rfl) E (fun tb rb fe re z2=>gY a1 a2 b1 b2 c1 c2 d1 d2 e1 e2 tb fe rb re z2 y1 y2 y3 p1 p2 p3 s s' k) p
theorem w4(E:RG en efs)(p:Hh (k+13) s s' (z+1) T false (eF false y1 y2 y3) ok):aP (k+35) s z (kS (some false) e1 e2::([sg 40 f1 f2,kS (some true) a1 a2,C7 true F8 [103,101,116] g1 g2,C7 true F8 [112] r1 r2,sg 40 b1 b2,sg 41 c1 c2,sg 123 d1 d2]++(T++AQ (eF false y1 y2 y3):: [AQ (eS 125 p0 r3 p0'),kE true p1 p2 p3,kE false q1 q2 q3]))) en efs ok:=
 S7 (by kernel_rfl) E (fun tb rb fe re z2=>eO a1 a2 b1 b2 c1 c2 d1 d2 e1 e2 f1 f2 tb fe rb re z z2 y1 y2 y3 p1 p2 p3 q1 q2 q3 g1 g2 r1 r2 p0 r3 p0' s s' k) p
end
def DP(p:List Nat×Nat×Nat)(s ok:Bool):Prop:=∀tail a,∃t ts a' l',AM (A4 A3) p.2.2 (p.1++tail) a (.int 1)=some (t::ts,tail,a',.int (.ofNat l'))∧CG t=true∧(l'=1∨l'=2∨l'=3)∧∀en q1 q2 q3 z,match ok with
 |true=>Yd 58 s z t ts en (eF en q1 q2 q3)
 |false=>aQ 58 s z t ts en (eF en q1 q2 q3)
section
variable{p:List Nat×Nat×Nat} {s:Bool} {tail:List Nat} {a:Nat} {efs:List (Nat×V)} {r:List V} {z:Int}
theorem LD{y:RA X} {w:List Nat×Nat×V} {k:Nat}(e:XP k p tail a efs r s z=some (y,w)):∃t ts,AM (A4 A3) p.2.2 (p.1++tail) a (.int 1)=some (t::ts,w)∧(CG t=true∧lX w.2.2=true)∧(AX k).A6 [.par] (sB t (ts++AQ efs::r) s z [] [])=y:=by
 unfold XP at e;cases e1:AM (A4 A3) p.2.2 (p.1++tail) a (.int 1) with
 |none=>rw[e1] at e;cases e
 |some q=>
  obtain⟨l,w'⟩:=q;rw[e1] at e;cases l with
  |nil=>cases e
  |cons t ts=>
   dsimp only at e;cases e2:CG t&&lX w'.2.2 with
   |false=>rw[e2] at e;cases e
   |true=>rw[e2] at e;clear e1;cases e;exact⟨t,ts,rfl,Bool.and_eq_true_iff.mp e2,rfl⟩
theorem bF{n:Nat}(e:lX (.int (.ofNat n))=true):n=1∨n=2∨n=3:=by
 refine xA (Bool.and_eq_true_iff.mp (show(Nat.ble 1 n&&Nat.ble n 3)=true from e)) fun a b=>?_;have:=Nat.le_of_ble_eq_true a;have:=Nat.le_of_ble_eq_true b;omega
theorem okX_some{X:XT}(e:X=FH X tail efs r s):∃v z' G lo a' l',cN v=true∧X=some (.ok (.ret v,[]) (sB (AQ efs) r s z' G lo),tail,a',.int (.ofNat l')):=by
 unfold FH at e;cases c:cN (vX X) with
 |false=>
  rw[c] at e;rw[show X=none from e] at c;cases c
 |true=>rw[c] at e;exact⟨_,_,_,_,_,_,c,e⟩
theorem Bg(H:∀en tail a r z q1 q2 q3,XP 60 p tail a (eF en q1 q2 q3) r s z=FH (XP 60 p tail a (eF en q1 q2 q3) r s z) tail (eF en q1 q2 q3) r s):DP p s true:=by
 intro tail a;refine xEEEEEEA (okX_some (H true tail a [] 0 .none .none .none)) fun v z' G lo a' l' cv e=>?_;obtain⟨t,ts,e1,⟨e2,e5⟩,-⟩:=LD e;refine⟨t,ts,a',l',e1,e2,bF e5,fun en q1 q2 q3 z=>au e2 Dr fun r=>?_⟩;refine xEEEEEEA (okX_some (H en tail a r z q1 q2 q3)) fun v z' G lo a2 l2 cv e=>?_;refine BE (LD e) fun t' ts' e3 J e4=>?_;rw[e1] at e3;clear e J;cases e3;exact⟨v,[],z',G,lo,cv,e4⟩
theorem BH(H:∀en tail a r z q1 q2 q3,XP 60 p tail a (eF en q1 q2 q3) r s z=EW (XP 60 p tail a (eF en q1 q2 q3) r s z) tail):DP p s false:=by
 intro tail a;obtain⟨t,ts,e1,⟨e2,e5⟩,-⟩:=LD (H true tail a [] 0 .none .none .none);refine⟨t,ts,_,_,e1,e2,bF e5,fun en q1 q2 q3 z=>aw e2 fun r=>?_⟩;refine BE (LD (H en tail a r z q1 q2 q3)) fun t' ts' e3 J e4=>?_;rw[e1] at e3;refine xA (List.cons.inj (Prod.mk.inj (Option.some.inj e3)).1) fun x1 x2=>?_;rw[x1,x2];exact e4
end
theorem Zj{chs chs2:List Nat} {a a2:Nat} {l:V} {n:Nat}(e:AM (A4 A3) 1 chs a l=AM (A4 A3) 1 chs2 a2 l):AM (A4 A3) (n+1) chs a l=AM (A4 A3) (n+1) chs2 a2 l:=by
 have key:∀chs a,AM (A4 A3) (n+1) chs a l=(match AM (A4 A3) 1 chs a l with
  |some q=>(match AM (A4 A3) n q.2.1 q.2.2.1 q.2.2.2 with
   |some p=>some (q.1++p.1,p.2)
   |none=>none)
  |none=>none):=fun chs a=>by
  show(match(A4 A3).JD [.lex] (hL chs a l) with
   |.ok x h=>(match x.1 with
    |.ret t=>cC (cA t&&cA h.line) none (match h.tmp with
     |none=>cO (AM (A4 A3) n (chs.drop h.at_) (Nat.add a h.at_) h.line) none fun p=>some (t::p.1,p.2)
     |some _=>none)
    |_=>none)
   |_=>none)=(match(match(A4 A3).JD [.lex] (hL chs a l) with
   |.ok x h=>(match x.1 with
    |.ret t=>cC (cA t&&cA h.line) none (match h.tmp with
     |none=>some ([t],chs.drop h.at_,Nat.add a h.at_,h.line)
     |some _=>none)
    |_=>none)
   |_=>none) with
  |some q=>(match AM (A4 A3) n q.2.1 q.2.2.1 q.2.2.2 with
   |some p=>some (q.1++p.1,p.2)
   |none=>none)
  |none=>none)
  cases(A4 A3).JD [.lex] (hL chs a l) with
  |no=>rfl
  |ex c=>rfl
  |ok x h=>
   obtain⟨fl,ρ⟩:=x;cases fl with
   |ret t=>
    dsimp only;cases cA t&&cA h.line with
    |false=>rfl
    |true=>
     cases h.tmp with
     |some _=>rfl
     |none=>
      show cO (AM (A4 A3) n (chs.drop h.at_) (Nat.add a h.at_) h.line) none (fun p=>some (t::p.1,p.2))=(match AM (A4 A3) n (chs.drop h.at_) (Nat.add a h.at_) h.line with
       |some p=>some ([t]++p.1,p.2)
       |none=>none)
      cases AM (A4 A3) n (chs.drop h.at_) (Nat.add a h.at_) h.line<;>rfl
   |_=>rfl
 rw[key,key,e]
theorem sp0(tail:List Nat)(a:Nat):fx.map (fun p=>AM (A4 A3) 1 (32::(p.1++tail)) a (.int 1))=fx.map (fun p=>AM (A4 A3) 1 (p.1++tail) (Nat.add a 1) (.int 1)):=by kernel_rfl
theorem pz0(p:List Nat×Nat×Nat)(hp:p∈fx)(s:Bool):DP p s (!s):=match s with
 |false=>Bg fun en tail a r z q1 q2 q3=>(List.cons.inj (List.map_inj_left.mp (r9 tail a r z (eF en q1 q2 q3)) p hp)).1
 |true=>BH fun en tail a r z q1 q2 q3=>(List.cons.inj (List.cons.inj (List.map_inj_left.mp (r9 tail a r z (eF en q1 q2 q3)) p hp)).2).1
theorem sp1(tail:List Nat)(a:Nat):fw.map (fun p=>AM (A4 A3) 1 (32::(p.1++tail)) a (.int 1))=fw.map (fun p=>AM (A4 A3) 1 (p.1++tail) (Nat.add a 1) (.int 1)):=by kernel_rfl
theorem pz1(p:List Nat×Nat×Nat)(hp:p∈fw)(s:Bool):DP p s (!s):=match s with
 |false=>Bg fun en tail a r z q1 q2 q3=>(List.cons.inj (List.map_inj_left.mp (r8 tail a r z (eF en q1 q2 q3)) p hp)).1
 |true=>BH fun en tail a r z q1 q2 q3=>(List.cons.inj (List.cons.inj (List.map_inj_left.mp (r8 tail a r z (eF en q1 q2 q3)) p hp)).2).1
theorem sp2(tail:List Nat)(a:Nat):ft.map (fun p=>AM (A4 A3) 1 (32::(p.1++tail)) a (.int 1))=ft.map (fun p=>AM (A4 A3) 1 (p.1++tail) (Nat.add a 1) (.int 1)):=by kernel_rfl
theorem pz2(p:List Nat×Nat×Nat)(hp:p∈ft)(s:Bool):DP p s true:=Bg fun en tail a r z q1 q2 q3=>(List.cons.inj (List.map_inj_left.mp (pf2 tail a r z s (eF en q1 q2 q3)) p hp)).1
theorem sp3(tail:List Nat)(a:Nat):fm.map (fun p=>AM (A4 A3) 1 (32::(p.1++tail)) a (.int 1))=fm.map (fun p=>AM (A4 A3) 1 (p.1++tail) (Nat.add a 1) (.int 1)):=by kernel_rfl
theorem pz3(p:List Nat×Nat×Nat)(hp:p∈fm)(s:Bool):DP p s (!s):=match s with
 |false=>Bg fun en tail a r z q1 q2 q3=>(List.cons.inj (List.map_inj_left.mp (r7 tail a r z (eF en q1 q2 q3)) p hp)).1
 |true=>BH fun en tail a r z q1 q2 q3=>(List.cons.inj (List.cons.inj (List.map_inj_left.mp (r7 tail a r z (eF en q1 q2 q3)) p hp)).2).1
theorem sp4(tail:List Nat)(a:Nat):fk.map (fun p=>AM (A4 A3) 1 (32::(p.1++tail)) a (.int 1))=fk.map (fun p=>AM (A4 A3) 1 (p.1++tail) (Nat.add a 1) (.int 1)):=by kernel_rfl
theorem pz4(p:List Nat×Nat×Nat)(hp:p∈fk)(s:Bool):DP p s true:=Bg fun en tail a r z q1 q2 q3=>(List.cons.inj (List.map_inj_left.mp (pf4 tail a r z s (eF en q1 q2 q3)) p hp)).1
theorem sp5(tail:List Nat)(a:Nat):fj.map (fun p=>AM (A4 A3) 1 (32::(p.1++tail)) a (.int 1))=fj.map (fun p=>AM (A4 A3) 1 (p.1++tail) (Nat.add a 1) (.int 1)):=by kernel_rfl
theorem pz5(p:List Nat×Nat×Nat)(hp:p∈fj)(s:Bool):DP p s true:=Bg fun en tail a r z q1 q2 q3=>(List.cons.inj (List.map_inj_left.mp (pf5 tail a r z s (eF en q1 q2 q3)) p hp)).1
theorem sp6(tail:List Nat)(a:Nat):fh.map (fun p=>AM (A4 A3) 1 (32::(p.1++tail)) a (.int 1))=fh.map (fun p=>AM (A4 A3) 1 (p.1++tail) (Nat.add a 1) (.int 1)):=by kernel_rfl
theorem pz6(p:List Nat×Nat×Nat)(hp:p∈fh)(s:Bool):DP p s (!s):=match s with
 |false=>Bg fun en tail a r z q1 q2 q3=>(List.cons.inj (List.map_inj_left.mp (r6 tail a r z (eF en q1 q2 q3)) p hp)).1
 |true=>BH fun en tail a r z q1 q2 q3=>(List.cons.inj (List.cons.inj (List.map_inj_left.mp (r6 tail a r z (eF en q1 q2 q3)) p hp)).2).1
theorem sp7(tail:List Nat)(a:Nat):fg.map (fun p=>AM (A4 A3) 1 (32::(p.1++tail)) a (.int 1))=fg.map (fun p=>AM (A4 A3) 1 (p.1++tail) (Nat.add a 1) (.int 1)):=by kernel_rfl
theorem pz7(p:List Nat×Nat×Nat)(hp:p∈fg)(s:Bool):DP p s (!s):=match s with
 |false=>Bg fun en tail a r z q1 q2 q3=>(List.cons.inj (List.map_inj_left.mp (rz tail a r z (eF en q1 q2 q3)) p hp)).1
 |true=>BH fun en tail a r z q1 q2 q3=>(List.cons.inj (List.cons.inj (List.map_inj_left.mp (rz tail a r z (eF en q1 q2 q3)) p hp)).2).1
theorem sp8(tail:List Nat)(a:Nat):ff.map (fun p=>AM (A4 A3) 1 (32::(p.1++tail)) a (.int 1))=ff.map (fun p=>AM (A4 A3) 1 (p.1++tail) (Nat.add a 1) (.int 1)):=by kernel_rfl
theorem pz8(p:List Nat×Nat×Nat)(hp:p∈ff)(s:Bool):DP p s (!s):=match s with
 |false=>Bg fun en tail a r z q1 q2 q3=>(List.cons.inj (List.map_inj_left.mp (ry tail a r z (eF en q1 q2 q3)) p hp)).1
 |true=>BH fun en tail a r z q1 q2 q3=>(List.cons.inj (List.cons.inj (List.map_inj_left.mp (ry tail a r z (eF en q1 q2 q3)) p hp)).2).1
theorem sp9(tail:List Nat)(a:Nat):fc.map (fun p=>AM (A4 A3) 1 (32::(p.1++tail)) a (.int 1))=fc.map (fun p=>AM (A4 A3) 1 (p.1++tail) (Nat.add a 1) (.int 1)):=by kernel_rfl
theorem pz9(p:List Nat×Nat×Nat)(hp:p∈fc)(s:Bool):DP p s true:=Bg fun en tail a r z q1 q2 q3=>(List.cons.inj (List.map_inj_left.mp (pf9 tail a r z s (eF en q1 q2 q3)) p hp)).1
theorem nG(tail:List Nat)(a:Nat):VO.map (fun p=>AM (A4 A3) 1 (32::(p.1++tail)) a (.int 1))=VO.map (fun p=>AM (A4 A3) 1 (p.1++tail) (Nat.add a 1) (.int 1)):=by kernel_rfl
theorem oh(p:List Nat×Nat×Nat)(hp:p∈VO)(s:Bool):DP p s true:=Bg fun en tail a r z q1 q2 q3=>(List.cons.inj (List.map_inj_left.mp (qM tail a r z s (eF en q1 q2 q3)) p hp)).1
theorem nE(tail:List Nat)(a:Nat):VN.map (fun p=>AM (A4 A3) 1 (32::(p.1++tail)) a (.int 1))=VN.map (fun p=>AM (A4 A3) 1 (p.1++tail) (Nat.add a 1) (.int 1)):=by kernel_rfl
theorem og(p:List Nat×Nat×Nat)(hp:p∈VN)(s:Bool):DP p s (!s):=match s with
 |false=>Bg fun en tail a r z q1 q2 q3=>(List.cons.inj (List.map_inj_left.mp (jE tail a r z (eF en q1 q2 q3)) p hp)).1
 |true=>BH fun en tail a r z q1 q2 q3=>(List.cons.inj (List.cons.inj (List.map_inj_left.mp (jE tail a r z (eF en q1 q2 q3)) p hp)).2).1
theorem nD(tail:List Nat)(a:Nat):VM.map (fun p=>AM (A4 A3) 1 (32::(p.1++tail)) a (.int 1))=VM.map (fun p=>AM (A4 A3) 1 (p.1++tail) (Nat.add a 1) (.int 1)):=by kernel_rfl
theorem oa(p:List Nat×Nat×Nat)(hp:p∈VM)(s:Bool):DP p s (!s):=match s with
 |false=>Bg fun en tail a r z q1 q2 q3=>(List.cons.inj (List.map_inj_left.mp (jD tail a r z (eF en q1 q2 q3)) p hp)).1
 |true=>BH fun en tail a r z q1 q2 q3=>(List.cons.inj (List.cons.inj (List.map_inj_left.mp (jD tail a r z (eF en q1 q2 q3)) p hp)).2).1
theorem nC(tail:List Nat)(a:Nat):VL.map (fun p=>AM (A4 A3) 1 (32::(p.1++tail)) a (.int 1))=VL.map (fun p=>AM (A4 A3) 1 (p.1++tail) (Nat.add a 1) (.int 1)):=by kernel_rfl
theorem oZ(p:List Nat×Nat×Nat)(hp:p∈VL)(s:Bool):DP p s (!s):=match s with
 |false=>Bg fun en tail a r z q1 q2 q3=>(List.cons.inj (List.map_inj_left.mp (jC tail a r z (eF en q1 q2 q3)) p hp)).1
 |true=>BH fun en tail a r z q1 q2 q3=>(List.cons.inj (List.cons.inj (List.map_inj_left.mp (jC tail a r z (eF en q1 q2 q3)) p hp)).2).1
theorem nB(tail:List Nat)(a:Nat):VJ.map (fun p=>AM (A4 A3) 1 (32::(p.1++tail)) a (.int 1))=VJ.map (fun p=>AM (A4 A3) 1 (p.1++tail) (Nat.add a 1) (.int 1)):=by kernel_rfl
theorem oY(p:List Nat×Nat×Nat)(hp:p∈VJ)(s:Bool):DP p s (!s):=match s with
 |false=>Bg fun en tail a r z q1 q2 q3=>(List.cons.inj (List.map_inj_left.mp (jB tail a r z (eF en q1 q2 q3)) p hp)).1
 |true=>BH fun en tail a r z q1 q2 q3=>(List.cons.inj (List.cons.inj (List.map_inj_left.mp (jB tail a r z (eF en q1 q2 q3)) p hp)).2).1
theorem nA(tail:List Nat)(a:Nat):VI.map (fun p=>AM (A4 A3) 1 (32::(p.1++tail)) a (.int 1))=VI.map (fun p=>AM (A4 A3) 1 (p.1++tail) (Nat.add a 1) (.int 1)):=by kernel_rfl
theorem oX(p:List Nat×Nat×Nat)(hp:p∈VI)(s:Bool):DP p s (!s):=match s with
 |false=>Bg fun en tail a r z q1 q2 q3=>(List.cons.inj (List.map_inj_left.mp (jA tail a r z (eF en q1 q2 q3)) p hp)).1
 |true=>BH fun en tail a r z q1 q2 q3=>(List.cons.inj (List.cons.inj (List.map_inj_left.mp (jA tail a r z (eF en q1 q2 q3)) p hp)).2).1
theorem m_(tail:List Nat)(a:Nat):VH.map (fun p=>AM (A4 A3) 1 (32::(p.1++tail)) a (.int 1))=VH.map (fun p=>AM (A4 A3) 1 (p.1++tail) (Nat.add a 1) (.int 1)):=by kernel_rfl
theorem oW(p:List Nat×Nat×Nat)(hp:p∈VH)(s:Bool):DP p s (!s):=match s with
 |false=>Bg fun en tail a r z q1 q2 q3=>(List.cons.inj (List.map_inj_left.mp (i_ tail a r z (eF en q1 q2 q3)) p hp)).1
 |true=>BH fun en tail a r z q1 q2 q3=>(List.cons.inj (List.cons.inj (List.map_inj_left.mp (i_ tail a r z (eF en q1 q2 q3)) p hp)).2).1
theorem m9(tail:List Nat)(a:Nat):VG.map (fun p=>AM (A4 A3) 1 (32::(p.1++tail)) a (.int 1))=VG.map (fun p=>AM (A4 A3) 1 (p.1++tail) (Nat.add a 1) (.int 1)):=by kernel_rfl
theorem oU(p:List Nat×Nat×Nat)(hp:p∈VG)(s:Bool):DP p s (!s):=match s with
 |false=>Bg fun en tail a r z q1 q2 q3=>(List.cons.inj (List.map_inj_left.mp (i9 tail a r z (eF en q1 q2 q3)) p hp)).1
 |true=>BH fun en tail a r z q1 q2 q3=>(List.cons.inj (List.cons.inj (List.map_inj_left.mp (i9 tail a r z (eF en q1 q2 q3)) p hp)).2).1
theorem m8(tail:List Nat)(a:Nat):VF.map (fun p=>AM (A4 A3) 1 (32::(p.1++tail)) a (.int 1))=VF.map (fun p=>AM (A4 A3) 1 (p.1++tail) (Nat.add a 1) (.int 1)):=by kernel_rfl
theorem oS(p:List Nat×Nat×Nat)(hp:p∈VF)(s:Bool):DP p s (!s):=match s with
 |false=>Bg fun en tail a r z q1 q2 q3=>match en with|true=>(List.cons.inj (List.map_inj_left.mp (ZQ tail a r z q1 q2 q3) p hp)).1|false=>(List.cons.inj (List.cons.inj (List.map_inj_left.mp (ZQ tail a r z q1 q2 q3) p hp)).2).1
 |true=>BH fun en tail a r z q1 q2 q3=>match en with|true=>(List.cons.inj (List.cons.inj (List.cons.inj (List.map_inj_left.mp (ZQ tail a r z q1 q2 q3) p hp)).2).2).1|false=>(List.cons.inj (List.cons.inj (List.cons.inj (List.cons.inj (List.map_inj_left.mp (ZQ tail a r z q1 q2 q3) p hp)).2).2).2).1
theorem m7(tail:List Nat)(a:Nat):VE.map (fun p=>AM (A4 A3) 1 (32::(p.1++tail)) a (.int 1))=VE.map (fun p=>AM (A4 A3) 1 (p.1++tail) (Nat.add a 1) (.int 1)):=by kernel_rfl
theorem oR(p:List Nat×Nat×Nat)(hp:p∈VE)(s:Bool):DP p s true:=Bg fun en tail a r z q1 q2 q3=>match en with|true=>(List.cons.inj (List.map_inj_left.mp (i8 tail a r z s q1 q2 q3) p hp)).1|false=>(List.cons.inj (List.cons.inj (List.map_inj_left.mp (i8 tail a r z s q1 q2 q3) p hp)).2).1
theorem m6(tail:List Nat)(a:Nat):VD.map (fun p=>AM (A4 A3) 1 (32::(p.1++tail)) a (.int 1))=VD.map (fun p=>AM (A4 A3) 1 (p.1++tail) (Nat.add a 1) (.int 1)):=by kernel_rfl
theorem oQ(p:List Nat×Nat×Nat)(hp:p∈VD)(s:Bool):DP p s (!s):=match s with
 |false=>Bg fun en tail a r z q1 q2 q3=>(List.cons.inj (List.map_inj_left.mp (i7 tail a r z (eF en q1 q2 q3)) p hp)).1
 |true=>BH fun en tail a r z q1 q2 q3=>(List.cons.inj (List.cons.inj (List.map_inj_left.mp (i7 tail a r z (eF en q1 q2 q3)) p hp)).2).1
theorem m5(tail:List Nat)(a:Nat):VC.map (fun p=>AM (A4 A3) 1 (32::(p.1++tail)) a (.int 1))=VC.map (fun p=>AM (A4 A3) 1 (p.1++tail) (Nat.add a 1) (.int 1)):=by kernel_rfl
theorem oP(p:List Nat×Nat×Nat)(hp:p∈VC)(s:Bool):DP p s (!s):=match s with
 |false=>Bg fun en tail a r z q1 q2 q3=>(List.cons.inj (List.map_inj_left.mp (i6 tail a r z (eF en q1 q2 q3)) p hp)).1
 |true=>BH fun en tail a r z q1 q2 q3=>(List.cons.inj (List.cons.inj (List.map_inj_left.mp (i6 tail a r z (eF en q1 q2 q3)) p hp)).2).1
theorem mz(tail:List Nat)(a:Nat):VB.map (fun p=>AM (A4 A3) 1 (32::(p.1++tail)) a (.int 1))=VB.map (fun p=>AM (A4 A3) 1 (p.1++tail) (Nat.add a 1) (.int 1)):=by kernel_rfl
theorem oO(p:List Nat×Nat×Nat)(hp:p∈VB)(s:Bool):DP p s (!s):=match s with
 |false=>Bg fun en tail a r z q1 q2 q3=>(List.cons.inj (List.map_inj_left.mp (iz tail a r z (eF en q1 q2 q3)) p hp)).1
 |true=>BH fun en tail a r z q1 q2 q3=>(List.cons.inj (List.cons.inj (List.map_inj_left.mp (iz tail a r z (eF en q1 q2 q3)) p hp)).2).1
theorem my(tail:List Nat)(a:Nat):VA.map (fun p=>AM (A4 A3) 1 (32::(p.1++tail)) a (.int 1))=VA.map (fun p=>AM (A4 A3) 1 (p.1++tail) (Nat.add a 1) (.int 1)):=by kernel_rfl
theorem oN(p:List Nat×Nat×Nat)(hp:p∈VA)(s:Bool):DP p s (!s):=match s with
 |false=>Bg fun en tail a r z q1 q2 q3=>(List.cons.inj (List.map_inj_left.mp (iy tail a r z (eF en q1 q2 q3)) p hp)).1
 |true=>BH fun en tail a r z q1 q2 q3=>(List.cons.inj (List.cons.inj (List.map_inj_left.mp (iy tail a r z (eF en q1 q2 q3)) p hp)).2).1
theorem mx(tail:List Nat)(a:Nat):U_.map (fun p=>AM (A4 A3) 1 (32::(p.1++tail)) a (.int 1))=U_.map (fun p=>AM (A4 A3) 1 (p.1++tail) (Nat.add a 1) (.int 1)):=by kernel_rfl
theorem oM(p:List Nat×Nat×Nat)(hp:p∈U_)(s:Bool):DP p s (!s):=match s with
 |false=>Bg fun en tail a r z q1 q2 q3=>(List.cons.inj (List.map_inj_left.mp (iw tail a r z (eF en q1 q2 q3)) p hp)).1
 |true=>BH fun en tail a r z q1 q2 q3=>(List.cons.inj (List.cons.inj (List.map_inj_left.mp (iw tail a r z (eF en q1 q2 q3)) p hp)).2).1
theorem mw(tail:List Nat)(a:Nat):U9.map (fun p=>AM (A4 A3) 1 (32::(p.1++tail)) a (.int 1))=U9.map (fun p=>AM (A4 A3) 1 (p.1++tail) (Nat.add a 1) (.int 1)):=by kernel_rfl
theorem oK(p:List Nat×Nat×Nat)(hp:p∈U9)(s:Bool):DP p s (!s):=match s with
 |false=>Bg fun en tail a r z q1 q2 q3=>(List.cons.inj (List.map_inj_left.mp (iu tail a r z (eF en q1 q2 q3)) p hp)).1
 |true=>BH fun en tail a r z q1 q2 q3=>(List.cons.inj (List.cons.inj (List.map_inj_left.mp (iu tail a r z (eF en q1 q2 q3)) p hp)).2).1
theorem mv(tail:List Nat)(a:Nat):U8.map (fun p=>AM (A4 A3) 1 (32::(p.1++tail)) a (.int 1))=U8.map (fun p=>AM (A4 A3) 1 (p.1++tail) (Nat.add a 1) (.int 1)):=by kernel_rfl
theorem oJ(p:List Nat×Nat×Nat)(hp:p∈U8)(s:Bool):DP p s false:=match s with
 |false=>BH fun en tail a r z q1 q2 q3=>(List.cons.inj (List.map_inj_left.mp (ir tail a r z (eF en q1 q2 q3)) p hp)).1
 |true=>BH fun en tail a r z q1 q2 q3=>(List.cons.inj (List.cons.inj (List.map_inj_left.mp (ir tail a r z (eF en q1 q2 q3)) p hp)).2).1
theorem mr(tail:List Nat)(a:Nat):U7.map (fun p=>AM (A4 A3) 1 (32::(p.1++tail)) a (.int 1))=U7.map (fun p=>AM (A4 A3) 1 (p.1++tail) (Nat.add a 1) (.int 1)):=by kernel_rfl
theorem oI(p:List Nat×Nat×Nat)(hp:p∈U7)(s:Bool):DP p s false:=match s with
 |false=>BH fun en tail a r z q1 q2 q3=>(List.cons.inj (List.map_inj_left.mp (iq tail a r z (eF en q1 q2 q3)) p hp)).1
 |true=>BH fun en tail a r z q1 q2 q3=>(List.cons.inj (List.cons.inj (List.map_inj_left.mp (iq tail a r z (eF en q1 q2 q3)) p hp)).2).1
theorem mq(tail:List Nat)(a:Nat):U6.map (fun p=>AM (A4 A3) 1 (32::(p.1++tail)) a (.int 1))=U6.map (fun p=>AM (A4 A3) 1 (p.1++tail) (Nat.add a 1) (.int 1)):=by kernel_rfl
theorem oH(p:List Nat×Nat×Nat)(hp:p∈U6)(s:Bool):DP p s true:=match s with
 |false=>Bg fun en tail a r z q1 q2 q3=>(List.cons.inj (List.map_inj_left.mp (ip tail a r z (eF en q1 q2 q3)) p hp)).1
 |true=>Bg fun en tail a r z q1 q2 q3=>(List.cons.inj (List.cons.inj (List.map_inj_left.mp (ip tail a r z (eF en q1 q2 q3)) p hp)).2).1
theorem mn(tail:List Nat)(a:Nat):U5.map (fun p=>AM (A4 A3) 1 (32::(p.1++tail)) a (.int 1))=U5.map (fun p=>AM (A4 A3) 1 (p.1++tail) (Nat.add a 1) (.int 1)):=by kernel_rfl
theorem oG(p:List Nat×Nat×Nat)(hp:p∈U5)(s:Bool):DP p s (!s):=match s with
 |false=>Bg fun en tail a r z q1 q2 q3=>(List.cons.inj (List.map_inj_left.mp (ik tail a r z (eF en q1 q2 q3)) p hp)).1
 |true=>BH fun en tail a r z q1 q2 q3=>(List.cons.inj (List.cons.inj (List.map_inj_left.mp (ik tail a r z (eF en q1 q2 q3)) p hp)).2).1
theorem mm(tail:List Nat)(a:Nat):U4.map (fun p=>AM (A4 A3) 1 (32::(p.1++tail)) a (.int 1))=U4.map (fun p=>AM (A4 A3) 1 (p.1++tail) (Nat.add a 1) (.int 1)):=by kernel_rfl
theorem oF(p:List Nat×Nat×Nat)(hp:p∈U4)(s:Bool):DP p s false:=match s with
 |false=>BH fun en tail a r z q1 q2 q3=>(List.cons.inj (List.map_inj_left.mp (ig tail a r z (eF en q1 q2 q3)) p hp)).1
 |true=>BH fun en tail a r z q1 q2 q3=>(List.cons.inj (List.cons.inj (List.map_inj_left.mp (ig tail a r z (eF en q1 q2 q3)) p hp)).2).1
theorem mj(tail:List Nat)(a:Nat):U3.map (fun p=>AM (A4 A3) 1 (32::(p.1++tail)) a (.int 1))=U3.map (fun p=>AM (A4 A3) 1 (p.1++tail) (Nat.add a 1) (.int 1)):=by kernel_rfl
theorem oE(p:List Nat×Nat×Nat)(hp:p∈U3)(s:Bool):DP p s false:=match s with
 |false=>BH fun en tail a r z q1 q2 q3=>(List.cons.inj (List.map_inj_left.mp (ic tail a r z (eF en q1 q2 q3)) p hp)).1
 |true=>BH fun en tail a r z q1 q2 q3=>(List.cons.inj (List.cons.inj (List.map_inj_left.mp (ic tail a r z (eF en q1 q2 q3)) p hp)).2).1
theorem mh(tail:List Nat)(a:Nat):U2.map (fun p=>AM (A4 A3) 1 (32::(p.1++tail)) a (.int 1))=U2.map (fun p=>AM (A4 A3) 1 (p.1++tail) (Nat.add a 1) (.int 1)):=by kernel_rfl
theorem oC(p:List Nat×Nat×Nat)(hp:p∈U2)(s:Bool):DP p s true:=Bg fun en tail a r z q1 q2 q3=>(List.cons.inj (List.map_inj_left.mp (qL tail a r z s (eF en q1 q2 q3)) p hp)).1
theorem mf(tail:List Nat)(a:Nat):U1.map (fun p=>AM (A4 A3) 1 (32::(p.1++tail)) a (.int 1))=U1.map (fun p=>AM (A4 A3) 1 (p.1++tail) (Nat.add a 1) (.int 1)):=by kernel_rfl
theorem oB(p:List Nat×Nat×Nat)(hp:p∈U1)(s:Bool):DP p s false:=BH fun en tail a r z q1 q2 q3=>(List.cons.inj (List.map_inj_left.mp (qK tail a r z s (eF en q1 q2 q3)) p hp)).1
theorem me(tail:List Nat)(a:Nat):U0.map (fun p=>AM (A4 A3) 1 (32::(p.1++tail)) a (.int 1))=U0.map (fun p=>AM (A4 A3) 1 (p.1++tail) (Nat.add a 1) (.int 1)):=by kernel_rfl
theorem n_(p:List Nat×Nat×Nat)(hp:p∈U0)(s:Bool):DP p s false:=BH fun en tail a r z q1 q2 q3=>(List.cons.inj (List.map_inj_left.mp (qJ tail a r z s (eF en q1 q2 q3)) p hp)).1
theorem mZ(tail:List Nat)(a:Nat):Uz.map (fun p=>AM (A4 A3) 1 (32::(p.1++tail)) a (.int 1))=Uz.map (fun p=>AM (A4 A3) 1 (p.1++tail) (Nat.add a 1) (.int 1)):=by kernel_rfl
theorem n9(p:List Nat×Nat×Nat)(hp:p∈Uz)(s:Bool):DP p s false:=BH fun en tail a r z q1 q2 q3=>(List.cons.inj (List.map_inj_left.mp (qI tail a r z s (eF en q1 q2 q3)) p hp)).1
theorem mY(tail:List Nat)(a:Nat):Uy.map (fun p=>AM (A4 A3) 1 (32::(p.1++tail)) a (.int 1))=Uy.map (fun p=>AM (A4 A3) 1 (p.1++tail) (Nat.add a 1) (.int 1)):=by kernel_rfl
theorem n8(p:List Nat×Nat×Nat)(hp:p∈Uy)(s:Bool):DP p s true:=Bg fun en tail a r z q1 q2 q3=>(List.cons.inj (List.map_inj_left.mp (qH tail a r z s (eF en q1 q2 q3)) p hp)).1
theorem mX(tail:List Nat)(a:Nat):Ux.map (fun p=>AM (A4 A3) 1 (32::(p.1++tail)) a (.int 1))=Ux.map (fun p=>AM (A4 A3) 1 (p.1++tail) (Nat.add a 1) (.int 1)):=by kernel_rfl
theorem n7(p:List Nat×Nat×Nat)(hp:p∈Ux)(s:Bool):DP p s false:=BH fun en tail a r z q1 q2 q3=>(List.cons.inj (List.map_inj_left.mp (qG tail a r z s (eF en q1 q2 q3)) p hp)).1
theorem mW(tail:List Nat)(a:Nat):Uw.map (fun p=>AM (A4 A3) 1 (32::(p.1++tail)) a (.int 1))=Uw.map (fun p=>AM (A4 A3) 1 (p.1++tail) (Nat.add a 1) (.int 1)):=by kernel_rfl
theorem n6(p:List Nat×Nat×Nat)(hp:p∈Uw)(s:Bool):DP p s false:=BH fun en tail a r z q1 q2 q3=>(List.cons.inj (List.map_inj_left.mp (qF tail a r z s (eF en q1 q2 q3)) p hp)).1
theorem mV(tail:List Nat)(a:Nat):Uv.map (fun p=>AM (A4 A3) 1 (32::(p.1++tail)) a (.int 1))=Uv.map (fun p=>AM (A4 A3) 1 (p.1++tail) (Nat.add a 1) (.int 1)):=by kernel_rfl
theorem n5(p:List Nat×Nat×Nat)(hp:p∈Uv)(s:Bool):DP p s false:=BH fun en tail a r z q1 q2 q3=>(List.cons.inj (List.map_inj_left.mp (qE tail a r z s (eF en q1 q2 q3)) p hp)).1
theorem mU(tail:List Nat)(a:Nat):Uu.map (fun p=>AM (A4 A3) 1 (32::(p.1++tail)) a (.int 1))=Uu.map (fun p=>AM (A4 A3) 1 (p.1++tail) (Nat.add a 1) (.int 1)):=by kernel_rfl
theorem n4(p:List Nat×Nat×Nat)(hp:p∈Uu)(s:Bool):DP p s true:=Bg fun en tail a r z q1 q2 q3=>(List.cons.inj (List.map_inj_left.mp (qD tail a r z s (eF en q1 q2 q3)) p hp)).1
theorem mT(tail:List Nat)(a:Nat):Ut.map (fun p=>AM (A4 A3) 1 (32::(p.1++tail)) a (.int 1))=Ut.map (fun p=>AM (A4 A3) 1 (p.1++tail) (Nat.add a 1) (.int 1)):=by kernel_rfl
theorem n3(p:List Nat×Nat×Nat)(hp:p∈Ut)(s:Bool):DP p s true:=Bg fun en tail a r z q1 q2 q3=>(List.cons.inj (List.map_inj_left.mp (qC tail a r z s (eF en q1 q2 q3)) p hp)).1
theorem mS(tail:List Nat)(a:Nat):Us.map (fun p=>AM (A4 A3) 1 (32::(p.1++tail)) a (.int 1))=Us.map (fun p=>AM (A4 A3) 1 (p.1++tail) (Nat.add a 1) (.int 1)):=by kernel_rfl
theorem nv(p:List Nat×Nat×Nat)(hp:p∈Us)(s:Bool):DP p s false:=BH fun en tail a r z q1 q2 q3=>(List.cons.inj (List.map_inj_left.mp (qB tail a r z s (eF en q1 q2 q3)) p hp)).1
theorem mR(tail:List Nat)(a:Nat):Ur.map (fun p=>AM (A4 A3) 1 (32::(p.1++tail)) a (.int 1))=Ur.map (fun p=>AM (A4 A3) 1 (p.1++tail) (Nat.add a 1) (.int 1)):=by kernel_rfl
theorem nr(p:List Nat×Nat×Nat)(hp:p∈Ur)(s:Bool):DP p s false:=BH fun en tail a r z q1 q2 q3=>(List.cons.inj (List.map_inj_left.mp (qA tail a r z s (eF en q1 q2 q3)) p hp)).1
theorem mQ(tail:List Nat)(a:Nat):Uq.map (fun p=>AM (A4 A3) 1 (32::(p.1++tail)) a (.int 1))=Uq.map (fun p=>AM (A4 A3) 1 (p.1++tail) (Nat.add a 1) (.int 1)):=by kernel_rfl
theorem nq(p:List Nat×Nat×Nat)(hp:p∈Uq)(s:Bool):DP p s false:=BH fun en tail a r z q1 q2 q3=>(List.cons.inj (List.map_inj_left.mp (p_ tail a r z s (eF en q1 q2 q3)) p hp)).1
theorem mP(tail:List Nat)(a:Nat):Up.map (fun p=>AM (A4 A3) 1 (32::(p.1++tail)) a (.int 1))=Up.map (fun p=>AM (A4 A3) 1 (p.1++tail) (Nat.add a 1) (.int 1)):=by kernel_rfl
theorem nj(p:List Nat×Nat×Nat)(hp:p∈Up)(s:Bool):DP p s false:=BH fun en tail a r z q1 q2 q3=>match en with|true=>(List.cons.inj (List.map_inj_left.mp (ib tail a r z s q1 q2 q3) p hp)).1|false=>(List.cons.inj (List.cons.inj (List.map_inj_left.mp (ib tail a r z s q1 q2 q3) p hp)).2).1
theorem mO(tail:List Nat)(a:Nat):Uo.map (fun p=>AM (A4 A3) 1 (32::(p.1++tail)) a (.int 1))=Uo.map (fun p=>AM (A4 A3) 1 (p.1++tail) (Nat.add a 1) (.int 1)):=by kernel_rfl
theorem ni(p:List Nat×Nat×Nat)(hp:p∈Uo)(s:Bool):DP p s false:=BH fun en tail a r z q1 q2 q3=>(List.cons.inj (List.map_inj_left.mp (pz tail a r z s (eF en q1 q2 q3)) p hp)).1
theorem mM(tail:List Nat)(a:Nat):Mv.map (fun p=>AM (A4 A3) 1 (32::(p.1++tail)) a (.int 1))=Mv.map (fun p=>AM (A4 A3) 1 (p.1++tail) (Nat.add a 1) (.int 1)):=by kernel_rfl
theorem mL(tail:List Nat)(a:Nat):Un.map (fun p=>AM (A4 A3) 1 (32::(p.1++tail)) a (.int 1))=Un.map (fun p=>AM (A4 A3) 1 (p.1++tail) (Nat.add a 1) (.int 1)):=by kernel_rfl
theorem ng(p:List Nat×Nat×Nat)(hp:p∈Un)(s:Bool):DP p s false:=BH fun en tail a r z q1 q2 q3=>(List.cons.inj (List.map_inj_left.mp (px tail a r z s (eF en q1 q2 q3)) p hp)).1
theorem mK(tail:List Nat)(a:Nat):Um.map (fun p=>AM (A4 A3) 1 (32::(p.1++tail)) a (.int 1))=Um.map (fun p=>AM (A4 A3) 1 (p.1++tail) (Nat.add a 1) (.int 1)):=by kernel_rfl
theorem na(p:List Nat×Nat×Nat)(hp:p∈Um)(s:Bool):DP p s false:=BH fun en tail a r z q1 q2 q3=>(List.cons.inj (List.map_inj_left.mp (pn tail a r z s (eF en q1 q2 q3)) p hp)).1
theorem mJ(tail:List Nat)(a:Nat):Ul.map (fun p=>AM (A4 A3) 1 (32::(p.1++tail)) a (.int 1))=Ul.map (fun p=>AM (A4 A3) 1 (p.1++tail) (Nat.add a 1) (.int 1)):=by kernel_rfl
theorem nZ(p:List Nat×Nat×Nat)(hp:p∈Ul)(s:Bool):DP p s true:=match s with
 |false=>Bg fun en tail a r z q1 q2 q3=>(List.cons.inj (List.map_inj_left.mp (iZ tail a r z (eF en q1 q2 q3)) p hp)).1
 |true=>Bg fun en tail a r z q1 q2 q3=>(List.cons.inj (List.cons.inj (List.map_inj_left.mp (iZ tail a r z (eF en q1 q2 q3)) p hp)).2).1
def fT(s:List Nat)(ts:List V):Prop:=∀W,WF W→Ye W 100 s ts 0 (.int 1)
def UG(s:List Nat):Prop:=∃(K:Nat) (t0:V) (rest acc:List V) (z:Int) (s':Bool) (efs:List (Nat×V)),K≤98∧(∃fs,t0=AQ fs)∧fT s (t0::rest)∧(AX K).Bt [.par,.bool true] (sB t0 rest false 0 [] [])=.ok (.ret (.lst acc),[]) (sB (AQ efs) [] s' z [] [])
def UH(s:List Nat):Prop:=∃(K:Nat) (t0:V) (rest:List V),K≤98∧(∃fs,t0=AQ fs)∧fT s (t0::rest)∧(AX K).Bt [.par,.bool true] (sB t0 rest false 0 [] [])=.ex Ab
theorem jY{s:List Nat} {L:Nat} {t0:V} {ts:List V} {s':Bool} {efs:List (Nat×V)} {l:List V}(hK:L+3≤98)(X:fT s l)(B:RI L false s' 0 t0 ts true efs)(E:l=t0::(ts++ [AQ efs])):UG s:=by
 obtain⟨acc,z',Y⟩:=Wl B [];subst E;exact⟨L+3,t0,_,acc,z',s',efs,hK,B.1,X,Y⟩
theorem jZ{s:List Nat} {L:Nat} {t0:V} {ts:List V} {efs:List (Nat×V)} {l:List V}(hK:L+3≤98)(X:fT s l)(B:RH L false 0 t0 ts true efs)(E:l=t0::(ts++ [AQ efs])):UH s:=by
 have Y:=Wm B [];subst E;exact⟨L+3,t0,_,hK,B.1,X,Y⟩
def FC(s:List Nat)(b:Bool):Prop:=(b=true∧UG s)∨(b=false∧UH s)
theorem d9{p:List Nat×Nat×Nat} {B:List Nat} {a:Nat} {t:V} {ts:List V} {q:List Nat×Nat×V}(sp:∀tail a,AM (A4 A3) 1 (32::(p.1++tail)) a (.int 1)=AM (A4 A3) 1 (p.1++tail) (Nat.add a 1) (.int 1))(e:AM (A4 A3) p.2.2 (p.1++B) (Nat.add a 1) (.int 1)=some (t::ts,q)):AM (A4 A3) p.2.2 (32::(p.1++B)) a (.int 1)=some (t::ts,q):=by
 obtain⟨c,u,n⟩:=p;cases n with
 |zero=>cases e
 |succ n=>exact(Zj (sp B a)).trans e
noncomputable def lg(k:Nat)(t:V)(r:List V)(s:Bool)(z:Int):RA X:=(AX k).A6 [.par] (sB t r s z [] [])
noncomputable def lS(X:RA X)(t:V)(r:List V)(s:Bool)(z:Int):RA Mn.X:=match cN (vX (some (X,[],0,.none))) with
 |true=>.ok (.ret (vX (some (X,[],0,.none))),[]) (sB t r s z [] (hX (some (X,[],0,.none))).lo)
 |false=>.no
noncomputable def tokN(n:Nat)(p:List Nat×Nat×Nat)(tail:List Nat)(a:Nat):V:=match AM (A4 A3) p.2.2 (p.1++tail) a (.int 1) with
 |some q=>(q.1[n]?).getD .none
 |none=>.none
noncomputable def lin(p:List Nat×Nat×Nat)(tail:List Nat)(a:Nat):Nat×Nat:=match AM (A4 A3) p.2.2 (p.1++tail) a (.int 1) with
 |some q=>(q.2.2.1,qi q.2.2.2)
 |none=>(0,0)
noncomputable def rQ(p:List Nat×Nat×Nat)(tail:List Nat)(a:Nat)(R:List V)(s:Bool)(z:Int):RA X:=lg 60 (tokN 0 p tail a) (tokN 1 p tail a::R) s z
noncomputable def rP(p:List Nat×Nat×Nat)(tail:List Nat)(a:Nat)(efs:List (Nat×V))(r:List V)(s:Bool)(z:Int):RA X:=lg 60 (tokN 1 p tail a) (tokN 2 p tail a::tokN 3 p tail a::AQ efs::r) s z
theorem q0(tail:List Nat)(a:Nat):Mv.map (fun p=>(AM (A4 A3) p.2.2 (p.1++tail) a (.int 1),CG (tokN 0 p tail a),CG (tokN 1 p tail a)))=Mv.map (fun p=>(some ([tokN 0 p tail a,tokN 1 p tail a,tokN 2 p tail a,tokN 3 p tail a],tail,(lin p tail a).1,.int (.ofNat 3)),true,true)):=by kernel_rfl
theorem q1(tail:List Nat)(a:Nat)(R:List V)(s:Bool)(z:Int):Mv.map (fun p=>rQ p tail a R s z)=Mv.map (fun p=>lS (rQ p tail a R s z) (tokN 1 p tail a) R s z):=by kernel_rfl
theorem q2(tail:List Nat)(a:Nat)(efs:List (Nat×V))(r:List V)(s:Bool)(z:Int):Mv.map (fun p=>rP p tail a efs r s z)=Mv.map (fun p=>lS (rP p tail a efs r s z) (AQ efs) r s z):=by kernel_rfl
theorem okE_s{X:RA X} {t:V} {r:List V} {s:Bool} {z:Int}(e:X=lS X t r s z):∃v lo,cN v=true∧X=.ok (.ret v,[]) (sB t r s z [] lo):=by
 unfold lS at e;cases c:cN (vX (some (X,[],0,.none))) with
 |true=>rw[c] at e;exact⟨_,_,c,e⟩
 |false=>
  rw[c] at e;rw[e] at c;cases c
theorem nh(p:List Nat×Nat×Nat)(hp:p∈Mv)(s:Bool):DP p s true:=by
 intro tail a;have E:=List.map_inj_left.mp (q0 tail a) p hp;refine xA (Prod.mk.inj E) fun E1 E2=>?_;refine xA (Prod.mk.inj E2) fun E2 E3=>?_;refine⟨_,_,_,_,E1,E2,.inr (.inr rfl),fun en q1' q2' q3 z=>?_⟩;refine xEEEAAAAA (first_s E2) fun f0 k0 v0 h0 a1 a2 a3 a4 a5=>?_;refine xEEEAAAAA (first_s E3) fun f1 k1 v1 h1 b1 b2 b3 b4 b5=>?_;intro ie oc b k acc r hi ha hc;subst hi;refine xEEA (okE_s (List.map_inj_left.mp (q1 tail a (tokN 2 p tail a::tokN 3 p tail a::AQ (eF ie q1' q2' q3)::r) s z) p hp)) fun v lo cv e1=>?_;refine xEEA (okE_s (List.map_inj_left.mp (q2 tail a (eF ie q1' q2' q3) r s z) p hp)) fun w lo2 cw e2=>?_;unfold rQ lg at e1;unfold rP lg at e2;have sh:∀{v},cN v=true→CQ v=true∧Yv v=true:=fun{v} c=>by
  have c:=(Bool.and_eq_true_iff.mp c).1
  constructor
  ·cases v with
   |tup l=>cases c
   |_=>exact c
  ·cases v<;>first|rfl|cases c
 rw[h0] at e1⊢;rw[h1] at e1 e2⊢;refine BE (Dr (en:=ie) (q1:=q1') (q2:=q2') (q3:=q3)) fun kd vl g1 g2 g3=>?_;refine⟨false,acc++ [v]++ [w],z,[],by rw[List.all_append,List.all_append,hc];simp[cv,cw],?_⟩;show BL (AX (58+2)) (k+2+1) (.bool ie) oc b (sB (AQ f0) (AQ f1::(tokN 2 p tail a::tokN 3 p tail a::AQ (eF ie q1' q2' q3)::r)) s z [] [.list acc])=_;rw[Ys (t':=AQ f1) (ρ:= []) (lo:=lo) (by rw[FA (k:=58) a1 a2,K7 a3 a5]) (.inr fun h=>by rw[a1];show some (V.bool (DT k0 [116,101,120,116]))=_;rw[a4]) e1 (sh cv).1 (TZ ha) (sh cv).2];rw[Ys (t':=AQ (eF ie q1' q2' q3)) (ρ:= []) (lo:=lo2) (by rw[FA (k:=58) b1 b2,K7 b3 b5]) (.inl rfl) e2 (sh cw).1 (Nat.ble_eq_true_of_le (by rw[List.length_append];show acc.length+1+1≤1048576;omega)) (sh cw).2];exact Yr (by rw[FA (k:=58) g1 g2,g3])
def Sg(s c:List Nat)(a:Nat)(l:V)(T:List V)(c':List Nat)(a':Nat)(l':V):Prop:=∀W,WF W→s.drop a=c∧cA l=true→(s.drop a'=c'∧cA l'=true)∧∀r,Ye W 100 s r a' l'→Ye W 100 s (T++r) a l
section
variable{s c c' c'':List Nat} {a a' a'':Nat} {l l' l'':V} {T T':List V}
theorem Sg.tr(x:Sg s c a l T c' a' l')(y:Sg s c' a' l' T' c'' a'' l''):Sg s c a l (T++T') c'' a'' l'':=fun W wf h=>by
 refine xA (x W wf h) fun h1 x1=>?_;refine xA (y W wf h1) fun h2 y1=>?_;exact⟨h2,fun r hr=>by rw[List.append_assoc];exact x1 _ (y1 r hr)⟩
theorem EF{n:Nat}(hs:s.length≤1000000)(e:AM (A4 A3) n c a l=some (T,c',a',l')):Sg s c a l T c' a' l':=fun W wf h=>by
 refine Es (Oz wf hs e h.1 h.2) fun i1 i2 i3=>?_;exact⟨⟨i1,i2⟩,i3⟩
theorem Sg.all(x:Sg s s 0 (.int 1) T [] a l):fT s T:=fun W wf=>by
 refine xA (x W wf ⟨rfl,rfl⟩) fun h1 x1=>?_;have:=x1 [] h1.2
 rwa [List.append_nil] at this
end
noncomputable def sQ:List (List Nat):= [[],[39,117,115,101,32,115,116,114,105,99,116,39,59,32],[39,117,115,101,92,120,50,48,115,116,114,105,99,116,39,59,32],[40,39,117,115,101,32,115,116,114,105,99,116,39,41,59,32],[39,97,39,59,32,34,117,115,101,32,115,116,114,105,99,116,34,59,32],[39,117,115,101,32,115,116,114,105,99,116,39,32,43,32,49,59,32],[102,40,41,59,32,39,117,115,101,32,115,116,114,105,99,116,39,59,32]]
noncomputable def hd(j:Nat):List Nat:=(sQ[j%7]?).getD []
noncomputable abbrev Vz:List Nat:= [102,117,110,99,116,105,111,110,32,103,40,41,32,123,32]
noncomputable abbrev op2:List Nat:= [102,40,102,117,110,99,116,105,111,110,32,40,41,32,123,32,102,117,110,99,116,105,111,110,32,103,40,41,32,123,32]
noncomputable abbrev fz:List Nat:= [102,40,123,103,101,116,32,112,40,41,32,123,32,114,101,116,117,114,110,32,102,117,110,99,116,105,111,110,32,40,41,32,123,32]
noncomputable def EY(i j:Nat):List Nat:=match i with
 |0=>hd j
 |1=>Vz++hd j
 |2=>(match Nat.blt j 7 with|true=>op2|false=>hd j++Vz)
 |_=>hd j++fz
noncomputable abbrev Pk:List Nat:= [32,125]
noncomputable abbrev Y0:List Nat:= [32,125,32,125,41,59]
noncomputable abbrev aD:List Nat:= [32,125,59,32,125,125,41,59]
noncomputable def E7(i j:Nat):List Nat:=match i with
 |0=> []
 |1=>Pk
 |2=>(match Nat.blt j 7 with|true=>Y0|false=>Pk)
 |_=>aD
noncomputable def D0(i j:Nat):Bool:=(Nat.beq (j%7) 1||Nat.beq (j%7) 4)&&(!Nat.beq i 2||!Nat.blt j 7)
noncomputable def hdn(j:Nat):Nat:=match j with
 |1=>2
 |2=>2
 |3=>4
 |4=>4
 |5=>4
 |_=>6
theorem hdL{j:Nat}(hj:j∈[1,2,3,4,5,6])(a:Nat)(w:List Nat):AM (A4 A3) (hdn j) (hd j++w) a (.int 1)=some (f7 j a,32::w,Nat.add a (Nat.pred (hd j).length),.int 1):=by
 simp only[List.mem_cons,List.not_mem_nil,or_false] at hj;rcases hj with rfl|rfl|rfl|rfl|rfl|rfl<;>kernel_rfl
theorem qr{j:Nat}(hj:j∈[1,2,3,4,5,6])(a:Nat)(w:List Nat):AM (A4 A3) (hdn j) (32::(hd j++w)) a (.int 1)=some (f7 j (Nat.add a 1),32::w,Nat.add a (hd j).length,.int 1):=by
 simp only[List.mem_cons,List.not_mem_nil,or_false] at hj;rcases hj with rfl|rfl|rfl|rfl|rfl|rfl<;>kernel_rfl
noncomputable abbrev oT1(a:Nat):List V:= [kS none (pB a 0) (pB a 8),C7 true F8 [103] (pB a 9) (pB a 10),sg 40 (pB a 10) (pB a 11),sg 41 (pB a 11) (pB a 12),sg 123 (pB a 13) (pB a 14)]
noncomputable abbrev qY(a:Nat):List V:= [kS none (pB a 1) (pB a 9),C7 true F8 [103] (pB a 10) (pB a 11),sg 40 (pB a 11) (pB a 12),sg 41 (pB a 12) (pB a 13),sg 123 (pB a 14) (pB a 15)]
noncomputable abbrev oT2(a:Nat):List V:= [kS (some false) (pB a 0) (pB a 1),sg 40 (pB a 1) (pB a 2),kS none (pB a 2) (pB a 10),sg 40 (pB a 11) (pB a 12),sg 41 (pB a 12) (pB a 13),sg 123 (pB a 14) (pB a 15),kS none (pB a 16) (pB a 24),C7 true F8 [103] (pB a 25) (pB a 26),sg 40 (pB a 26) (pB a 27),sg 41 (pB a 27) (pB a 28),sg 123 (pB a 29) (pB a 30)]
noncomputable abbrev sD(a o:Nat):List V:= [kS (some false) (pB a o) (pB a (Nat.add o 1)),sg 40 (pB a (Nat.add o 1)) (pB a (Nat.add o 2)),kS (some true) (pB a (Nat.add o 2)) (pB a (Nat.add o 3)),C7 true F8 [103,101,116] (pB a (Nat.add o 3)) (pB a (Nat.add o 6)),C7 true F8 [112] (pB a (Nat.add o 7)) (pB a (Nat.add o 8)),sg 40 (pB a (Nat.add o 8)) (pB a (Nat.add o 9)),sg 41 (pB a (Nat.add o 9)) (pB a (Nat.add o 10)),sg 123 (pB a (Nat.add o 11)) (pB a (Nat.add o 12)),tR (pB a (Nat.add o 13)) (pB a (Nat.add o 19)),kS none (pB a (Nat.add o 20)) (pB a (Nat.add o 28)),sg 40 (pB a (Nat.add o 29)) (pB a (Nat.add o 30)),sg 41 (pB a (Nat.add o 30)) (pB a (Nat.add o 31)),sg 123 (pB a (Nat.add o 32)) (pB a (Nat.add o 33))]
section
variable(a l:Nat)(w:List Nat)
theorem qc:AM (A4 A3) 5 (Vz++w) a (.int 1)=some (oT1 a,32::w,Nat.add a 14,.int 1):=by kernel_rfl
theorem qb:AM (A4 A3) 5 (32::(Vz++w)) a (.int 1)=some (qY a,32::w,Nat.add a 15,.int 1):=by kernel_rfl
theorem o2L:AM (A4 A3) 11 (op2++w) a (.int 1)=some (oT2 a,32::w,Nat.add a 30,.int 1):=by kernel_rfl
theorem o3L:AM (A4 A3) 13 (fz++w) a (.int 1)=some (sD a 0,32::w,Nat.add a 33,.int 1):=by kernel_rfl
theorem qa:AM (A4 A3) 13 (32::(fz++w)) a (.int 1)=some (sD a 1,32::w,Nat.add a 34,.int 1):=by kernel_rfl
noncomputable abbrev Nk(l:Nat):V:=.int (.ofNat l)
noncomputable abbrev eT(b:Bool)(a i j l:Nat):V:=AQ (eF b (pB a i) (pB a j) (Nk l))
noncomputable abbrev sT(c a i j l:Nat):V:=AQ (eS c (pB a i) (pB a j) (Nk l))
theorem sb(h:l=1∨l=2∨l=3):AM (A4 A3) 1 [] a (Nk l)=some ([eT true a 0 0 l],[],Nat.add a 0,Nk l):=by rcases h with rfl|rfl|rfl<;>kernel_rfl
theorem lh(h:l=1∨l=2∨l=3):AM (A4 A3) 2 Pk a (Nk l)=some ([eT false a 1 2 l,eT true a 2 2 l],[],Nat.add a 2,Nk l):=by rcases h with rfl|rfl|rfl<;>kernel_rfl
theorem c2L(h:l=1∨l=2∨l=3):AM (A4 A3) 5 Y0 a (Nk l)=some ([eT false a 1 2 l,eT false a 3 4 l,sT 41 a 4 5 l,sT 59 a 5 6 l,eT true a 6 6 l],[],Nat.add a 6,Nk l):=by rcases h with rfl|rfl|rfl<;>kernel_rfl
theorem sZ(h:l=1∨l=2∨l=3):AM (A4 A3) 7 aD a (Nk l)=some ([eT false a 1 2 l,sT 59 a 2 3 l,eT false a 4 5 l,sT 125 a 5 6 l,sT 41 a 6 7 l,sT 59 a 7 8 l,eT true a 8 8 l],[],Nat.add a 8,Nk l):=by rcases h with rfl|rfl|rfl<;>kernel_rfl
end
theorem Z9:([0,1,2,3].all fun i=> [0,1,2,3,4,5,6,7,8,9,10,11,12,13].all fun j=>Nat.ble (EY i j).length 200&&Nat.ble (E7 i j).length 200)=true:=by kernel_rfl
noncomputable abbrev js:List Nat:= [0,1,2,3,4,5,6,7,8,9,10,11,12,13]
theorem Tz{i j:Nat}(hi:i∈[0,1,2,3])(hj:j∈js):(EY i j).length≤200∧(E7 i j).length≤200:=by
 refine xA (Bool.and_eq_true_iff.mp (List.all_eq_true.mp (List.all_eq_true.mp Z9 i hi) j hj)) fun h1 h2=>?_;exact⟨Nat.le_of_ble_eq_true h1,Nat.le_of_ble_eq_true h2⟩
abbrev rU(p:List Nat×Nat×Nat):Prop:=∀tail a,AM (A4 A3) 1 (32::(p.1++tail)) a (.int 1)=AM (A4 A3) 1 (p.1++tail) (Nat.add a 1) (.int 1)
abbrev V2(i j:Nat):Prop:=∀(p:List Nat×Nat×Nat) (ok:Bool),p.1.length≤500→DP p (D0 i j) ok→rU p→FC (EY i j++(p.1++E7 i j)) ok
section
variable{p:List Nat×Nat×Nat} {s ok:Bool} {tx B:List Nat} {TA:List V} {aA:Nat}
theorem bU{L:Nat} {T:List V} {s':Bool} {efs:List (Nat×V)} {a:Nat} {l:V}(hK:L+3≤98)(X:Sg tx tx 0 (.int 1) (T++ [AQ efs]) [] a l)(Bd:Hh L false s' 0 T true efs ok):FC tx ok:=by
 cases T with
 |nil=>exact Bd.elim
 |cons t ts=>
  cases ok with
  |true=>exact .inl ⟨rfl,jY hK X.all Bd rfl⟩
  |false=>exact .inr ⟨rfl,jZ hK X.all Bd rfl⟩
theorem go(hs:tx.length≤1000000)(P:DP p s ok)(sp:rU p)(XA:Sg tx tx 0 (.int 1) TA (32::(p.1++B)) aA (.int 1))(K:∀(T:List V) (a' l':Nat),(l'=1∨l'=2∨l'=3)→(∀en q1 q2 q3 z,aP 58 s z T en (eF en q1 q2 q3) ok)→∃n TB aB lB L s' T' efs,AM (A4 A3) n B a' (Nk l')=some (TB,[],aB,lB)∧L+3≤98∧Hh L false s' 0 T' true efs ok∧TA++T++TB=T'++ [AQ efs]):FC tx ok:=by
 refine GD (P B (Nat.add aA 1)) fun t ts a' l' e1 f hl' k=>?_;have e1:=d9 sp e1;obtain⟨n,TB,aB,lB,L,s',T',efs,h1,h2,h3,h4⟩:=K (t::ts) a' l' hl' fun en q1 q2 q3 z=>⟨f,by clear P K;cases ok<;>exact k en q1 q2 q3 z⟩;exact bU h2 (h4▸(XA.tr (EF hs e1)).tr (EF hs h1)) h3
end
theorem Iq{i j:Nat} {p:List Nat×Nat×Nat}(hi:i∈[0,1,2,3])(hj:j∈js)(hp:p.1.length≤500):(EY i j++(p.1++E7 i j)).length≤1000000:=by
 refine xA (Tz hi hj) fun h1 h2=>?_;rw[List.length_append,List.length_append];omega
theorem kG:V2 0 0:=fun p ok hl P sp=>by
 have hs:=Iq (i:=0) (j:=0) (p:=p) (by decide) (by decide) hl;refine GD (P [] 0) fun t ts a' l' e1 f hl' k=>?_;have X:=(EF (l:=.int 1) hs e1).tr (EF hs (sb a' l' hl'));exact bU (L:=58) (by decide) X (EN ⟨f,by cases ok<;>exact k true (pB a' 0) (pB a' 0) (Nk l') 0⟩)
theorem Kw{j:Nat}(hj:j∈[1,2,3,4,5,6])(h0:j∈js)(es:D0 0 j=bR j):V2 0 j:=fun p ok hl P sp=>by
 have hs:=Iq (i:=0) (j:=j) (p:=p) (by decide) h0 hl;have eA:EY 0 j++(p.1++E7 0 j)=hd j++(p.1++ []):=rfl;refine go hs (es▸P) sp (EF hs (hdL hj 0 (p.1++ []))) fun T a' l' h PT=>⟨1,_,_,_,58,bR j,f7 j 0++T,_,sb a' l' h,by decide,PW (k:=20) hj (PT _ _ _ _ _),rfl⟩
theorem kD:V2 1 0:=fun p ok hl P sp=>by
 have hs:=Iq (i:=1) (j:=0) (p:=p) (by decide) (by decide) hl;exact go hs P sp (EF hs (qc 0 (p.1++Pk))) fun T a' l' h PT=>⟨2,_,_,_,61,_,_,_,lh a' l' h,by decide,EN (w1 (k:=45) Dr (EN (PT _ _ _ _ _))),by simp only[List.append_assoc,List.cons_append,List.nil_append]<;>rfl⟩
theorem Kv{j:Nat}(hj:j∈[1,2,3,4,5,6])(h0:j∈js)(es:D0 1 j=bR j):V2 1 j:=fun p ok hl P sp=>by
 have hs:=Iq (i:=1) (j:=j) (p:=p) (by decide) h0 hl;have eA:EY 1 j++(p.1++E7 1 j)=Vz++(hd j++(p.1++Pk)):=List.append_assoc Vz (hd j) _;rw[eA] at hs⊢;have X:=(EF hs (qc 0 (hd j++(p.1++Pk)))).tr (EF hs (qr hj 14 (p.1++Pk)));exact go hs (es▸P) sp X fun T a' l' h PT=>⟨2,_,_,_,61,_,_,_,lh a' l' h,by decide,EN (w1 (k:=45) Dr (PW (k:=20) (a:=15) hj (PT _ _ _ _ _))),by simp only[List.append_assoc,List.cons_append,List.nil_append]<;>rfl⟩
theorem Sf{j:Nat}(h0:j∈js)(h7:Nat.blt j 7=true):V2 2 j:=fun p ok hl P sp=>by
 have hs:=Iq (i:=2) (j:=j) (p:=p) (by decide) h0 hl;have eA:EY 2 j=op2:=by show(match Nat.blt j 7 with|true=>op2|false=>hd j++Vz)=_;rw[h7]
 have eB:E7 2 j=Y0:=by show(match Nat.blt j 7 with|true=>Y0|false=>Pk)=_;rw[h7]
 have eS:D0 2 j=false:=by show((Nat.beq (j%7) 1||Nat.beq (j%7) 4)&&(!Nat.beq 2 2||!Nat.blt j 7))=false;rw[h7];exact Bool.and_false _
 rw[eA,eB] at hs⊢;rw[eS] at P;exact go hs P sp (EF hs (o2L 0 (p.1++Y0))) fun T a' l' h PT=>⟨5,_,_,_,82,_,_,_,c2L a' l' h,by decide,EN (w2 (k:=48) (p1:=pB a' 4) (p2:=pB a' 5) (p3:=Nk l') (q1:=pB a' 5) (q2:=pB a' 6) (q3:=Nk l') Dr (EN (w1 (k:=45) Dr (EN (PT _ _ _ _ _))))),by simp only[List.append_assoc,List.cons_append,List.nil_append]<;>rfl⟩
theorem kC{j:Nat}(h0:j∈js)(h7:Nat.blt j 7=false)(hd0:hd j= [])(es:D0 2 j=false):V2 2 j:=fun p ok hl P sp=>by
 have hs:=Iq (i:=2) (j:=j) (p:=p) (by decide) h0 hl;have eA:EY 2 j=Vz:=by show(match Nat.blt j 7 with|true=>op2|false=>hd j++Vz)=_;rw[h7,hd0];rfl
 have eB:E7 2 j=Pk:=by show(match Nat.blt j 7 with|true=>Y0|false=>Pk)=_;rw[h7]
 rw[eA,eB] at hs⊢;rw[es] at P;exact go hs P sp (EF hs (qc 0 (p.1++Pk))) fun T a' l' h PT=>⟨2,_,_,_,61,_,_,_,lh a' l' h,by decide,EN (w1 (k:=45) Dr (EN (PT _ _ _ _ _))),by simp only[List.append_assoc,List.cons_append,List.nil_append]<;>rfl⟩
theorem Nr{j g:Nat}(h0:j∈js)(h7:Nat.blt j 7=false)(hg:g∈[1,2,3,4,5,6])(e:hd j=hd g)(es:D0 2 j=bR g):V2 2 j:=fun p ok hl P sp=>by
 have hs:=Iq (i:=2) (j:=j) (p:=p) (by decide) h0 hl;have eA:EY 2 j=hd g++Vz:=by show(match Nat.blt j 7 with|true=>op2|false=>hd j++Vz)=_;rw[h7,e]
 have eB:E7 2 j=Pk:=by show(match Nat.blt j 7 with|true=>Y0|false=>Pk)=_;rw[h7]
 rw[eA,eB,List.append_assoc] at hs⊢;rw[es] at P;have X:=(EF hs (hdL hg 0 (Vz++(p.1++Pk)))).tr (EF hs (qb _ (p.1++Pk)));exact go hs P sp X fun T a' l' h PT=>⟨2,_,_,_,61,_,_,_,lh a' l' h,by decide,PW (k:=23) (a:=0) hg (w1 (k:=45) Dr (EN (PT _ _ _ _ _))),by simp only[List.append_assoc,List.cons_append,List.nil_append]<;>rfl⟩
theorem kB:V2 3 0:=fun p ok hl P sp=>by
 have hs:=Iq (i:=3) (j:=0) (p:=p) (by decide) (by decide) hl;exact go hs P sp (EF hs (o3L 0 (p.1++aD))) fun T a' l' h PT=>⟨7,_,_,_,95,_,_,_,sZ a' l' h,by decide,EN (w4 (k:=60) (p1:=pB a' 6) (p2:=pB a' 7) (p3:=Nk l') (q1:=pB a' 7) (q2:=pB a' 8) (q3:=Nk l') Dr (EN (w3 (k:=45) (p1:=pB a' 2) (p2:=pB a' 3) (p3:=Nk l') Dr (EN (PT _ _ _ _ _))))),by simp only[List.append_assoc,List.cons_append,List.nil_append]<;>rfl⟩
theorem Ku{j:Nat}(hj:j∈[1,2,3,4,5,6])(h0:j∈js)(es:D0 3 j=bR j):V2 3 j:=fun p ok hl P sp=>by
 have hs:=Iq (i:=3) (j:=j) (p:=p) (by decide) h0 hl;have eA:EY 3 j++(p.1++E7 3 j)=hd j++(fz++(p.1++aD)):=List.append_assoc (hd j) fz _;rw[eA] at hs⊢;have X:=(EF hs (hdL hj 0 (fz++(p.1++aD)))).tr (EF hs (qa _ (p.1++aD)));exact go hs (es▸P) sp X fun T a' l' h PT=>⟨7,_,_,_,95,_,_,_,sZ a' l' h,by decide,PW (k:=57) (a:=0) hj (w4 (k:=60) (p1:=pB a' 6) (p2:=pB a' 7) (p3:=Nk l') (q1:=pB a' 7) (q2:=pB a' 8) (q3:=Nk l') Dr (EN (w3 (k:=45) (p1:=pB a' 2) (p2:=pB a' 3) (p3:=Nk l') Dr (EN (PT _ _ _ _ _))))),by simp only[List.append_assoc,List.cons_append,List.nil_append]<;>rfl⟩
end Mn
namespace Mn
open PySem PySem.W PySem.Calls PyProof.Rows PySem.SeqAt PySem.MeetsSeq
noncomputable abbrev DS(s:List Nat)(a:Nat)(l:V):Ob:=.inst kL [(BG,.str s),(CS,.int (.ofNat a)),(AI,l)]
noncomputable abbrev Ek(t:V)(s:Bool)(z:Int):Ob:=.inst kP [(Bz,.gl 1),(Am,t),(Dc,.none),(Ad,.bool s),(De,.int z),(Dd,.gl 2),(Cf,.lv [])]
open Classical in
noncomputable def Tp(p:List V→HA→Prop)(P:PF):PF:=fun vs h=>if p vs h then P vs h else .no
abbrev ri(s:List Nat)(vs:List V)(h:HA):Prop:=vs= [.gl 1]∧h.tmp=none∧h.gl[1]? =some (DS s 0 (.int 1))
noncomputable abbrev pnR(s:List Nat)(t0:V)(a':Nat)(l':V):PF:=fun J h=>.ok (.ret t0,[]) {h with gl:=h.gl.set 1 (DS s a' l')}
noncomputable def Pn(s:List Nat)(t0:V)(a':Nat)(l':V):PF:=Tp (ri s) (pnR s t0 a' l')
abbrev sC(s:List Nat)(t0:V)(a':Nat)(l':V)(vs:List V)(h:HA):Prop:=vs= [.gl 0,.bool true]∧h.tmp=none∧h.gl= [Ek t0 false 0,DS s a' l',jm 3,.list []]
noncomputable abbrev l5:=Option (List V×V×Bool×Int)
noncomputable abbrev r_(r:l5):PF:=fun J h=>cO r (.ex Ab) fun x=>.ok (.ret (.lst x.1),[]) {h with gl:= [Ek x.2.1 x.2.2.1 x.2.2.2,.dead,jm 3,.list []]}
noncomputable def Pb(s:List Nat)(t0:V)(a':Nat)(l':V)(r:l5):PF:=Tp (sC s t0 a' l') (r_ r)
section
variable{W:Wd} {δ:Nat} {s:List Nat} {a':Nat} {l' t0:V}
theorem KG{p:List V→HA→Prop} {P:PF} {vs:List V} {h:HA}(c:p vs h):Tp p P vs h=P vs h:=if_pos c
theorem SI{md:Nat} {fn:Fn} {p:List V→HA→Prop} {P:PF}(H:∀d A l X σ f vs as R,p vs σ.h→Fa A l d→d+δ≤599→Jm W.K f fn→SR W l X σ→Md md σ→σ.h.lo= []→Q8 W X σ vs as→Np (P vs σ.h)→UL W l X σ (Dj (P vs σ.h)) R→codeAny (mo W) A (.call (.ref f) ⟨as,[]⟩) R σ.s):Fc W md δ fn (Tp p P):=fun d A l X σ f vs as R fa hd FF S M hlo hv out C=>by
 by_cases c:p vs σ.h
 ·rw[KG c] at out C
  exact H d A l X σ f vs as R c fa hd FF S M hlo hv out C
 ·have:Tp p P vs σ.h=.no:=if_neg c
  rw[this] at out;rcases out with⟨_,_,_,z⟩|⟨_,z⟩<;>cases z
noncomputable abbrev Va(σ:St)(p:AA)(s:List Nat):St:=⟨{σ.h with tmp:=none,lo:= [],gl:= []},⟨none,some p,none,[],[],some (s,0,.int 1),none,0⟩,σ.s⟩
noncomputable abbrev W_(σ σ':St)(s:List Nat)(a':Nat)(l':V):St:=⟨{σ.h with gl:=σ.h.gl.set 1 (DS s a' l'),lo:= []},σ.μ,σ'.s⟩
noncomputable def jK:Sl→Option Sl
 |.gl i=>if i=1 then some .lex else none
 |_=>none
theorem W0{sl t:Sl}(e:jK sl=some t):sl=.gl 1:=by
 cases sl with
 |gl i=>
  have e:(if i=1 then some Sl.lex else none)=some t:=e
  by_cases c:i=1
  ·rw[c]
  ·rw[if_neg c] at e;cases e
 |_=>cases e
theorem Oy{σ:St}(M:Md 0 σ){h:HA}(h1:h.tmp=none)(h2:h.lo= []){sl:Sl} {c:B5}(e:cel h σ.μ sl=some c):∃i,sl=.gl i:=by
 cases sl with
 |gl i=>exact⟨i,rfl⟩
 |par=>refine Es (Ai (show B0 (some (.inst kP (Dn h σ.μ.np))) σ.μ.par σ.μ.nlo=some c from e)) fun J e J=>?_;rw[(M.m0 rfl).1] at e;cases e
 |lex=>refine Es (Ai (show B0 (some (.inst kL (C5 h σ.μ.lx))) σ.μ.lex σ.μ.nlo=some c from e)) fun J e J=>?_;rw[(M.m0 rfl).2] at e;cases e
 |tmp=>refine xA (Ai (show B0 (h.tmp.map fun x=>.inst x.1 x.2) σ.μ.tm μ0=some c from e)) fun e J=>?_;rw[h1] at e;cases e
 |lo i=>refine xA (Ai (show B0 h.lo[i]? σ.μ.lo[i]? σ.μ.nt=some c from e)) fun e J=>?_;rw[h2] at e;simp at e
theorem Ge{h:HA} {μ:Mu} {i:Nat} {o:Ob} {p:AA}(e1:h.gl[i]? =some o)(e2:μ.gl[i]? =some p):cel h μ (.gl i)=some ⟨o,p,μ.nlo⟩:=by show B0 _ _ _=_;rw[e1,e2];rfl
theorem It{l:List Env} {X:AS} {σ:St}(S:SR W l X σ){i:Nat} {o:Ob}(e:σ.h.gl[i]? =some o):∃p,σ.μ.gl[i]? =some p:=by
 have:=S.ngl;have:=(List.getElem?_eq_some_iff.mp e).1;exact⟨_,List.getElem?_eq_getElem (by omega)⟩
theorem ZP(N:Nx W δ s 0 (.int 1) t0 a' l')(c1:cA t0=true)(c3:cA l'=true):Fc W 0 δ Jn (Pn s t0 a' l'):=SI fun d A l X σ f vs as R hc fa hd FF S M hlo hv J C=>by
 refine Es hc fun z0q ht hg=>?_;clear J hc;subst z0q;have lo0:=JT S hlo;refine xE (It S hg) fun p hp=>?_;refine BE hv.of_cons fun x q z2q h1 h2=>?_;subst z2q;unfold BC at h2;subst h2;unfold VR at h1;refine AZ h1 fun p' e z2q=>?_;subst z2q;clear h1 hv;cases hp.symm.trans e;have k:σ.cel (.gl 1)=some ⟨DS s 0 (.int 1),p,σ.μ.nlo⟩:=Ge hg hp;have far:∀{sl c},(Va σ p s).cel sl=some c→sl=.lex:=fun e=>SN (X:=X) (le:=l) (σ:=σ) rfl rfl rfl rfl e;have w:Pd W (fun J=>.gl 1) σ (Va σ p s):=⟨rfl,fun sl c1 e=>by
  cases far e;cases e.symm.trans (Bc (h:=(Va σ p s).h) (μ:=(Va σ p s).μ) rfl rfl);exact⟨_,k,fun J h=>h,fun gf g o=>DI.cl (k:=kL) o rfl⟩,fun J J J J e1 e2 J=>(far e1).trans (far e2).symm⟩
 have S1:=S.view (LX:=fun J J J J=>True) w rfl rfl rfl nofun fun J J=>trivial;refine N d A l _ (Va σ p s) f Jn p R fa hd (by kernel_rfl) FF S1 ⟨rfl,nofun,rfl,rfl,rfl,rfl,rfl⟩ rfl fun σ' b N' Fr h=>?_;have B:K5 W jK σ (Va σ p s) σ' (W_ σ σ' s a' l'):=by
  refine⟨rfl,rfl,fun a=>w.sub,fun sl c3' e3=>?_,fun s' s'' t h1 h2=>(W0 h1).trans (W0 h2).symm,.refl _,rfl,rfl,rfl,rfl,rfl,S.nt,by show 0=_;rw[lo0];rfl,by rw[List.length_set];exact S.ngl,S.tx,S.lx⟩;refine xE (Oy (h:=(W_ σ σ' s a' l').h) M ht rfl e3) fun i z1q=>?_;subst z1q
  by_cases hi:i=1
  ·subst hi
   cases e3.symm.trans (LU (o:=DS s a' l') k);exact .inr ⟨.lex,_,rfl,Bc N'.lex Fr.lx,fun J h=>h,fun gf g o=>DI.cl (k:=kL) o (JV (h:=σ'.h) (x:=(s,a',l')) c3)⟩
  ·have e:B0 (σ.h.gl.set 1 (DS s a' l'))[i]? σ.μ.gl[i]? σ.μ.nlo=some c3':=e3
   rw[JI fun z=>hi z.symm] at e;refine .inl ⟨c3',e,rfl,rfl,.refl _,fun a ha ⟨s1,c1,k1,k2⟩=>?_⟩;refine BU (w.cel s1 c1 k1) fun c k3 k4 J=>?_;have:=S.inj (.gl i) (.gl 1) _ c a e k3 ha (k4 a k2);clear e e3;cases this;exact hi rfl
 exact C.ok t0 [] (W_ σ σ' s a' l') b rfl (B.nz S N') (VR.cl (VR.mono (B.hid N') (.refl _) _ _ h) c1)
noncomputable abbrev Yy(σ:St)(p q u v:AA)(s:List Nat)(t0:V)(rest:List V)(a':Nat)(l':V):St:=⟨sB t0 rest false 0 [] [],⟨some p,some q,none,[],[u,v],some (s,a',l'),none,7⟩,σ.s⟩
noncomputable def la:Sl→Sl
 |.par=>.gl 0
 |.lex=>.gl 1
 |.gl i=>.gl (i+2)
 |s=>s
noncomputable def sR:Sl→Option Sl
 |.gl 0=>some .par
 |.gl 1=>some .lex
 |.gl (i+2)=>some (.gl i)
 |_=>none
theorem Zu{a b:Sl}(h:la a=la b):a=b:=by
 cases a<;>cases b<;>first|rfl|(cases h;done)|exact h|(have h:=Sl.gl.inj h;first|exact congrArg Sl.gl (Nat.add_right_cancel h)|omega)
theorem bV{a b:Sl}(h:sR a=some b):a=la b:=by
 cases a with
 |gl i=>match i,h with
  |0,h=>cases h;rfl
  |1,h=>cases h;rfl
  |i+2,h=>cases h;rfl
 |_=>cases h
noncomputable abbrev ZX(σ σ':St)(t:V)(b:Bool)(z:Int):St:=⟨{σ.h with gl:= [Ek t b z,.dead,jm 3,.list []],lo:= []},σ.μ,σ'.s⟩
theorem Wo{P:Params} {ca:Ca} {gf g:Hp} {m m':Mu} {p q:AA} {h:HA} {t:V} {b:Bool} {z:Int}(ct:cA t=true)(e:h=sB t h.rest b z [] h.lo)(h1:m.gl[1]? =some q)(h2:m'.lex=some q)(h3:m.gl[2]? =m'.gl[0]?):(DI P ca gf g ⟨Ek t b z,p,m⟩→DI P ca gf g ⟨.inst kP (Dn h 7),p,m'⟩)∧(DI P ca gf g ⟨.inst kP (Dn h 7),p,m'⟩→DI P ca gf g ⟨Ek t b z,p,m⟩):=by
 rw[e];refine⟨DI.rel rfl (show Rf P ca m m' [(Bz,.gl 1),(Am,t),(Dc,.none),(Ad,.bool b),(De,.int z),(Dd,.gl 2),(Cf,.lv [])] [(Bz,.lex),(Am,t),(Dc,.none),(Ad,.bool b),(De,.int z),(Dd,.gl 0),(Cf,.lv [])] from⟨⟨rfl,fun J J h=>?_⟩,⟨rfl,Vt.c rfl ct⟩,⟨rfl,Vt.c rfl rfl⟩,⟨rfl,Vt.c rfl rfl⟩,⟨rfl,Vt.c rfl rfl⟩,⟨rfl,Vt.gg fun J h=>h3▸h⟩,⟨rfl,Vt.l0⟩,trivial⟩),DI.rel rfl (show Rf P ca m' m [(Bz,.lex),(Am,t),(Dc,.none),(Ad,.bool b),(De,.int z),(Dd,.gl 0),(Cf,.lv [])] [(Bz,.gl 1),(Am,t),(Dc,.none),(Ad,.bool b),(De,.int z),(Dd,.gl 2),(Cf,.lv [])] from⟨⟨rfl,fun J J h=>?_⟩,⟨rfl,Vt.c rfl ct⟩,⟨rfl,Vt.c rfl rfl⟩,⟨rfl,Vt.c rfl rfl⟩,⟨rfl,Vt.c rfl rfl⟩,⟨rfl,Vt.gg fun J h=>h3▸h⟩,⟨rfl,Vt.l0⟩,trivial⟩)⟩
 ·unfold VR at h⊢
  refine AZ h fun r e k=>?_;cases h1.symm.trans e;exact⟨q,h2,k⟩
 ·unfold VR at h⊢
  refine AZ h fun r e k=>?_;cases h2.symm.trans e;exact⟨q,h1,k⟩
theorem ZS{P:PF} {rest:List V} {r:l5}(H:Fc (gJ W) 1 δ Ff P)(ev:P [.par,.bool true] (sB t0 rest false 0 [] [])=cO r (.ex Ab) fun x=>.ok (.ret (.lst x.1),[]) (sB x.2.1 [] x.2.2.1 x.2.2.2 [] []))(hr:∀x,r=some x→cA x.2.1=true)(L:Ye W 100 s rest a' l')(c1:cA t0=true)(c3:cA l'=true):Fc W 0 δ Ff (Pb s t0 a' l' r):=SI fun d A l X σ f vs as R hc fa hd FF S M hlo hv J C=>by
 refine Es hc fun z0q ht hg=>?_;clear hc;subst z0q;have lo0:=JT S hlo;refine xE (It S (i:=0) (o:=Ek t0 false 0) (by rw[hg];rfl)) fun p hp=>?_;refine xE (It S (i:=1) (o:=DS s a' l') (by rw[hg];rfl)) fun q hq=>?_;refine xE (It S (i:=2) (o:=jm 3) (by rw[hg];rfl)) fun u hu=>?_;refine xE (It S (i:=3) (o:=.list []) (by rw[hg];rfl)) fun v hv3=>?_;refine BE hv.of_cons fun x q1 z2q h1 h2=>?_;subst z2q;refine BE h2.of_cons fun y q2 z2q k2 h3=>?_;subst z2q;unfold BC at h3;subst h3;clear h2;cases k2.b;unfold VR at h1;refine AZ h1 fun p' e z2q=>?_;subst z2q;clear h1 hv;cases hp.symm.trans e;have k0:=Ge (h:=σ.h) (μ:=σ.μ) (i:=0) (o:=Ek t0 false 0) (by rw[hg];rfl) hp;have k1:=Ge (h:=σ.h) (μ:=σ.μ) (i:=1) (o:=DS s a' l') (by rw[hg];rfl) hq;have k2:=Ge (h:=σ.h) (μ:=σ.μ) (i:=2) (o:=jm 3) (by rw[hg];rfl) hu;have k3:=Ge (h:=σ.h) (μ:=σ.μ) (i:=3) (o:=.list []) (by rw[hg];rfl) hv3;have w:Pd W la σ (Yy σ p q u v s t0 rest a' l'):=by
  refine⟨rfl,fun sl c1' e=>?_,fun s s' c c' J J h=>Zu h⟩;cases sl with
  |par=>
   cases e.symm.trans (Df (h:=sB t0 rest false 0 [] []) (μ:=(Yy σ p q u v s t0 rest a' l').μ) rfl rfl);exact⟨_,k0,fun J h=>h,fun gf g o=>(Wo (m:=σ.μ.nlo) (m':=(Yy σ p q u v s t0 rest a' l').μ.nlo) (h:=sB t0 rest false 0 [] []) c1 rfl hq rfl hu).1 o⟩
  |lex=>
   cases e.symm.trans (Bc (h:=sB t0 rest false 0 [] []) (μ:=(Yy σ p q u v s t0 rest a' l').μ) rfl rfl);exact⟨_,k1,fun J h=>h,fun gf g o=>DI.cl (k:=kL) o (JV (h:=σ.h) (x:=(s,a',l')) c3)⟩
  |tmp=>cases e
  |lo i=>refine xA (Ai (show B0 ([]:List Ob)[i]? ([]:List AA)[i]? (Yy σ p q u v s t0 rest a' l').μ.nt=some c1' from e)) fun e J=>?_;simp at e
  |gl i=>
   refine Es (Ai (show B0 [jm 1,Ob.list []][i]? [u,v][i]? (Yy σ p q u v s t0 rest a' l').μ.nlo=some c1' from e)) fun e1 e2 e3=>?_;obtain⟨o1,p1,m1⟩:=c1';subst e3
   match i,e1,e2 with
   |0,e1,e2=>obtain rfl:jm 1=o1:=Option.some.inj e1;clear e e1;obtain rfl:u=p1:=Option.some.inj e2;exact⟨_,k2,fun J h=>h,fun gf g o=>Te (i:=3) (j:=1) (m:=σ.μ.nlo) (fun r h=>by cases hv3.symm.trans h;rfl) o⟩
   |1,e1,e2=>obtain rfl:.list []=o1:=Option.some.inj e1;clear e e1;obtain rfl:v=p1:=Option.some.inj e2;exact⟨_,k3,fun J h=>h,fun gf g o=>Ow o⟩
   |i+2,e1,_=>exact absurd e1 (by simp)
 have S1:SR (gJ W) l (Kl X σ (Yy σ p q u v s t0 rest a' l')) (Yy σ p q u v s t0 rest a' l'):=S.view (LX:=fun s a l r=>Ye W 100 s r a l) w rfl rfl rfl nofun fun x e=>by cases e;exact L
 refine H d A l _ (Yy σ p q u v s t0 rest a' l') f [.par,.bool true] [.ref p.1,.bool true] R fa hd FF S1 ⟨nofun,fun J=>⟨nofun,nofun,nofun,rfl⟩,nofun⟩ rfl (.cons (by unfold VR;exact⟨p,rfl,rfl⟩) (.cons .of_b .nil)) ?_ ⟨fun v' ρ σ' b z N h=>?_,fun c s' e' C' z hC fl=>?_⟩
 ·show Np (P [.par,.bool true] (sB t0 rest false 0 [] []))
  rw[ev];clear hr J C ev;cases r with
  |none=>exact .inr ⟨_,rfl⟩
  |some x=>exact .inl ⟨_,_,_,rfl⟩
 ·have z:Dj (P [.par,.bool true] (sB t0 rest false 0 [] []))=.ok (.ret v',ρ) σ'.h:=z
  rw[ev] at z;cases r with
  |none=>cases z
  |some x=>
   clear J ev;obtain⟨acc,t,s',z'⟩:=x;have hh:sB t [] s' z' [] []=σ'.h:=by injection z
   have hy:((Fl.ret (.lst acc),[]):Mn.X)=(.ret v',ρ):=by injection z
   clear z;cases hy;have ct:cA t=true:=hr _ rfl;have g2:σ'.μ.gl[0]? =some u:=N.gl 0 u rfl;have g3:σ'.μ.gl[1]? =some v:=N.gl 1 v rfl;have B:K5 W sR σ (Yy σ p q u v s t0 rest a' l') σ' (ZX σ σ' t s' z'):=by
    refine⟨rfl,rfl,fun a=>w.sub,fun sl c3' e3=>?_,fun s' s'' t h1 h2=>(bV h1).trans (bV h2).symm,.refl _,rfl,rfl,rfl,rfl,rfl,S.nt,by show 0=_;rw[lo0];rfl,by rw[←S.ngl,hg];rfl,S.tx,S.lx⟩;refine xE (Oy (h:=(ZX σ σ' t s' z').h) M ht rfl e3) fun i z1q=>?_;subst z1q;have up:∀(o:Ob) (p:AA),([Ek t s' z',.dead,jm 3,.list []]:List Ob)[i]? =some o→σ.μ.gl[i]? =some p→c3'=⟨o,p,σ.μ.nlo⟩:=fun o p e1 e2=>(Option.some.inj ((Ge (h:=(ZX σ σ' t s' z').h) (μ:=σ.μ) e1 e2).symm.trans e3)).symm
    match i,up,e3 with
    |0,up,_=>
     clear e3;cases up _ _ rfl hp;exact .inr ⟨.par,_,rfl,Df N.par N.np,fun J h=>h,fun gf g o=>(Wo (m:=σ.μ.nlo) (m':=σ'.μ.nlo) (h:=σ'.h) ct (by rw[←hh]) hq N.lex (hu.trans g2.symm)).2 o⟩
    |1,up,_=>
     clear e3;cases up _ _ rfl hq;obtain⟨x',ex'⟩:∃x',σ'.μ.lx=some x':=Option.isSome_iff_exists.mp N.lx;exact .inr ⟨.lex,_,rfl,Bc N.lex ex',fun J h=>h.elim,fun gf g o=>trivial⟩
    |2,up,_=>
     clear e3;cases up _ _ rfl hu;exact .inr ⟨.gl 0,_,rfl,Ge (o:=jm 1) (by rw[←hh];rfl) g2,fun J h=>h,fun gf g o=>Te (m:=σ'.μ.nlo) (i:=1) (j:=3) (fun r h=>by cases g3.symm.trans h;exact hv3) o⟩
    |3,up,_=>
     clear e3;cases up _ _ rfl hv3;exact .inr ⟨.gl 1,_,rfl,Ge (o:=.list []) (by rw[←hh];rfl) g3,fun J h=>h,fun gf g o=>Ow o⟩
    |i+4,_,e3=>
     refine xA (Ai (show B0 ([Ek t s' z',.dead,jm 3,.list []]:List Ob)[i+4]? σ.μ.gl[i+4]? σ.μ.nlo=some c3' from e3)) fun e J=>?_;simp at e
   exact C.ok (.lst acc) [] (ZX σ σ' t s' z') b rfl (B.nz S (LX:=fun s a l r=>Ye W 100 s r a l) N) (VR.mono (B.hid (LX:=fun s a l r=>Ye W 100 s r a l) N) (.refl _) _ _ (h.cl rfl))
 ·have z:Dj (P [.par,.bool true] (sB t0 rest false 0 [] []))=.ex c:=z
  rw[ev] at z;clear hr J ev;cases r with
  |some x=>cases z
  |none=>
   cases z;refine xEEA fl fun B a0 y1 y2=>?_;exact C.ex _ s' e' C' rfl hC ⟨B,a0,⟨y1.base,fun p o e hz hy n=>y1.kn p o e hz (fun q=>hy (w.sub q)) n,y1.kf,y1.os,y1.gens⟩,y2⟩
end
noncomputable abbrev T0(O1 O2:PF):Pl:=⟨[],[(Dq,O1),(EK,O2)],[Cy,DD],fG⟩
noncomputable abbrev V1(O1 O2:PF):CA:=⟨0,T0 O1 O2,gT,0,4,BW.sc,false,false⟩
noncomputable abbrev T2(O1 O2:PF):CA:=⟨0,T0 O1 O2,gT,2,4,Ag.sc,false,false⟩
noncomputable abbrev hG(gl lo:List Ob)(h:HA):HA:={h with tmp:=none,gl:=gl,lo:=lo}
noncomputable abbrev ρt(s:List Nat):Af:= [(BG,.str s),(k_self,.gl 0)]
noncomputable abbrev lW(acc:List V)(b:Bool):V:=.inst AL [(AJ,.str [80,114,111,103,114,97,109]),(AI,.int 1),(DB,.lst [.lst acc,.bool b]),(K8,.none)]
section
variable{O1 O2:PF} {s:List Nat} {h:HA} {K:Fl→Af→HA→RA X} {c m:Nat} {fs:List (Nat×V)} {l':V} {a':Nat}
noncomputable abbrev cK(n:Nat)(cx:CA)(r:List Stmt)(K:Fl→Af→HA→RA X):Fl→Af→HA→RA X:=fun x ρ h=>match x with
 |.next=>BS n cx ρ r h K
 |x=>K x ρ h
theorem prA:DQ (T0 O1 O2) 0 4 (m+2) false BW [.str s] (hG [] [] h)=Fx m (V1 O1 O2) [(BG,.str s)] (AO 0 BW.body) (hG [] [] h) (cK m (V1 O1 O2) (BW.body.drop 1) (ES 0 false)):=by kernel_rfl
theorem pr0:Fx (m+4) (V1 O1 O2) [(BG,.str s)] (AO 0 BW.body) (hG [] [] h) K=bQ m (T2 O1 O2) Ag [.gl 0,.str s] (hG [.inst kP []] [] h) fun r h=>Nc r (K .next [(CX,.gl 0),(BG,.str s)] h):=by kernel_rfl
theorem pr1{KI:V→HA→RA X}:bQ (m+3) (T2 O1 O2) Ag [.gl 0,.str s] (hG [.inst kP []] [] h) KI=Fx m (T2 O1 O2) (ρt s) (AO 0 Ag.body) (hG [.inst kP []] [] h) (cK m (T2 O1 O2) (Ag.body.drop 1) fun x ρ' h'=>bA (Jc false (.ok (x,ρ') h')) KI):=by kernel_rfl
theorem pr2:Fx 81 (T2 O1 O2) (ρt s) (AO 0 Ag.body) (hG [.inst kP []] [] h) K=K .next (ρt s) (hG [.inst kP [(Bz,.gl 1)],DS s 0 (.int 1)] [] h):=by kernel_rfl
theorem pr3:BS 81 (T2 O1 O2) (ρt s) (Ag.body.drop 1) (hG [.inst kP [(Bz,.gl 1)],DS s 0 (.int 1)] [] h) K=AB O1 [.gl 1] (hG [.inst kP [(Bz,.gl 1)],DS s 0 (.int 1)] [] h) fun v h=>oA (UW (T2 O1 O2) h (.gl 0) Am v) fun h=>BS 80 (T2 O1 O2) (ρt s) (Ag.body.drop 2) h K:=by kernel_rfl
theorem pr4:BS 80 (T2 O1 O2) (ρt s) (Ag.body.drop 2) (hG [.inst kP [(Bz,.gl 1),(Am,AQ fs)],DS s a' l'] [] h) K=K .next (ρt s) (hG [Ek (AQ fs) false 0,DS s a' l',jm 3,.list []] [.dead] h):=by kernel_rfl
theorem pr5:Fx 87 (V1 O1 O2) [(CX,.gl 0),(BG,.str s)] (AO 1 BW.body) (hG [Ek (AQ fs) false 0,DS s a' l',jm 3,.list []] [.dead] h) K=AB O2 [.gl 0,.bool true] (hG [Ek (AQ fs) false 0,DS s a' l',jm 3,.list []] [.dead] h) fun v h=>K .next [(EK,v),(CX,.gl 0),(BG,.str s)] h:=by kernel_rfl
theorem pr6{acc:List V} {t:V} {b:Bool} {z:Int}:BS 87 (V1 O1 O2) [(EK,.lst acc),(CX,.gl 0),(BG,.str s)] (BW.body.drop 2) (hG [Ek t b z,.dead,jm 3,.list []] [.dead] h) K=K (.ret (lW acc b)) [(EK,.lst acc),(CX,.gl 0),(BG,.str s)] (hG [Ek t b z,.dead,jm 3,.list []] [.dead,.dead] h):=by kernel_rfl
theorem lR:BS (m+1) (V1 O1 O2) [(CX,.gl 0),(BG,.str s)] (BW.body.drop 1) h K=Fx m (V1 O1 O2) [(CX,.gl 0),(BG,.str s)] (AO 1 BW.body) h (cK m (V1 O1 O2) (BW.body.drop 2) K):=by kernel_rfl
theorem oi{KK:HA→RA X}:oA (UW (T2 O1 O2) (hG [.inst kP [(Bz,.gl 1)],DS s a' l'] [] h) (.gl 0) Am (AQ fs)) KK=KK (hG [.inst kP [(Bz,.gl 1),(Am,AQ fs)],DS s a' l'] [] h):=by kernel_rfl
theorem prC{KK:HA→RA X} {gl lo:List Ob}:bA (Jc false (.ok (Fl.next,ρt s) (hG gl lo h))) (fun r h=>Nc r (KK h))=KK (hG gl lo h):=by kernel_rfl
theorem ZU(e1:O1 [.gl 1] (hG [.inst kP [(Bz,.gl 1)],DS s 0 (.int 1)] [] h)=.ok (.ret (AQ fs),[]) (hG [.inst kP [(Bz,.gl 1)],DS s a' l'] [] h)):DQ (T0 O1 O2) 0 4 90 false BW [.str s] (hG [] [] h)=AB O2 [.gl 0,.bool true] (hG [Ek (AQ fs) false 0,DS s a' l',jm 3,.list []] [.dead] h) fun v h=>BS 87 (V1 O1 O2) [(EK,v),(CX,.gl 0),(BG,.str s)] (BW.body.drop 2) h (ES 0 false):=by
 have a1:DQ (T0 O1 O2) 0 4 90 false BW [.str s] (hG [] [] h)=_:=prA (m:=88)
 let KA:=cK 88 (V1 O1 O2) (BW.body.drop 1) (ES 0 false)
 let KI:V→HA→RA X:=fun r h=>Nc r (KA .next [(CX,.gl 0),(BG,.str s)] h)
 let KF:Fl→Af→HA→RA X:=fun x ρ' h'=>bA (Jc false (.ok (x,ρ') h')) KI
 have a2:=pr0 (O1:=O1) (O2:=O2) (s:=s) (h:=h) (m:=84) (K:=KA);have a3:=pr1 (O1:=O1) (O2:=O2) (s:=s) (h:=h) (m:=81) (KI:=KI);have a4:=pr2 (O1:=O1) (O2:=O2) (s:=s) (h:=h) (K:=cK 81 (T2 O1 O2) (Ag.body.drop 1) KF);have a5:=pr3 (O1:=O1) (O2:=O2) (s:=s) (h:=h) (K:=KF);have a6:=E9 (K:=fun v h=>oA (UW (T2 O1 O2) h (.gl 0) Am v) fun h=>BS 80 (T2 O1 O2) (ρt s) (Ag.body.drop 2) h KF) (P:=O1) (v:=AQ fs) (h:=hG [.inst kP [(Bz,.gl 1)],DS s 0 (.int 1)] [] h) (h':=hG [.inst kP [(Bz,.gl 1)],DS s a' l'] [] h) (vs:= [.gl 1]) rfl e1 rfl;have a7:=oi (O1:=O1) (O2:=O2) (s:=s) (a':=a') (l':=l') (fs:=fs) (h:=h) (KK:=fun h=>BS 80 (T2 O1 O2) (ρt s) (Ag.body.drop 2) h KF);have a8:=pr4 (O1:=O1) (O2:=O2) (s:=s) (a':=a') (l':=l') (fs:=fs) (h:=h) (K:=KF);have a9:=prC (s:=s) (h:=h) (gl:= [Ek (AQ fs) false 0,DS s a' l',jm 3,.list []]) (lo:= [.dead]) (KK:=fun h=>KA .next [(CX,.gl 0),(BG,.str s)] h);have a10:=lR (O1:=O1) (O2:=O2) (s:=s) (h:=hG [Ek (AQ fs) false 0,DS s a' l',jm 3,.list []] [.dead] h) (m:=87) (K:=ES 0 false);have a11:=pr5 (O1:=O1) (O2:=O2) (s:=s) (a':=a') (l':=l') (fs:=fs) (h:=h) (K:=cK 87 (V1 O1 O2) (BW.body.drop 2) (ES 0 false));refine a1.trans (a2.trans (a3.trans (a4.trans (a5.trans (a6.trans (a7.trans (a8.trans (a9.trans (a10.trans a11)))))))))
end
theorem WF.lx{W:Wd} {LX:List Nat→Nat→V→List V→Prop}(wf:WF W):WF {W with LX:=LX}:=⟨wf.kin,wf.sys,wf.lim,wf.af,wf.nz,wf.cf,wf.cons,wf.fns,wf.cls,wf.meths,wf.bfs,wf.rng,wf.excs,wf.exci⟩
abbrev Wq(s:List Nat)(vs:List V)(h:HA):Prop:=vs= [.str s]∧h.tmp=none∧h.gl= []∧h.lo= []
section
variable{W:Wd} {δ:Nat} {s:List Nat} {T:Pl} {P:PF} {f:Nat} {fn:Fn}
theorem Fg.mt0(A:Fg W 0 δ T)(e:∀c g,(c=kP∨c=kL)→DR gT c f=some g→g=fn)(s:Fc W 0 δ fn P):Fg W 0 δ {T with mt:=(f,P)::T.mt}:=
 ⟨A.fn,fun f' P' e'=>Ce e' (fun z y=>⟨fn,nofun,nofun,fun J=>z▸e,y▸s⟩) fun e'=>A.mt f' P' e',A.ci,A.nxt⟩
theorem en_:∀c g,(c=kP∨c=kL)→DR gT c Dq=some g→g=Jn:=fun c g h e=>h.elim (fun z=>by
 subst z;rw[show DR gT kP Dq=none by kernel_rfl] at e;cases e) fun z=>by
 subst z;rw[show DR gT kL Dq=some Jn by kernel_rfl] at e;cases e;rfl
theorem eb_:∀c g,(c=kP∨c=kL)→DR gT c EK=some g→g=Ff:=fun c g h e=>h.elim (fun z=>by
 subst z;rw[show DR gT kP EK=some Ff by kernel_rfl] at e;cases e;rfl) fun z=>by
 subst z;rw[show DR gT kL EK=none by kernel_rfl] at e;cases e
theorem jv{h:HA}(c:h.tmp=none)(c1:h.gl= [])(c2:h.lo= []):h=hG [] [] h:=by cases h;cases c;cases c1;cases c2;rfl
theorem prD{h:HA} {acc:List V} {b:Bool} {ρ:Af} {gl lo:List Ob}:ES 0 false (.ret (lW acc b)) ρ (hG gl lo h)=.ok (.ret (lW acc b),[]) (hG gl lo h):=by kernel_rfl
theorem fJ(wf:WF W){K:Nat}(hK:K≤98):Fc (gJ W) 1 394 Ff (AX K).Bt:=by
 refine DL ((XO wf.lx dc ja K).mt EK (AX K).Bt rfl) fun fn h1 J J S=>?_;have:fn=Ff:=Option.some.inj ((h1 rfl).1.symm.trans (by kernel_rfl));clear J h1;subst this;exact S.mono (by omega)
theorem TP(wf:WF W){K:Nat} {fs:List (Nat×V)} {rest:List V} {r:l5}(hK:K≤98)(X:fT s (AQ fs::rest))(ev:(AX K).Bt [.par,.bool true] (sB (AQ fs) rest false 0 [] [])=cO r (.ex Ab) fun x=>.ok (.ret (.lst x.1),[]) (sB x.2.1 [] x.2.2.1 x.2.2.2 [] []))(hr:∀x,r=some x→cA x.2.1=true):Fc W 0 399 BW (Tp (Wq s) fun J h=>cO r (.ex Ab) fun x=>.ok (.ret (lW x.1 x.2.2.1),[]) (hG [Ek x.2.1 x.2.2.1 x.2.2.2,.dead,jm 3,.list []] [.dead,.dead] h)):=by
 refine K6 (X W wf) fun c1 c2 a' l' c3 hL NS=>?_;have A0:Fg W 0 394 ⟨[],[],[Cy,DD],fG⟩:=Fg.base (md:=0) (δ:=394) wf (by decide) nofun;have A:Fg W 0 394 (T0 (Pn s (AQ fs) a' l') (Pb s (AQ fs) a' l' r)):=(A0.mt0 eb_ (ZS (fJ wf hK) ev hr hL c2 c3)).mt0 en_ ((ZP NS c2 c3).mono (by decide));refine LR (li:=4) (n:=90) (lk:=false) wf A fun vs h=>?_
 by_cases c:Wq s vs h
 ·right
  rw[KG c];refine OI c fun z0q ht hg hl=>?_;subst z0q;rw[jv ht hg hl];have a1:=ZU (O1:=Pn s (AQ fs) a' l') (O2:=Pb s (AQ fs) a' l' r) (h:=h) (s:=s) (KG (p:=ri s) ⟨rfl,rfl,rfl⟩);have a2:=KG (p:=sC s (AQ fs) a' l') (P:=r_ r) (vs:= [.gl 0,.bool true]) (h:=hG [Ek (AQ fs) false 0,DS s a' l',jm 3,.list []] [] h) ⟨rfl,rfl,rfl⟩;refine Eq.symm (a1.trans ?_);cases r with
  |none=>exact Q1 rfl a2
  |some x=>
   clear A hr ev a1;obtain⟨acc,t,b,z⟩:=x;have a3:=E9 (P:=Pb s (AQ fs) a' l' (some (acc,t,b,z))) (v:=.lst acc) (vs:= [.gl 0,.bool true]) (h:=hG [Ek (AQ fs) false 0,DS s a' l',jm 3,.list []] [.dead] h) (h':=hG [Ek t b z,.dead,jm 3,.list []] [] h) (K:=fun v h=>BS 87 (V1 (Pn s (AQ fs) a' l') (Pb s (AQ fs) a' l' (some (acc,t,b,z)))) [(EK,v),(CX,.gl 0),(BG,.str s)] (BW.body.drop 2) h (ES 0 false)) rfl a2 rfl;have a4:=pr6 (O1:=Pn s (AQ fs) a' l') (O2:=Pb s (AQ fs) a' l' (some (acc,t,b,z))) (s:=s) (h:=h) (acc:=acc) (t:=t) (b:=b) (z:=z) (K:=ES 0 false);exact a3.trans (a4.trans prD)
 ·exact .inl (if_neg c)
theorem Nz.fresh{l:List Env} {X:AS} {σ σ':St}(S:SR W l X σ)(N:Nz W l X Z0 σ σ')(nc:∀s c,σ.cel s=some c→False):Nz W l X Z0 σ ⟨σ.h,σ.μ,σ'.s⟩:=
 ⟨⟨fun s c e=>(nc s c e).elim,fun s J c J J e=>(nc s c e).elim,fun _ ⟨s,c,e,_⟩=>(nc s c e).elim,S.nt,S.nlo,S.ngl,S.tx,S.lx,N.sr.base,N.sr.xs,N.sr.fr,N.sr.os,N.sr.gens⟩,fun J J h=>h,fun J J h=>h,fun J h=>h,rfl,rfl,rfl,rfl,rfl,N.kp,N.al,fun _ ⟨s,c,e,_⟩=>(nc s c e).elim⟩
theorem Ex.fresh{l:List Env} {X:AS} {σ:St} {s':Shared} {B:Heap}(S:SR W l X σ)(y:Ex W Z0 σ s' B)(k:B.StaysIn s'.heap)(nc:∀s c,σ.cel s=some c→False):Nz W l X Z0 σ ⟨σ.h,σ.μ,s'⟩:=by
 have ny:∀a,¬σ.Y a:=fun a ⟨s,c,e,_⟩=>nc s c e;refine⟨⟨fun s c e=>(nc s c e).elim,fun s J c J J e=>(nc s c e).elim,fun _ ⟨s,c,e,_⟩=>(nc s c e).elim,S.nt,S.nlo,S.ngl,S.tx,S.lx,fun b o e=>k b o (y.base b o e),fun a h=>?_,S.fr.nz fun p o e n=>y.kf p o e (fun h=>h) n,y.os,y.gens⟩,fun J J h=>h,fun J J h=>h,fun J h=>h,rfl,rfl,rfl,rfl,rfl,fun p o e hz hy=>⟨fun n=>k p o (y.kn p o e hz hy n),fun n=>y.kf p o e hz n⟩,fun p o e=>?_,fun _ ⟨s,c,e,_⟩=>(nc s c e).elim⟩
 ·refine BU (S.xs a h) fun o e n b=>?_
  exact⟨o,k a o (y.kn a o e (fun h=>h) (ny a) n),n,b⟩
 ·by_cases n:NF o
  ·rw[k p o (y.kn p o e (fun h=>h) (ny p) n)];nofun
  ·refine xE (y.kf p o e (fun h=>h) n) fun sl e=>?_;rw[e];nofun
noncomputable abbrev XW(b:Bool)(p:Pos)(k:Nat)(q:Pos):Stmt:=.Return (some (.Constant (.bool b) k p)) q
theorem XU:∃p1 p2 p3 p4 p5 p6 p7 p8 p9 p10 p11 k1 k2,B4.body= [.Try [.Expr (.Call (.Name "parse" p1) [.Name "text" p2] [] p3) p4] [.ExceptHandler (some (.Name "SyntaxFail" p5)) none [.Return (some (.Constant (.bool false) k1 p6)) p7] p8] [] [] p9,.Return (some (.Constant (.bool true) k2 p10)) p11]:=⟨_,_,_,_,_,_,_,_,_,_,_,_,_,rfl⟩
end
section
variable{W:Wd} {s:List Nat} {Γ:Fr} {ρ:Af} {σ:St} {Q:Flow→Shared→Prop}
theorem T4{A:Around} {E:Value→Shared→Prop} {env:Env} {b:Bool} {k:Nat} {p q:Pos} {r:List Stmt} {M:Model} {s:Shared} {Q:Flow→Shared→Prop}(h:Q (.ret (.bool b)) s):wpAny (mo W) A (execs (XW b p k q::r) env) Q E s:=by
 refine wpAny_execs_cons (wpAny_Return_some (wpAny_Constant_bool ?_));exact h
theorem YA(T:Γ.cp=false)(F:D Γ ρ σ){s':Shared} {C e:Addr} {x:Str} {np pos p q:Pos} {k:Nat} {b:Bool}(nc:∀s c,σ.cel s=some c→False)(h0:DE (B9 Γ.cx.sc.names (nk x))=true)(hC:Γ.W.ce (nk x)=some C)(fl:Ci Γ.W Γ.l Z0 σ s' C e)(go:∀s'',Nz Γ.W Γ.l Γ.X Z0 σ ⟨σ.h,σ.μ,s''⟩→Q (.ret (.bool b)) s''):
  wpAny Γ.M Γ.A (noteFrame (.ref e) Γ.env) (fun J s₂=>wpAny Γ.M Γ.A (setFlight (.ref e) none) (fun J s₃=>wpAny Γ.M Γ.A (handleBy (.ref e) Γ.env [.ExceptHandler (some (.Name x np)) none [XW b p k q] pos]) Q Γ.E s₃) Γ.E s₂) Γ.E s':=by
 refine xEEA fl fun B a0 y1 y2=>?_;have wf:=F.ok.wf;obtain⟨k1,k2,k3,fI,fi,XF⟩:=wf.excs x C hC;refine XF.cls.elim fun yy Y=>?_;have Tt:=F.ok.fits;refine wpAny_looks_onW (Tc T▸F.ok.fa.frames) (F.ok.frame T) (Tc T▸y2) fun h4 hheld4 hsm4=>?_;refine wpAny_landsW hheld4 fun h5 hheld hsm5'=>?_;have hsm5:=hsm4.trans hsm5';refine AZ hheld.there fun ob hob hobc=>?_;have base5:Γ.W.B.StaysIn h5:=fun b o z=>hheld.1 b o (y1.base b o z);refine wpAny_handleBy_cons (codeAny_handlers_test (wpAny_Name (k3 _ _ _ _ Γ.env base5 Tt.globals Tt.builtins (by rw[Tt.scope];exact Tt.kind) ?_ ?_) (by simpa using k2))) (by intro q;cases q)
 ·rw[Tt.scope];exact Ij k1 (jx h0)
 refine wpAny_excMatches_sub_self (wf.kin.keeps base5 _ _ Y.o) hob hobc (by decide+kernel) ?_;refine codeAny_handlers_suite ?_;refine lands_againW hheld fun h6 hfl6 hsm6=>T4 (M:=Γ.M) ?_;exact go _ (Ex.fresh F.S (y1.slots (s'':={s' with heap:=h6}) (hsm5.trans hsm6) rfl rfl) hfl6.1 nc)
end
set_option backward.match.sparseCases true in
theorem bG{W:Wd} {s:List Nat}(wf:WF W){R0:PF} {b:Bool}(t:V)(pr:Fc W 0 399 BW (Tp (Wq s) R0))(hR:(b=true∧∃(v:V) (f:HA→HA),∀(vs:List V) (h:HA),R0 vs h=.ok (.ret v,[]) (f h))∨(b=false∧∀(vs:List V) (h:HA),R0 vs h=.ex Ab)):Fc W 0 400 B4 (Tp (Wq s) fun J h=>.ok (.ret (.bool b),[]) {h with tok:=t}):=SI fun d A l X σ f vs as R hc fa hd FF S M hlo hv J C=>by
 refine OI hc fun z0q ht hg J=>?_;subst z0q;have nc:∀{σ':St},Md 0 σ'→σ'.h=σ.h→∀sl c,σ'.cel sl=some c→False:=fun{σ'} M e sl c z=>by
  refine xE (Oy M (by rw[e];exact ht) (by rw[e];exact hlo) z) fun i z1q=>?_;subst z1q;refine xA (Ai (show B0 σ'.h.gl[i]? σ'.μ.gl[i]? σ'.μ.nlo=some c from z)) fun z J=>?_;rw[e,hg] at z;simp at z
 have tab:Fg W 0 399 ⟨[(Im,Tp (Wq s) R0)],[],[],[]⟩:=⟨fun f Q e=>Ce e (fun z y=>⟨BW,z▸(by kernel_rfl),y▸pr⟩) nofun,nofun,nofun,nofun⟩;refine Qh (cx:=⟨0,⟨[(Im,Tp (Wq s) R0)],[],[],[]⟩,gT,0,0,B4.sc,false,false⟩) (K:=fun fl J J=>match fl with|.ret v=>.ok (.ret v,[]) σ.h|_=>.no) (res:=.ok (.ret (.bool b),[]) σ.h) (ρ:= [(BG,.str s)]) wf S M ⟨fa,Nat.le_refl _,by show d+1+399+(0-0)≤599;omega,rfl,tab⟩ FF rfl (by kernel_rfl) hv nofun ?_ (fun fl ρ σ' a v hf e N h=>?_) (fun c s' e C z=>nomatch z) (fun fl ρ h e=>by constructor<;>(intro z;subst z;cases e))
 ·intro Γ s1 T F h1 h2 h3 Q gx hx
  obtain⟨p1,p2,p3,p4,p5,p6,p7,p8,p9,p10,p11,kk1,kk2,hb⟩:=XU;have rs:Γ.res=.ok (.ret (.bool b),[]) σ.h:=h3;rw[hb];have done:∀{b' σ'},b'=b→D Γ [(BG,.str s)] σ'→Γ.N {σ with s:=s1} σ'→Q (.ret (.bool b')) σ'.s:=fun{b' σ'} e D' N=>gx (.ret (.bool b')) _ _ σ' (by rw[rs,e]) N D' ⟨_,rfl,.of_b⟩;refine wpAny_execs_cons (wpAny_Try_except (wpAny_execs_cons (wpAny_Expr_any ?_ (by unfold interactive;rw[F.ok.fits.scope,F.ok.fits.kind];rfl) (Ot rfl))))
  let EH:Value→Shared→Prop:=fun e s₁=>wpAny Γ.M Γ.A (noteFrame e Γ.env) (fun J s₂=>wpAny Γ.M Γ.A (setFlight e none) (fun J s₃=>wpAny Γ.M Γ.A (handleBy e Γ.env [.ExceptHandler (some (.Name "SyntaxFail" p5)) none [XW false p6 kk1 p7] p8]) (fun f s₁=>match f with|.next=>wpAny Γ.M Γ.A (execs [XW true p10 kk2 p11] Γ.env) Q Γ.E s₁|f=>Q f s₁) Γ.E s₃) Γ.E s₂) Γ.E s₁
  let Γ1:Fr:={Γ with E:=EH,res:=.ok (.ret (.tup [.str s]),[]) σ.h}
  have D1:D Γ1 [(BG,.str s)] {σ with s:=s1}:=⟨{F.ok with hn:=nofun,x:=fun J J J J z=>nomatch z},F.n0,F.md,F.fr,F.nm⟩;refine V_ (wf.fns "parse" BW (by kernel_rfl)) fun k1 k2 fp G FP=>?_;clear pr S C tab FF hv;subst h1;show wpAny Γ1.M Γ1.A (do let fv←eval (.Name "parse" p1) Γ1.env;callWith p3 fv [] (backTo p3 (starEach [.Name "text" p2] Γ1.env)) (backToKw p3 (keywordEach [] Γ1.env))) _ Γ1.E s1;have gl:∀x,DE (B9 B4.sc.names (nk x))=true→DE (B9 Γ.cx.sc.names (nk x))=true:=fun x h=>by rw[h2];exact h
  refine wpAny_bind (Ir D1 k1 (gl _ (by kernel_rfl)) G k2 (E8 (n:=5) (KL:=fun vs h=>.ok (.ret (.tup vs),[]) h) (HJ 5 5 (Nat.le_refl _)).evs D1 rfl (fun h hB=>Ik (wf.kin.keeps hB) FP) (by show Hu 5 Γ.cx _ _ _ _=_;rw[h2];kernel_rfl) fun vs ws σ2 e3 N2 D2 w2=>?_));have e4:vs= [.str s]∧σ2.h=σ.h:=by
   have e3:RA.ok (Fl.ret (.tup vs),[]) σ2.h=RA.ok (Fl.ret (.tup [.str s]),[]) σ.h:=e3
   injection e3 with e5 e6
   injection e5 with e5
   injection e5 with e5
   injection e5 with e5
   exact⟨e5,e6⟩
  clear e3;obtain⟨rfl,e4⟩:=e4;have D2':D Γ [(BG,.str s)] σ2:=⟨F.ok,D2.n0,D2.md,D2.fr,D2.nm⟩;have M2:Md 0 σ2:=by have:=D2'.md;rw[h2] at this;exact this
  have nc2:=nc M2 e4;have c2:Wq s [.str s] σ2.h:=by rw[e4];exact⟨rfl,ht,hg,hlo⟩
  have hroom:=F.ok.room;have eP:AK Im Γ.cx.A.fn=some (Tp (Wq s) R0):=by rw[h2];kernel_rfl
  obtain⟨fn,j1,j2⟩:=F.ok.tab.fn _ _ eP;cases j1.symm.trans (show AK Im gT.fns=some BW by kernel_rfl);have j2:Fc Γ.W 0 Γ.δ BW (Tp (Wq s) R0):=by have:=j2;rw[h2] at this;exact this
  refine wpAny_call (j2 Γ.d Γ.A Γ.l Γ.X σ2 fp [.str s] ws _ F.ok.fa (by omega) FP D2'.S M2 (by rw[e4];exact hlo) w2 (by
   rw[KG c2];rcases hR with⟨_,v,f,h⟩|⟨_,h⟩
   ·rw[h];exact .inl ⟨_,_,_,rfl⟩
   ·rw[h];exact .inr ⟨_,rfl⟩) ⟨fun v ρ σ' a z N h=>?_,fun c s' e C z hC fl=>?_⟩)
  ·rw[KG c2] at z
   rcases hR with⟨hb,v,f,h⟩|⟨_,h⟩
   ·have N3:=Nz.fresh D2'.S N nc2
    refine wpAny_execs_nil (wpAny_execs_nil (T4 (W:=Γ.W) (M:=Γ.M) ?_));exact done (σ':=⟨σ2.h,σ2.μ,σ'.s⟩) hb.symm (D2'.step N3) (Nz.trans N2 N3.up)
   ·rw[h] at z;cases z
  ·rw[KG c2] at z
   rcases hR with⟨_,v,f,h⟩|⟨hb,h⟩
   ·rw[h] at z;cases z
   ·rw[h] at z
    have z:RA.ex (α:=Mn.X) Ab=.ex c:=z;cases z;exact YA (Q:=fun f s₁=>match f with|.next=>wpAny Γ.M Γ.A (execs [XW true p10 kk2 p11] Γ.env) Q Γ.E s₁|f=>Q f s₁) T D2' nc2 (gl _ (by kernel_rfl)) hC fl fun s'' N3=>done (σ':=⟨σ2.h,σ2.μ,s''⟩) hb.symm (D2'.step N3) (Nz.trans N2 N3.up)
 ·rcases hf with rfl|⟨rfl,_⟩
  ·have e:RA.ok (Fl.ret v,[]) σ.h=RA.ok (α:=Mn.X) (Fl.ret (.bool b),[]) σ.h:=e
   injection e with e _
   injection e with e
   injection e with e
   subst e;have N1:=Nz.fresh S N (nc M rfl);cases h.b;have nc':∀sl c,cel {JQ σ.h with tok:=t} σ.μ sl=some c→False:=fun sl c z=>by
    refine xE (Oy M (h:={JQ σ.h with tok:=t}) ht rfl z) fun i z1q=>?_;subst z1q;refine xA (Ai (show B0 σ.h.gl[i]? σ.μ.gl[i]? σ.μ.nlo=some c from z)) fun z J=>?_;rw[hg] at z;simp at z
   exact C.ok (.bool b) [] ⟨{JQ σ.h with tok:=t},σ.μ,σ'.s⟩ _ rfl {N1 with
    sr:={N1.sr with
     cell:=fun s c e=>(nc' s c e).elim
     inj:=fun s J c J J e=>(nc' s c e).elim
     low:=fun _ ⟨s,c,e,_⟩=>(nc' s c e).elim
     nlo:=by show 0=_;rw[JT S hlo];rfl}
    nw:=fun _ ⟨s,c,e,_⟩=>(nc' s c e).elim} .of_b
  ·cases e
theorem d_{W:Wd} {s:List Nat} {b:Bool}(wf:WF W)(t:V)(h:FC s b):Fc W 0 400 B4 (Tp (Wq s) fun J h=>.ok (.ret (.bool b),[]) {h with tok:=t}):=by
 rcases h with⟨e,K,t0,rest,acc,z,s',efs,hK,⟨fs,rfl⟩,X,ev⟩|⟨e,K,t0,rest,hK,⟨fs,rfl⟩,X,ev⟩
 ·exact bG wf t (TP wf (r:=some (acc,AQ efs,s',z)) hK X ev fun x h=>by cases h;rfl) (.inl ⟨e,_,_,fun J J=>rfl⟩)
 ·exact bG wf t (TP wf (r:=none) hK X ev nofun) (.inr ⟨e,fun J J=>rfl⟩)
open Classical in
noncomputable def jb(s:List Nat)(h:HA)(t:V):RA X:=match t with
 |.lst q=>(match q with
  |v::r=>(match v with
   |.bool b=>if FC s b∧h.tmp=none∧h.gl= []∧h.lo= [] then .ok (.ret (.bool b),[]) {h with tok:=.lst r} else .no
   |_=>.no)
  | []=>.no)
 |_=>.no
noncomputable def Bs:PF:=fun vs h=>match vs with
 | []=>.no
 |v::r=>(match v with
  |.str s=>(match r with
   | []=>jb s h h.tok
   |_::_=>.no)
  |_=>.no)
theorem Zp{W:Wd}(wf:WF W):Fc W 0 400 B4 Bs:=fun d A l X σ f vs as R fa hd FF S M hlo hv out C=>by
 have hn:RA.no≠Bs vs σ.h:=fun z=>by
  rw[←z] at out;rcases out with⟨_,_,_,z⟩|⟨_,z⟩<;>cases z
 cases vs with
 |nil=>exact absurd rfl hn
 |cons v0 vr=>
  cases v0 with
  |str s=>
   cases vr with
   |cons a b=>exact absurd rfl hn
   |nil=>
    have hn:RA.no≠jb s σ.h σ.h.tok:=hn;have out:Np (jb s σ.h σ.h.tok):=out;have C:UL W l X σ (Dj (jb s σ.h σ.h.tok)) R:=C
    generalize he:σ.h.tok=tk at hn out C
    cases tk with
    |lst q=>
     cases q with
     |nil=>exact absurd rfl hn
     |cons b0 r=>
      cases b0 with
      |bool b=>
       by_cases c:FC s b∧σ.h.tmp=none∧σ.h.gl= []∧σ.h.lo= []
       ·have e1:jb s σ.h (.lst (.bool b::r))=Tp (Wq s) (fun J h=>.ok (.ret (.bool b),[]) {h with tok:=.lst r}) [.str s] σ.h:=by
         rw[KG ⟨rfl,c.2⟩];exact if_pos c
        rw[e1] at out C;exact d_ wf (.lst r) c.1 d A l X σ f _ as R fa hd FF S M hlo hv out C
       ·exact absurd (if_neg c).symm hn
      |_=>exact absurd rfl hn
    |_=>exact absurd rfl hn
  |_=>exact absurd rfl hn
end Mn
namespace Mn
open PySem
noncomputable abbrev TL(A B C:PF):Pl:=⟨[(HV,A),(Gd,B),(HW,C)],[],[],[]⟩
noncomputable abbrev cl(A B C:PF):CA:=⟨0,TL A B C,gT,0,1,AU.sc,false,false⟩
noncomputable abbrev hB(a0 a1:Ob)(h:HA)(t:V)(is:List Int)(sd:Int)(ex:List Ob):HA:={h with tok:=t,tmp:=none,gl:= [],lo:=a0::a1::.list (is.map .int)::.list [.ref 2,.int sd]::ex}
section
variable{A B C:PF} {a0 a1:Ob} {h:HA} {t:V} {is:List Int} {i sd w:Int} {ex:List Ob} {m:Nat} {K:V→HA→RA X}
noncomputable abbrev rf(a0 a1:Ob)(h:HA)(t:V)(is:List Int)(sd w:Int)(ex:List Ob)(K:V→HA→RA X):RA X:=oA (Qe .Mult sd 48271) fun a=>oA (Qe .Mod (((a+11).fmod 2147483647).fdiv 97) w) fun v=>K (.int v) (hB a0 a1 h t is ((a+11).fmod 2147483647) ex)
theorem mD:KH (m+14) (cl A B C) AV [.ref 3,.int w] (hB a0 a1 h t (i::is) sd ex) K=tB (Nat.ble ((i::is).map V.int).length BV) (cC (decide ((0:Int)< .ofNat ((i::is).map V.int).length)) (rf a0 a1 h t (i::is) sd w ex K) (tB (Nat.ble ((i::is).map V.int).length BV) (oA (Qe .Mod i w) fun v=>K (.int v) (hB a0 a1 h t is sd ex)))):=by kernel_rfl
theorem mC:KH (m+14) (cl A B C) AV [.ref 3,.int w] (hB a0 a1 h t [] sd ex) K=rf a0 a1 h t [] sd w ex K:=by kernel_rfl
theorem IJ{i:Int}(h0:0≤i)(h1:i<2147483647):Fj i=true:=by
 show Nat.blt i.natAbs (Nat.pow 2 4096)=true;have:i.natAbs<2^31:=by omega
 have h2:(2:Nat) ^31≤2^4096:=Nat.pow_le_pow_right (by decide) (by decide);exact Nat.ble_eq_true_of_le (Nat.le_trans this h2)
theorem XD{i w:Int}(hw:0<w):∃r:Nat,(r:Int)<w∧Qe .Mod i w=some (.ofNat r):=by
 refine⟨(i.fmod w).toNat,?_,?_⟩
 ·have:=Int.fmod_lt_of_pos i hw
  have:=Int.fmod_nonneg_of_pos i hw;omega
 ·show cC (!decide (w=0)) none (some (i.fmod w))=_
  rw[decide_eq_false (by omega)];show some (i.fmod w)=some ((i.fmod w).toNat:Int);rw[Int.toNat_of_nonneg (Int.fmod_nonneg_of_pos i hw)]
structure Ph(is:List Int)(sd:Int):Prop where
 len:is.length≤24
 lo:0≤sd
 hi:sd<2147483647
theorem OT(I:Ph is sd)(hw:0<w):∃(r:Nat) (is':List Int) (sd':Int),(r:Int)<w∧Ph is' sd'∧∀(A B C:PF) (a0 a1:Ob) (h:HA) (t:V) (ex:List Ob) (m:Nat) (K:V→HA→RA X),KH (m+14) (cl A B C) AV [.ref 3,.int w] (hB a0 a1 h t is sd ex) K=K (.int (.ofNat r)) (hB a0 a1 h t is' sd' ex):=by
 cases is with
 |nil=>
  refine AZ (XD (i:=(((sd*48271)+11).fmod 2147483647).fdiv 97) hw) fun r h1 h2=>?_;refine⟨r,[],((sd*48271)+11).fmod 2147483647,h1,⟨Nat.zero_le _,Int.fmod_nonneg_of_pos _ (by decide),Int.fmod_lt_of_pos _ (by decide)⟩,fun A B C a0 a1 h t ex m K=>mC.trans ?_⟩;show oA (cC (Fj sd&&Fj 48271) none (some (sd*48271))) _=_;rw[IJ I.lo I.hi,IJ (i:=48271) (by decide) (by decide)];show oA (Qe .Mod ((((sd*48271)+11).fmod 2147483647).fdiv 97) w) _=_;rw[h2];rfl
 |cons i is=>
  refine AZ (XD (i:=i) hw) fun r h1 h2=>?_;refine⟨r,is,sd,h1,⟨Nat.le_trans (Nat.le_succ _) I.len,I.lo,I.hi⟩,fun A B C a0 a1 h t ex m K=>mD.trans ?_⟩;have l:Nat.ble ((i::is).map V.int).length BV=true:=by
   refine Nat.ble_eq_true_of_le (Nat.le_trans ?_ (show 24≤BV by unfold BV;decide));rw[List.length_map];exact I.len
  have d:decide ((0:Int)< .ofNat ((i::is).map V.int).length)=true:=decide_eq_true (by rw[List.length_map,List.length_cons];show(0:Int)<((is.length+1:Nat):Int);omega);rw[l,d];show tB true (tB true (oA (Qe .Mod i w) _))=_;rw[h2];rfl
end
noncomputable def j0:Stmt→List Stmt
 |.For _ _ b _ _=>b
 |_=> []
noncomputable abbrev DJ:List Stmt:=j0 (AO 3 AU.body)
noncomputable abbrev Ly(cx:CA)(ρ:Af)(k:Nat)(h:HA)(K:V→HA→RA X):RA X:=cO (AK k ρ) (tB (DE (B9 cx.sc.names k)) (oA (AK k cx.g.cons) fun v=>K v h)) fun v=>K v h
noncomputable abbrev Ss(h:HA)(o:Ob):HA:={h with lo:=h.lo++ [o]}
noncomputable abbrev Yx:List V:= [.str [120],.str [121,50],.str [36],.str [103,101,116]]
noncomputable abbrev Zn:List V:= [.str [108,101,116],.str [115,116,97,116,105,99],.str [121,105,101,108,100],.str [112,117,98,108,105,99],.str [105,110,116,101,114,102,97,99,101],.str [105,109,112,108,101,109,101,110,116,115],.str [112,97,99,107,97,103,101],.str [112,114,105,118,97,116,101],.str [112,114,111,116,101,99,116,101,100]]
noncomputable abbrev XZ:List V:= [.str [101,118,97,108],.str [97,114,103,117,109,101,110,116,115]]
section
variable{A B C:PF} {ρ:Af} {h:HA} {m:Nat} {K:Fl→Af→HA→RA X}
noncomputable abbrev dE(A B C:PF)(ρ:Af)(h:HA)(m:Nat)(l:List V)(w:Int)(K:V→HA→RA X):RA X:=tB (Dz (cl A B C) ρ "_law_take" &&true) (Ly (cl A B C) ρ k_box (Ss h (.list l)) fun v h1=>KH (m+14) (cl A B C) AV [v,.int w] h1 fun v h2=>oA (Ap h2 (.ref h.lo.length) v) fun v=>K v h2)
theorem tu0:Fx (m+17) (cl A B C) ρ (AO 0 DJ) h K=dE A B C ρ h m Yx 4 fun v h=>K .next ((Em,v)::ρ) h:=by kernel_rfl
theorem tu1:Fx (m+17) (cl A B C) ρ (AO 1 DJ) h K=dE A B C ρ h m Zn 9 fun v h=>K .next ((GZ,v)::ρ) h:=by kernel_rfl
theorem tu2:Fx (m+18) (cl A B C) ρ (AO 2 DJ) h K=tB (Dz (cl A B C) ρ "_law_take" &&true) (Ly (cl A B C) ρ k_box h fun v h1=>KH (m+15) (cl A B C) AV [v,.int 4] h1 fun a h2=>tB (Dz (cl A B C) ρ "_law_take" &&true) (Ly (cl A B C) ρ k_box h2 fun v h3=>KH (m+14) (cl A B C) AV [v,.int 14] h3 fun b h4=>tB (QV [a,b]) (K .next ((Dp,b)::(HD,a)::ρ) h4))):=by kernel_rfl
variable{n w:List Nat} {i j tl:Int} {v pp tx:V} {st:Bool}
theorem tu3:Fx (m+20) (cl A B C) ((Dp,.int j)::(HD,.int i)::(GZ,.str w)::(Em,.str n)::ρ) (AO 3 DJ) h K=tB (Dz (cl A B C) ρ "_law_pieces" &&true) (dE A B C ρ h m XZ 2 fun v h=>AB A [.str n,.str w,v] h fun v h=>K .next ((DA,v)::(Dp,.int j)::(HD,.int i)::(GZ,.str w)::(Em,.str n)::ρ) h):=by kernel_rfl
noncomputable abbrev ρ3(n w:List Nat)(i j:Int)(ρ:Af):Af:=(Dp,.int j)::(HD,.int i)::(GZ,.str w)::(Em,.str n)::ρ
variable{L:List V}
theorem tu4:Fx (m+20) (cl A B C) ((DA,.lst L)::ρ) (AO 4 DJ) h K=tB (Dz (cl A B C) ρ "_law_take" &&true) (Ly (cl A B C) ρ k_box h fun v h=>tB (Dz (cl A B C) ρ "len" &&true) (tB (Nat.ble L.length BV) (KH (m+14) (cl A B C) AV [v,.int (.ofNat L.length)] h fun a h=>oA (Ap h (.lst L) a) fun w=>oA (IG w) fun vs=>oA (An AU.sc [FV,EJ] vs ((DA,.lst L)::ρ)) fun ρ=>K .next ρ h))):=by kernel_rfl
noncomputable abbrev ρ5(n w:List Nat)(i j:Int)(L:List V)(p:List Nat)(tl:Int)(ρ:Af):Af:=(EJ,.int tl)::(FV,.str p)::(DA,.lst L)::ρ3 n w i j ρ
variable{p x:List Nat}
theorem tu5:Fx (m+20) (cl A B C) (ρ5 n w i j L p tl ρ) (AO 5 DJ) h K=tB (Dz (cl A B C) ρ "_law_program" &&true) (AB B [.str p,.int i,.int j] h fun v h=>oA (IG v) fun vs=>oA (An AU.sc [BG,Ad] vs (ρ5 n w i j L p tl ρ)) fun ρ=>K .next ρ h):=by kernel_rfl
noncomputable abbrev ρ6(x:List Nat)(st:Bool)(ρ:Af):Af:=(Ad,.bool st)::(BG,.str x)::ρ
noncomputable def told(tl:Int)(st:Bool):Bool:=decide (tl=0)||(decide (tl=1)&&!st)
theorem tu6(ht:tl=0∨tl=1∨tl=2):Fx (m+20) (cl A B C) (ρ6 x st (ρ5 n w i j L p tl ρ)) (AO 6 DJ) h K=tB (Dz (cl A B C) ρ "_law_is_let" &&true) (AB C [.str x] h fun v h=>oA (AF h .NotEq v (.bool (told tl st))) fun c=>cC c (K .next (ρ6 x st (ρ5 n w i j L p tl ρ)) h) (K (.ret (.bool false)) (ρ6 x st (ρ5 n w i j L p tl ρ)) h)):=by
 rcases ht with rfl|rfl|rfl<;>cases st<;>kernel_rfl
end
noncomputable def Tn:Pl:=⟨[],[],[],[]⟩
noncomputable def Bj:PF:=DQ Tn 0 0 90 false Hg
noncomputable def B6:PF:=DQ Tn 0 0 90 false G3
noncomputable abbrev hN(h:HA):HA:={h with tmp:=none,lo:= []}
noncomputable abbrev pv(p:List Nat×Nat×Nat):V:=.tup [.str p.1,.int (.ofNat p.2.1)]
noncomputable abbrev Yw:List (List Nat×List Nat):=Cm.flatMap fun w=>Bm.map fun b=>(w,b)
theorem pc0(h:HA):Yw.map (fun q=>Dj (Bj [.str [120],.str q.1,.str q.2] (hN h)))=Yw.map (fun q=>.ok (.ret (.lst ((RM [120] q.1 q.2).map pv)),[]) (hN h)):=by kernel_rfl
theorem qW(h:HA):Yw.map (fun q=>Dj (Bj [.str [121,50],.str q.1,.str q.2] (hN h)))=Yw.map (fun q=>.ok (.ret (.lst ((RM [121,50] q.1 q.2).map pv)),[]) (hN h)):=by kernel_rfl
theorem qS(h:HA):Yw.map (fun q=>Dj (Bj [.str [36],.str q.1,.str q.2] (hN h)))=Yw.map (fun q=>.ok (.ret (.lst ((RM [36] q.1 q.2).map pv)),[]) (hN h)):=by kernel_rfl
theorem qR(h:HA):Yw.map (fun q=>Dj (Bj [.str [103,101,116],.str q.1,.str q.2] (hN h)))=Yw.map (fun q=>.ok (.ret (.lst ((RM [103,101,116] q.1 q.2).map pv)),[]) (hN h)):=by kernel_rfl
theorem jF{x w b:List Nat}(hx:x∈A5)(hw:w∈Cm)(hb:b∈Bm)(h:HA):Dj (Bj [.str x,.str w,.str b] (hN h))=.ok (.ret (.lst ((RM x w b).map pv)),[]) (hN h):=by
 have hq:(w,b)∈Yw:=List.mem_flatMap.mpr ⟨w,hw,List.mem_map_of_mem hb⟩;simp only[A5,List.mem_cons,List.not_mem_nil,or_false] at hx;rcases hx with rfl|rfl|rfl|rfl
 ·have e:=List.map_inj_left.mp (pc0 h) (w,b) hq
  exact e
 ·have e:=List.map_inj_left.mp (qW h) (w,b) hq
  exact e
 ·have e:=List.map_inj_left.mp (qS h) (w,b) hq
  exact e
 ·have e:=List.map_inj_left.mp (qR h) (w,b) hq
  exact e
noncomputable abbrev hP(h:HA):HA:={hN h with lo:= [.list (sQ.map .str)]}
noncomputable abbrev O8(s:Bool)(v:V)(h:HA):RA X:=tB (BX [v,.bool s]) (ES 0 false (.ret (.tup [v,.bool s])) [] h)
noncomputable abbrev PV(s:List Nat)(K:V→HA→RA X)(v:V)(h:HA):RA X:=A2 false h .Add v (.str s) K
noncomputable abbrev Mm(p:List Nat)(h:HA)(i j:Nat):RA X:=B6 [.str p,.int (.ofNat i),.int (.ofNat j)] (hN h)
noncomputable abbrev OX(p:List Nat)(h:HA)(i j:Nat)(K:V→HA→RA X):RA X:=oA (UU .Add (EY i j) (.str p)) fun v=>K v (hP h)
theorem pg0(p:List Nat)(h:HA):js.map (Mm p h 0)=js.map (fun j=>OX p h 0 j (O8 (D0 0 j))):=by kernel_rfl
theorem pg1(p:List Nat)(h:HA):js.map (Mm p h 1)=js.map (fun j=>OX p h 1 j (PV [32,125] (O8 (D0 1 j)))):=by kernel_rfl
theorem pg2(p:List Nat)(h:HA):(js.take 7).map (Mm p h 2)=(js.take 7).map (fun j=>OX p h 2 j (PV [32,125,32] (PV [125,41,59] (O8 (D0 2 j))))):=by kernel_rfl
theorem pk(p:List Nat)(h:HA):(js.drop 7).map (Mm p h 2)=(js.drop 7).map (fun j=>OX p h 2 j (PV [32,125] (O8 (D0 2 j)))):=by kernel_rfl
theorem pg3(p:List Nat)(h:HA):js.map (Mm p h 3)=js.map (fun j=>OX p h 3 j (PV [32,125,59,32,125,125,41,59] (O8 (D0 3 j)))):=by kernel_rfl
theorem gP{x p:List Nat}(hx:x.length≤2000)(hp:p.length≤2000):UU .Add x (.str p)=some (.str (x++p)):=by
 show cC (Nat.ble (Nat.add x.length p.length) BV) none (some (V.str (x++p)))=_;rw[show Nat.ble (Nat.add x.length p.length) BV=true from Nat.ble_eq_true_of_le (by show x.length+p.length≤1048576;omega)]
theorem Xn{s:Bool} {x:List Nat} {h:HA}(e:h.tmp=none):Dj (O8 s (.str x) h)=.ok (.ret (.tup [.str x,.bool s]),[]) (JQ h):=by
 have:h={h with tmp:=none}:=by cases h;cases e;rfl
 rw[this];kernel_rfl
theorem YC{x s:List Nat} {K:V→HA→RA X} {h:HA}(hx:x.length≤2000)(hs:s.length≤2000):PV s K (.str x) h=K (.str (x++s)) h:=by
 show oA (UU .Add x (.str s)) (fun v=>K v h)=_;rw[gP hx hs];rfl
theorem X6{i j:Nat}(hi:i∈[0,1,2,3])(hj:j∈js):(EY i j).length≤200:=(Tz hi hj).1
theorem BR{α β:Type} {f g:α→β} {l:List α}(e:l.map f=l.map g){a:α}(h:a∈l):f a=g a:=List.map_inj_left.mp e a h
theorem WR{p:List Nat} {h:HA} {i j:Nat} {K:V→HA→RA X}(hi:i∈[0,1,2,3])(hj:j∈js)(hp:p.length≤500):OX p h i j K=K (.str (EY i j++p)) (hP h):=by
 have:=X6 hi hj;show oA (UU .Add (EY i j) (.str p)) (fun v=>K v (hP h))=_;rw[gP (by omega) (by omega)];rfl
theorem gh{p:List Nat} {i j:Nat}(h:HA)(hi:i∈[0,1,2,3])(hj:j∈js)(hp:p.length≤500):Dj (Mm p h i j)=.ok (.ret (.tup [.str (EY i j++(p++E7 i j)),.bool (D0 i j)]),[]) (hN h):=by
 have hl:=X6 hi hj;have l2:(EY i j++p).length≤700:=by rw[List.length_append];omega
 have one:∀{s:List Nat},s.length≤100→E7 i j=s→Mm p h i j=OX p h i j (PV s (O8 (D0 i j)))→Dj (Mm p h i j)=.ok (.ret (.tup [.str (EY i j++(p++E7 i j)),.bool (D0 i j)]),[]) (hN h):=fun{s} hs e1 e2=>by
  rw[e2,WR hi hj hp,YC (by omega) (by omega),Xn rfl,e1,List.append_assoc]
 simp only[List.mem_cons,List.not_mem_nil,or_false] at hi;rcases hi with rfl|rfl|rfl|rfl
 ·have e2:Mm p h 0 j=OX p h 0 j (O8 (D0 0 j)):=BR (pg0 p h) hj
  rw[e2,WR (by decide) hj hp,Xn rfl];show _=RA.ok (Fl.ret (.tup [.str (EY 0 j++(p++ [])),.bool (D0 0 j)]),[]) (hN h);rw[List.append_nil]
 ·exact one (s:= [32,125]) (by decide) rfl (BR (pg1 p h) hj)
 ·rcases List.mem_append.mp (show j∈js.take 7++js.drop 7 from hj) with hk|hk
  ·have eB:E7 2 j= [32,125,32]++ [125,41,59]:=BR (f:=fun j=>E7 2 j) (g:=fun J=> [32,125,32]++ [125,41,59]) (l:=js.take 7) (by kernel_rfl) hk
   have e2:Mm p h 2 j=OX p h 2 j (PV [32,125,32] (PV [125,41,59] (O8 (D0 2 j)))):=BR (pg2 p h) hk;rw[e2,WR (by decide) hj hp,YC (by omega) (by decide),YC (by rw[List.length_append];show _+3≤2000;omega) (by decide),Xn rfl,eB,List.append_assoc,List.append_assoc]
  ·exact one (s:= [32,125]) (by decide) (BR (f:=fun j=>E7 2 j) (g:=fun J=> [32,125]) (l:=js.drop 7) (by kernel_rfl) hk) (BR (pk p h) hk)
 ·exact one (s:= [32,125,59,32,125,125,41,59]) (by decide) rfl (BR (pg3 p h) hj)
noncomputable def mB(t:Nat)(s:Bool):Bool:=Nat.beq t 0||(Nat.beq t 1&&!s)
abbrev Dl(p:List Nat×Nat×Nat):Prop:=(∀s,DP p s (mB p.2.1 s))∧rU p
def Yu(l:List (List Nat×Nat×Nat)):Prop:=match l with| []=>True|p::r=>Dl p∧Yu r
theorem Yu.mem:∀{l:List (List Nat×Nat×Nat)} {p:List Nat×Nat×Nat},Yu l→p∈l→Dl p
 |_::_,_,h,.head _=>h.1
 |_::_,_,h,.tail _ m=>Yu.mem h.2 m
section
variable{x w b:List Nat}(hx:x∈A5)(hw:w∈Cm)(hb:b∈Bm)
include hx hw hb
theorem rx:Aw 0 x w b∈fx:=List.mem_flatMap.mpr ⟨x,hx,.head _⟩
theorem pk0:Dl (Aw 0 x w b):=⟨pz0 _ (rx hx hw hb),fun tail a=>BR (sp0 tail a) (rx hx hw hb)⟩
theorem ru:Aw 1 x w b∈fw:=List.mem_flatMap.mpr ⟨x,hx,.head _⟩
theorem pk1:Dl (Aw 1 x w b):=⟨pz1 _ (ru hx hw hb),fun tail a=>BR (sp1 tail a) (ru hx hw hb)⟩
theorem rr:Aw 2 x w b∈ft:=List.mem_flatMap.mpr ⟨x,hx,.head _⟩
theorem pk2:Dl (Aw 2 x w b):=⟨pz2 _ (rr hx hw hb),fun tail a=>BR (sp2 tail a) (rr hx hw hb)⟩
theorem rq:Aw 3 x w b∈fm:=List.mem_flatMap.mpr ⟨x,hx,.head _⟩
theorem pk3:Dl (Aw 3 x w b):=⟨pz3 _ (rq hx hw hb),fun tail a=>BR (sp3 tail a) (rq hx hw hb)⟩
theorem rp:Aw 4 x w b∈fk:=List.mem_flatMap.mpr ⟨x,hx,List.mem_flatMap.mpr ⟨w,hw,.head _⟩⟩
theorem pk4:Dl (Aw 4 x w b):=⟨pz4 _ (rp hx hw hb),fun tail a=>BR (sp4 tail a) (rp hx hw hb)⟩
theorem ro:Aw 5 x w b∈fj:=List.mem_flatMap.mpr ⟨x,hx,.head _⟩
theorem pk5:Dl (Aw 5 x w b):=⟨pz5 _ (ro hx hw hb),fun tail a=>BR (sp5 tail a) (ro hx hw hb)⟩
theorem rm:Aw 6 x w b∈fh:=List.mem_flatMap.mpr ⟨b,hb,.head _⟩
theorem pk6:Dl (Aw 6 x w b):=⟨pz6 _ (rm hx hw hb),fun tail a=>BR (sp6 tail a) (rm hx hw hb)⟩
theorem rl:Aw 7 x w b∈fg:=List.mem_flatMap.mpr ⟨b,hb,.head _⟩
theorem pk7:Dl (Aw 7 x w b):=⟨pz7 _ (rl hx hw hb),fun tail a=>BR (sp7 tail a) (rl hx hw hb)⟩
theorem rk:Aw 8 x w b∈ff:=List.mem_flatMap.mpr ⟨b,hb,.head _⟩
theorem pk8:Dl (Aw 8 x w b):=⟨pz8 _ (rk hx hw hb),fun tail a=>BR (sp8 tail a) (rk hx hw hb)⟩
theorem rj:Aw 9 x w b∈fc:=List.mem_flatMap.mpr ⟨b,hb,.head _⟩
theorem pk9:Dl (Aw 9 x w b):=⟨pz9 _ (rj hx hw hb),fun tail a=>BR (sp9 tail a) (rj hx hw hb)⟩
theorem iY:Aw 10 x w b∈VO:=List.mem_flatMap.mpr ⟨b,hb,.head _⟩
theorem pj:Dl (Aw 10 x w b):=⟨oh _ (iY hx hw hb),fun tail a=>BR (nG tail a) (iY hx hw hb)⟩
theorem iX:Aw 11 x w b∈VN:=List.mem_flatMap.mpr ⟨b,hb,.head _⟩
theorem ph:Dl (Aw 11 x w b):=⟨og _ (iX hx hw hb),fun tail a=>BR (nE tail a) (iX hx hw hb)⟩
theorem iW:Aw 12 x w b∈VM:=List.mem_flatMap.mpr ⟨w,hw,.head _⟩
theorem pe:Dl (Aw 12 x w b):=⟨oa _ (iW hx hw hb),fun tail a=>BR (nD tail a) (iW hx hw hb)⟩
theorem iV:Aw 13 x w b∈VL:=List.mem_flatMap.mpr ⟨w,hw,.head _⟩
theorem pd:Dl (Aw 13 x w b):=⟨oZ _ (iV hx hw hb),fun tail a=>BR (nC tail a) (iV hx hw hb)⟩
theorem iU:Aw 14 x w b∈VJ:=List.mem_flatMap.mpr ⟨w,hw,.head _⟩
theorem pZ:Dl (Aw 14 x w b):=⟨oY _ (iU hx hw hb),fun tail a=>BR (nB tail a) (iU hx hw hb)⟩
theorem iT:Aw 15 x w b∈VI:=List.mem_flatMap.mpr ⟨w,hw,.head _⟩
theorem pY:Dl (Aw 15 x w b):=⟨oX _ (iT hx hw hb),fun tail a=>BR (nA tail a) (iT hx hw hb)⟩
theorem iS:Aw 16 x w b∈VH:=List.mem_flatMap.mpr ⟨x,hx,List.mem_flatMap.mpr ⟨b,hb,.head _⟩⟩
theorem pW:Dl (Aw 16 x w b):=⟨oW _ (iS hx hw hb),fun tail a=>BR (m_ tail a) (iS hx hw hb)⟩
theorem iQ:Aw 17 x w b∈VG:=List.mem_flatMap.mpr ⟨x,hx,List.mem_flatMap.mpr ⟨w,hw,.head _⟩⟩
theorem pV:Dl (Aw 17 x w b):=⟨oU _ (iQ hx hw hb),fun tail a=>BR (m9 tail a) (iQ hx hw hb)⟩
theorem iP:Aw 18 x w b∈VF:=List.mem_flatMap.mpr ⟨b,hb,.head _⟩
theorem pU:Dl (Aw 18 x w b):=⟨oS _ (iP hx hw hb),fun tail a=>BR (m8 tail a) (iP hx hw hb)⟩
theorem iO:Aw 19 x w b∈VE:=List.mem_flatMap.mpr ⟨x,hx,.head _⟩
theorem pT:Dl (Aw 19 x w b):=⟨oR _ (iO hx hw hb),fun tail a=>BR (m7 tail a) (iO hx hw hb)⟩
theorem iN:Aw 20 x w b∈VD:=List.mem_flatMap.mpr ⟨b,hb,.head _⟩
theorem pS:Dl (Aw 20 x w b):=⟨oQ _ (iN hx hw hb),fun tail a=>BR (m6 tail a) (iN hx hw hb)⟩
theorem iM:Aw 21 x w b∈VC:=List.mem_flatMap.mpr ⟨b,hb,.head _⟩
theorem pR:Dl (Aw 21 x w b):=⟨oP _ (iM hx hw hb),fun tail a=>BR (m5 tail a) (iM hx hw hb)⟩
theorem iL:Aw 22 x w b∈VB:=List.mem_flatMap.mpr ⟨x,hx,.head _⟩
theorem pQ:Dl (Aw 22 x w b):=⟨oO _ (iL hx hw hb),fun tail a=>BR (mz tail a) (iL hx hw hb)⟩
theorem iK:Aw 23 x w b∈VA:=List.mem_flatMap.mpr ⟨w,hw,.head _⟩
theorem pP:Dl (Aw 23 x w b):=⟨oN _ (iK hx hw hb),fun tail a=>BR (my tail a) (iK hx hw hb)⟩
theorem iJ:Aw 24 x w b∈U_:=List.mem_flatMap.mpr ⟨x,hx,.head _⟩
theorem pO:Dl (Aw 24 x w b):=⟨oM _ (iJ hx hw hb),fun tail a=>BR (mx tail a) (iJ hx hw hb)⟩
theorem iI:Aw 25 x w b∈U9:=.head _
theorem pN:Dl (Aw 25 x w b):=⟨oK _ (iI hx hw hb),fun tail a=>BR (mw tail a) (iI hx hw hb)⟩
theorem iH:Aw 26 x w b∈U8:=List.mem_flatMap.mpr ⟨x,hx,.head _⟩
theorem pM:Dl (Aw 26 x w b):=⟨oJ _ (iH hx hw hb),fun tail a=>BR (mv tail a) (iH hx hw hb)⟩
theorem iG:Aw 27 x w b∈U7:=List.mem_flatMap.mpr ⟨x,hx,.head _⟩
theorem pK:Dl (Aw 27 x w b):=⟨oI _ (iG hx hw hb),fun tail a=>BR (mr tail a) (iG hx hw hb)⟩
theorem iF:Aw 28 x w b∈U6:=List.mem_flatMap.mpr ⟨x,hx,.head _⟩
theorem pJ:Dl (Aw 28 x w b):=⟨oH _ (iF hx hw hb),fun tail a=>BR (mq tail a) (iF hx hw hb)⟩
theorem iE:Aw 29 x w b∈U5:=List.mem_flatMap.mpr ⟨x,hx,List.mem_flatMap.mpr ⟨b,hb,.head _⟩⟩
theorem pI:Dl (Aw 29 x w b):=⟨oG _ (iE hx hw hb),fun tail a=>BR (mn tail a) (iE hx hw hb)⟩
theorem iD:Aw 30 x w b∈U4:=List.mem_flatMap.mpr ⟨x,hx,.head _⟩
theorem pH:Dl (Aw 30 x w b):=⟨oF _ (iD hx hw hb),fun tail a=>BR (mm tail a) (iD hx hw hb)⟩
theorem iC:Aw 31 x w b∈U3:=List.mem_flatMap.mpr ⟨x,hx,.head _⟩
theorem pG:Dl (Aw 31 x w b):=⟨oE _ (iC hx hw hb),fun tail a=>BR (mj tail a) (iC hx hw hb)⟩
theorem iA:Aw 32 x w b∈U2:=List.mem_flatMap.mpr ⟨w,hw,List.mem_flatMap.mpr ⟨b,hb,.head _⟩⟩
theorem pF:Dl (Aw 32 x w b):=⟨oC _ (iA hx hw hb),fun tail a=>BR (mh tail a) (iA hx hw hb)⟩
theorem h_:Aw 33 x w b∈U1:=List.mem_flatMap.mpr ⟨x,hx,.head _⟩
theorem pE:Dl (Aw 33 x w b):=⟨oB _ (h_ hx hw hb),fun tail a=>BR (mf tail a) (h_ hx hw hb)⟩
theorem hZ:Aw 34 x w b∈U0:=List.mem_flatMap.mpr ⟨x,hx,.head _⟩
theorem pD:Dl (Aw 34 x w b):=⟨n_ _ (hZ hx hw hb),fun tail a=>BR (me tail a) (hZ hx hw hb)⟩
theorem hV:Aw 35 x w b∈Uz:=List.mem_flatMap.mpr ⟨x,hx,.head _⟩
theorem pC:Dl (Aw 35 x w b):=⟨n9 _ (hV hx hw hb),fun tail a=>BR (mZ tail a) (hV hx hw hb)⟩
theorem hU:Aw 36 x w b∈Uy:=List.mem_flatMap.mpr ⟨x,hx,.head _⟩
theorem pA:Dl (Aw 36 x w b):=⟨n8 _ (hU hx hw hb),fun tail a=>BR (mY tail a) (hU hx hw hb)⟩
theorem hO:Aw 37 x w b∈Ux:=.head _
theorem o_:Dl (Aw 37 x w b):=⟨n7 _ (hO hx hw hb),fun tail a=>BR (mX tail a) (hO hx hw hb)⟩
theorem hM:Aw 38 x w b∈Uw:=.head _
theorem o9:Dl (Aw 38 x w b):=⟨n6 _ (hM hx hw hb),fun tail a=>BR (mW tail a) (hM hx hw hb)⟩
theorem g_:Aw 39 x w b∈Uv:=List.mem_flatMap.mpr ⟨x,hx,.head _⟩
theorem o6:Dl (Aw 39 x w b):=⟨n5 _ (g_ hx hw hb),fun tail a=>BR (mV tail a) (g_ hx hw hb)⟩
theorem g8:Aw 40 x w b∈Uu:=List.mem_flatMap.mpr ⟨x,hx,.head _⟩
theorem o5:Dl (Aw 40 x w b):=⟨n4 _ (g8 hx hw hb),fun tail a=>BR (mU tail a) (g8 hx hw hb)⟩
theorem gz:Aw 41 x w b∈Ut:=List.mem_flatMap.mpr ⟨x,hx,.head _⟩
theorem o4:Dl (Aw 41 x w b):=⟨n3 _ (gz hx hw hb),fun tail a=>BR (mT tail a) (gz hx hw hb)⟩
theorem gy:Aw 42 x w b∈Us:=List.mem_flatMap.mpr ⟨x,hx,.head _⟩
theorem oz:Dl (Aw 42 x w b):=⟨nv _ (gy hx hw hb),fun tail a=>BR (mS tail a) (gy hx hw hb)⟩
theorem gw:Aw 43 x w b∈Ur:=.head _
theorem oy:Dl (Aw 43 x w b):=⟨nr _ (gw hx hw hb),fun tail a=>BR (mR tail a) (gw hx hw hb)⟩
theorem gu:Aw 44 x w b∈Uq:=.head _
theorem ox:Dl (Aw 44 x w b):=⟨nq _ (gu hx hw hb),fun tail a=>BR (mQ tail a) (gu hx hw hb)⟩
theorem gq:Aw 45 x w b∈Up:=.head _
theorem ow:Dl (Aw 45 x w b):=⟨nj _ (gq hx hw hb),fun tail a=>BR (mP tail a) (gq hx hw hb)⟩
theorem gp:Aw 46 x w b∈Uo:=.head _
theorem ou:Dl (Aw 46 x w b):=⟨ni _ (gp hx hw hb),fun tail a=>BR (mO tail a) (gp hx hw hb)⟩
theorem gn:Aw 47 x w b∈Mv:=List.mem_flatMap.mpr ⟨x,hx,.head _⟩
theorem ot:Dl (Aw 47 x w b):=⟨nh _ (gn hx hw hb),fun tail a=>BR (mM tail a) (gn hx hw hb)⟩
theorem gm:Aw 48 x w b∈Un:=.head _
theorem oq:Dl (Aw 48 x w b):=⟨ng _ (gm hx hw hb),fun tail a=>BR (mL tail a) (gm hx hw hb)⟩
theorem gk:Aw 49 x w b∈Um:=.head _
theorem oo:Dl (Aw 49 x w b):=⟨na _ (gk hx hw hb),fun tail a=>BR (mK tail a) (gk hx hw hb)⟩
theorem gj:Aw 50 x w b∈Ul:=List.mem_flatMap.mpr ⟨x,hx,.head _⟩
theorem om:Dl (Aw 50 x w b):=⟨nZ _ (gj hx hw hb),fun tail a=>BR (mJ tail a) (gj hx hw hb)⟩
theorem dS:Yu (RM x w b):=⟨pk0 hx hw hb,pk1 hx hw hb,pk2 hx hw hb,pk3 hx hw hb,pk4 hx hw hb,pk5 hx hw hb,pk6 hx hw hb,pk7 hx hw hb,pk8 hx hw hb,pk9 hx hw hb,pj hx hw hb,ph hx hw hb,pe hx hw hb,pd hx hw hb,pZ hx hw hb,pY hx hw hb,pW hx hw hb,pV hx hw hb,pU hx hw hb,pT hx hw hb,pS hx hw hb,pR hx hw hb,pQ hx hw hb,pP hx hw hb,pO hx hw hb,pN hx hw hb,pM hx hw hb,pK hx hw hb,pJ hx hw hb,pI hx hw hb,pH hx hw hb,pG hx hw hb,pF hx hw hb,pE hx hw hb,pD hx hw hb,pC hx hw hb,pA hx hw hb,o_ hx hw hb,o9 hx hw hb,o6 hx hw hb,o5 hx hw hb,o4 hx hw hb,oz hx hw hb,oy hx hw hb,ox hx hw hb,ow hx hw hb,ou hx hw hb,ot hx hw hb,oq hx hw hb,oo hx hw hb,om hx hw hb,trivial⟩
end
def RK(i:Nat)(l:List Nat):Prop:=match l with| []=>True|j::r=>V2 i j∧RK i r
theorem RK.mem{i j:Nat}:∀{l:List Nat},RK i l→j∈l→V2 i j
 |_::_,h,.head _=>h.1
 |_::_,h,.tail _ m=>RK.mem h.2 m
theorem ew{i j:Nat}(hi:i∈[0,1,2,3])(hj:j∈js):V2 i j:=by
 simp only[List.mem_cons,List.not_mem_nil,or_false] at hi;rcases hi with rfl|rfl|rfl|rfl
 ·exact RK.mem (l:=js) (i:=0) ⟨kG,Kw (j:=1) (by decide) (by decide) rfl,Kw (j:=2) (by decide) (by decide) rfl,Kw (j:=3) (by decide) (by decide) rfl,Kw (j:=4) (by decide) (by decide) rfl,Kw (j:=5) (by decide) (by decide) rfl,Kw (j:=6) (by decide) (by decide) rfl,kG,Kw (j:=1) (by decide) (by decide) rfl,Kw (j:=2) (by decide) (by decide) rfl,Kw (j:=3) (by decide) (by decide) rfl,Kw (j:=4) (by decide) (by decide) rfl,Kw (j:=5) (by decide) (by decide) rfl,Kw (j:=6) (by decide) (by decide) rfl,trivial⟩ hj
 ·exact RK.mem (l:=js) (i:=1) ⟨kD,Kv (j:=1) (by decide) (by decide) rfl,Kv (j:=2) (by decide) (by decide) rfl,Kv (j:=3) (by decide) (by decide) rfl,Kv (j:=4) (by decide) (by decide) rfl,Kv (j:=5) (by decide) (by decide) rfl,Kv (j:=6) (by decide) (by decide) rfl,kD,Kv (j:=1) (by decide) (by decide) rfl,Kv (j:=2) (by decide) (by decide) rfl,Kv (j:=3) (by decide) (by decide) rfl,Kv (j:=4) (by decide) (by decide) rfl,Kv (j:=5) (by decide) (by decide) rfl,Kv (j:=6) (by decide) (by decide) rfl,trivial⟩ hj
 ·exact RK.mem (l:=js) (i:=2) ⟨Sf (j:=0) (by decide) rfl,Sf (j:=1) (by decide) rfl,Sf (j:=2) (by decide) rfl,Sf (j:=3) (by decide) rfl,Sf (j:=4) (by decide) rfl,Sf (j:=5) (by decide) rfl,Sf (j:=6) (by decide) rfl,kC (j:=7) (by decide) rfl rfl rfl,Nr (j:=8) (g:=1) (by decide) rfl (by decide) rfl rfl,Nr (j:=9) (g:=2) (by decide) rfl (by decide) rfl rfl,Nr (j:=10) (g:=3) (by decide) rfl (by decide) rfl rfl,Nr (j:=11) (g:=4) (by decide) rfl (by decide) rfl rfl,Nr (j:=12) (g:=5) (by decide) rfl (by decide) rfl rfl,Nr (j:=13) (g:=6) (by decide) rfl (by decide) rfl rfl,trivial⟩ hj
 ·exact RK.mem (l:=js) (i:=3) ⟨kB,Ku (j:=1) (by decide) (by decide) rfl,Ku (j:=2) (by decide) (by decide) rfl,Ku (j:=3) (by decide) (by decide) rfl,Ku (j:=4) (by decide) (by decide) rfl,Ku (j:=5) (by decide) (by decide) rfl,Ku (j:=6) (by decide) (by decide) rfl,kB,Ku (j:=1) (by decide) (by decide) rfl,Ku (j:=2) (by decide) (by decide) rfl,Ku (j:=3) (by decide) (by decide) rfl,Ku (j:=4) (by decide) (by decide) rfl,Ku (j:=5) (by decide) (by decide) rfl,Ku (j:=6) (by decide) (by decide) rfl,trivial⟩ hj
theorem ZR:(A5.all fun x=>Yw.all fun q=>(RM x q.1 q.2).all fun p=>Nat.ble p.1.length 500&&Nat.ble p.2.1 2)=true:=by kernel_rfl
theorem Wk{x w b:List Nat} {p:List Nat×Nat×Nat}(hx:x∈A5)(hw:w∈Cm)(hb:b∈Bm)(hp:p∈RM x w b):p.1.length≤500∧p.2.1≤2:=by
 have h:=List.all_eq_true.mp (List.all_eq_true.mp (List.all_eq_true.mp ZR x hx) (w,b) (List.mem_flatMap.mpr ⟨w,hw,List.mem_map_of_mem hb⟩)) p hp;obtain⟨h1,h2⟩:=Bool.and_eq_true_iff.mp h;exact⟨Nat.le_of_ble_eq_true h1,Nat.le_of_ble_eq_true h2⟩
theorem Zk{x w b:List Nat} {p:List Nat×Nat×Nat} {i j:Nat}(hx:x∈A5)(hw:w∈Cm)(hb:b∈Bm)(hp:p∈RM x w b)(hi:i∈[0,1,2,3])(hj:j∈js):FC (EY i j++(p.1++E7 i j)) (mB p.2.1 (D0 i j)):=
 let F:=(dS hx hw hb).mem hp
 ew hi hj p _ (Wk hx hw hb hp).1 (F.1 _) F.2
noncomputable abbrev gN:List Nat:= [AV,HV,Gd,HW,br,Pg,Yg]
structure Rh(ρ:Af):Prop where
 bx:AK k_box ρ=some (.ref 3)
 no:∀k,k∈gN→AK k ρ=none
noncomputable abbrev CH:CA:=cl Bj B6 Bs
section
variable{ρ:Af} {h:HA} {m k:Nat} {v:V} {A B C:PF} {is:List Int} {sd:Int}
theorem Rh.push(H:Rh ρ)(c:E6 k (k_box::gN)=false):Rh ((k,v)::ρ):=by
 have ne:∀j,j∈k_box::gN→k≠j:=fun j hj e=>by
  rw[Ht] at c;have:=List.contains_iff_mem.mpr (e▸hj);rw[c] at this;cases this
 exact⟨by rw[A7,if_neg (ne _ (.head _))];exact H.bx,fun j hj=>by rw[A7,if_neg (ne _ (.tail _ hj))];exact H.no j hj⟩
theorem En{f:Str} {r:RA X}(H:AK (nk f) ρ=none)(g:DE (B9 AU.sc.names (nk f))=true):tB (Dz (cl A B C) ρ f&&true) r=r:=by
 show tB ((!(AK (nk f) ρ).isSome&&DE (B9 AU.sc.names (nk f)))&&true) r=r;rw[H,g];rfl
theorem SE{cx:CA} {K:V→HA→RA X}(H:AK k ρ=some v):Ly cx ρ k h K=K v h:=by
 show cO (AK k ρ) _ _=_;rw[H]
theorem eI{a0 a1:Ob} {t:V} {is':List Int} {sd':Int} {ex:List Ob} {l:List V} {r:Nat}(hr:r<l.length)(hl:l.length≤1000):Ap (hB a0 a1 h t is' sd' (ex++ [.list l])) (.ref (hB a0 a1 h t is sd ex).lo.length) (.int (.ofNat r))=some l[r]:=by
 show cO (C_ (hB a0 a1 h t is' sd' (ex++ [.list l])) (.ref (hB a0 a1 h t is sd ex).lo.length)) none (fun l=>jS l (.ofNat r))=_;have e:KN (hB a0 a1 h t is' sd' (ex++ [.list l])) (.ref (hB a0 a1 h t is sd ex).lo.length)=some (.list l):=by
  show(ex++ [Ob.list l])[ex.length]? =_;rw[List.getElem?_append_right (Nat.le_refl _),Nat.sub_self];rfl
 unfold C_;rw[e];show cC (Nat.blt r BV) none l[r]? =_;rw[show Nat.blt r BV=true from Nat.ble_eq_true_of_le (by show r+1≤1048576;omega),List.getElem?_eq_getElem hr]
theorem WY(I:Ph is sd)(l:List V){w:Int}(hl:l.length≤1000)(hw:w=(l.length:Int))(h0:0<l.length):∃v∈l,∃is' sd',Ph is' sd'∧∀(a0 a1:Ob) (h:HA) (t:V) (ex:List Ob) (m:Nat) (ρ:Af) (K:V→HA→RA X),Rh ρ→dE Bj B6 Bs ρ (hB a0 a1 h t is sd ex) m l w K=K v (hB a0 a1 h t is' sd' (ex++ [.list l])):=by
 refine A_ (OT I (w:=w) (by omega)) fun r is' sd' h1 h2 h3=>?_;have hr:r<l.length:=by omega
 refine⟨l[r],List.getElem_mem hr,is',sd',h2,fun a0 a1 h t ex m ρ K H=>?_⟩
 let KK:V→HA→RA X:=fun v h2=>oA (Ap h2 (.ref (hB a0 a1 h t is sd ex).lo.length) v) fun v=>K v h2
 have e1:dE Bj B6 Bs ρ (hB a0 a1 h t is sd ex) m l w K=Ly CH ρ k_box (Ss (hB a0 a1 h t is sd ex) (.list l)) fun v h1=>KH (m+14) CH AV [v,.int w] h1 KK:=En (f:="_law_take") (H.no _ (.head _)) (by kernel_rfl);have e2:(Ly CH ρ k_box (Ss (hB a0 a1 h t is sd ex) (.list l)) fun v h1=>KH (m+14) CH AV [v,.int w] h1 KK)=KH (m+14) CH AV [.ref 3,.int w] (Ss (hB a0 a1 h t is sd ex) (.list l)) KK:=SE H.bx;have e3:Ss (hB a0 a1 h t is sd ex) (.list l)=hB a0 a1 h t is sd (ex++ [.list l]):=rfl;have e4:=h3 Bj B6 Bs a0 a1 h t (ex++ [.list l]) m KK;refine e1.trans (e2.trans ((congrArg (fun h1=>KH (m+14) CH AV [.ref 3,.int w] h1 KK) e3).trans (e4.trans ?_)));show oA (Ap _ _ _) _=_;rw[eI hr hl];rfl
end
noncomputable abbrev Sm(n:Nat)(cx:CA)(r:List Stmt)(K:Fl→Af→HA→RA X):Fl→Af→HA→RA X:=fun x ρ h=>match x with
 |.next=>BS n cx ρ r h K
 |x=>K x ρ h
theorem l_:DJ= [AO 0 DJ,AO 1 DJ,AO 2 DJ,AO 3 DJ,AO 4 DJ,AO 5 DJ,AO 6 DJ]:=by kernel_rfl
theorem MB{n:Nat} {cx:CA} {ρ:Af} {st:Stmt} {r:List Stmt} {h:HA} {K:Fl→Af→HA→RA X}:BS (n+1) cx ρ (st::r) h K=Fx n cx ρ st h (Sm n cx r K):=rfl
section
variable{ρ:Af} {h:HA} {m k:Nat} {v:V} {is:List Int} {sd:Int} {a0 a1:Ob} {t:V} {ex:List Ob}
theorem Nu{P:PF} {vs:List V} {h h0:HA} {K:V→HA→RA X}(ha:vs.all PZ=true)(e:Dj (P vs {h with lo:= []})=.ok (.ret v,ρ) h0)(c:(CQ v||JK v)=true):AB P vs h K=K v {h0 with lo:=h.lo}:=by
 show tB (vs.all PZ) (bA (P vs {h with lo:= []}) _)=_;rw[ha];cases z:P vs {h with lo:= []} with
 |no=>rw[z] at e;cases e
 |ex c=>rw[z] at e;cases e
 |ok x h1=>
  rw[z] at e;have e:RA.ok x (JQ h1)=.ok (.ret v,ρ) h0:=e
  injection e with e1 e2
  clear z e;subst e1 e2;show tB (CQ v||JK v) _=_;rw[c]
theorem nU(I:Ph is sd):∃x∈A5,∃is' sd',Ph is' sd'∧∀(a0 a1:Ob) (h:HA) (t:V) (ex:List Ob) (m:Nat) (ρ:Af) (K:Fl→Af→HA→RA X),Rh ρ→Fx (m+17) CH ρ (AO 0 DJ) (hB a0 a1 h t is sd ex) K=K .next ((Em,.str x)::ρ) (hB a0 a1 h t is' sd' (ex++ [.list Yx])):=by
 refine Hl (WY I Yx (w:=4) (by decide) rfl (by decide)) fun v hv is' sd' h1 h2=>?_;refine AZ (List.mem_map.mp (show v∈A5.map V.str from hv)) fun x hx z2q=>?_;subst z2q;exact⟨x,hx,is',sd',h1,fun a0 a1 h t ex m ρ K H=>tu0.trans (h2 a0 a1 h t ex m ρ (fun v h=>K .next ((Em,v)::ρ) h) H)⟩
theorem nT(I:Ph is sd):∃x∈Cm,∃is' sd',Ph is' sd'∧∀(a0 a1:Ob) (h:HA) (t:V) (ex:List Ob) (m:Nat) (ρ:Af) (K:Fl→Af→HA→RA X),Rh ρ→Fx (m+17) CH ρ (AO 1 DJ) (hB a0 a1 h t is sd ex) K=K .next ((GZ,.str x)::ρ) (hB a0 a1 h t is' sd' (ex++ [.list Zn])):=by
 refine Hl (WY I Zn (w:=9) (by decide) rfl (by decide)) fun v hv is' sd' h1 h2=>?_;refine AZ (List.mem_map.mp (show v∈Cm.map V.str from hv)) fun x hx z2q=>?_;subst z2q;exact⟨x,hx,is',sd',h1,fun a0 a1 h t ex m ρ K H=>tu1.trans (h2 a0 a1 h t ex m ρ (fun v h=>K .next ((GZ,v)::ρ) h) H)⟩
theorem in4{r:Nat}(h:(r:Int)<4):r∈[0,1,2,3]:=by
 have:r<4:=by omega
 match r,this with
 |0,_=>decide
 |1,_=>decide
 |2,_=>decide
 |3,_=>decide
theorem qp{r:Nat}(h:(r:Int)<14):r∈js:=by
 have:r<14:=by omega
 exact List.mem_range.mpr this
theorem nS(I:Ph is sd):∃i∈[0,1,2,3],∃j∈js,∃is' sd',Ph is' sd'∧∀(a0 a1:Ob) (h:HA) (t:V) (ex:List Ob) (m:Nat) (ρ:Af) (K:Fl→Af→HA→RA X),Rh ρ→Fx (m+18) CH ρ (AO 2 DJ) (hB a0 a1 h t is sd ex) K=K .next ((Dp,.int (.ofNat j))::(HD,.int (.ofNat i))::ρ) (hB a0 a1 h t is' sd' ex):=by
 refine A_ (OT I (w:=4) (by decide)) fun i is1 sd1 i1 i2 i3=>?_;refine A_ (OT i2 (w:=14) (by decide)) fun j is2 sd2 j1 j2 j3=>?_;refine⟨i,in4 i1,j,qp j1,is2,sd2,j2,fun a0 a1 h t ex m ρ K H=>tu2.trans ?_⟩
 let K2:V→V→HA→RA X:=fun a b h4=>tB (QV [a,b]) (K .next ((Dp,b)::(HD,a)::ρ) h4)
 let K1:V→HA→RA X:=fun a h2=>tB (Dz CH ρ "_law_take" &&true) (Ly CH ρ k_box h2 fun v h3=>KH (m+14) CH AV [v,.int 14] h3 (K2 a))
 have e1:tB (Dz CH ρ "_law_take" &&true) (Ly CH ρ k_box (hB a0 a1 h t is sd ex) fun v h1=>KH (m+15) CH AV [v,.int 4] h1 K1)=Ly CH ρ k_box (hB a0 a1 h t is sd ex) fun v h1=>KH (m+15) CH AV [v,.int 4] h1 K1:=En (f:="_law_take") (H.no _ (.head _)) (by kernel_rfl);have e2:(Ly CH ρ k_box (hB a0 a1 h t is sd ex) fun v h1=>KH (m+15) CH AV [v,.int 4] h1 K1)=KH (m+15) CH AV [.ref 3,.int 4] (hB a0 a1 h t is sd ex) K1:=SE H.bx;have e3:=i3 Bj B6 Bs a0 a1 h t ex (m+1) K1;have e4:K1 (.int (.ofNat i)) (hB a0 a1 h t is1 sd1 ex)=Ly CH ρ k_box (hB a0 a1 h t is1 sd1 ex) fun v h3=>KH (m+14) CH AV [v,.int 14] h3 (K2 (.int (.ofNat i))):=En (f:="_law_take") (H.no _ (.head _)) (by kernel_rfl);have e5:(Ly CH ρ k_box (hB a0 a1 h t is1 sd1 ex) fun v h3=>KH (m+14) CH AV [v,.int 14] h3 (K2 (.int (.ofNat i))))=KH (m+14) CH AV [.ref 3,.int 14] (hB a0 a1 h t is1 sd1 ex) (K2 (.int (.ofNat i))):=SE H.bx;have e6:=j3 Bj B6 Bs a0 a1 h t ex m (K2 (.int (.ofNat i)));exact e1.trans (e2.trans (e3.trans (e4.trans (e5.trans e6))))
end
section
variable{ρ:Af} {h:HA} {m k:Nat} {v:V} {is:List Int} {sd:Int} {a0 a1:Ob} {t:V} {ex:List Ob}
noncomputable abbrev pL(x w b:List Nat):List V:=(RM x w b).map pv
theorem nR(I:Ph is sd){x w:List Nat}(hx:x∈A5)(hw:w∈Cm):∃b∈Bm,∃is' sd',Ph is' sd'∧∀(a0 a1:Ob) (h:HA) (t:V) (ex:List Ob) (m:Nat) (ρ:Af) (i j:Int) (K:Fl→Af→HA→RA X),Rh ρ→Fx (m+20) CH (ρ3 x w i j ρ) (AO 3 DJ) (hB a0 a1 h t is sd ex) K=K .next ((DA,.lst (pL x w b))::ρ3 x w i j ρ) (hB a0 a1 h t is' sd' (ex++ [.list XZ])):=by
 refine Hl (WY I XZ (w:=2) (by decide) rfl (by decide)) fun v hv is' sd' h1 h2=>?_;refine AZ (List.mem_map.mp (show v∈Bm.map V.str from hv)) fun b hb z2q=>?_;subst z2q;refine⟨b,hb,is',sd',h1,fun a0 a1 h t ex m ρ i j K H=>tu3.trans ?_⟩
 let KP:V→HA→RA X:=fun v h=>K .next ((DA,v)::ρ3 x w i j ρ) h
 have e1:tB (Dz CH ρ "_law_pieces" &&true) (dE Bj B6 Bs ρ (hB a0 a1 h t is sd ex) m XZ 2 fun v h=>AB Bj [.str x,.str w,v] h KP)=dE Bj B6 Bs ρ (hB a0 a1 h t is sd ex) m XZ 2 fun v h=>AB Bj [.str x,.str w,v] h KP:=En (f:="_law_pieces") (H.no _ (.tail _ (.head _))) (by kernel_rfl);have e2:=h2 a0 a1 h t ex m ρ (fun v h=>AB Bj [.str x,.str w,v] h KP) H;have e3:=Nu (P:=Bj) (vs:= [.str x,.str w,.str b]) (h:=hB a0 a1 h t is' sd' (ex++ [.list XZ])) (K:=KP) rfl (jF hx hw hb (hB a0 a1 h t is' sd' (ex++ [.list XZ]))) rfl;exact e1.trans (e2.trans e3)
theorem nQ(I:Ph is sd){x w b:List Nat}:∃p∈RM x w b,∃is' sd',Ph is' sd'∧∀(a0 a1:Ob) (h:HA) (t:V) (ex:List Ob) (m:Nat) (ρ:Af) (K:Fl→Af→HA→RA X),Rh ρ→Fx (m+20) CH ((DA,.lst (pL x w b))::ρ) (AO 4 DJ) (hB a0 a1 h t is sd ex) K=K .next ((EJ,.int (.ofNat p.2.1))::(FV,.str p.1)::(DA,.lst (pL x w b))::ρ) (hB a0 a1 h t is' sd' ex):=by
 have hL:(pL x w b).length=51:=rfl;refine A_ (OT I (w:=.ofNat (pL x w b).length) (by rw[hL];decide)) fun r is' sd' r1 r2 r3=>?_;have hr:r<(RM x w b).length:=by
  have:(r:Int)<((pL x w b).length:Nat):=r1;rw[List.length_map] at this;omega
 refine⟨(RM x w b)[r],List.getElem_mem hr,is',sd',r2,fun a0 a1 h t ex m ρ K H=>tu4.trans ?_⟩
 let ρ':Af:=(DA,.lst (pL x w b))::ρ
 let K2:V→HA→RA X:=fun a h=>oA (Ap h (.lst (pL x w b)) a) fun w=>oA (IG w) fun vs=>oA (An AU.sc [FV,EJ] vs ρ') fun ρ=>K .next ρ h
 let K1:V→HA→RA X:=fun v h=>tB (Dz CH ρ "len" &&true) (tB (Nat.ble (pL x w b).length BV) (KH (m+14) CH AV [v,.int (.ofNat (pL x w b).length)] h K2))
 have e1:tB (Dz CH ρ "_law_take" &&true) (Ly CH ρ k_box (hB a0 a1 h t is sd ex) K1)=Ly CH ρ k_box (hB a0 a1 h t is sd ex) K1:=En (f:="_law_take") (H.no _ (.head _)) (by kernel_rfl);have e2:Ly CH ρ k_box (hB a0 a1 h t is sd ex) K1=K1 (.ref 3) (hB a0 a1 h t is sd ex):=SE H.bx;have e3:K1 (.ref 3) (hB a0 a1 h t is sd ex)=tB (Nat.ble (pL x w b).length BV) (KH (m+14) CH AV [.ref 3,.int (.ofNat (pL x w b).length)] (hB a0 a1 h t is sd ex) K2):=En (f:="len") (H.no _ (.tail _ (.tail _ (.tail _ (.tail _ (.head _)))))) (by kernel_rfl);have e4:tB (Nat.ble (pL x w b).length BV) (KH (m+14) CH AV [.ref 3,.int (.ofNat (pL x w b).length)] (hB a0 a1 h t is sd ex) K2)=KH (m+14) CH AV [.ref 3,.int (.ofNat (pL x w b).length)] (hB a0 a1 h t is sd ex) K2:=by rw[hL];rfl
 have e5:=r3 Bj B6 Bs a0 a1 h t ex m K2;refine e1.trans (e2.trans (e3.trans (e4.trans (e5.trans ?_))));have e6:Ap (hB a0 a1 h t is' sd' ex) (.lst (pL x w b)) (.int (.ofNat r))=some (pv (RM x w b)[r]):=by
  show cC (Nat.blt r BV) none (pL x w b)[r]? =_;rw[show Nat.blt r BV=true from Nat.ble_eq_true_of_le (by have:r<51:=hr;show r+1≤1048576;omega),List.getElem?_map,List.getElem?_eq_getElem hr];rfl
 show oA (Ap _ _ _) _=_;rw[e6]
 generalize (RM x w b)[r]=p
 show oA (An AU.sc [FV,EJ] [.str p.1,.int (.ofNat p.2.1)] ρ') (fun ρ=>K .next ρ (hB a0 a1 h t is' sd' ex))=_;exact(show∀(K:Af→RA X) (a b:V) (ρ':Af),oA (An AU.sc [FV,EJ] [a,b] ρ') K=K ((EJ,b)::(FV,a)::ρ') from fun J J J J=>by kernel_rfl) (fun ρ=>K .next ρ (hB a0 a1 h t is' sd' ex)) _ _ _
theorem nP{x w p:List Nat} {L:List V} {tl:Int} {i j:Nat}(hi:i∈[0,1,2,3])(hj:j∈js)(hp:p.length≤500)(H:Rh ρ){K:Fl→Af→HA→RA X}:Fx (m+20) CH (ρ5 x w (.ofNat i) (.ofNat j) L p tl ρ) (AO 5 DJ) (hB a0 a1 h t is sd ex) K=K .next (ρ6 (EY i j++(p++E7 i j)) (D0 i j) (ρ5 x w (.ofNat i) (.ofNat j) L p tl ρ)) (hB a0 a1 h t is sd ex):=by
 refine tu5.trans ?_
 let K1:V→HA→RA X:=fun v h=>oA (IG v) fun vs=>oA (An AU.sc [BG,Ad] vs (ρ5 x w (.ofNat i) (.ofNat j) L p tl ρ)) fun ρ=>K .next ρ h
 have e1:tB (Dz CH ρ "_law_program" &&true) (AB B6 [.str p,.int (.ofNat i),.int (.ofNat j)] (hB a0 a1 h t is sd ex) K1)=AB B6 [.str p,.int (.ofNat i),.int (.ofNat j)] (hB a0 a1 h t is sd ex) K1:=En (f:="_law_program") (H.no _ (.tail _ (.tail _ (.head _)))) (by kernel_rfl);have e2:=Nu (P:=B6) (vs:= [.str p,.int (.ofNat i),.int (.ofNat j)]) (h:=hB a0 a1 h t is sd ex) (K:=K1) rfl (gh (hB a0 a1 h t is sd ex) hi hj hp) rfl;refine e1.trans (e2.trans ?_);exact(show∀(K:Af→RA X) (a b:V) (ρ':Af),oA (An AU.sc [BG,Ad] [a,b] ρ') K=K ((Ad,b)::(BG,a)::ρ') from fun J J J J=>by kernel_rfl) (fun ρ=>K .next ρ (hB a0 a1 h t is sd ex)) _ _ _
theorem bH{s:List Nat} {b:Bool} {r:List V} {K:V→HA→RA X}(hL:FC s b):AB Bs [.str s] (hB a0 a1 h (.lst (.bool b::r)) is sd ex) K=K (.bool b) (hB a0 a1 h (.lst r) is sd ex):=by
 have e:Bs [.str s] {hB a0 a1 h (.lst (.bool b::r)) is sd ex with lo:= []}=.ok (.ret (.bool b),[]) {hB a0 a1 h (.lst r) is sd ex with lo:= []}:=if_pos ⟨hL,rfl,rfl,rfl⟩;exact E9 (h:=hB a0 a1 h (.lst (.bool b::r)) is sd ex) (h':={hB a0 a1 h (.lst r) is sd ex with lo:= []}) rfl e rfl
theorem nO{x w p s:List Nat} {L:List V} {tl i j:Int} {st:Bool} {r:List V}(ht:tl=0∨tl=1∨tl=2)(hL:FC s (told tl st))(H:Rh ρ){K:Fl→Af→HA→RA X}:Fx (m+20) CH (ρ6 s st (ρ5 x w i j L p tl ρ)) (AO 6 DJ) (hB a0 a1 h (.lst (.bool (told tl st)::r)) is sd ex) K=K .next (ρ6 s st (ρ5 x w i j L p tl ρ)) (hB a0 a1 h (.lst r) is sd ex):=by
 refine(tu6 ht).trans ?_
 let K1:V→HA→RA X:=fun v h=>oA (AF h .NotEq v (.bool (told tl st))) fun c=>cC c (K .next (ρ6 s st (ρ5 x w i j L p tl ρ)) h) (K (.ret (.bool false)) (ρ6 s st (ρ5 x w i j L p tl ρ)) h)
 have e1:tB (Dz CH ρ "_law_is_let" &&true) (AB Bs [.str s] (hB a0 a1 h (.lst (.bool (told tl st)::r)) is sd ex) K1)=AB Bs [.str s] (hB a0 a1 h (.lst (.bool (told tl st)::r)) is sd ex) K1:=En (f:="_law_is_let") (H.no _ (.tail _ (.tail _ (.tail _ (.head _))))) (by kernel_rfl);refine e1.trans ((bH hL).trans ?_);show oA (AF _ .NotEq (.bool (told tl st)) (.bool (told tl st))) _=_;cases told tl st<;>rfl
end
theorem cg{n:Nat} {s:Bool}(h:n≤2):told (.ofNat n) s=mB n s:=by
 match n,h with
 |0,_=>rfl
 |1,_=>rfl
 |2,_=>rfl
theorem Rh.p3{ρ:Af} {x w:List Nat} {i j:Int}(H:Rh ρ):Rh (ρ3 x w i j ρ):=(((H.push (by decide+kernel)).push (by decide+kernel)).push (by decide+kernel)).push (by decide+kernel)
theorem Rh.p6{ρ:Af} {x w p s:List Nat} {i j tl:Int} {L:List V} {st:Bool}(H:Rh ρ):Rh (ρ6 s st (ρ5 x w i j L p tl ρ)):=((((H.p3.push (by decide+kernel)).push (by decide+kernel)).push (by decide+kernel)).push (by decide+kernel)).push (by decide+kernel)
theorem OR{is:List Int} {sd:Int}(I:Ph is sd):∃b is' sd',Ph is' sd'∧∀(a0 a1:Ob) (h:HA) (r:List V) (ex:List Ob) (m:Nat) (ρ:Af) (K:Fl→Af→HA→RA X),Rh ρ→∃ρ' ex',Rh ρ'∧BS (m+47) CH ρ DJ (hB a0 a1 h (.lst (.bool b::r)) is sd ex) K=K .next ρ' (hB a0 a1 h (.lst r) is' sd' ex'):=by
 refine Hl (nU I) fun x hx is1 sd1 I1 e0=>?_;refine Hl (nT I1) fun w hw is2 sd2 I2 e1=>?_;obtain⟨i,hi,j,hj,is3,sd3,I3,e2⟩:=nS I2;refine Hl (nR I3 hx hw) fun b hb is4 sd4 I4 e3=>?_;refine Hl (nQ (x:=x) (w:=w) (b:=b) I4) fun p hp is5 sd5 I5 e4=>?_;refine xA (Wk hx hw hb hp) fun l1 l2=>?_;refine⟨told (.ofNat p.2.1) (D0 i j),is5,sd5,I5,fun a0 a1 h r ex m ρ K H=>⟨ρ6 (EY i j++(p.1++E7 i j)) (D0 i j) (ρ5 x w (.ofNat i) (.ofNat j) (pL x w b) p.1 (.ofNat p.2.1) ρ),ex++ [.list Yx]++ [.list Zn]++ [.list XZ],H.p6,?_⟩⟩;have H1:Rh ((Em,.str x)::ρ):=H.push (by decide+kernel);have H2:Rh ((GZ,.str w)::(Em,.str x)::ρ):=H1.push (by decide+kernel)
 let T:V:=.lst (.bool (told (.ofNat p.2.1) (D0 i j))::r)
 let KK:Nat→Fl→Af→HA→RA X:=fun q=>Sm (m+46-q) CH ((DJ).drop (q+1)) K
 have c0:BS (m+47) CH ρ DJ (hB a0 a1 h T is sd ex) K=Fx (m+46) CH ρ (AO 0 DJ) (hB a0 a1 h T is sd ex) (Sm (m+46) CH [AO 1 DJ,AO 2 DJ,AO 3 DJ,AO 4 DJ,AO 5 DJ,AO 6 DJ] K):=(congrArg (fun l=>BS (m+47) CH ρ l (hB a0 a1 h T is sd ex) K) l_).trans MB;have d0:=e0 a0 a1 h T ex (m+29) ρ (Sm (m+46) CH [AO 1 DJ,AO 2 DJ,AO 3 DJ,AO 4 DJ,AO 5 DJ,AO 6 DJ] K) H;have d1:=e1 a0 a1 h T (ex++ [.list Yx]) (m+28) ((Em,.str x)::ρ) (Sm (m+45) CH [AO 2 DJ,AO 3 DJ,AO 4 DJ,AO 5 DJ,AO 6 DJ] K) H1;have d2:=e2 a0 a1 h T (ex++ [.list Yx]++ [.list Zn]) (m+26) ((GZ,.str w)::(Em,.str x)::ρ) (Sm (m+44) CH [AO 3 DJ,AO 4 DJ,AO 5 DJ,AO 6 DJ] K) H2;have d3:=e3 a0 a1 h T (ex++ [.list Yx]++ [.list Zn]) (m+23) ρ (.ofNat i) (.ofNat j) (Sm (m+43) CH [AO 4 DJ,AO 5 DJ,AO 6 DJ] K) H;have d4:=e4 a0 a1 h T (ex++ [.list Yx]++ [.list Zn]++ [.list XZ]) (m+22) (ρ3 x w (.ofNat i) (.ofNat j) ρ) (Sm (m+42) CH [AO 5 DJ,AO 6 DJ] K) H.p3;have d5:=nP (x:=x) (w:=w) (p:=p.1) (L:=pL x w b) (tl:=.ofNat p.2.1) (m:=m+21) (is:=is5) (sd:=sd5) (a0:=a0) (a1:=a1) (h:=h) (t:=T) (ex:=ex++ [.list Yx]++ [.list Zn]++ [.list XZ]) hi hj l1 H (K:=Sm (m+41) CH [AO 6 DJ] K);have d6:=nO (x:=x) (w:=w) (p:=p.1) (s:=EY i j++(p.1++E7 i j)) (L:=pL x w b) (tl:=.ofNat p.2.1) (i:=.ofNat i) (j:=.ofNat j) (st:=D0 i j) (r:=r) (m:=m+20) (is:=is5) (sd:=sd5) (a0:=a0) (a1:=a1) (h:=h) (ex:=ex++ [.list Yx]++ [.list Zn]++ [.list XZ]) (by
  rcases(show p.2.1=0∨p.2.1=1∨p.2.1=2 by omega) with e|e|e<;>rw[e]
  ·exact .inl rfl
  ·exact .inr (.inl rfl)
  ·exact .inr (.inr rfl)) (cg l2▸Zk hx hw hb hp hi hj) H (K:=Sm (m+40) CH [] K)
 exact c0.trans (d0.trans (d1.trans (d2.trans (d3.trans (d4.trans (d5.trans d6))))))
noncomputable def q7:Stmt→Expr
 |.For t _ _ _ _=>t
 |_=>.Name "" ⟨0,0,0,0⟩
noncomputable abbrev RN(i:Nat):Expr:=q7 (AO i AU.body)
noncomputable abbrev RO(i:Nat):List Stmt:=j0 (AO i AU.body)
section
variable{A B C:PF} {ρ:Af} {h:HA} {m n k:Nat} {K:Fl→Af→HA→RA X} {i j:Int} {v:V}
theorem lw3:Fx (m+8) (cl A B C) ρ (AO 3 AU.body) h K=tB (Tg (cl A B C) ρ "range" [.Constant (.int 4) 0 ⟨0,0,0,0⟩]) (RP (m+7) (cl A B C) ρ (RN 3) (RO 3) 0 4 h K):=by kernel_rfl
theorem qv:RP (m+1) (cl A B C) ρ (RN 3) (RO 3) 4 4 h K=K .next ρ h:=by kernel_rfl
noncomputable abbrev kF(A B C:PF)(m:Nat)(i j:Int)(K:Fl→Af→HA→RA X):Fl→Af→HA→RA X:=fun x ρ h=>match x with
   |.next=>RP m (cl A B C) ρ (RN 3) (RO 3) (i+1) j h K
   |.cont=>RP m (cl A B C) ρ (RN 3) (RO 3) (i+1) j h K
   |.brk=>K .next ρ h
   |.ret v=>K (.ret v) ρ h
theorem qz:RP (m+1) (cl A B C) ρ (RN 3) (RO 3) 0 4 h K=BS m (cl A B C) ((Ga,.int 0)::ρ) DJ h (kF A B C m 0 4 K):=by kernel_rfl
theorem qy:RP (m+1) (cl A B C) ρ (RN 3) (RO 3) (0+1) 4 h K=BS m (cl A B C) ((Ga,.int 1)::ρ) DJ h (kF A B C m 1 4 K):=by kernel_rfl
theorem qx:RP (m+1) (cl A B C) ρ (RN 3) (RO 3) (1+1) 4 h K=BS m (cl A B C) ((Ga,.int 2)::ρ) DJ h (kF A B C m 2 4 K):=by kernel_rfl
theorem qw:RP (m+1) (cl A B C) ρ (RN 3) (RO 3) (2+1) 4 h K=BS m (cl A B C) ((Ga,.int 3)::ρ) DJ h (kF A B C m 3 4 K):=by kernel_rfl
noncomputable abbrev NB(A B C:PF)(ρ:Af)(s:List Nat)(h:HA)(K:Bool→HA→RA X):RA X:=tB (Dz (cl A B C) ρ "_law_is_let" &&true) (AB C [.str s] h fun v h=>AE v fun b=>K b h)
theorem lw4:Fx (m+20) (cl A B C) ρ (AO 4 AU.body) h K=NB A B C ρ [102,117,110,99,116,105,111,110,32,103,40,97,44,32,97,41,32,123,32,114,101,116,117,114,110,32,97,59,32,125] h fun a h=>cC (!a) (NB A B C ρ [102,117,110,99,116,105,111,110,32,103,40,97,44,32,97,41,32,123,32,39,117,115,101,32,115,116,114,105,99,116,39,59,32,125] h fun b h=>cC b (K .next ρ h) (K (.ret (.bool false)) ρ h)) (K (.ret (.bool false)) ρ h):=by kernel_rfl
theorem lw5:Fx (m+20) (cl A B C) ρ (AO 5 AU.body) h K=NB A B C ρ [114,101,116,117,114,110,32,49,59] h fun a h=>cC a (NB A B C ρ [102,117,110,99,116,105,111,110,32,101,118,97,108,40,41,32,123,32,39,117,115,101,32,115,116,114,105,99,116,39,59,32,125] h fun b h=>cC b (NB A B C ρ [102,117,110,99,116,105,111,110,32,103,40,41,32,123,32,39,92,49,39,59,32,39,117,115,101,32,115,116,114,105,99,116,39,59,32,125] h fun c h=>cC c (K .next ρ h) (K (.ret (.bool false)) ρ h)) (K (.ret (.bool false)) ρ h)) (K (.ret (.bool false)) ρ h):=by kernel_rfl
theorem lw6:Fx (m+20) (cl A B C) ρ (AO 6 AU.body) h K=NB A B C ρ [102,117,110,99,116,105,111,110,32,103,40,41,32,123,32,114,101,116,117,114,110,10,49,32,125] h fun a h=>cC a (K (.ret (.bool false)) ρ h) (NB A B C ρ [97,10,98] h fun b h=>cC b (K (.ret (.bool false)) ρ h) (NB A B C ρ [97,32,98] h fun c h=>K (.ret (.bool (!c))) ρ h)):=by kernel_rfl
end
noncomputable def sV(v:V):List (Nat×V):=match v with
 |.inst _ fs=>fs
 |_=> []
noncomputable abbrev kr:=Option (List V×List Nat×Nat×V)
noncomputable def qX(r:kr):kr:=match r with
 |some (t::q,_,a,l)=>some (AQ (sV t)::q,[],a,l)
 |_=>none
noncomputable abbrev VS(n:Nat)(s:List Nat):kr:=AM (A4 A3) n s 0 (.int 1)
noncomputable def T_(K:Nat)(r:kr):RA X:=match r with
 |some (t::q,_)=>(AX K).Bt [.par,.bool true] (sB t q false 0 [] [])
 |_=>.no
noncomputable def rtF(f:Fl)(d:RA X)(k:V→RA X):RA X:=match f with
 |.ret v=>k v
 |_=>d
noncomputable def lsV(v:V)(d:RA X)(k:List V→RA X):RA X:=match v with
 |.lst l=>k l
 |_=>d
noncomputable def jM(r:RA X):RA X:=match r with
 |.ok x h=>rtF x.1 .no fun v=>lsV v .no fun acc=>.ok (.ret (.lst acc),[]) (sB (AQ (sV h.tok)) [] (match h.strict with|.bool b=>b|_=>false) (match h.depth with|.int z=>z|_=>0) [] [])
 |_=>.no
theorem sF{x:X} {h:HA} {G:Prop}(e:RA.ok x h=.no):G:=nomatch e
theorem dZ{r:RA X}(e:r=jM r)(hn:r≠ .no):∃acc efs b z,r=.ok (.ret (.lst acc),[]) (sB (AQ efs) [] b z [] []):=by
 cases r with
 |no=>exact absurd rfl hn
 |ex c=>exact nomatch (show RA.ex c=.no from e)
 |ok x h=>
  obtain⟨f,ρ⟩:=x;cases f with
  |ret v=>
   cases v with
   |lst l=>exact⟨_,_,_,_,e⟩
   |_=>exact sF e
  |_=>exact sF e
theorem XN{s:List Nat} {n:Nat} {ts:List V} {a:Nat} {l:V}(hs:s.length≤1000000)(e:VS n s=some (ts,[],a,l)):fT s ts:=fun W wf=>by
 obtain⟨i1,i2,i3⟩:=Oz wf hs e rfl rfl;have:=i3 [] i2
 rwa [List.append_nil] at this
theorem a_{r:kr}(e:r=qX r)(hn:r≠none):∃fs q a l,r=some (AQ fs::q,[],a,l):=by
 cases r with
 |none=>exact absurd rfl hn
 |some x=>
  obtain⟨ts,y⟩:=x;cases ts with
  |nil=>exact Cq e
  |cons t q=>exact⟨_,_,_,_,e⟩
theorem Sr{s:List Nat} {n K:Nat}(hK:K≤98)(hs:s.length≤1000000)(e1:VS n s=qX (VS n s))(h1:(VS n s).isSome=true)(e2:T_ K (VS n s)=jM (T_ K (VS n s)))(h2:T_ K (VS n s)≠ .no):FC s true:=by
 obtain⟨fs,q,a,l,e⟩:=a_ e1 fun z=>by rw[z] at h1;cases h1
 obtain⟨acc,efs,b,z,e3⟩:=dZ e2 h2;rw[e] at e3;exact .inl ⟨rfl,K,_,q,acc,z,b,efs,hK,⟨fs,rfl⟩,XN hs e,e3⟩
theorem MM{s:List Nat} {n K:Nat}(hK:K≤98)(hs:s.length≤1000000)(e1:VS n s=qX (VS n s))(h1:(VS n s).isSome=true)(e2:T_ K (VS n s)=.ex Ab):FC s false:=by
 obtain⟨fs,q,a,l,e⟩:=a_ e1 fun z=>by rw[z] at h1;cases h1
 rw[e] at e2;exact .inr ⟨rfl,K,_,q,hK,⟨fs,rfl⟩,XN hs e,e2⟩
noncomputable def ql(r:RA X):Bool:=match r with
 |.no=>false
 |_=>true
theorem SH{r:RA X}(h:ql r=true):r≠ .no:=fun z=>by subst z;cases h
theorem te0:FC [102,117,110,99,116,105,111,110,32,103,40,97,44,32,97,41,32,123,32,114,101,116,117,114,110,32,97,59,32,125] true:=Sr (n:=13) (K:=90) (by decide) (by decide) (by kernel_rfl) (by kernel_rfl) (by kernel_rfl) (SH (by kernel_rfl))
theorem te1:FC [102,117,110,99,116,105,111,110,32,103,40,97,44,32,97,41,32,123,32,39,117,115,101,32,115,116,114,105,99,116,39,59,32,125] false:=MM (n:=12) (K:=90) (by decide) (by decide) (by kernel_rfl) (by kernel_rfl) (by kernel_rfl)
theorem te2:FC [114,101,116,117,114,110,32,49,59] false:=MM (n:=4) (K:=90) (by decide) (by decide) (by kernel_rfl) (by kernel_rfl) (by kernel_rfl)
theorem te3:FC [102,117,110,99,116,105,111,110,32,101,118,97,108,40,41,32,123,32,39,117,115,101,32,115,116,114,105,99,116,39,59,32,125] false:=MM (n:=9) (K:=90) (by decide) (by decide) (by kernel_rfl) (by kernel_rfl) (by kernel_rfl)
theorem te4:FC [102,117,110,99,116,105,111,110,32,103,40,41,32,123,32,39,92,49,39,59,32,39,117,115,101,32,115,116,114,105,99,116,39,59,32,125] false:=MM (n:=11) (K:=90) (by decide) (by decide) (by kernel_rfl) (by kernel_rfl) (by kernel_rfl)
theorem te5:FC [102,117,110,99,116,105,111,110,32,103,40,41,32,123,32,114,101,116,117,114,110,10,49,32,125] true:=Sr (n:=9) (K:=90) (by decide) (by decide) (by kernel_rfl) (by kernel_rfl) (by kernel_rfl) (SH (by kernel_rfl))
theorem te6:FC [97,10,98] true:=Sr (n:=3) (K:=90) (by decide) (by decide) (by kernel_rfl) (by kernel_rfl) (by kernel_rfl) (SH (by kernel_rfl))
theorem te7:FC [97,32,98] false:=MM (n:=3) (K:=90) (by decide) (by decide) (by kernel_rfl) (by kernel_rfl) (by kernel_rfl)
section
variable{A B C:PF} {ρ:Af} {h:HA} {m n k:Nat} {K:Fl→Af→HA→RA X} {i j sd:Int} {v:V} {L:List V}
theorem KQ{a0 a1:Ob} {is:List Int} {ex:List Ob} {s:List Nat} {b:Bool} {r:List V} {K:Bool→HA→RA X}(H:Rh ρ)(hL:FC s b):NB Bj B6 Bs ρ s (hB a0 a1 h (.lst (.bool b::r)) is sd ex) K=K b (hB a0 a1 h (.lst r) is sd ex):=by
 have e1:NB Bj B6 Bs ρ s (hB a0 a1 h (.lst (.bool b::r)) is sd ex) K=AB Bs [.str s] (hB a0 a1 h (.lst (.bool b::r)) is sd ex) fun v h=>AE v fun b=>K b h:=En (f:="_law_is_let") (H.no _ (.tail _ (.tail _ (.tail _ (.head _))))) (by kernel_rfl);exact e1.trans (bH hL)
noncomputable abbrev lO(A B C:PF)(ρ:Af)(one:V)(h:HA)(K:V→HA→RA X):RA X:=Ly (cl A B C) ρ CO h fun v h=>A2 false h .Mult v (.int 31) fun a h=>A2 false h .Add a one fun a h=>A2 false h .Mod a (.int 2147483647) K
theorem lw0:Fx (m+8) (cl A B C) ρ (AO 0 AU.body) h K=K .next ((CO,.int 57)::ρ) h:=by kernel_rfl
noncomputable abbrev Br(n:Nat):Nat:=cC (Nat.ble 24 n) n 24
theorem lw1:Fx (m+8) (cl A B C) [(CO,.int 57),(By,.lst L)] (AO 1 AU.body) h K=tB (Nat.ble L.length BV&&!false) (SM (m+7) (cl A B C) [(CO,.int 57),(By,.lst L)] (RN 1) (RO 1) (.ref h.lo.length) 0 (Ss h (.list (cut L 0 (Br L.length)))) K):=by kernel_rfl
noncomputable abbrev kO(A B C:PF)(m k:Nat)(src:V)(K:Fl→Af→HA→RA X):Fl→Af→HA→RA X:=fun x ρ h=>match x with
   |.next=>SM m (cl A B C) ρ (RN 1) (RO 1) src (k+1) h K
   |.cont=>SM m (cl A B C) ρ (RN 1) (RO 1) src (k+1) h K
   |.brk=>K .next ρ h
   |.ret v=>K (.ret v) ρ h
theorem j5{q:Nat}:SM (m+10) (cl A B C) ρ (RN 1) (RO 1) (.ref q) k h K=oA (CP h (.ref q)) fun l=>cO l[k]? (K .next ρ h) fun one=>lO A B C ρ one h fun v h=>kO A B C (m+9) k (.ref q) K .next ((CO,v)::(Qd,one)::ρ) h:=by kernel_rfl
theorem lw2:Fx (m+20) (cl A B C) ρ (AO 2 AU.body) h K=tB (Dz (cl A B C) ρ "list" &&true) (Ly (cl A B C) ρ By h fun v h=>Vo false h v none (some (.int 24)) fun v h=>Aq false .list [v] h fun v h=>Ly (cl A B C) ρ CO h fun w h=>As false h [v,w] fun v h=>K .next ((k_box,v)::ρ) h):=by kernel_rfl
theorem nI(hs:AK CO ρ=some (.int sd))(h0:0≤sd)(h1:sd<2147483647):∃sd':Int,0≤sd'∧sd'<2147483647∧∀(h:HA) (K:V→HA→RA X),lO A B C ρ (.int i) h K=K (.int sd') h:=by
 refine⟨(sd*31+i).fmod 2147483647,Int.fmod_nonneg_of_pos _ (by decide),Int.fmod_lt_of_pos _ (by decide),fun h K=>(SE hs).trans ?_⟩;show oA (cC (Fj sd&&Fj 31) none (some (sd*31))) _=_;rw[IJ h0 h1,IJ (i:=31) (by decide) (by decide)];rfl
structure R0(L:List V)(ρ:Af)(sd:Int):Prop where
 sc:AK By ρ=some (.lst L)
 se:AK CO ρ=some (.int sd)
 lo:0≤sd
 hi:sd<2147483647
 no:∀k,k∈gN→AK k ρ=none
theorem R0.push(H:R0 L ρ sd){sd':Int} {one:V}(h0:0≤sd')(h1:sd'<2147483647):R0 L ((CO,.int sd')::(Qd,one)::ρ) sd':=
 ⟨H.sc,rfl,h0,h1,fun k hk=>by
  have ne:∀j,E6 j gN=false→j≠k:=fun j hj e=>by
   rw[Ht] at hj;have:=List.contains_iff_mem.mpr (e▸hk);rw[hj] at this;cases this
  rw[A7,if_neg (ne _ (by decide+kernel)),A7,if_neg (ne _ (by decide+kernel))];exact H.no k hk⟩
theorem j4{is:List Int}:∀(d k:Nat),k+d=is.length→∀(ρ:Af) (sd:Int),R0 L ρ sd→∃ρ' sd',R0 L ρ' sd'∧∀(h:HA) (q m:Nat) (K:Fl→Af→HA→RA X),CP h (.ref q)=some (is.map .int)→SM (m+d+10) (cl A B C) ρ (RN 1) (RO 1) (.ref q) k h K=K .next ρ' h
 |0,k,e,ρ,sd,H=>⟨ρ,sd,H,fun h q m K hi=>by
  refine(j5 (m:=m)).trans ?_;rw[hi];show cO (is.map V.int)[k]? _ _=_;rw[List.getElem?_eq_none (by rw[List.length_map];omega)]⟩
 |d+1,k,e,ρ,sd,H=>by
  have hk:k<is.length:=by omega
  obtain⟨sd1,a1,a2,a3⟩:=nI (A:=A) (B:=B) (C:=C) (i:=is[k]) H.se H.lo H.hi;obtain⟨ρ',sd',b1,b2⟩:=j4 (is:=is) d (k+1) (by omega) ((CO,.int sd1)::(Qd,.int is[k])::ρ) sd1 (H.push a1 a2);refine⟨ρ',sd',b1,fun h q m K hi=>?_⟩;have e1:=j5 (A:=A) (B:=B) (C:=C) (ρ:=ρ) (h:=h) (q:=q) (k:=k) (m:=m+(d+1)) (K:=K);rw[hi] at e1;have e2:(is.map V.int)[k]? =some (.int is[k]):=by rw[List.getElem?_map,List.getElem?_eq_getElem hk];rfl
  have e3:(cO (is.map V.int)[k]? (K .next ρ h) fun one=>lO A B C ρ one h fun v h=>kO A B C (m+(d+1)+9) k (.ref q) K .next ((CO,v)::(Qd,one)::ρ) h)=lO A B C ρ (.int is[k]) h fun v h=>kO A B C (m+(d+1)+9) k (.ref q) K .next ((CO,v)::(Qd,.int is[k])::ρ) h:=by rw[e2]
  exact e1.trans (e3.trans ((a3 h _).trans (b2 h q m K hi)))
end
theorem Y_{is:List Int} {sd:Int}(I:Ph is sd):∃b0 b1 b2 b3 is' sd',Ph is' sd'∧∀(a0 a1:Ob) (h:HA) (r:List V) (ex:List Ob) (m:Nat) (ρ:Af) (K:Fl→Af→HA→RA X),Rh ρ→∃ρ' ex',Rh ρ'∧RP (m+51) CH ρ (RN 3) (RO 3) 0 4 (hB a0 a1 h (.lst (.bool b0::.bool b1::.bool b2::.bool b3::r)) is sd ex) K=K .next ρ' (hB a0 a1 h (.lst r) is' sd' ex'):=by
 obtain⟨b0,is1,sd1,I1,e0⟩:=OR I;obtain⟨b1,is2,sd2,I2,e1⟩:=OR I1;obtain⟨b2,is3,sd3,I3,e2⟩:=OR I2;obtain⟨b3,is4,sd4,I4,e3⟩:=OR I3;refine⟨b0,b1,b2,b3,is4,sd4,I4,fun a0 a1 h r ex m ρ K H=>?_⟩;obtain⟨ρ1,ex1,H1,f0⟩:=e0 a0 a1 h (.bool b1::.bool b2::.bool b3::r) ex (m+3) ((Ga,.int 0)::ρ) (kF Bj B6 Bs (m+50) 0 4 K) (H.push (by decide+kernel));obtain⟨ρ2,ex2,H2,f1⟩:=e1 a0 a1 h (.bool b2::.bool b3::r) ex1 (m+2) ((Ga,.int 1)::ρ1) (kF Bj B6 Bs (m+49) 1 4 K) (H1.push (by decide+kernel));obtain⟨ρ3,ex3,H3,f2⟩:=e2 a0 a1 h (.bool b3::r) ex2 (m+1) ((Ga,.int 2)::ρ2) (kF Bj B6 Bs (m+48) 2 4 K) (H2.push (by decide+kernel));obtain⟨ρ4,ex4,H4,f3⟩:=e3 a0 a1 h r ex3 m ((Ga,.int 3)::ρ3) (kF Bj B6 Bs (m+47) 3 4 K) (H3.push (by decide+kernel));exact⟨ρ4,ex4,H4,qz.trans (f0.trans (qy.trans (f1.trans (qx.trans (f2.trans (qw.trans (f3.trans qv)))))))⟩
noncomputable abbrev hI(h:HA)(tp:List V):HA:={h with tok:=.lst tp,tmp:=none,gl:= [],lo:= []}
section
variable{h:HA} {m:Nat} {K:Fl→Af→HA→RA X} {L:List V} {ρ:Af} {is:List Int} {sd:Int} {ex:List Ob} {a0 a1:Ob}
theorem lwA{tp:List V}:DQ (TL Bj B6 Bs) 0 1 (m+2) false AU [.lst L] (hI h tp)=Fx m CH [(By,.lst L)] (AO 0 AU.body) (hI h tp) (Sm m CH (AU.body.drop 1) (ES 0 false)):=by kernel_rfl
theorem eE(H:Rh ρ):BS (m+23) CH ρ [AO 4 AU.body,AO 5 AU.body,AO 6 AU.body] (hB a0 a1 h (.lst [.bool true,.bool false,.bool false,.bool false,.bool false,.bool true,.bool true,.bool false]) is sd ex) K=K (.ret (.bool true)) ρ (hB a0 a1 h (.lst []) is sd ex):=by
 refine MB.trans (lw4.trans ?_);refine(KQ H te0).trans ?_;refine(KQ H te1).trans ?_;show BS (m+22) CH ρ [AO 5 AU.body,AO 6 AU.body] (hB a0 a1 h (.lst [.bool false,.bool false,.bool false,.bool true,.bool true,.bool false]) is sd ex) K=_;refine MB.trans (lw5.trans ?_);refine(KQ H te2).trans ?_;refine(KQ H te3).trans ?_;refine(KQ H te4).trans ?_;show BS (m+21) CH ρ [AO 6 AU.body] (hB a0 a1 h (.lst [.bool true,.bool true,.bool false]) is sd ex) K=_;refine MB.trans (lw6.trans ?_);refine(KQ H te5).trans ?_;refine(KQ H te6).trans ?_;exact KQ H te7
theorem Tx{f:Int→V} {l:List Int} {n:Nat}:cut (l.map f) 0 n=(l.take n).map f:=by
 show((l.map f).drop 0).take (n-0)=_;rw[List.drop_zero,Nat.sub_zero,List.map_take]
theorem cZ{n:Nat}:Br n≤24:=by
 unfold Br;cases c:Nat.ble 24 n with
 |true=>exact Nat.le_refl _
 |false=>
  have:¬24≤n:=fun z=>by rw[Nat.ble_eq_true_of_le z] at c;cases c
  show n≤24;omega
theorem kU{l:List Int}(H:R0 (l.map .int) ρ sd)(hl:l.length≤63)(t:V):Fx (m+20) CH ρ (AO 2 AU.body) {hI h [] with tok:=t,lo:= [a0]} K=K .next ((k_box,.ref 3)::ρ) (hB a0 (.list ((l.take (Br l.length)).map .int)) h t (l.take (Br l.length)) sd []):=by
 refine lw2.trans ?_;have hm:∀n,n≤63→Nat.ble n BV=true:=fun n hn=>Nat.ble_eq_true_of_le (by show n≤1048576;omega)
 let K4:V→V→HA→RA X:=fun v w h=>As false h [v,w] fun v h=>K .next ((k_box,v)::ρ) h
 let K3:V→HA→RA X:=fun v h=>Ly CH ρ CO h (K4 v)
 let K2:V→HA→RA X:=fun v h=>Aq false .list [v] h K3
 let K1:V→HA→RA X:=fun v h=>Vo false h v none (some (.int 24)) K2
 let h0:HA:={hI h [] with tok:=t,lo:= [a0]}
 have e1:tB (Dz CH ρ "list" &&true) (Ly CH ρ By h0 K1)=Ly CH ρ By h0 K1:=En (f:="list") (H.no _ (.tail _ (.tail _ (.tail _ (.tail _ (.tail _ (.tail _ (.head _)))))))) (by kernel_rfl);have e2:Ly CH ρ By h0 K1=K1 (.lst (l.map .int)) h0:=SE H.sc;have e3:K1 (.lst (l.map .int)) h0=K2 (.ref 1) {h0 with lo:= [a0,.list ((l.take (Br l.length)).map .int)]}:=by
  show tB (Nat.ble (l.map V.int).length BV&&!false) (FU false h0 (.list (cut (l.map V.int) 0 (Br (l.map V.int).length))) K2)=_;rw[List.length_map,hm _ hl,Tx];rfl
 have e4:K2 (.ref 1) {h0 with lo:= [a0,.list ((l.take (Br l.length)).map .int)]}=K3 (.ref 2) {h0 with lo:= [a0,.list ((l.take (Br l.length)).map .int),.list ((l.take (Br l.length)).map .int)]}:=by
  show tB (Nat.ble ((l.take (Br l.length)).map V.int).length BV&&!false) (FU false {h0 with lo:= [a0,.list ((l.take (Br l.length)).map .int)]} (.list ((l.take (Br l.length)).map V.int)) K3)=_;rw[hm _ (by rw[List.length_map,List.length_take];omega)];rfl
 have e5:K3 (.ref 2) {h0 with lo:= [a0,.list ((l.take (Br l.length)).map .int),.list ((l.take (Br l.length)).map .int)]}=K4 (.ref 2) (.int sd) {h0 with lo:= [a0,.list ((l.take (Br l.length)).map .int),.list ((l.take (Br l.length)).map .int)]}:=SE H.se;exact e1.trans (e2.trans (e3.trans (e4.trans e5)))
theorem R0.rh(H:R0 L ρ sd):Rh ((k_box,.ref 3)::ρ):=⟨rfl,fun k hk=>by
 have ne:k_box≠k:=fun e=>by
  have:=List.contains_iff_mem.mpr (e▸hk);rw[←Ht] at this;rw[show E6 k_box gN=false by decide+kernel] at this;cases this
 rw[A7,if_neg ne];exact H.no k hk⟩
end
theorem ji{l:List Int}(hl:l.length≤63):∃tp,∀h,∃h',DQ (TL Bj B6 Bs) 0 1 90 false AU [.lst (l.map .int)] (hI h tp)=.ok (.ret (.bool true),[]) h':=by
 have hr0:R0 (l.map .int) [(CO,.int 57),(By,.lst (l.map .int))] 57:=⟨rfl,rfl,by decide,by decide,fun k hk=>by
  have ne:∀j,E6 j gN=false→j≠k:=fun j hj e=>by
   rw[Ht] at hj;have:=List.contains_iff_mem.mpr (e▸hk);rw[hj] at this;cases this
  rw[A7,if_neg (ne _ (by decide+kernel)),A7,if_neg (ne _ (by decide+kernel))];rfl⟩
 have hlen:(l.take (Br l.length)).length≤24:=by have:=cZ (n:=l.length);rw[List.length_take];omega
 obtain⟨ρ1,sd1,H1,f1⟩:=j4 (A:=Bj) (B:=B6) (C:=Bs) (is:=l.take (Br l.length)) (L:=l.map .int) (l.take (Br l.length)).length 0 (Nat.zero_add _) _ _ hr0;have I:Ph (l.take (Br l.length)) sd1:=⟨hlen,H1.lo,H1.hi⟩;obtain⟨b0,b1,b2,b3,is',sd',_,f2⟩:=Y_ I;refine⟨.bool b0::.bool b1::.bool b2::.bool b3:: [.bool true,.bool false,.bool false,.bool false,.bool false,.bool true,.bool true,.bool false],fun h=>?_⟩
 generalize hq: [V.bool true,.bool false,.bool false,.bool false,.bool false,.bool true,.bool true,.bool false]=q
 let tp:List V:=.bool b0::.bool b1::.bool b2::.bool b3::q
 let a0:Ob:=.list ((l.take (Br l.length)).map .int)
 let K0:=ES 0 false
 let K3:=Sm 85 CH [AO 4 AU.body,AO 5 AU.body,AO 6 AU.body] K0
 let K2:=Sm 86 CH [AO 3 AU.body,AO 4 AU.body,AO 5 AU.body,AO 6 AU.body] K0
 let K1:=Sm 87 CH [AO 2 AU.body,AO 3 AU.body,AO 4 AU.body,AO 5 AU.body,AO 6 AU.body] K0
 have hd:AU.body.drop 1= [AO 1 AU.body,AO 2 AU.body,AO 3 AU.body,AO 4 AU.body,AO 5 AU.body,AO 6 AU.body]:=by kernel_rfl
 have c0:=lwA (h:=h) (m:=88) (L:=l.map .int) (tp:=tp);rw[hd] at c0;have c1:=lw0 (A:=Bj) (B:=B6) (C:=Bs) (m:=80) (ρ:= [(By,.lst (l.map .int))]) (h:=hI h tp) (K:=Sm 88 CH [AO 1 AU.body,AO 2 AU.body,AO 3 AU.body,AO 4 AU.body,AO 5 AU.body,AO 6 AU.body] K0);have c2:BS 88 CH [(CO,.int 57),(By,.lst (l.map .int))] [AO 1 AU.body,AO 2 AU.body,AO 3 AU.body,AO 4 AU.body,AO 5 AU.body,AO 6 AU.body] (hI h tp) K0=Fx 87 CH [(CO,.int 57),(By,.lst (l.map .int))] (AO 1 AU.body) (hI h tp) K1:=MB;have c3:=lw1 (A:=Bj) (B:=B6) (C:=Bs) (m:=79) (L:=l.map .int) (h:=hI h tp) (K:=K1);have c4:tB (Nat.ble (l.map V.int).length BV&&!false) (SM 86 CH [(CO,.int 57),(By,.lst (l.map .int))] (RN 1) (RO 1) (.ref 0) 0 (Ss (hI h tp) (.list (cut (l.map .int) 0 (Br (l.map V.int).length)))) K1)=SM (76-(l.take (Br l.length)).length+(l.take (Br l.length)).length+10) CH [(CO,.int 57),(By,.lst (l.map .int))] (RN 1) (RO 1) (.ref 0) 0 {hI h tp with lo:= [a0]} K1:=by
  rw[List.length_map,show Nat.ble l.length BV=true from Nat.ble_eq_true_of_le (by show l.length≤1048576;omega),Tx,show 76-(l.take (Br l.length)).length+(l.take (Br l.length)).length+10=86 by omega];rfl
 have c5:=f1 {hI h tp with lo:= [a0]} 0 (76-(l.take (Br l.length)).length) K1 rfl;have c6:BS 87 CH ρ1 [AO 2 AU.body,AO 3 AU.body,AO 4 AU.body,AO 5 AU.body,AO 6 AU.body] {hI h tp with lo:= [a0]} K0=Fx 86 CH ρ1 (AO 2 AU.body) {hI h tp with lo:= [a0]} K2:=MB;have c7:=kU (h:=h) (m:=66) (K:=K2) (a0:=a0) H1 hl (.lst tp);have c8:BS 86 CH ((k_box,.ref 3)::ρ1) [AO 3 AU.body,AO 4 AU.body,AO 5 AU.body,AO 6 AU.body] (hB a0 a0 h (.lst tp) (l.take (Br l.length)) sd1 []) K0=Fx 85 CH ((k_box,.ref 3)::ρ1) (AO 3 AU.body) (hB a0 a0 h (.lst tp) (l.take (Br l.length)) sd1 []) K3:=MB;have c9:=lw3 (A:=Bj) (B:=B6) (C:=Bs) (ρ:=(k_box,.ref 3)::ρ1) (m:=77) (h:=hB a0 a0 h (.lst tp) (l.take (Br l.length)) sd1 []) (K:=K3);have c10:Tg CH ((k_box,.ref 3)::ρ1) "range" [.Constant (.int 4) 0 ⟨0,0,0,0⟩]=true:=by
  show(Nat.beq (nk "range") Pg&&((!(AK (nk "range") ((k_box,.ref 3)::ρ1)).isSome&&DE (B9 AU.sc.names (nk "range")))&&(FX [.Constant (.int 4) 0 ⟨0,0,0,0⟩]&&!(AK (nk "range") gT.fns).isSome)))=true;rw[show AK (nk "range") ((k_box,.ref 3)::ρ1)=none from H1.rh.no _ (.tail _ (.tail _ (.tail _ (.tail _ (.tail _ (.head _))))))];kernel_rfl
 rw[c10] at c9;obtain⟨ρ2,ex2,H2,c11⟩:=f2 a0 a0 h q [] 33 ((k_box,.ref 3)::ρ1) K3 H1.rh;subst hq;have c12:=eE (a0:=a0) (a1:=a0) (h:=h) (m:=62) (is:=is') (sd:=sd') (ex:=ex2) (K:=K0) H2;have c13:K0 (.ret (.bool true)) ρ2 (hB a0 a0 h (.lst []) is' sd' ex2)=.ok (.ret (.bool true),[]) (hB a0 a0 h (.lst []) is' sd' ex2):=by kernel_rfl
 exact⟨_,c0.trans (c1.trans (c2.trans (c3.trans (c4.trans (c5.trans (c6.trans (c7.trans (c8.trans (c9.trans (c11.trans (c12.trans c13)))))))))))⟩
theorem O0(P:PF):UI P P:=fun J J=>.inr rfl
theorem eD{W:Wd}(wf:WF W):Fc W 0 402 AU (DQ (TL Bj B6 Bs) 0 1 90 false AU):=by
 have A0:Fg W 0 0 Tn:=⟨nofun,nofun,nofun,nofun⟩;have A:Fg W 0 400 (TL Bj B6 Bs):=⟨fun f P e=>Ce e (fun z y=>⟨Hg,z▸(by kernel_rfl),y▸(LR wf A0 (O0 _)).mono (by decide)⟩) fun e=>Ce e (fun z y=>⟨G3,z▸(by kernel_rfl),y▸(LR wf A0 (O0 _)).mono (by decide)⟩) fun e=>Ce e (fun z y=>⟨B4,z▸(by kernel_rfl),y▸Zp wf⟩) nofun,nofun,nofun,nofun⟩;exact LR (δ:=400) (li:=1) wf A (O0 (DQ (TL Bj B6 Bs) 0 1 90 false AU))
end Mn
namespace Mn.Hd
open PySem PySem.W PySem.W.BT
noncomputable def DO:List Stmt:=PySem.Challenge.pw_nt0413_02.main.body
noncomputable def sA(i:Nat):Stmt:=match DO[i]? with
 |some s=>s
 |none=>.Pass ⟨0,0,0,0⟩
noncomputable def sM(i j:Nat):Stmt:=match DO[i]? with
 |some (.ClassDef _ _ _ b _ _ _ _ _ _ _)=>match b[j]? with
  |some s=>s
  |none=>.Pass ⟨0,0,0,0⟩
 |_=>.Pass ⟨0,0,0,0⟩
abbrev S(x:String):Str:=.ofString x
noncomputable def v(x:String)(t:Nat):Value:=.str (.ofString x) t
noncomputable def e(P:Params)(x:String)(t:Nat)(a:Value):DictEntry:=⟨PyData.keyHash P (.ofString x),.str (.ofString x) t,a⟩
noncomputable def fo(st:Stmt)(q:String)(gl:Addr)(df kd doc pm:Value)(an:Option Addr)(cd ct:Value)(bl:Addr):Data:=match st with
 |.FunctionDef name args body _ _ _ sc _ _ _=>.func ⟨name,.ofString q,args,.stmts body,sc,gl,[],df,kd,doc,pm,an,cd,ct,bl⟩
 |_=>.plain
noncomputable def lf:Life:=⟨[],[],[],0,[],[],false,.mk [],[],0,false,false,false,0,[2000,10,10],false,0,true,[],[],0,false⟩
noncomputable def EL:Env:={scope:=PySem.Challenge.pw_nt0413_02.main.scope,locals:=mainNs,globals:=mainNs,cells:= [],code:=.ref 13,frame:=some 14}
noncomputable def bT:List Frame:= [topFrame ⟨0,0,0,0⟩]
noncomputable def cT:Code:=.body (behindTheImports PySem.Challenge.pw_nt0413_02) EL
noncomputable def st(t:Params→BT)(n k:Nat)(w:World)(os:OsState):SharedT:=⟨t w.params,n,lf,.mk [],⟨0,0,0,0⟩,k,os⟩
noncomputable abbrev r(a:Addr):Value:=.ref a
noncomputable abbrev i(n:Int):Value:=.int n 0
noncomputable abbrev j(n:Int)(t:Nat):Value:=.int n t
noncomputable abbrev q(a:Addr):Option Value:=some (.ref a)
noncomputable abbrev Ia:String:="/claim/cut.py"
noncomputable def cO(l:List Value):Obj:=⟨.type "code",none,.fields (.mk l),.mk []⟩
noncomputable def cF(nm qn:String)(t:Nat)(ln ac:Int)(a f:Nat):Obj:=cO [v nm t,v qn (Nat.add t 1),v Ia (Nat.add t 2),i ln,i ac,i 0,i 0,i 3,r a,.bool true,i 181,r (Nat.add a 1),.none,r (Nat.add a 2),r (Nat.add a 3),r (Nat.add a 4),i (Int.ofNat f),i ln,v Ia (Nat.add f 1)]
noncomputable def fN(s:Stmt)(qn:String):Obj:=⟨.none,none,fo s qn 0 .none .none .none .none none .none .none 0,.mk []⟩
noncomputable def fU(s:Stmt)(qn m:String)(k:Nat)(c:Addr):Obj:=⟨.type "function",none,fo s qn 3 .none .none .none (v m k) none (.ref c) .none 0,.mk []⟩
noncomputable def tU(l:List Value):Obj:=⟨.type "tuple",none,.seq (.mk l) 0,.mk []⟩
noncomputable def vS:Nat→List String→List Value
 |_,[]=> []
 |n,s::l=>v s n::vS (Nat.succ n) l
noncomputable def tS(n:Nat)(l:List String):Obj:=tU (vS n l)
noncomputable def dI(l:List DictEntry)(n:Nat):Obj:=⟨.type "dict",none,.dict (.mk l) n,.mk []⟩
noncomputable def lT(l:List (Int×Int×Addr)):Obj:=⟨.none,none,.fields (.mk (l.flatMap fun x=> [i x.1,i x.2.1,r x.2.2])),.mk []⟩
noncomputable def fR(a b:Addr)(m:String)(t:Nat):Obj:=⟨.type "frame",none,.plain,.mk [q a,q 3,q b,none,some (v m t),none,q 0]⟩
noncomputable def iR:Nat→List Obj→BT→BT
 |_,[],t=>t
 |a,o::r,t=>iR (Nat.succ a) r (t.ins a o)
noncomputable def Mw(a b:Nat):List Stmt:=(DO.drop a).take (b-a)
noncomputable def o7:Obj:=tU []
noncomputable def o8:Obj:=⟨.none,none,(.fields (.mk [])),.mk []⟩
noncomputable def bE(P:Params)(f:String→Value):Nat→List String→List DictEntry
 |_,[]=> []
 |t,s::l=>e P s t (f s)::bE P f (Nat.succ t) l
noncomputable def lM:List (Int×Int×Addr):= [(2,0,20),(19,0,41),(28,0,48),(30,0,55),(32,0,62),(34,0,69),(36,0,76),(38,0,83),(40,0,90),(45,0,97),(51,0,104),(62,0,111),(71,0,118),(76,0,125),(83,0,132),(88,0,139),(96,0,146),(117,0,153),(123,0,160),(125,0,167),(128,0,174),(137,0,181),(143,0,188),(156,0,237),(161,0,244),(163,0,251),(165,0,258),(167,0,265),(169,0,272),(175,0,279),(179,0,286),(183,0,294),(185,0,301),(193,0,308),(195,0,315),(204,0,322),(225,0,329),(231,0,336),(236,0,343),(250,0,352),(261,0,373),(263,0,380),(269,0,387),(275,0,407),(484,0,557),(488,0,564),(492,0,571),(499,0,578),(508,0,585),(512,0,592),(514,0,599),(516,0,606),(526,0,613),(529,0,620),(551,0,656),(636,0,788),(827,0,934),(1092,0,1107),(1097,0,1114),(1102,0,1121),(1119,0,1128),(1130,0,1135),(1136,0,1142)]
noncomputable def dM(P:Params)(a:Value)(n:Nat):Obj:=dI (e P "__name__" 165 a::List.take n [e P "__doc__" 166 .none,e P "__package__" 167 .none,e P "__loader__" 168 (.builtin "__main__.__loader__#opaque"),e P "__spec__" 169 .none,e P "__annotations__" 170 (r 6),e P "__builtins__" 171 (r 4),e P "__file__" 173 (v Ia 172),e P "__cached__" 174 .none,e P "Node" 222 (r 31),e P "SIGN_BIT" 228 (j 9223372036854775808 227),e P "FRACTION_BITS" 230 (j 52 229),e P "FRACTION_MASK" 236 (j 4503599627370495 235),e P "HIDDEN_BIT_dbits" 240 (j 4503599627370496 239),e P "EXPONENT_MASK" 242 (j 2047 241),e P "EXPONENT_SHIFT" 244 (j 1075 243),e P "LEAST_POWER_dbits" 247 (.int (-1074) 246),e P "ZERO" 249 (j 0 248),e P "INF" 253 (j 9218868437227405312 252),e P "width" 261 (r 42),e P "pack" 270 (r 49),e P "is_negative" 277 (r 56),e P "is_nan" 284 (r 63),e P "is_inf" 291 (r 70),e P "is_zero" 298 (r 77),e P "signed" 306 (r 84),e P "parts" 316 (r 91),e P "quotient" 325 (r 98),e P "round_ratio" 338 (r 105),e P "assembled" 348 (r 112),e P "from_int" 355 (r 119),e P "LEAST_POWER_numshow" 360 (.int (-1074) 359),e P "HIDDEN_BIT_numshow" 364 (j 4503599627370496 363),e P "scaled" 375 (r 126),e P "decimal_place" 384 (r 133),e P "first_place" 397 (r 140),e P "shortest" 418 (r 147),e P "last_figure" 429 (r 154),e P "signed_exponent" 436 (r 161),e P "with_exponent" 445 (r 168),e P "laid_out" 454 (r 175),e P "without_figures" 461 (r 182),e P "show" 471 (r 189),e P "BLANKS" 485 (r 190),e P "LINE_ENDS" 490 (r 191),e P "LETTERS" 555 (r 224),e P "PARTS" 568 (r 231),e P "is_among" 578 (r 238),e P "is_white" 585 (r 245),e P "is_line_end" 592 (r 252),e P "is_digit" 599 (r 259),e P "is_octal_digit" 606 (r 266),e P "hex_value" 613 (r 273),e P "is_id_start" 620 (r 280),e P "is_id_part" 627 (r 287),e P "SINGLE" 648 (r 288),e P "code_at" 656 (r 295),e P "hex_at" 668 (r 302),e P "line_end_size" 676 (r 309),e P "octal_escape" 687 (r 316),e P "read_escape" 700 (r 323),e P "FARTHEST" 704 (j 400 703),e P "figure_of" 711 (r 330),e P "worth" 723 (r 337),e P "from_decimal" 734 (r 344),e P "KEYWORDS" 773 (r 345),e P "PUNCTS" 822 (r 346),e P "Token" 863 (r 363),e P "is_keyword" 870 (r 374),e P "punct_at" 879 (r 381),e P "SyntaxFail" 912 (r 398),e P "Lexer" 1115 (r 544),e P "STRICT_WORDS" 1127 (r 549),e P "RESTRICTED" 1130 (r 550),e P "TARGETS" 1134 (r 551),e P "name_fault" 1142 (r 558),e P "binding_fault" 1150 (r 565),e P "first_twice" 1159 (r 572),e P "params_fault" 1171 (r 579),e P "target_fault" 1180 (r 586),e P "delete_fault" 1188 (r 593),e P "octal_fault" 1196 (r 600),e P "entry_fault" 1207 (r 607),e P "accessor_fault" 1216 (r 614),e P "Jumps" 1264 (r 646),e P "TokenTaker" 1414 (r 772),e P "PRIORITY" 1486 (r 777),e P "ASSIGNING" 1499 (r 779),e P "UNARY_SIGNS" 1504 (r 780),e P "UNARY_WORDS" 1508 (r 781),e P "STEPS" 1511 (r 782),e P "ExprParser" 1705 (r 925),e P "LOOP_WORDS" 1711 (r 928),e P "StmtParser" 1965 (r 1099),e P "parse" 1976 (r 1108),e P "_law_take" 1986 (r 1115),e P "_law_pieces" 1996 (r 1122),e P "_law_program" 2008 (r 1129),e P "_law_is_let" 2015 (r 1136),e P "law" 2035 (r 1143)]) (Nat.succ n)
noncomputable def U(s:Stmt)(n q:String)(l:List String)(t:Nat)(b c:Int)(a:Nat)(m:String)(k:Nat):List Obj:= [o7,o8,tS (Nat.add t 3) l,o7,fN s q,cF n q t b c a (Nat.add (Nat.add t 3) l.length),fU s q m k (Nat.add a 5)]
noncomputable def u(s:Stmt)(n:String)(l:List String)(t:Nat)(b c:Int)(a:Nat)(m:String)(k:Nat):List Obj:=U s n n l t b c a m k
noncomputable def g0(P:Params):List Obj:=List.flatten [[dI (List.flatten [[e P "__name__" 1 (v "builtins" 160),e P "__doc__" 2 (.builtin "builtins.__doc__:str#opaque"),e P "__package__" 3 (.builtin "builtins.__package__:str#opaque"),e P "__loader__" 4 (.builtin "builtins.__loader__:shared#opaque"),e P "__spec__" 5 (.builtin "builtins.__spec__#opaque")],bE P .builtin 6 ["__build_class__","__import__","abs","all","any","ascii","bin","breakpoint","callable","chr","compile","delattr","dir","divmod","eval","exec","format","getattr","globals","hasattr","hash","hex","id","input","isinstance","issubclass","iter","aiter","len","locals","max","min","next","anext","oct","ord","pow","print","repr","round","setattr","sorted","sum","vars"],[e P "None" 50 .none,e P "Ellipsis" 51 .ellipsis,e P "NotImplemented" 52 .notImplemented,e P "False" 53 (.bool false),e P "True" 54 (.bool true)],bE P .type 55 ["bool","memoryview","bytearray","bytes","classmethod","complex","dict","enumerate","filter","float","frozenset","property","int","list","map","object","range","reversed","set","slice","staticmethod","str","super","tuple","type","zip"],[e P "__debug__" 81 (.bool true)],bE P .type 82 ["BaseException","BaseExceptionGroup","Exception","GeneratorExit","KeyboardInterrupt","SystemExit","ArithmeticError","AssertionError","AttributeError","BufferError","EOFError","ImportError","LookupError","MemoryError","NameError","OSError","ReferenceError","RuntimeError","StopAsyncIteration","StopIteration","SyntaxError","SystemError","TypeError","ValueError","Warning","FloatingPointError","OverflowError","ZeroDivisionError","BytesWarning","DeprecationWarning","EncodingWarning","FutureWarning","ImportWarning","PendingDeprecationWarning","ResourceWarning","RuntimeWarning","SyntaxWarning","UnicodeWarning","UserWarning","BlockingIOError","ChildProcessError","ConnectionError","FileExistsError","FileNotFoundError","InterruptedError","IsADirectoryError","NotADirectoryError","PermissionError","ProcessLookupError","TimeoutError","IndentationError","_IncompleteInputError","IndexError","KeyError","ModuleNotFoundError","NotImplementedError","PythonFinalizationError","RecursionError","UnboundLocalError","UnicodeError","BrokenPipeError","ConnectionAbortedError","ConnectionRefusedError","ConnectionResetError","TabError","UnicodeDecodeError","UnicodeEncodeError","UnicodeTranslateError","ExceptionGroup"],[e P "EnvironmentError" 151 (.type "OSError"),e P "IOError" 152 (.type "OSError")],bE P .builtin 153 ["open"],[e P "quit" 154 (.builtin "builtins.quit#opaque"),e P "exit" 155 (.builtin "builtins.exit#opaque"),e P "copyright" 156 (.builtin "builtins.copyright#opaque"),e P "credits" 157 (.builtin "builtins.credits#opaque"),e P "license" 158 (.builtin "builtins.license#opaque"),e P "help" 159 (.builtin "builtins.help#opaque")]]) 159,dI [e P "builtins" 162 (r 4),e P "__main__" 163 (r 5)] 2,⟨.none,none,(.dict (.mk []) 0),.mk []⟩,dM P (v "__main__" 164) 8,⟨(.type "module"),(some 0),.plain,.mk []⟩,⟨(.type "module"),(some 3),.plain,.mk []⟩,dI [] 0,o7,o8,cO [(v "<module>" 176),(v "<module>" 177),(v Ia 178),(i 1),(i 0),(i 0),(i 0),(i 0),(r 7),(.bool false),(i 175),(r 8),.none,.none,.none,.none,(i 179),(i 1),(v Ia 180)],fR 9 3 "__main__" 164,o7,o8,cO [(v "<module>" 182),(v "<module>" 183),(v Ia 184),(i 1),(i 0),(i 0),(i 0),(i 0),(r 11),(.bool false),(i 181),(r 12),.none,.none,.none,.none,(i 185),(i 1),(v Ia 186)],fR 13 3 "__main__" 164]]
noncomputable def t0(P:Params):BT:=(iR 0 (g0 P) .nil)
noncomputable def bC:Obj:=⟨(.type "builtin_function_or_method"),none,(.fields (.mk [(.builtin "type.__prepare__"),(.type "type")])),.mk []⟩
noncomputable def g1(P:Params):List Obj:=List.flatten [[o7,bC,dI [e P "__module__" 196 (v "js.nodes" 187),e P "__qualname__" 198 (v "Node" 197),e P "__firstlineno__" 200 (j 2 199),e P "__init__" 210 (r 28),e P "__static_attributes__" 215 (r 29)] 5,o7,lT [(4,4,27)],cO [(v "Node" 191),(v "Node" 192),(v Ia 193),(i 2),(i 0),(i 0),(i 0),(i 0),(r 18),(.bool false),(i 181),(r 19),.none,.none,.none,.none,(i 194),(i 2),(v Ia 195)],fR 20 17 "js.nodes" 187],U (sM 1 0) "__init__" "Node.__init__" ["self","kind","line","parts"] 201 4 4 22 "js.nodes" 187,[tS 211 ["kind","line","parts","scope"],dI [e P "__module__" 196 (v "js.nodes" 187),e P "__firstlineno__" 200 (j 2 199),e P "__init__" 210 (r 28),e P "__static_attributes__" 215 (r 29),e P "__dict__" 217 (r 32),e P "__weakref__" 219 (r 33),e P "__doc__" 220 .none] 4,⟨(.type "type"),none,(.cls ⟨S "Node",[(.type "object")],[(r 31),(.type "object")],30,S "Node",true,[],[],false,none,false⟩),.mk [none,none,(some (v "Node" 189)),(some (v "Node" 197)),(some (.builtin "object.__new__")),(some (.bool true))]⟩,⟨(.type "getset_descriptor"),none,(.fields (.mk [(v "__dict__" 216),(r 31),(.builtin "function.__dict__"),(.builtin "function.__dict__#set")])),.mk []⟩,⟨(.type "getset_descriptor"),none,(.fields (.mk [(v "__weakref__" 218),(r 31),(.builtin "ExceptionGroup.__weakref__"),.none])),.mk []⟩,⟨(.type "super"),none,(.fields (.mk [(r 31),(r 31),(r 31)])),.mk []⟩,⟨(.type "builtin_function_or_method"),none,(.fields (.mk [(.builtin "object.__init_subclass__"),(r 31)])),.mk []⟩],u (sA 12) "width" ["n","many"] 254 19 1 36 "js.dbits" 223,u (sA 13) "pack" ["sign","exponent","fraction"] 262 28 3 43 "js.dbits" 223,u (sA 14) "is_negative" ["bits"] 271 30 1 50 "js.dbits" 223,u (sA 15) "is_nan" ["bits"] 278 32 1 57 "js.dbits" 223,u (sA 16) "is_inf" ["bits"] 285 34 1 64 "js.dbits" 223,u (sA 17) "is_zero" ["bits"] 292 36 1 71 "js.dbits" 223,u (sA 18) "signed" ["sign","bits"] 299 38 2 78 "js.dbits" 223,u (sA 19) "parts" ["bits","sign","exponent","fraction"] 307 40 1 85 "js.dbits" 223,u (sA 20) "quotient" ["top","bottom","power"] 317 45 3 92 "js.dbits" 223,u (sA 21) "round_ratio" ["sign","top","bottom","power","whole","rest","unit"] 326 51 3 99 "js.dbits" 223,u (sA 22) "assembled" ["sign","whole","power","exponent"] 339 62 3 106 "js.dbits" 223,u (sA 23) "from_int" ["n"] 349 71 1 113 "js.dbits" 223,u (sA 27) "scaled" ["mantissa","power","is_edge","factor","above"] 365 76 2 120 "js.numshow" 356]
noncomputable def t1(P:Params):BT:=(iR 15 (g1 P) (iR 12 [lT (lM.take 14)] (iR 3 [dM P (v "js.numshow" 356) 33] (t0 P))))
noncomputable def g2(P:Params):List Obj:=List.flatten [u (sA 28) "decimal_place" ["top","bottom","found"] 376 83 2 127 "js.numshow" 356,u (sA 29) "first_place" ["number","above","unit","is_even","found","edge","limit"] 385 88 4 134 "js.numshow" 356,u (sA 30) "shortest" ["bits","sign","mantissa","power","is_even","number","above","below","unit","place","factor","found","figure","is_low","is_high"] 398 96 1 141 "js.numshow" 356,u (sA 31) "last_figure" ["figure","rest","unit","is_low","is_high"] 419 117 5 148 "js.numshow" 356,u (sA 32) "signed_exponent" ["exponent"] 430 123 1 155 "js.numshow" 356,u (sA 33) "with_exponent" ["figures","exponent","rest"] 437 125 2 162 "js.numshow" 356,u (sA 34) "laid_out" ["figures","place","size"] 446 128 2 169 "js.numshow" 356,u (sA 35) "without_figures" ["bits"] 455 137 1 176 "js.numshow" 356,u (sA 36) "show" ["bits","told","figures","place"] 462 143 1 183 "js.numshow" 356,[⟨(.type "list"),none,(.seq (.mk [(j 9 474),(j 11 475),(j 12 476),(j 32 477),(j 160 478),(j 5760 479),(j 6158 480),(j 8239 481),(j 8287 482),(j 12288 483),(j 65279 484)]) 0),.mk []⟩,⟨(.type "list"),none,(.seq (.mk [(j 10 486),(j 13 487),(j 8232 488),(j 8233 489)]) 0),.mk []⟩,tU [(j 170 491),(j 170 492)],tU [(j 181 493),(j 181 494)],tU [(j 186 495),(j 186 496)],tU [(j 192 497),(j 214 498)],tU [(j 216 499),(j 246 500)],tU [(j 248 501),(j 705 502)],tU [(j 880 503),(j 883 504)],tU [(j 886 505),(j 887 506)],tU [(j 891 507),(j 893 508)],tU [(j 902 509),(j 902 510)],tU [(j 904 511),(j 906 512)],tU [(j 908 513),(j 908 514)],tU [(j 910 515),(j 929 516)],tU [(j 931 517),(j 1013 518)],tU [(j 1015 519),(j 1153 520)],tU [(j 1162 521),(j 1315 522)],tU [(j 1329 523),(j 1366 524)],tU [(j 1377 525),(j 1415 526)],tU [(j 1488 527),(j 1514 528)],tU [(j 1569 529),(j 1594 530)],tU [(j 1601 531),(j 1610 532)],tU [(j 2308 533),(j 2361 534)],tU [(j 4256 535),(j 4293 536)],tU [(j 4304 537),(j 4346 538)],tU [(j 7680 539),(j 7835 540)],tU [(j 7840 541),(j 7929 542)],tU [(j 8544 543),(j 8578 544)],tU [(j 12353 545),(j 12438 546)],tU [(j 12449 547),(j 12538 548)],tU [(j 12549 549),(j 12588 550)],tU [(j 19968 551),(j 40891 552)],tU [(j 44032 553),(j 55203 554)],⟨(.type "list"),none,(.seq (.mk [(r 192),(r 193),(r 194),(r 195),(r 196),(r 197),(r 198),(r 199),(r 200),(r 201),(r 202),(r 203),(r 204),(r 205),(r 206),(r 207),(r 208),(r 209),(r 210),(r 211),(r 212),(r 213),(r 214),(r 215),(r 216),(r 217),(r 218),(r 219),(r 220),(r 221),(r 222),(r 223)]) 0),.mk []⟩,tU [(j 768 556),(j 879 557)],tU [(j 1632 558),(j 1641 559)],tU [(j 2406 560),(j 2415 561)],tU [(j 8204 562),(j 8205 563)],tU [(j 8255 564),(j 8256 565)],tU [(j 8276 566),(j 8276 567)],⟨(.type "list"),none,(.seq (.mk [(r 225),(r 226),(r 227),(r 228),(r 229),(r 230)]) 0),.mk []⟩],u (sA 42) "is_among" ["code","ranges","first","last"] 569 156 2 232 "js.chars" 472,u (sA 43) "is_white" ["code"] 579 161 1 239 "js.chars" 472,u (sA 44) "is_line_end" ["code"] 586 163 1 246 "js.chars" 472,u (sA 45) "is_digit" ["code"] 593 165 1 253 "js.chars" 472,u (sA 46) "is_octal_digit" ["code"] 600 167 1 260 "js.chars" 472,u (sA 47) "hex_value" ["code"] 607 169 1 267 "js.chars" 472,u (sA 48) "is_id_start" ["code"] 614 175 1 274 "js.chars" 472,u (sA 49) "is_id_part" ["code"] 621 179 1 281 "js.chars" 472]
noncomputable def t2(P:Params):BT:=(iR 127 (g2 P) (iR 12 [lT (lM.take 31)] (iR 3 [dM P (v "js.escapes" 628) 54] (t1 P))))
noncomputable def g3(P:Params):List Obj:=List.flatten [[dI [e P "b" 630 (j 8 631),e P "t" 632 (j 9 633),e P "n" 634 (j 10 635),e P "v" 636 (j 11 637),e P "f" 638 (j 12 639),e P "r" 640 (j 13 641)] 6],u (sA 52) "code_at" ["text","at"] 649 183 2 289 "js.escapes" 628,u (sA 53) "hex_at" ["text","at","many","value","step","figure"] 657 185 3 296 "js.escapes" 628,u (sA 54) "line_end_size" ["text","at"] 669 193 2 303 "js.escapes" 628,u (sA 55) "octal_escape" ["text","at","most","many","value"] 677 195 2 310 "js.escapes" 628,u (sA 56) "read_escape" ["text","at","code","many","value","found","sign"] 688 204 2 317 "js.escapes" 628,u (sA 59) "figure_of" ["sign"] 705 225 1 324 "js.numparse" 701,u (sA 60) "worth" ["text","begin","end","radix","found","at"] 712 231 4 331 "js.numparse" 701,u (sA 61) "from_decimal" ["figures","exponent","told","place","number"] 724 236 2 338 "js.numparse" 701,[⟨(.type "list"),none,(.seq (.mk [(v "break" 737),(v "case" 738),(v "catch" 739),(v "continue" 740),(v "debugger" 741),(v "default" 742),(v "delete" 743),(v "do" 744),(v "else" 745),(v "finally" 746),(v "for" 747),(v "function" 748),(v "if" 749),(v "in" 750),(v "instanceof" 751),(v "new" 752),(v "return" 753),(v "switch" 754),(v "this" 755),(v "throw" 756),(v "try" 757),(v "typeof" 758),(v "var" 759),(v "void" 760),(v "while" 761),(v "with" 762),(v "class" 763),(v "const" 764),(v "enum" 765),(v "export" 766),(v "extends" 767),(v "\x69mport" 768),(v "super" 769),(v "null" 770),(v "true" 771),(v "false" 772)]) 0),.mk []⟩,⟨(.type "list"),none,(.seq (.mk [(v ">>>=" 774),(v "===" 775),(v "!==" 776),(v ">>>" 777),(v "<<=" 778),(v ">>=" 779),(v "<=" 780),(v ">=" 781),(v "==" 782),(v "!=" 783),(v "++" 784),(v "--" 785),(v "<<" 786),(v ">>" 787),(v "&&" 788),(v "||" 789),(v "+=" 790),(v "-=" 791),(v "*=" 792),(v "%=" 793),(v "&=" 794),(v "|=" 795),(v "^=" 796),(v "/=" 797),(v "{" 798),(v "}" 799),(v "(" 800),(v ")" 801),(v "[" 802),(v "]" 803),(v "." 804),(v ";" 805),(v "," 806),(v "<" 807),(v ">" 808),(v "+" 809),(v "-" 810),(v "*" 811),(v "%" 812),(v "&" 813),(v "|" 814),(v "^" 815),(v "!" 816),(v "~" 817),(v "?" 818),(v ":" 819),(v "=" 820),(v "/" 821)]) 0),.mk []⟩,o7,bC,dI [e P "__module__" 830 (v "js.tokens" 735),e P "__qualname__" 832 (v "Token" 831),e P "__firstlineno__" 834 (j 250 833),e P "__init__" 847 (r 360),e P "__static_attributes__" 856 (r 361)] 5,o7,lT [(252,4,359)],cO [(v "Token" 825),(v "Token" 826),(v Ia 827),(i 250),(i 0),(i 0),(i 0),(i 0),(r 350),(.bool false),(i 181),(r 351),.none,.none,.none,.none,(i 828),(i 250),(v Ia 829)],fR 352 349 "js.tokens" 735],U (sM 65 0) "__init__" "Token.__init__" ["self","kind","value","line","is_behind_line","start","end"] 835 252 7 354 "js.tokens" 735,[tS 848 ["end","is_behind_line","is_octal","is_plain","kind","line","start","value"],dI [e P "__module__" 830 (v "js.tokens" 735),e P "__firstlineno__" 834 (j 250 833),e P "__init__" 847 (r 360),e P "__static_attributes__" 856 (r 361),e P "__dict__" 858 (r 364),e P "__weakref__" 860 (r 365),e P "__doc__" 861 .none] 4,⟨(.type "type"),none,(.cls ⟨S "Token",[(.type "object")],[(r 363),(.type "object")],362,S "Token",true,[],[],false,none,false⟩),.mk [none,none,(some (v "Token" 823)),(some (v "Token" 831)),(some (.builtin "object.__new__")),(some (.bool true))]⟩,⟨(.type "getset_descriptor"),none,(.fields (.mk [(v "__dict__" 857),(r 363),(.builtin "function.__dict__"),(.builtin "function.__dict__#set")])),.mk []⟩,⟨(.type "getset_descriptor"),none,(.fields (.mk [(v "__weakref__" 859),(r 363),(.builtin "ExceptionGroup.__weakref__"),.none])),.mk []⟩,⟨(.type "super"),none,(.fields (.mk [(r 363),(r 363),(r 363)])),.mk []⟩,⟨(.type "builtin_function_or_method"),none,(.fields (.mk [(.builtin "object.__init_subclass__"),(r 363)])),.mk []⟩],u (sA 66) "is_keyword" ["word"] 864 261 1 368 "js.tokens" 735,u (sA 67) "punct_at" ["text","at","punct"] 871 263 2 375 "js.tokens" 735]
noncomputable def t3(P:Params):BT:=(iR 288 (g3 P) (iR 12 [lT (lM.take 42)] (iR 3 [dM P (v "js.values" 880) 69] (t2 P))))
noncomputable def jR:Obj:=⟨(.type "type"),none,(.cls ⟨S "SyntaxFail",[(.type "Exception")],[(r 398),(.type "Exception"),(.type "BaseException"),(.type "object")],397,S "SyntaxFail",true,[],[],false,none,false⟩),.mk [(q 382),none,(some (v "SyntaxFail" 882)),(some (v "SyntaxFail" 890)),(some (.builtin "Exception.__new__")),(some (.bool true))]⟩
noncomputable def g4(P:Params):List Obj:=List.flatten [[tU [(.type "Exception")],bC,dI [e P "__module__" 889 (v "js.values" 880),e P "__qualname__" 891 (v "SyntaxFail" 890),e P "__firstlineno__" 893 (j 269 892),e P "__init__" 902 (r 395),e P "__static_attributes__" 905 (r 396)] 5,o7,lT [(271,4,394)],cO [(v "SyntaxFail" 884),(v "SyntaxFail" 885),(v Ia 886),(i 269),(i 0),(i 0),(i 0),(i 0),(r 385),(.bool false),(i 181),(r 386),.none,.none,.none,.none,(i 887),(i 269),(v Ia 888)],fR 387 384 "js.values" 880],U (sM 69 0) "__init__" "SyntaxFail.__init__" ["self","text","line"] 894 271 3 389 "js.values" 880,[tS 903 ["line","text"],dI [e P "__module__" 889 (v "js.values" 880),e P "__firstlineno__" 893 (j 269 892),e P "__init__" 902 (r 395),e P "__static_attributes__" 905 (r 396),e P "__weakref__" 907 (r 399),e P "__doc__" 908 .none] 3,jR,⟨(.type "getset_descriptor"),none,(.fields (.mk [(v "__weakref__" 906),(r 398),(.builtin "ExceptionGroup.__weakref__"),.none])),.mk []⟩,⟨(.type "super"),none,(.fields (.mk [(r 398),(r 398),(r 398)])),.mk []⟩,⟨(.type "builtin_function_or_method"),none,(.fields (.mk [(.builtin "object.__init_subclass__"),(r 398)])),.mk []⟩]]
noncomputable def t4(P:Params):BT:=(iR 382 (g4 P) (iR 12 [lT (lM.take 43)] (iR 2 [⟨.none,none,(.dict (.mk [e P "type.__subclasses__.Exception.0" 909 (i 398),e P "type.__subclasses__.Exception.n" 910 (i 1)]) 2),.mk []⟩,dM P (v "js.lexer" 913) 70] (t3 P))))
noncomputable def g5(P:Params):List Obj:=List.flatten [[o7,bC,dI [e P "__module__" 922 (v "js.lexer" 913),e P "__qualname__" 924 (v "Lexer" 923),e P "__firstlineno__" 926 (j 275 925),e P "__init__" 934 (r 415),e P "next" 945 (r 422),e P "fail" 953 (r 429),e P "end_line" 960 (r 436),e P "skip_blanks" 969 (r 443),e P "skip_comment" 976 (r 450),e P "name_sign" 988 (r 457),e P "read_name" 998 (r 464),e P "skip_digits" 1006 (r 471),e P "read_number" 1017 (r 478),e P "read_hex" 1026 (r 485),e P "read_octal" 1034 (r 492),e P "read_decimal" 1043 (r 499),e P "read_exponent" 1054 (r 506),e P "regex" 1065 (r 513),e P "regex_body" 1075 (r 520),e P "read_text" 1086 (r 527),e P "escaped" 1095 (r 534),e P "read_punct" 1104 (r 541),e P "__static_attributes__" 1108 (r 542)] 23,o7,lT [(277,4,414),(282,4,421),(299,4,428),(302,4,435),(306,4,442),(322,4,449),(333,4,456),(344,4,463),(355,4,470),(361,4,477),(375,4,484),(386,4,491),(393,4,498),(405,4,505),(419,4,512),(430,4,519),(446,4,526),(462,4,533),(473,4,540)],cO [(v "Lexer" 917),(v "Lexer" 918),(v Ia 919),(i 275),(i 0),(i 0),(i 0),(i 0),(r 405),(.bool false),(i 181),(r 406),.none,.none,.none,.none,(i 920),(i 275),(v Ia 921)],fR 407 404 "js.lexer" 913],U (sM 71 0) "__init__" "Lexer.__init__" ["self","text"] 927 277 2 409 "js.lexer" 913,U (sM 71 1) "next" "Lexer.next" ["self","is_behind_line","start","code","token"] 935 282 1 416 "js.lexer" 913,U (sM 71 2) "fail" "Lexer.fail" ["self","text"] 946 299 2 423 "js.lexer" 913,U (sM 71 3) "end_line" "Lexer.end_line" ["self"] 954 302 1 430 "js.lexer" 913,U (sM 71 4) "skip_blanks" "Lexer.skip_blanks" ["self","line","code"] 961 306 1 437 "js.lexer" 913,U (sM 71 5) "skip_comment" "Lexer.skip_comment" ["self"] 970 322 1 444 "js.lexer" 913,U (sM 71 6) "name_sign" "Lexer.name_sign" ["self","is_first","code","behind","is_escape","is_right"] 977 333 2 451 "js.lexer" 913,U (sM 71 7) "read_name" "Lexer.read_name" ["self","token","found","told"] 989 344 2 458 "js.lexer" 913,U (sM 71 8) "skip_digits" "Lexer.skip_digits" ["self","start"] 999 355 1 465 "js.lexer" 913,U (sM 71 9) "read_number" "Lexer.read_number" ["self","token","ahead","sign","code"] 1007 361 2 472 "js.lexer" 913,U (sM 71 10) "read_hex" "Lexer.read_hex" ["self","value","many"] 1018 375 1 479 "js.lexer" 913,U (sM 71 11) "read_octal" "Lexer.read_octal" ["self","value"] 1027 386 1 486 "js.lexer" 913,U (sM 71 12) "read_decimal" "Lexer.read_decimal" ["self","whole","part"] 1035 393 1 493 "js.lexer" 913,U (sM 71 13) "read_exponent" "Lexer.read_exponent" ["self","sign","figures","shown","power"] 1044 405 1 500 "js.lexer" 913,U (sM 71 14) "regex" "Lexer.regex" ["self","token","body","start","found"] 1055 419 2 507 "js.lexer" 913,U (sM 71 15) "regex_body" "Lexer.regex_body" ["self","start","is_class","code"] 1066 430 1 514 "js.lexer" 913,U (sM 71 16) "read_text" "Lexer.read_text" ["self","token","quote","found","code"] 1076 446 3 521 "js.lexer" 913,U (sM 71 17) "escaped" "Lexer.escaped" ["self","token","told"] 1087 462 2 528 "js.lexer" 913,U (sM 71 18) "read_punct" "Lexer.read_punct" ["self","token","punct"] 1096 473 2 535 "js.lexer" 913,[tS 1105 ["at","line","text"],dI [e P "__module__" 922 (v "js.lexer" 913),e P "__firstlineno__" 926 (j 275 925),e P "__init__" 934 (r 415),e P "next" 945 (r 422),e P "fail" 953 (r 429),e P "end_line" 960 (r 436),e P "skip_blanks" 969 (r 443),e P "skip_comment" 976 (r 450),e P "name_sign" 988 (r 457),e P "read_name" 998 (r 464),e P "skip_digits" 1006 (r 471),e P "read_number" 1017 (r 478),e P "read_hex" 1026 (r 485),e P "read_octal" 1034 (r 492),e P "read_decimal" 1043 (r 499),e P "read_exponent" 1054 (r 506),e P "regex" 1065 (r 513),e P "regex_body" 1075 (r 520),e P "read_text" 1086 (r 527),e P "escaped" 1095 (r 534),e P "read_punct" 1104 (r 541),e P "__static_attributes__" 1108 (r 542),e P "__dict__" 1110 (r 545),e P "__weakref__" 1112 (r 546),e P "__doc__" 1113 .none] 4,⟨(.type "type"),none,(.cls ⟨S "Lexer",[(.type "object")],[(r 544),(.type "object")],543,S "Lexer",true,[],[],false,none,false⟩),.mk [none,none,(some (v "Lexer" 915)),(some (v "Lexer" 923)),(some (.builtin "object.__new__")),(some (.bool true))]⟩,⟨(.type "getset_descriptor"),none,(.fields (.mk [(v "__dict__" 1109),(r 544),(.builtin "function.__dict__"),(.builtin "function.__dict__#set")])),.mk []⟩,⟨(.type "getset_descriptor"),none,(.fields (.mk [(v "__weakref__" 1111),(r 544),(.builtin "ExceptionGroup.__weakref__"),.none])),.mk []⟩,⟨(.type "super"),none,(.fields (.mk [(r 544),(r 544),(r 544)])),.mk []⟩,⟨(.type "builtin_function_or_method"),none,(.fields (.mk [(.builtin "object.__init_subclass__"),(r 544)])),.mk []⟩]]
noncomputable def t5(P:Params):BT:=(iR 402 (g5 P) (iR 12 [lT (lM.take 44)] (iR 3 [dM P (v "js.lexer" 913) 71] (t4 P))))
noncomputable def g6(P:Params):List Obj:=List.flatten [[tS 1118 ["implements","interface","let","package","private","protected","public","static","yield"],tS 1128 ["arguments","eval"],tS 1131 ["Name","Member","Index"]],u (sA 76) "name_fault" ["name","is_strict"] 1135 484 2 552 "js.strictness" 1116,u (sA 77) "binding_fault" ["name","is_strict"] 1143 488 2 559 "js.strictness" 1116,u (sA 78) "first_twice" ["names","seen","name"] 1151 492 1 566 "js.strictness" 1116,u (sA 79) "params_fault" ["name","params","is_strict","word","fault","twice"] 1160 499 3 573 "js.strictness" 1116,u (sA 80) "target_fault" ["kind","name","is_strict"] 1172 508 3 580 "js.strictness" 1116,u (sA 81) "delete_fault" ["kind","is_strict"] 1181 512 2 587 "js.strictness" 1116,u (sA 82) "octal_fault" ["is_octal","is_strict"] 1189 514 2 594 "js.strictness" 1116,u (sA 83) "entry_fault" ["known","sort","key","is_strict","sorts"] 1197 516 4 601 "js.strictness" 1116,u (sA 84) "accessor_fault" ["sort","params","wanted"] 1208 526 2 608 "js.strictness" 1116,[o7,bC,dI [e P "__module__" 1224 (v "js.strictness" 1116),e P "__qualname__" 1226 (v "Jumps" 1225),e P "__firstlineno__" 1228 (j 529 1227),e P "__init__" 1235 (r 628),e P "label_fault" 1241 (r 633),e P "break_fault" 1247 (r 638),e P "continue_fault" 1253 (r 643),e P "__static_attributes__" 1257 (r 644)] 8,o7,lT [(531,4,627),(536,4,632),(539,4,637),(544,4,642)],cO [(v "Jumps" 1219),(v "Jumps" 1220),(v Ia 1221),(i 529),(i 0),(i 0),(i 0),(i 0),(r 618),(.bool false),(i 181),(r 619),.none,.none,.none,.none,(i 1222),(i 529),(v Ia 1223)],fR 620 617 "js.strictness" 1116],U (sM 85 0) "__init__" "Jumps.__init__" ["self"] 1229 531 1 622 "js.strictness" 1116,[o7,o8,fN (sM 85 1) "Jumps.label_fault",cO [(v "label_fault" 1236),(v "Jumps.label_fault" 1237),(v Ia 1238),(i 536),(i 2),(i 0),(i 0),(i 3),(r 629),(.bool true),(i 181),(r 630),.none,.none,.none,(r 631),(i 1239),(i 536),(v Ia 1240)],fU (sM 85 1) "Jumps.label_fault" "js.strictness" 1116 632,o7,o8,fN (sM 85 2) "Jumps.break_fault",cO [(v "break_fault" 1242),(v "Jumps.break_fault" 1243),(v Ia 1244),(i 539),(i 2),(i 0),(i 0),(i 3),(r 634),(.bool true),(i 181),(r 635),.none,.none,.none,(r 636),(i 1245),(i 539),(v Ia 1246)],fU (sM 85 2) "Jumps.break_fault" "js.strictness" 1116 637,o7,o8,fN (sM 85 3) "Jumps.continue_fault",cO [(v "continue_fault" 1248),(v "Jumps.continue_fault" 1249),(v Ia 1250),(i 544),(i 2),(i 0),(i 0),(i 3),(r 639),(.bool true),(i 181),(r 640),.none,.none,.none,(r 641),(i 1251),(i 544),(v Ia 1252)],fU (sM 85 3) "Jumps.continue_fault" "js.strictness" 1116 642,tS 1254 ["labels","loops","switches"],dI [e P "__module__" 1224 (v "js.strictness" 1116),e P "__firstlineno__" 1228 (j 529 1227),e P "__init__" 1235 (r 628),e P "label_fault" 1241 (r 633),e P "break_fault" 1247 (r 638),e P "continue_fault" 1253 (r 643),e P "__static_attributes__" 1257 (r 644),e P "__dict__" 1259 (r 647),e P "__weakref__" 1261 (r 648),e P "__doc__" 1262 .none] 4,⟨(.type "type"),none,(.cls ⟨S "Jumps",[(.type "object")],[(r 646),(.type "object")],645,S "Jumps",true,[],[],false,none,false⟩),.mk [none,none,(some (v "Jumps" 1217)),(some (v "Jumps" 1225)),(some (.builtin "object.__new__")),(some (.bool true))]⟩,⟨(.type "getset_descriptor"),none,(.fields (.mk [(v "__dict__" 1258),(r 646),(.builtin "function.__dict__"),(.builtin "function.__dict__#set")])),.mk []⟩,⟨(.type "getset_descriptor"),none,(.fields (.mk [(v "__weakref__" 1260),(r 646),(.builtin "ExceptionGroup.__weakref__"),.none])),.mk []⟩,⟨(.type "super"),none,(.fields (.mk [(r 646),(r 646),(r 646)])),.mk []⟩,⟨(.type "builtin_function_or_method"),none,(.fields (.mk [(.builtin "object.__init_subclass__"),(r 646)])),.mk []⟩]]
noncomputable def t6(P:Params):BT:=(iR 549 (g6 P) (iR 12 [lT (lM.take 54)] (iR 3 [dM P (v "js.parse_base" 1265) 84] (t5 P))))
noncomputable def g7(P:Params):List Obj:=List.flatten [[o7,bC,dI [e P "__module__" 1274 (v "js.parse_base" 1265),e P "__qualname__" 1276 (v "TokenTaker" 1275),e P "__firstlineno__" 1278 (j 551 1277),e P "__init__" 1286 (r 664),e P "take" 1294 (r 671),e P "peek" 1301 (r 678),e P "is_sign" 1309 (r 685),e P "is_word" 1317 (r 692),e P "eat" 1325 (r 699),e P "need" 1333 (r 706),e P "need_word" 1341 (r 713),e P "fail" 1349 (r 720),e P "fail_for" 1357 (r 727),e P "unexpected" 1364 (r 734),e P "need_name" 1371 (r 741),e P "need_binding" 1378 (r 748),e P "property_name" 1385 (r 755),e P "can_end" 1392 (r 762),e P "end_statement" 1399 (r 769),e P "__static_attributes__" 1407 (r 770)] 20,o7,lT [(553,4,663),(562,4,670),(571,4,677),(576,4,684),(579,4,691),(582,4,698),(588,4,705),(592,4,712),(597,4,719),(600,4,726),(604,4,733),(607,4,740),(613,4,747),(619,4,754),(624,4,761),(627,4,768)],cO [(v "TokenTaker" 1269),(v "TokenTaker" 1270),(v Ia 1271),(i 551),(i 0),(i 0),(i 0),(i 0),(r 654),(.bool false),(i 181),(r 655),.none,.none,.none,.none,(i 1272),(i 551),(v Ia 1273)],fR 656 653 "js.parse_base" 1265],U (sM 87 0) "__init__" "TokenTaker.__init__" ["self","text"] 1279 553 2 658 "js.parse_base" 1265,U (sM 87 1) "take" "TokenTaker.take" ["self","taken"] 1287 562 1 665 "js.parse_base" 1265,U (sM 87 2) "peek" "TokenTaker.peek" ["self"] 1295 571 1 672 "js.parse_base" 1265,U (sM 87 3) "is_sign" "TokenTaker.is_sign" ["self","sign"] 1302 576 2 679 "js.parse_base" 1265,U (sM 87 4) "is_word" "TokenTaker.is_word" ["self","word"] 1310 579 2 686 "js.parse_base" 1265,U (sM 87 5) "eat" "TokenTaker.eat" ["self","sign"] 1318 582 2 693 "js.parse_base" 1265,U (sM 87 6) "need" "TokenTaker.need" ["self","sign"] 1326 588 2 700 "js.parse_base" 1265,U (sM 87 7) "need_word" "TokenTaker.need_word" ["self","word"] 1334 592 2 707 "js.parse_base" 1265,U (sM 87 8) "fail" "TokenTaker.fail" ["self","text"] 1342 597 2 714 "js.parse_base" 1265,U (sM 87 9) "fail_for" "TokenTaker.fail_for" ["self","fault"] 1350 600 2 721 "js.parse_base" 1265,U (sM 87 10) "unexpected" "TokenTaker.unexpected" ["self"] 1358 604 1 728 "js.parse_base" 1265,U (sM 87 11) "need_name" "TokenTaker.need_name" ["self"] 1365 607 1 735 "js.parse_base" 1265,U (sM 87 12) "need_binding" "TokenTaker.need_binding" ["self"] 1372 613 1 742 "js.parse_base" 1265,U (sM 87 13) "property_name" "TokenTaker.property_name" ["self"] 1379 619 1 749 "js.parse_base" 1265,U (sM 87 14) "can_end" "TokenTaker.can_end" ["self"] 1386 624 1 756 "js.parse_base" 1265,U (sM 87 15) "end_statement" "TokenTaker.end_statement" ["self"] 1393 627 1 763 "js.parse_base" 1265,[tS 1400 ["depth","is_strict","jumps","later","lexer","pending","token"],dI [e P "__module__" 1274 (v "js.parse_base" 1265),e P "__firstlineno__" 1278 (j 551 1277),e P "__init__" 1286 (r 664),e P "take" 1294 (r 671),e P "peek" 1301 (r 678),e P "is_sign" 1309 (r 685),e P "is_word" 1317 (r 692),e P "eat" 1325 (r 699),e P "need" 1333 (r 706),e P "need_word" 1341 (r 713),e P "fail" 1349 (r 720),e P "fail_for" 1357 (r 727),e P "unexpected" 1364 (r 734),e P "need_name" 1371 (r 741),e P "need_binding" 1378 (r 748),e P "property_name" 1385 (r 755),e P "can_end" 1392 (r 762),e P "end_statement" 1399 (r 769),e P "__static_attributes__" 1407 (r 770),e P "__dict__" 1409 (r 773),e P "__weakref__" 1411 (r 774),e P "__doc__" 1412 .none] 4,⟨(.type "type"),none,(.cls ⟨S "TokenTaker",[(.type "object")],[(r 772),(.type "object")],771,S "TokenTaker",true,[],[],false,none,false⟩),.mk [none,none,(some (v "TokenTaker" 1267)),(some (v "TokenTaker" 1275)),(some (.builtin "object.__new__")),(some (.bool true))]⟩,⟨(.type "getset_descriptor"),none,(.fields (.mk [(v "__dict__" 1408),(r 772),(.builtin "function.__dict__"),(.builtin "function.__dict__#set")])),.mk []⟩,⟨(.type "getset_descriptor"),none,(.fields (.mk [(v "__weakref__" 1410),(r 772),(.builtin "ExceptionGroup.__weakref__"),.none])),.mk []⟩,⟨(.type "super"),none,(.fields (.mk [(r 772),(r 772),(r 772)])),.mk []⟩,⟨(.type "builtin_function_or_method"),none,(.fields (.mk [(.builtin "object.__init_subclass__"),(r 772)])),.mk []⟩]]
noncomputable def t7(P:Params):BT:=(iR 651 (g7 P) (iR 12 [lT (lM.take 55)] (iR 3 [dM P (v "js.parse_expr" 1415) 85] (t6 P))))
noncomputable def t8(P:Params):BT:=(iR 777 [dI [e P "||" 1417 (j 1 1418),e P "&&" 1420 (j 2 1421),e P "|" 1423 (j 3 1424),e P "^" 1426 (j 4 1427),e P "&" 1429 (j 5 1430),e P "==" 1432 (j 6 1433),e P "!=" 1435 (j 6 1436),e P "===" 1438 (j 6 1439),e P "!==" 1441 (j 6 1442),e P "<" 1444 (j 7 1445),e P ">" 1447 (j 7 1448),e P "<=" 1450 (j 7 1451),e P ">=" 1453 (j 7 1454),e P "instanceof" 1456 (j 7 1457),e P "in" 1459 (j 7 1460),e P "<<" 1462 (j 8 1463),e P ">>" 1465 (j 8 1466),e P ">>>" 1468 (j 8 1469),e P "+" 1470 (j 9 1471),e P "-" 1472 (j 9 1473),e P "*" 1474 (j 10 1475),e P "/" 1476 (j 10 1477),e P "%" 1478 (j 10 1479)] 23,dI [e P ">>>" 1468 (j 8 1469),e P "+" 1470 (j 9 1471),e P "-" 1472 (j 9 1473),e P "*" 1474 (j 10 1475),e P "/" 1476 (j 10 1477),e P "%" 1478 (j 10 1479)] 6,tS 1487 ["=","+=","-=","*=","/=","%=","<<=",">>=",">>>=","&=","^=","|="],tS 1500 ["-","+","!","~"],tS 1505 ["typeof","void","delete"],tS 1509 ["++","--"]] (iR 3 [dM P (v "js.parse_expr" 1415) 90] (t7 P)))
noncomputable def jQ:Obj:=⟨(.type "type"),none,(.cls ⟨S "TokenTaker",[(.type "object")],[(r 772),(.type "object")],771,S "TokenTaker",true,[],[(r 925)],false,none,false⟩),.mk [none,none,(some (v "TokenTaker" 1267)),(some (v "TokenTaker" 1275)),(some (.builtin "object.__new__")),(some (.bool true))]⟩
noncomputable def g9(P:Params):List Obj:=List.flatten [[tU [(r 772)],bC,dI [e P "__module__" 1519 (v "js.parse_expr" 1415),e P "__qualname__" 1521 (v "ExprParser" 1520),e P "__firstlineno__" 1523 (j 636 1522),e P "function" 1531 (r 796),e P "expression" 1541 (r 803),e P "assignment" 1551 (r 810),e P "need_target" 1559 (r 817),e P "conditional" 1569 (r 824),e P "priority" 1577 (r 831),e P "binary" 1590 (r 838),e P "unary" 1602 (r 845),e P "postfix" 1610 (r 852),e P "left_hand" 1618 (r 859),e P "with_members" 1627 (r 866),e P "creation" 1636 (r 873),e P "arguments" 1644 (r 880),e P "primary" 1653 (r 887),e P "word_operand" 1661 (r 894),e P "array" 1670 (r 901),e P "object" 1681 (r 908),e P "entry" 1692 (r 915),e P "entry_key" 1700 (r 922),e P "__static_attributes__" 1702 (r 923)] 23,o7,lT [(638,4,795),(641,4,802),(650,4,809),(658,4,816),(661,4,823),(669,4,830),(676,4,837),(685,4,844),(702,4,851),(709,4,858),(715,4,865),(725,4,872),(730,4,879),(742,4,886),(765,4,893),(779,4,900),(792,4,907),(804,4,914),(818,4,921)],cO [(v "ExprParser" 1514),(v "ExprParser" 1515),(v Ia 1516),(i 636),(i 0),(i 0),(i 0),(i 0),(r 786),(.bool false),(i 181),(r 787),.none,.none,.none,.none,(i 1517),(i 636),(v Ia 1518)],fR 788 785 "js.parse_expr" 1415],U (sM 94 0) "function" "ExprParser.function" ["self","sort"] 1524 638 2 790 "js.parse_expr" 1415,U (sM 94 1) "expression" "ExprParser.expression" ["self","can_in","first","found"] 1532 641 2 797 "js.parse_expr" 1415,U (sM 94 2) "assignment" "ExprParser.assignment" ["self","can_in","left","op"] 1542 650 2 804 "js.parse_expr" 1415,U (sM 94 3) "need_target" "ExprParser.need_target" ["self","node"] 1552 658 2 811 "js.parse_expr" 1415,U (sM 94 4) "conditional" "ExprParser.conditional" ["self","can_in","test","then"] 1560 661 2 818 "js.parse_expr" 1415,U (sM 94 5) "priority" "ExprParser.priority" ["self","can_in"] 1570 669 2 825 "js.parse_expr" 1415,U (sM 94 6) "binary" "ExprParser.binary" ["self","least","can_in","left","strength","op","right"] 1578 676 3 832 "js.parse_expr" 1415,U (sM 94 7) "unary" "ExprParser.unary" ["self","token","target","is_sign","is_word","operand"] 1591 685 1 839 "js.parse_expr" 1415,U (sM 94 8) "postfix" "ExprParser.postfix" ["self","node"] 1603 702 1 846 "js.parse_expr" 1415,U (sM 94 9) "left_hand" "ExprParser.left_hand" ["self","node"] 1611 709 1 853 "js.parse_expr" 1415,U (sM 94 10) "with_members" "ExprParser.with_members" ["self","node","key"] 1619 715 2 860 "js.parse_expr" 1415,U (sM 94 11) "creation" "ExprParser.creation" ["self","line","made"] 1628 725 1 867 "js.parse_expr" 1415,U (sM 94 12) "arguments" "ExprParser.arguments" ["self","found"] 1637 730 1 874 "js.parse_expr" 1415,U (sM 94 13) "primary" "ExprParser.primary" ["self","token","found"] 1645 742 1 881 "js.parse_expr" 1415,U (sM 94 14) "word_operand" "ExprParser.word_operand" ["self","token"] 1654 765 1 888 "js.parse_expr" 1415,U (sM 94 15) "array" "ExprParser.array" ["self","line","found"] 1662 779 1 895 "js.parse_expr" 1415,U (sM 94 16) "object" "ExprParser.object" ["self","line","found","known","entry"] 1671 792 1 902 "js.parse_expr" 1415,U (sM 94 17) "entry" "ExprParser.entry" ["self","word","later","key","made"] 1682 804 1 909 "js.parse_expr" 1415,U (sM 94 18) "entry_key" "ExprParser.entry_key" ["self","token"] 1693 818 1 916 "js.parse_expr" 1415,[tS 1701 ["token"],dI [e P "__module__" 1519 (v "js.parse_expr" 1415),e P "__firstlineno__" 1523 (j 636 1522),e P "function" 1531 (r 796),e P "expression" 1541 (r 803),e P "assignment" 1551 (r 810),e P "need_target" 1559 (r 817),e P "conditional" 1569 (r 824),e P "priority" 1577 (r 831),e P "binary" 1590 (r 838),e P "unary" 1602 (r 845),e P "postfix" 1610 (r 852),e P "left_hand" 1618 (r 859),e P "with_members" 1627 (r 866),e P "creation" 1636 (r 873),e P "arguments" 1644 (r 880),e P "primary" 1653 (r 887),e P "word_operand" 1661 (r 894),e P "array" 1670 (r 901),e P "object" 1681 (r 908),e P "entry" 1692 (r 915),e P "entry_key" 1700 (r 922),e P "__static_attributes__" 1702 (r 923),e P "__doc__" 1703 .none] 2,⟨(.type "type"),none,(.cls ⟨S "ExprParser",[(r 772)],[(r 925),(r 772),(.type "object")],924,S "ExprParser",true,[],[],false,none,false⟩),.mk [(q 783),none,(some (v "ExprParser" 1512)),(some (v "ExprParser" 1520)),(some (.builtin "object.__new__")),(some (.bool true))]⟩,⟨(.type "super"),none,(.fields (.mk [(r 925),(r 925),(r 925)])),.mk []⟩,⟨(.type "builtin_function_or_method"),none,(.fields (.mk [(.builtin "object.__init_subclass__"),(r 925)])),.mk []⟩]]
noncomputable def t9(P:Params):BT:=(iR 783 (g9 P) (iR 772 [jQ] (iR 12 [lT (lM.take 56)] (iR 3 [dM P (v "js.parse_expr" 1415) 91] (t8 P)))))
noncomputable def mG(P:Params):BT:=(iR 928 [tS 1708 ["do","while","for"]] (iR 3 [dM P (v "js.parse_stmt" 1706) 92] (t9 P)))
noncomputable def jP:Obj:=⟨(.type "type"),none,(.cls ⟨S "ExprParser",[(r 772)],[(r 925),(r 772),(.type "object")],924,S "ExprParser",true,[],[(r 1099)],false,none,false⟩),.mk [(q 783),none,(some (v "ExprParser" 1512)),(some (v "ExprParser" 1520)),(some (.builtin "object.__new__")),(some (.bool true))]⟩
noncomputable def sU(P:Params):List Obj:=List.flatten [[tU [(r 925)],bC,dI [e P "__module__" 1719 (v "js.parse_stmt" 1706),e P "__qualname__" 1721 (v "StmtParser" 1720),e P "__firstlineno__" 1723 (j 827 1722),e P "body" 1736 (r 942),e P "at_end" 1744 (r 949),e P "element" 1751 (r 956),e P "function" 1766 (r 963),e P "function_name" 1774 (r 970),e P "parameters" 1782 (r 977),e P "statement" 1792 (r 984),e P "plain_expression" 1801 (r 991),e P "word_statement" 1812 (r 998),e P "block" 1820 (r 1005),e P "variables" 1830 (r 1012),e P "condition" 1838 (r 1019),e P "choice" 1849 (r 1026),e P "loop" 1862 (r 1033),e P "loop_body" 1870 (r 1040),e P "for_loop" 1883 (r 1047),e P "key_loop" 1893 (r 1054),e P "labelled" 1905 (r 1061),e P "jump" 1915 (r 1068),e P "leaving" 1925 (r 1075),e P "switch" 1937 (r 1082),e P "case_body" 1945 (r 1089),e P "attempt" 1957 (r 1096),e P "__static_attributes__" 1962 (r 1097)] 27,o7,lT [(829,4,941),(846,4,948),(849,4,955),(855,4,962),(869,4,969),(874,4,976),(884,4,983),(899,4,990),(905,4,997),(934,4,1004),(942,4,1011),(950,4,1018),(956,4,1025),(965,4,1032),(980,4,1039),(986,4,1046),(1007,4,1053),(1013,4,1060),(1025,4,1067),(1034,4,1074),(1047,4,1081),(1069,4,1088),(1075,4,1095)],cO [(v "StmtParser" 1714),(v "StmtParser" 1715),(v Ia 1716),(i 827),(i 0),(i 0),(i 0),(i 0),(r 932),(.bool false),(i 181),(r 933),.none,.none,.none,.none,(i 1717),(i 827),(v Ia 1718)],fR 934 931 "js.parse_stmt" 1706],U (sM 97 0) "body" "StmtParser.body" ["self","is_end","found","has_octal","is_ahead","is_plain","made"] 1724 829 2 936 "js.parse_stmt" 1706,U (sM 97 1) "at_end" "StmtParser.at_end" ["self","is_end"] 1737 846 2 943 "js.parse_stmt" 1706,U (sM 97 2) "element" "StmtParser.element" ["self"] 1745 849 1 950 "js.parse_stmt" 1706,U (sM 97 3) "function" "StmtParser.function" ["self","sort","line","is_strict","jumps","name","params","found","made"] 1752 855 2 957 "js.parse_stmt" 1706,U (sM 97 4) "function_name" "StmtParser.function_name" ["self","sort"] 1767 869 2 964 "js.parse_stmt" 1706,U (sM 97 5) "parameters" "StmtParser.parameters" ["self","found"] 1775 874 1 971 "js.parse_stmt" 1706,U (sM 97 6) "statement" "StmtParser.statement" ["self","token","pending","later"] 1783 884 1 978 "js.parse_stmt" 1706,U (sM 97 7) "plain_expression" "StmtParser.plain_expression" ["self","line","found"] 1793 899 1 985 "js.parse_stmt" 1706,U (sM 97 8) "word_statement" "StmtParser.word_statement" ["self","word","pending","line","found"] 1802 905 3 992 "js.parse_stmt" 1706,U (sM 97 9) "block" "StmtParser.block" ["self","found"] 1813 934 1 999 "js.parse_stmt" 1706,U (sM 97 10) "variables" "StmtParser.variables" ["self","can_in","found","name"] 1821 942 2 1006 "js.parse_stmt" 1706,U (sM 97 11) "condition" "StmtParser.condition" ["self","found"] 1831 950 1 1013 "js.parse_stmt" 1706,U (sM 97 12) "choice" "StmtParser.choice" ["self","line","test","then","other"] 1839 956 2 1020 "js.parse_stmt" 1706,U (sM 97 13) "loop" "StmtParser.loop" ["self","word","line","pending","label","test","body"] 1850 965 4 1027 "js.parse_stmt" 1706,U (sM 97 14) "loop_body" "StmtParser.loop_body" ["self","found"] 1863 980 1 1034 "js.parse_stmt" 1706,U (sM 97 15) "for_loop" "StmtParser.for_loop" ["self","line","first","begin","name","test","step"] 1871 986 2 1041 "js.parse_stmt" 1706,U (sM 97 16) "key_loop" "StmtParser.key_loop" ["self","line","target","walked"] 1884 1007 3 1048 "js.parse_stmt" 1706,U (sM 97 17) "labelled" "StmtParser.labelled" ["self","pending","line","name","label","found"] 1894 1013 2 1055 "js.parse_stmt" 1706,U (sM 97 18) "jump" "StmtParser.jump" ["self","word","line","name"] 1906 1025 3 1062 "js.parse_stmt" 1706,U (sM 97 19) "leaving" "StmtParser.leaving" ["self","word","line","found"] 1916 1034 3 1069 "js.parse_stmt" 1706,U (sM 97 20) "switch" "StmtParser.switch" ["self","line","value","found","has_default","test"] 1926 1047 2 1076 "js.parse_stmt" 1706,U (sM 97 21) "case_body" "StmtParser.case_body" ["self","found"] 1938 1069 1 1083 "js.parse_stmt" 1706,U (sM 97 22) "attempt" "StmtParser.attempt" ["self","line","block","name","caught","last"] 1946 1075 2 1090 "js.parse_stmt" 1706,[tS 1958 ["depth","is_strict","jumps","pending"],dI [e P "__module__" 1719 (v "js.parse_stmt" 1706),e P "__firstlineno__" 1723 (j 827 1722),e P "body" 1736 (r 942),e P "at_end" 1744 (r 949),e P "element" 1751 (r 956),e P "function" 1766 (r 963),e P "function_name" 1774 (r 970),e P "parameters" 1782 (r 977),e P "statement" 1792 (r 984),e P "plain_expression" 1801 (r 991),e P "word_statement" 1812 (r 998),e P "block" 1820 (r 1005),e P "variables" 1830 (r 1012),e P "condition" 1838 (r 1019),e P "choice" 1849 (r 1026),e P "loop" 1862 (r 1033),e P "loop_body" 1870 (r 1040),e P "for_loop" 1883 (r 1047),e P "key_loop" 1893 (r 1054),e P "labelled" 1905 (r 1061),e P "jump" 1915 (r 1068),e P "leaving" 1925 (r 1075),e P "switch" 1937 (r 1082),e P "case_body" 1945 (r 1089),e P "attempt" 1957 (r 1096),e P "__static_attributes__" 1962 (r 1097),e P "__doc__" 1963 .none] 2,⟨(.type "type"),none,(.cls ⟨S "StmtParser",[(r 925)],[(r 1099),(r 925),(r 772),(.type "object")],1098,S "StmtParser",true,[],[],false,none,false⟩),.mk [(q 929),none,(some (v "StmtParser" 1712)),(some (v "StmtParser" 1720)),(some (.builtin "object.__new__")),(some (.bool true))]⟩,⟨(.type "super"),none,(.fields (.mk [(r 1099),(r 1099),(r 1099)])),.mk []⟩,⟨(.type "builtin_function_or_method"),none,(.fields (.mk [(.builtin "object.__init_subclass__"),(r 1099)])),.mk []⟩]]
noncomputable def mF(P:Params):BT:=(iR 929 (sU P) (iR 925 [jP] (iR 12 [lT (lM.take 57)] (iR 3 [dM P (v "js.parse_stmt" 1706) 93] (mG P)))))
noncomputable def sS(P:Params):List Obj:=List.flatten [u (sA 99) "parse" ["text","reader","body"] 1968 1092 1 1102 "js.parser" 1966,u (sA 101) "_law_take" ["box","wide"] 1979 1097 2 1109 "law_nt0413_02" 1977,u (sA 102) "_law_pieces" ["name","word","bound","found"] 1987 1102 3 1116 "law_nt0413_02" 1977,u (sA 103) "_law_program" ["piece","place","sort","heads","head","is_strict"] 1997 1119 3 1123 "law_nt0413_02" 1977,u (sA 104) "_law_is_let" ["text"] 2009 1130 1 1130 "law_nt0413_02" 1977,u (sA 105) "law" ["script","seed","one","box","turn","name","word","place","sort","pieces","piece","told","text","is_strict"] 2016 1136 1 1137 "law_nt0413_02" 1977]
noncomputable def ZF(P:Params):BT:=(iR 1102 (sS P) (iR 12 [lT (lM.take 63)] (iR 3 [dM P (v "law_nt0413_02" 1977) 99] (mF P))))
theorem qW(w:World):(fun os=>segRunT treeTable PySem.Challenge.pw_nt0413_02 w 11 (q 6) 1 799 (st t0 15 187 w os) (piecesOf (Mw 0 28) EL cT ⟨0,0,0,0⟩ bT))=fun os=>some (.next,st t1 127 376 w os,cT,⟨76,0,82,61⟩):=by
 rw[PySem.W.Fast.te10110043849684766642,PySem.W.Fast.te14364793385576792824];kernel_rfl
theorem qS(w:World):(fun os=>segRunT treeTable PySem.Challenge.pw_nt0413_02 w 11 (q 6) 1 755 (st t1 127 376 w os) (piecesOf (Mw 28 51) EL cT ⟨76,0,82,61⟩ bT))=fun os=>some (.next,st t2 288 630 w os,cT,⟨181,0,181,8⟩):=by
 rw[PySem.W.Fast.te10110043849684766642,PySem.W.Fast.te14364793385576792824];kernel_rfl
theorem qQ(w:World):(fun os=>segRunT treeTable PySem.Challenge.pw_nt0413_02 (w.withFollow "special-get-raises" false) 11 (q 6) 1 793 (st t2 288 630 (w.withFollow "special-get-raises" false) os) (piecesOf (Mw 51 69) EL cT ⟨181,0,181,8⟩ bT))=fun os=>some (.next,st t3 382 882 (w.withFollow "special-get-raises" false) os,cT,⟨268,0,268,8⟩):=by
 rw[PySem.W.Fast.te10110043849684766642,PySem.W.Fast.te14364793385576792824];kernel_rfl
theorem qP(w:World):(fun os=>segRunT treeTable PySem.Challenge.pw_nt0413_02 (w.withFollow "special-get-raises" true) 11 (q 6) 1 793 (st t2 288 630 (w.withFollow "special-get-raises" true) os) (piecesOf (Mw 51 69) EL cT ⟨181,0,181,8⟩ bT))=fun os=>some (.next,st t3 382 882 (w.withFollow "special-get-raises" true) os,cT,⟨268,0,268,8⟩):=by
 rw[PySem.W.Fast.te10110043849684766642,PySem.W.Fast.te14364793385576792824];kernel_rfl
theorem qR(w:World):(fun os=>segRunT treeTable PySem.Challenge.pw_nt0413_02 w 11 (q 6) 1 793 (st t2 288 630 w os) (piecesOf (Mw 51 69) EL cT ⟨181,0,181,8⟩ bT))=fun os=>some (.next,st t3 382 882 w os,cT,⟨268,0,268,8⟩):=byRow2 (P:=fun w=>(fun os=>segRunT treeTable PySem.Challenge.pw_nt0413_02 w 11 (q 6) 1 793 (st t2 288 630 w os) (piecesOf (Mw 51 69) EL cT ⟨181,0,181,8⟩ bT))=fun os=>some (.next,st t3 382 882 w os,cT,⟨268,0,268,8⟩)) "special-get-raises" qQ qP w
theorem pc4(w:World):(fun os=>segRunT treeTable PySem.Challenge.pw_nt0413_02 w 11 (q 6) 1 240 (st t3 382 882 w os) (piecesOf (Mw 69 71) EL cT ⟨268,0,268,8⟩ bT))=fun os=>some (.next,st t4 402 915 w os,cT,⟨274,0,274,8⟩):=by
 rw[PySem.W.Fast.te10110043849684766642,PySem.W.Fast.te14364793385576792824];kernel_rfl
theorem pc5(w:World):(fun os=>segRunT treeTable PySem.Challenge.pw_nt0413_02 w 11 (q 6) 1 827 (st t4 402 915 w os) (piecesOf (Mw 71 72) EL cT ⟨274,0,274,8⟩ bT))=fun os=>some (.next,st t5 549 1116 w os,cT,⟨275,0,479,29⟩):=by
 rw[PySem.W.Fast.te10110043849684766642,PySem.W.Fast.te14364793385576792824];kernel_rfl
theorem pc6(w:World):(fun os=>segRunT treeTable PySem.Challenge.pw_nt0413_02 w 11 (q 6) 1 650 (st t5 549 1116 w os) (piecesOf (Mw 72 87) EL cT ⟨275,0,479,29⟩ bT))=fun os=>some (.next,st t6 651 1267 w os,cT,⟨550,0,550,8⟩):=by
 rw[PySem.W.Fast.te10110043849684766642,PySem.W.Fast.te14364793385576792824];kernel_rfl
theorem pc7(w:World):(fun os=>segRunT treeTable PySem.Challenge.pw_nt0413_02 w 11 (q 6) 1 711 (st t6 651 1267 w os) (piecesOf (Mw 87 89) EL cT ⟨550,0,550,8⟩ bT))=fun os=>some (.next,st t7 777 1417 w os,cT,⟨630,0,630,8⟩):=by
 rw[PySem.W.Fast.te10110043849684766642,PySem.W.Fast.te14364793385576792824];kernel_rfl
theorem qO(w:World):(fun os=>segRunT treeTable PySem.Challenge.pw_nt0413_02 (w.withFollow "special-get-raises" false) 11 (q 6) 1 460 (st t7 777 1417 (w.withFollow "special-get-raises" false) os) (piecesOf (Mw 89 94) EL cT ⟨630,0,630,8⟩ bT))=fun os=>some (.next,st t8 783 1512 (w.withFollow "special-get-raises" false) os,cT,⟨635,0,635,5⟩):=by
 rw[PySem.W.Fast.te10110043849684766642,PySem.W.Fast.te14364793385576792824];kernel_rfl
theorem qN(w:World):(fun os=>segRunT treeTable PySem.Challenge.pw_nt0413_02 (w.withFollow "special-get-raises" true) 11 (q 6) 1 460 (st t7 777 1417 (w.withFollow "special-get-raises" true) os) (piecesOf (Mw 89 94) EL cT ⟨630,0,630,8⟩ bT))=fun os=>some (.next,st t8 783 1512 (w.withFollow "special-get-raises" true) os,cT,⟨635,0,635,5⟩):=by
 rw[PySem.W.Fast.te10110043849684766642,PySem.W.Fast.te14364793385576792824];kernel_rfl
theorem pc8(w:World):(fun os=>segRunT treeTable PySem.Challenge.pw_nt0413_02 w 11 (q 6) 1 460 (st t7 777 1417 w os) (piecesOf (Mw 89 94) EL cT ⟨630,0,630,8⟩ bT))=fun os=>some (.next,st t8 783 1512 w os,cT,⟨635,0,635,5⟩):=byRow2 (P:=fun w=>(fun os=>segRunT treeTable PySem.Challenge.pw_nt0413_02 w 11 (q 6) 1 460 (st t7 777 1417 w os) (piecesOf (Mw 89 94) EL cT ⟨630,0,630,8⟩ bT))=fun os=>some (.next,st t8 783 1512 w os,cT,⟨635,0,635,5⟩)) "special-get-raises" qO qN w
theorem pc9(w:World):(fun os=>segRunT treeTable PySem.Challenge.pw_nt0413_02 w 11 (q 6) 1 847 (st t8 783 1512 w os) (piecesOf (Mw 94 95) EL cT ⟨635,0,635,5⟩ bT))=fun os=>some (.next,st t9 928 1706 w os,cT,⟨636,0,824,35⟩):=by
 rw[PySem.W.Fast.te10110043849684766642,PySem.W.Fast.te14364793385576792824];kernel_rfl
theorem qV(w:World):(fun os=>segRunT treeTable PySem.Challenge.pw_nt0413_02 w 11 (q 6) 1 23 (st t9 928 1706 w os) (piecesOf (Mw 95 97) EL cT ⟨636,0,824,35⟩ bT))=fun os=>some (.next,st mG 929 1712 w os,cT,⟨826,0,826,10⟩):=by
 rw[PySem.W.Fast.te10110043849684766642,PySem.W.Fast.te14364793385576792824];kernel_rfl
theorem qU(w:World):(fun os=>segRunT treeTable PySem.Challenge.pw_nt0413_02 w 11 (q 6) 1 1017 (st mG 929 1712 w os) (piecesOf (Mw 97 98) EL cT ⟨826,0,826,10⟩ bT))=fun os=>some (.next,st mF 1102 1966 w os,cT,⟨827,0,1090,61⟩):=by
 rw[PySem.W.Fast.te10110043849684766642,PySem.W.Fast.te14364793385576792824];kernel_rfl
theorem qT(w:World):(fun os=>segRunT treeTable PySem.Challenge.pw_nt0413_02 w 11 (q 6) 1 217 (st mF 1102 1966 w os) (piecesOf (Mw 98 106) EL cT ⟨827,0,1090,61⟩ bT))=fun os=>some (.next,st ZF 1144 2036 w os,cT,⟨1136,0,1154,105⟩):=by
 rw[PySem.W.Fast.te10110043849684766642,PySem.W.Fast.te14364793385576792824];kernel_rfl
end Mn.Hd
namespace Mn.Hd
open PySem PySem.W PySem.W.BT PyProof.Rows
abbrev pw:Program:=PySem.Challenge.pw_nt0413_02
abbrev NC:Option Value:=some (.ref 6)
theorem jI:∀w:World,(fencedOpening treeTable pw w 20000).map (fun s=>(s.heap,s.gens,s.drawn,s.toks))=some (boot_heap w.params,Array.mk [],boot_drawn,boot_toks):=
 boot_open (by kernel_rfl) (by decide) (fun s=>by kernel_rfl)
theorem cu(w:World):((boot_heap w.params).isNs mainGlobals&&(Array.mk []:Array GenState).size==0,(boot_heap w.params).objs.size,(boot_heap w.params).nsMap mainGlobals "__annotations__")=(true,11,NC):=by kernel_rfl
theorem pre(w:World):(fun os=>topGo treeTable pw w 11 NC 12 ⟨boot_heap w.params,Array.mk [],boot_drawn,boot_toks,os⟩ (topStub pw))=fun os=>some ((st t0 15 187 w os).abs,⟨denote treeTable cT,cT,⟨0,0,0,0⟩,bT⟩):=by
 rw[PySem.W.Fast.te15667345088766844465,PySem.W.Fast.te11892475500146522536,PySem.W.Fast.te14364793385576792824];kernel_rfl
theorem kX(w:World):(fun os=>segRun treeTable pw w 11 NC 1 1 (st t0 15 187 w os).abs (blockOf (behindTheImports pw) EL cT ⟨0,0,0,0⟩ bT))=fun os=>some (.next,(st t0 15 187 w os).abs,cT,⟨0,0,0,0⟩):=by
 kernel_rfl
theorem q8(w:World)(os:OsState):topRun treeTable pw w 11 NC 2 (st ZF 1144 2036 w os).abs ⟨doneF .next,cT,⟨1136,0,1154,105⟩,bT⟩=some (st ZF 1144 2036 w os).abs:=by
 kernel_rfl
theorem fK:behindTheImports pw=DO:=by kernel_rfl
theorem whole:DO.length=106:=by kernel_rfl
theorem Bi{w:World} {i j n N:Nat} {s s':SharedT} {r:Shared} {p p':Pos}(hij:i≤j)(h:segRunT treeTable pw w 11 NC 1 n s (piecesOf (Mw i j) EL cT p bT)=some (.next,s',cT,p'))
  (k:topRun treeTable pw w 11 NC N s'.abs (restOf (DO.drop j) EL cT p' bT)=some r):topRun treeTable pw w 11 NC (n+N) s.abs (restOf (DO.drop i) EL cT p bT)=some r:=by
 have e:DO.drop i=Mw i j++DO.drop j:=by
  unfold Mw;have:DO.drop j=(DO.drop i).drop (j-i):=by rw[List.drop_drop];congr 1;omega
  rw[this,List.take_append_drop]
 rw[e];exact piece_app (segRun_of h) k
theorem nK(w:World)(os:OsState):topRun treeTable pw w 11 NC (12+(1+(799+(755+(793+(240+(827+(650+(711+(460+(847+(23+(1017+(217+2)))))))))))))) ⟨boot_heap w.params,Array.mk [],boot_drawn,boot_toks,os⟩ (topStub pw)=some (st ZF 1144 2036 w os).abs:=by
 refine go_top (congrFun (pre w) os) (piece_block (congrFun (kX w) os) ?_);rw[fK];have e0:DO=DO.drop 0:=rfl;rw[e0];refine Bi (by decide) (congrFun (qW w) os) ?_;refine Bi (by decide) (congrFun (qS w) os) ?_;refine Bi (by decide) (congrFun (qR w) os) ?_;refine Bi (by decide) (congrFun (pc4 w) os) ?_;refine Bi (by decide) (congrFun (pc5 w) os) ?_;refine Bi (by decide) (congrFun (pc6 w) os) ?_;refine Bi (by decide) (congrFun (pc7 w) os) ?_;refine Bi (by decide) (congrFun (pc8 w) os) ?_;refine Bi (by decide) (congrFun (pc9 w) os) ?_;refine Bi (by decide) (congrFun (qV w) os) ?_;refine Bi (by decide) (congrFun (qU w) os) ?_;refine Bi (by decide) (congrFun (qT w) os) ?_;have e1:DO.drop 106= []:=List.drop_eq_nil_of_le (Nat.le_of_eq whole);rw[e1];exact piece_nil (q8 w os)
noncomputable def HB(P:Params):Heap:=absHeap (ZF P) 1144 lf
noncomputable def q0:Program:={pw with main:={pw.main with body:=DO.drop 105} }
noncomputable def JS:List Str:=(pw.main.scope.names.map (·.1)).dropLast
noncomputable def gW(w:World)(os:OsState):Shared:=⟨HB w.params,Array.mk [],⟨0,0,0,0⟩,2036,os⟩
theorem lk1(w:World):staticsOk (importedModules pw.main.body) (boot_heap w.params) (HB w.params)=true:=by
 rw[PySem.W.Fast.te5923862056798008813];kernel_rfl
theorem lk2(w:World):namesBound pw (HB w.params)=true:=by kernel_rfl
theorem lk3(w:World)(os:OsState):gensDone (gW w os)=true:=by kernel_rfl
theorem lk4(w:World):laidKept (boot_heap w.params) (HB w.params)=true:=by kernel_rfl
theorem lk5(w:World)(os:OsState):openSeen q0 JS (importedModules pw.main.body) (fun J=>true) true (gW w os)=openGood q0 JS:=by
 rw[PySem.W.Fast.te4187177175401517315,PySem.W.Fast.te5923862056798008813];kernel_rfl
theorem cq(w:World)(os:OsState):(st ZF 1144 2036 w os).abs=gW w os:=by kernel_rfl
theorem nM(w:World)(os:OsState):topRun treeTable pw w 11 NC (12+(1+(799+(755+(793+(240+(827+(650+(711+(460+(847+(23+(1017+(217+2)))))))))))))) ⟨boot_heap w.params,Array.mk [],boot_drawn,boot_toks,os⟩ (topStub pw)=some (gW w os):=(nK w os).trans (congrArg some (cq w os))
theorem left:LeftO pw q0 JS (fun J=>true) (fun s=>s.heap) (fun w=>HB w.params) 20000:=by
 refine LeftO.of_pieces (H₀:=boot_heap) (H₁:=HB) (gs₀:=Array.mk []) (gs₁:=Array.mk []) (d₀:=boot_drawn) (d₁:=⟨0,0,0,0⟩) (k₀:=boot_toks) (k₁:=2036) (m₀:=11) (ann:=NC) jI cu nM (by decide) ?_;intro w;funext os;have a:=lk5 w os;have b:(staticsOk (importedModules pw.main.body) (boot_heap w.params) (HB w.params)&&namesBound pw (HB w.params)&&gensDone (gW w os)&&laidKept (boot_heap w.params) (HB w.params))=true:=by rw[lk1,lk2,lk3,lk4];rfl
 show(_,_,_)=(_,_,_);exact Prod.ext b (Prod.ext a rfl)
noncomputable def dL:DefRec:=match sA 105 with
 |.FunctionDef name args body _ _ _ sc _ _ pos=>⟨name,args,body,sc,pos⟩
 |_=>⟨Str.ofString "",⟨[],[],none,[],[],none,[]⟩,[],⟨.function,[],false,false,[]⟩,⟨0,0,0,0⟩⟩
theorem qq:defOf q0 (Str.ofString "law")=some (dL,[]):=by kernel_rfl
abbrev YB(w:World)(h:Heap):Prop:=∀a o,(HB w.params).get? a=some o→h.get? a=some o
abbrev RL:OpenRow:=(PySem.Challenge.rw_nt0413_02).row
theorem dC:(List.filter (readsOut RL.prog RL.prog.main.body) (["vars","dir","locals"]:List Str))= []:=by kernel_rfl
theorem cz:(!(importedModules RL.prog.main.body).all cThrough.contains)=false:=by kernel_rfl
theorem dB:noRoadLSs {strict:=!(importedModules RL.prog.main.body).all cThrough.contains,foot:=none,bare:=(["vars","dir","locals"]:List Str).filter (readsOut RL.prog RL.prog.main.body)} RL.prog.main.body=true:=by
 rw[dC,cz];kernel_rfl
theorem dA:looksOpen RL.prog=true:=by
 unfold looksOpen;refine look_both (look_both ?_ dB) (by kernel_rfl)
 iterate 3 (refine look_both ?_ (by kernel_rfl))
 kernel_rfl
theorem c_:(PySem.Challenge.rw_nt0413_02).row.wellSaid=true:=by
 unfold OpenRow.wellSaid OpenRow.partSaid
 iterate 15 (refine look_both ?_ (by kernel_rfl))
 exact dA
theorem nJ:(PySem.Challenge.rw_nt0413_02).wellSaid=true:=by
 unfold OpenLaw.wellSaid
 iterate 18 (refine look_both ?_ (by kernel_rfl))
 exact c_
theorem Xg(call:WalkO q0 JS (fun J J=>True) YB RL.toRowW dL [] fun f vs=>PySem.call f vs):(PySem.Challenge.rw_nt0413_02).Holds:=by
 refine holds_law nJ fun k1=>?_;refine holds_open (r:=RL) (q:=q0) (loose:=JS) (Xt:=fun J=>true) (XP:=fun J J=>True) (YP:=YB) (d:=dL) (kwd:= []) left ?_ ?_ ?_ ?_ qq ?_ ?_ ?_ ?_ k1 ?_ ?_ ?_ call
 ·intro w s e a o h;rw[←e] at h;exact h
 ·intro w h h' y k a o e;exact k _ _ (y _ _ e)
 ·intros;trivial
 ·intros;trivial
 ·kernel_rfl
 ·kernel_rfl
 ·intro s _;exact recFacts_nil rfl
 ·rfl
 ·kernel_rfl
 ·exact⟨rfl,rfl,rfl,rfl,rfl,by kernel_rfl⟩
 ·exact⟨[.list [.int 0]],by decide+kernel,by decide+kernel⟩
noncomputable def kS(a:Nat)(g:List Obj):List Nat→Frag
 | []=> []
 |i::r=>(Nat.add a i,(g.drop i).headD o7)::kS a g r
noncomputable def KW(P:Params):Frag:=List.flatten [[(3,dM P (v "law_nt0413_02" 1977) 99),(772,jQ),(925,jP)],kS 0 (g0 P) [0],kS 15 (g1 P) [12,13,15,16,26,27,33,34,40,41,47,48,54,55,61,62,68,69,75,76,82,83,89,90,96,97,103,104,110,111],kS 288 (g3 P) [6,7,13,14,20,21,27,28,34,35,41,42,48,49,55,56,71,72,74,75,85,86,92,93],kS 382 (g4 P) [12,13,15,16],kS 402 (g5 P) [12,13,19,20,26,27,33,34,40,41,47,48,54,55,61,62,68,69,75,76,82,83,89,90,96,97,103,104,110,111,117,118,124,125,131,132,138,139,141,142],kS 549 (g6 P) [8,9,15,16,22,23,29,30,36,37,43,44,50,51,57,58,64,65,78,79,83,84,88,89,93,94,96,97],kS 929 (sU P) [12,13,19,20,26,27,33,34,40,41,47,48,54,55,61,62,68,69,75,76,82,83,89,90,96,97,103,104,110,111,117,118,124,125,131,132,138,139,145,146,152,153,159,160,166,167,169,170],kS 651 (g7 P) [12,13,19,20,26,27,33,34,40,41,47,48,54,55,61,62,68,69,75,76,82,83,89,90,96,97,103,104,110,111,117,118,120],kS 783 (g9 P) [12,13,19,20,26,27,33,34,40,41,47,48,54,55,61,62,68,69,75,76,82,83,89,90,96,97,103,104,110,111,117,118,124,125,131,132,138,139,141],kS 127 (g2 P) [5,6,12,13,19,20,26,27,33,34,40,41,47,48,54,55,61,62,110,111,117,118,124,125,131,132,138,139,145,146,152,153,159,160],kS 1102 (sS P) [5,6,12,13,19,20,26,27,33,34,40,41]]
theorem Xf{K:Frag} {h:Heap}(q:∀p∈K,h.get? p.1=some p.2):K.In h:=fun a o e=>by
 have key:∀{l:List (Addr×Obj)},List.lookup a l=some o→(a,o)∈l:=fun{l}=>by
  induction l with
  |nil=>intro z;cases z
  |cons x r ih=>
   intro z;obtain⟨b,y⟩:=x;rw[List.lookup_cons] at z
   by_cases c:(a==b)=true
   ·rw[c] at z
    have:=beq_iff_eq.mp c;subst this;cases z;exact .head _
   ·rw[Bool.eq_false_iff.mpr c] at z
    exact .tail _ (ih z)
 exact q (a,o) (key e)
theorem TY{P:Params}:∀{l:List (Addr×Obj)},l.map (fun p=>(ZF P).get p.1)=l.map (fun p=>some p.2)→l.all (fun p=>Nat.blt p.1 1144&&(match p.2.data with|.freed=>false|_=>true))=true→∀p∈l,(HB P).get? p.1=some p.2
 | [],_,_,_,h=>nomatch h
 |x::r,e1,e2,p,h=>by
  refine xA (List.cons.inj e1) fun a1 a2=>?_;refine xA (Bool.and_eq_true_iff.mp (show(_&&r.all _)=true from e2)) fun b1 b2=>?_;refine xA (Bool.and_eq_true_iff.mp b1) fun b1 b3=>?_;rcases List.mem_cons.mp h with rfl|h
  ·refine(abs_get (Nat.le_of_ble_eq_true b1) a1).trans ?_
   obtain⟨a,c,d,dt,sl⟩:=p;clear e2 b1 a1 h e1;cases dt<;>first|rfl|cases b3
  ·exact TY a2 b2 p h
theorem kin(P:Params):(KW P).In (HB P):=Xf (TY (by kernel_rfl) (by kernel_rfl))
noncomputable def gR:Stmt→Bool
 |.FunctionDef _ args _ _ _ _ sc _ _ _=>QP args&&WV sc
 |_=>false
theorem eY{K:Frag} {f c:Addr} {st:Stmt} {q:String} {pm:Value}(h:K.lookup f=some ⟨.type "function",none,fo st q 3 .none .none .none pm none (.ref c) .none 0,.mk []⟩)(hc:codeIn K (.ref c) (.ofString q)=true)(hs:gR st=true):Jm K f (Yz (some st)):=by
 cases st with
 |FunctionDef name args body x1 x2 x3 sc x4 x5 x6=>
  refine xA (Bool.and_eq_true_iff.mp (show(QP args&&WV sc)=true from hs)) fun h1 h2=>?_;exact⟨⟨⟨_,_,name,.ofString q,args,.none,pm,none,.ref c,.none⟩,h,hc,rfl,h1⟩,h2⟩
 |_=>cases hs
structure km where
 a:Addr
 st:Stmt
 q:String
 pm:Value
noncomputable def rs(pm:Value)(l:List (Addr×Stmt×String)):List km:=l.map fun x=>⟨x.1,x.2.1,x.2.2,pm⟩
noncomputable def Wa:List km:=rs (v "js.dbits" 223) [(42,sA 12,"width"),(49,sA 13,"pack"),(56,sA 14,"is_negative"),(63,sA 15,"is_nan"),(70,sA 16,"is_inf"),(77,sA 17,"is_zero"),(84,sA 18,"signed"),(91,sA 19,"parts"),(98,sA 20,"quotient"),(105,sA 21,"round_ratio"),(112,sA 22,"assembled"),(119,sA 23,"from_int")]++rs (v "js.numshow" 356) [(126,sA 27,"scaled"),(133,sA 28,"decimal_place"),(140,sA 29,"first_place"),(147,sA 30,"shortest"),(154,sA 31,"last_figure"),(161,sA 32,"signed_exponent"),(168,sA 33,"with_exponent"),(175,sA 34,"laid_out"),(182,sA 35,"without_figures"),(189,sA 36,"show")]++rs (v "js.chars" 472) [(238,sA 42,"is_among"),(245,sA 43,"is_white"),(252,sA 44,"is_line_end"),(259,sA 45,"is_digit"),(266,sA 46,"is_octal_digit"),(273,sA 47,"hex_value"),(280,sA 48,"is_id_start"),(287,sA 49,"is_id_part")]++rs (v "js.escapes" 628) [(295,sA 52,"code_at"),(302,sA 53,"hex_at"),(309,sA 54,"line_end_size"),(316,sA 55,"octal_escape"),(323,sA 56,"read_escape")]++rs (v "js.numparse" 701) [(330,sA 59,"figure_of"),(337,sA 60,"worth"),(344,sA 61,"from_decimal")]++rs (v "js.tokens" 735) [(374,sA 66,"is_keyword"),(381,sA 67,"punct_at"),(360,sM 65 0,"Token.__init__")]++rs (v "js.strictness" 1116) [(558,sA 76,"name_fault"),(565,sA 77,"binding_fault"),(572,sA 78,"first_twice"),(579,sA 79,"params_fault"),(586,sA 80,"target_fault"),(593,sA 81,"delete_fault"),(600,sA 82,"octal_fault"),(607,sA 83,"entry_fault"),(614,sA 84,"accessor_fault"),(628,sM 85 0,"Jumps.__init__"),(633,sM 85 1,"Jumps.label_fault"),(638,sM 85 2,"Jumps.break_fault"),(643,sM 85 3,"Jumps.continue_fault")]++rs (v "js.parser" 1966) [(1108,sA 99,"parse")]++rs (v "law_nt0413_02" 1977) [(1115,sA 101,"_law_take"),(1122,sA 102,"_law_pieces"),(1129,sA 103,"_law_program"),(1136,sA 104,"_law_is_let"),(1143,sA 105,"law")]++rs (v "js.nodes" 187) [(28,sM 1 0,"Node.__init__")]++rs (v "js.values" 880) [(395,sM 69 0,"SyntaxFail.__init__")]++rs (v "js.lexer" 913) [(415,sM 71 0,"Lexer.__init__"),(422,sM 71 1,"Lexer.next"),(429,sM 71 2,"Lexer.fail"),(436,sM 71 3,"Lexer.end_line"),(443,sM 71 4,"Lexer.skip_blanks"),(450,sM 71 5,"Lexer.skip_comment"),(457,sM 71 6,"Lexer.name_sign"),(464,sM 71 7,"Lexer.read_name"),(471,sM 71 8,"Lexer.skip_digits"),(478,sM 71 9,"Lexer.read_number"),(485,sM 71 10,"Lexer.read_hex"),(492,sM 71 11,"Lexer.read_octal"),(499,sM 71 12,"Lexer.read_decimal"),(506,sM 71 13,"Lexer.read_exponent"),(513,sM 71 14,"Lexer.regex"),(520,sM 71 15,"Lexer.regex_body"),(527,sM 71 16,"Lexer.read_text"),(534,sM 71 17,"Lexer.escaped"),(541,sM 71 18,"Lexer.read_punct")]++rs (v "js.parse_base" 1265) [(664,sM 87 0,"TokenTaker.__init__"),(671,sM 87 1,"TokenTaker.take"),(678,sM 87 2,"TokenTaker.peek"),(685,sM 87 3,"TokenTaker.is_sign"),(692,sM 87 4,"TokenTaker.is_word"),(699,sM 87 5,"TokenTaker.eat"),(706,sM 87 6,"TokenTaker.need"),(713,sM 87 7,"TokenTaker.need_word"),(720,sM 87 8,"TokenTaker.fail"),(727,sM 87 9,"TokenTaker.fail_for"),(734,sM 87 10,"TokenTaker.unexpected"),(741,sM 87 11,"TokenTaker.need_name"),(748,sM 87 12,"TokenTaker.need_binding"),(755,sM 87 13,"TokenTaker.property_name"),(762,sM 87 14,"TokenTaker.can_end"),(769,sM 87 15,"TokenTaker.end_statement")]++rs (v "js.parse_expr" 1415) [(796,sM 94 0,"ExprParser.function"),(803,sM 94 1,"ExprParser.expression"),(810,sM 94 2,"ExprParser.assignment"),(817,sM 94 3,"ExprParser.need_target"),(824,sM 94 4,"ExprParser.conditional"),(831,sM 94 5,"ExprParser.priority"),(838,sM 94 6,"ExprParser.binary"),(845,sM 94 7,"ExprParser.unary"),(852,sM 94 8,"ExprParser.postfix"),(859,sM 94 9,"ExprParser.left_hand"),(866,sM 94 10,"ExprParser.with_members"),(873,sM 94 11,"ExprParser.creation"),(880,sM 94 12,"ExprParser.arguments"),(887,sM 94 13,"ExprParser.primary"),(894,sM 94 14,"ExprParser.word_operand"),(901,sM 94 15,"ExprParser.array"),(908,sM 94 16,"ExprParser.object"),(915,sM 94 17,"ExprParser.entry"),(922,sM 94 18,"ExprParser.entry_key")]++rs (v "js.parse_stmt" 1706) [(942,sM 97 0,"StmtParser.body"),(949,sM 97 1,"StmtParser.at_end"),(956,sM 97 2,"StmtParser.element"),(963,sM 97 3,"StmtParser.function"),(970,sM 97 4,"StmtParser.function_name"),(977,sM 97 5,"StmtParser.parameters"),(984,sM 97 6,"StmtParser.statement"),(991,sM 97 7,"StmtParser.plain_expression"),(998,sM 97 8,"StmtParser.word_statement"),(1005,sM 97 9,"StmtParser.block"),(1012,sM 97 10,"StmtParser.variables"),(1019,sM 97 11,"StmtParser.condition"),(1026,sM 97 12,"StmtParser.choice"),(1033,sM 97 13,"StmtParser.loop"),(1040,sM 97 14,"StmtParser.loop_body"),(1047,sM 97 15,"StmtParser.for_loop"),(1054,sM 97 16,"StmtParser.key_loop"),(1061,sM 97 17,"StmtParser.labelled"),(1068,sM 97 18,"StmtParser.jump"),(1075,sM 97 19,"StmtParser.leaving"),(1082,sM 97 20,"StmtParser.switch"),(1089,sM 97 21,"StmtParser.case_body"),(1096,sM 97 22,"StmtParser.attempt")]
theorem NR(P:Params):Wa.map (fun r=>(KW P).lookup r.a)=Wa.map (fun r=>some ⟨.type "function",none,fo r.st r.q 3 .none .none .none r.pm none (.ref (r.a-1)) .none 0,.mk []⟩):=by kernel_rfl
theorem TG(P:Params):Wa.all (fun r=>codeIn (KW P) (.ref (r.a-1)) (.ofString r.q)&&gR r.st)=true:=by kernel_rfl
theorem dF(P:Params){r:km}(h:r∈Wa):Jm (KW P) r.a (Yz (some r.st)):=by
 have h1:=(List.map_inj_left.mp (NR P)) r h;refine xA (Bool.and_eq_true_iff.mp (List.all_eq_true.mp (TG P) r h)) fun h2 h3=>?_;exact eY h1 h2 h3
noncomputable def Zz(f:Addr):List km→Option Fn
 | []=>none
 |r::l=>match Nat.beq r.a f with
  |true=>some (Yz (some r.st))
  |false=>Zz f l
theorem Tu{f:Addr} {fn:Fn}:∀{l:List km},Zz f l=some fn→∃r∈l,r.a=f∧fn=Yz (some r.st)
 | [],h=>nomatch h
 |r::l,h=>by
  unfold Zz at h;cases c:Nat.beq r.a f with
  |true=>rw[c] at h;cases h;exact⟨r,.head _,Nat.eq_of_beq_eq_true c,rfl⟩
  |false=>
   rw[c] at h;refine AZ (Tu h) fun r' h1 h2=>?_;exact⟨r',.tail _ h1,h2⟩
noncomputable def Z1:Option Value→Option Fn
 |some (.ref f)=>Zz f Wa
 |_=>none
set_option tactic.hygienic true in
theorem K_(P:Params){o:Option Value} {fn:Fn}(h:Z1 o=some fn):∃f,o=some (.ref f)∧Jm (KW P) f fn:=by
 unfold Z1 at h
 split at h
 ·rename_i f
  refine BU (Tu h) fun r h1 h2 h3=>?_;exact⟨f,rfl,h2▸h3▸dF P h1⟩
 ·cases h
noncomputable def ke:List Str:= ["kind","line","parts","scope","value","is_behind_line","start","end","is_octal","is_plain","text","at","labels","loops","switches","lexer","token","later","is_strict","depth","jumps","pending"]
theorem sf:LC gT ke=true:=by kernel_rfl
noncomputable def W2(l:List String):List Str:=l.map Str.ofString
noncomputable def Qa:List (Nat×Addr×List Str):= [(AL,31,W2 ["__init__"]),
 (Bh,363,W2 ["__init__"]),
 (20885435251,544,W2 ["__init__","next","fail","end_line","skip_blanks","skip_comment","name_sign","read_name","skip_digits","read_number","read_hex","read_octal","read_decimal","read_exponent","regex","regex_body","read_text","escaped","read_punct"]),
 (DD,646,W2 ["__init__","label_fault","break_fault","continue_fault"]),
 (792118324697572782963,772,W2 ["__init__","take","peek","is_sign","is_word","eat","need","need_word","fail","fail_for","unexpected","need_name","need_binding","property_name","can_end","end_statement"]),
 (654419133388197540723,925,W2 ["function","expression","assignment","need_target","conditional","priority","binary","unary","postfix","left_hand","with_members","creation","arguments","primary","word_operand","array","object","entry","entry_key","__init__","take","peek","is_sign","is_word","eat","need","need_word","fail","fail_for","unexpected","need_name","need_binding","property_name","can_end","end_statement"]),
 (783256431474245448563,1099,W2 ["body","at_end","element","function","function_name","parameters","statement","plain_expression","word_statement","block","variables","condition","choice","loop","loop_body","for_loop","key_loop","labelled","jump","leaving","switch","case_body","attempt","expression","assignment","need_target","conditional","priority","binary","unary","postfix","left_hand","with_members","creation","arguments","primary","word_operand","array","object","entry","entry_key","__init__","take","peek","is_sign","is_word","eat","need","need_word","fail","fail_for","unexpected","need_name","need_binding","property_name","can_end","end_statement"])]
noncomputable def fH:List (Nat×Addr):=Qa.map fun t=>(t.1,t.2.1)
theorem cc(P:Params):Qa.all (fun t=>Sh (KW P) t.2.1 ke)=true:=by kernel_rfl
noncomputable def j7:List Str:=W2 ["width","pack","is_negative","is_nan","is_inf","is_zero","signed","parts","quotient","round_ratio","assembled","from_int","scaled","decimal_place","first_place","shortest","last_figure","signed_exponent","with_exponent","laid_out","without_figures","show","is_among","is_white","is_line_end","is_digit","is_octal_digit","hex_value","is_id_start","is_id_part","code_at","hex_at","line_end_size","octal_escape","read_escape","figure_of","worth","from_decimal","is_keyword","punct_at","name_fault","binding_fault","first_twice","params_fault","target_fault","delete_fault","octal_fault","entry_fault","accessor_fault","parse","_law_take","_law_pieces","_law_program","_law_is_let","law"]
noncomputable def rF:List Str:=W2 ["Node","Token","SyntaxFail","Lexer","Jumps","TokenTaker","ExprParser","StmtParser"]
noncomputable def rD:List Str:=W2 ["SIGN_BIT","FRACTION_BITS","FRACTION_MASK","HIDDEN_BIT_dbits","EXPONENT_MASK","EXPONENT_SHIFT","LEAST_POWER_dbits","ZERO","INF","LEAST_POWER_numshow","HIDDEN_BIT_numshow","BLANKS","LINE_ENDS","LETTERS","PARTS","SINGLE","FARTHEST","KEYWORDS","PUNCTS","STRICT_WORDS","RESTRICTED","TARGETS","PRIORITY","ASSIGNING","UNARY_SIGNS","UNARY_WORDS","STEPS","LOOP_WORDS"]
theorem sY(P:Params):aR (KW P) 398 395 (Yz (some (sM 69 0))) where
 cls:=⟨⟨_,_,_,_,_,_,_,_,_,_,_,_,_,_⟩,(show(KW P).lookup 398=some jR by kernel_rfl).trans (congrArg some rfl),by kernel_rfl,by kernel_rfl,by kernel_rfl,by kernel_rfl,by kernel_rfl⟩
 keep:=by kernel_rfl
 fn:=(K_ P (o:=some (.ref 395)) (by kernel_rfl)).elim fun f h=>by cases h.1;exact h.2
 ps:=by kernel_rfl
 body:=⟨(_,_,_,_),(_,_,_,_),rfl⟩
 sc:=⟨by kernel_rfl,by kernel_rfl,by kernel_rfl⟩
theorem Rk{α:Type} {Q:Str→α→Prop}:∀{l:List (Nat×α)} {ns:List Str},l.map (·.1)=ns.map nk→(ns.all fun n=>nk n !=0&&!(n=="__debug__"))=true→(∀z∈ns.zip l,Q z.1 z.2.2)→∀{x v},AK (nk x) l=some v→nk x≠0∧x≠"__debug__"∧Q x v
 | [],_,_,_,_,_,_,h=>nomatch h
 |(k,a)::l,[],e,_,_,_,_,_=>nomatch e
 |(k,a)::l,n::ns,e,d,q,x,v,h=>by
  refine xA (List.cons.inj (show k::l.map (·.1)=nk n::ns.map nk from e)) fun e1 e2=>?_;refine xA (Bool.and_eq_true_iff.mp (show(_&&ns.all _)=true from d)) fun d1 d2=>?_;refine xA (Bool.and_eq_true_iff.mp d1) fun d1 d3=>?_;have n0:nk n≠0:=by simpa using d1
  have nd:n≠"__debug__":=by simpa using d3
  rw[A7] at h
  by_cases c:k=nk x
  ·rw[if_pos c] at h
   cases h;have hx:n=x:=EI (e1.symm.trans c) n0;subst hx;exact⟨n0,nd,q (n,k,a) (.head _)⟩
  ·rw[if_neg c] at h
   exact Rk e2 d2 (fun z hz=>q z (.tail _ hz)) h
noncomputable def SJ(K:Frag)(x:Str):Option Value:=match nsIn K mainGlobals x with
 |some (some a)=>some a
 |some none=>match nsIn K builtinsNs x with
  |some (some a)=>some a
  |_=>none
 |none=>none
set_option tactic.hygienic true in
set_option tactic.hygienic true in
theorem L8{K:Frag} {W:Wd} {x:Str} {a:Value}(KI:K.In W.B)(h:SJ K x=some a):GN W x a:=by
 refine jw KI ?_;unfold SJ at h;unfold Xi
 split at h
 ·rename_i b e;cases h;rw[e];simp
 ·rename_i e
  split at h
  ·rename_i b e2;cases h;rw[e,e2];simp
  ·cases h
 ·cases h
noncomputable def rI(a:Value)(f:Int→Bool):Bool:=match a with|.int j _=>f j|_=>false
noncomputable def rS(a:Value)(f:Str→Bool):Bool:=match a with|.str x _=>f x|_=>false
noncomputable def rR(a:Value)(f:Addr→Bool):Bool:=match a with|.ref b=>f b|_=>false
noncomputable def dm(a:Array (Option Value)):Bool:=a.toList.isEmpty
noncomputable def cW(o:Option Obj)(f:List Value→Bool):Bool:=match o with
 |some ⟨c,_,.seq xs _,_⟩=>c==.type "tuple" &&f xs.toList
 |_=>false
noncomputable def d8(o:Option Obj)(f:List Value→Bool):Bool:=match o with
 |some ⟨c,d,.seq xs _,s⟩=>(c==.type "list" &&d.isNone&&dm s)&&f xs.toList
 |_=>false
noncomputable def eu(o:Option Obj)(f:List DictEntry→Bool):Bool:=match o with
 |some ⟨c,d,.dict es _,s⟩=>(c==.type "dict" &&d.isNone&&dm s)&&f es.toList
 |_=>false
noncomputable def Pc{α β:Type}(f:α→β→Bool):List α→List β→Bool
 | [],q=>q.isEmpty
 |v::r,q=>match q with
  | []=>false
  |a::q=>f v a&&Pc f r q
noncomputable def H9(L:Addr→Option Obj)(D:List Addr):Nat→V→Value→Bool
 |0,_,_=>false
 |n+1,v,a=>match v with
  |.int i=>rI a fun j=>i==j
  |.str s=>rS a fun x=>DT x.cps.toList s
  |.tup l=>rR a fun b=>cW (L b) (Pc (H9 L D n) l)
  |.lst l=>rR a fun b=>d8 (L b) (Pc (H9 L D n) l)
  |.dct l=>rR a fun b=>(D.contains b&&(!(b==sysModules)&&decide (l.map (·.1)).Nodup))&&eu (L b) (Pc (fun p e=>rS e.key fun x=>DT x.cps.toList p.1&&H9 L D n p.2 e.val) l)
  |_=>false
noncomputable def PH(L:Addr→Option Obj)(b:Addr):List DictEntry:=match L b with
 |some ⟨_,_,.dict es _,_⟩=>es.toList
 |_=> []
noncomputable def hsh(P:Params)(e:DictEntry):Int:=match e.key with|.str x _=>PyData.keyHash P x|_=>e.hash
def JY(P:Params)(es:List DictEntry):Prop:=es.map (·.hash)=es.map (hsh P)
theorem W6{s:Array (Option Value)}(h:dm s=true):s=⟨[]⟩:=by
 obtain⟨l⟩:=s;cases l with
 |nil=>rfl
 |cons=>cases h
section
variable{P:Params} {ca:Ca} {g:Hp} {L:Addr→Option Obj} {D:List Addr}
theorem fM{μ:Mu} {f:V→Value→Bool}(h:∀v a,f v a=true→VR P ca g μ v a):∀{l:List V} {q:List Value},Pc f l q=true→BC P ca g μ l q
 | [],q,e=>by rw[List.isEmpty_iff.mp e];exact .nil
 |v::r,[],e=>nomatch e
 |v::r,a::q,e=>let⟨e1,e2⟩:=A8 e; .cons (h v a e1) (fM h e2)
theorem kh{μ:Mu} {f:V→Value→Bool}(h:∀v a,f v a=true→VR P ca g μ v a):∀{l:List (List Nat×V)} {q:List DictEntry},Pc (fun p e=>rS e.key fun x=>DT x.cps.toList p.1&&f p.2 e.val) l q=true→JY P q→Jl P ca g μ l q
 | [],q,e,_=>by rw[List.isEmpty_iff.mp e];unfold Jl;rfl
 |v::r,[],e,_=>nomatch e
 |(k,v)::r,⟨hs,key,a⟩::q,e,hh=>by
  refine xA (A8 e) fun e1 e2=>?_;refine xA (List.cons.inj hh) fun g1 g2=>?_;clear hh e;cases key with
  |str x t=>
   refine xA (A8 e1) fun e3 e4=>?_;unfold Jl;exact⟨x,t,a,q,by rw[show hs=PyData.keyHash P x from g1],of_decide_eq_true (G_▸e3),h v a e4,kh h e2 g2⟩
  |_=>cases e1
theorem nW{a:Value} {f:Int→Bool} {M:Value→Prop}(h:rI a f=true)(H:∀j t,f j=true→M (.int j t)):M a:=by
 cases a with
 |int j t=>exact H j t h
 |_=>cases h
theorem nV{a:Value} {f:Str→Bool} {M:Value→Prop}(h:rS a f=true)(H:∀j t,f j=true→M (.str j t)):M a:=by
 cases a with
 |str j t=>exact H j t h
 |_=>cases h
theorem dP{a:Value} {f:Addr→Bool} {M:Value→Prop}(h:rR a f=true)(H:∀j,f j=true→M (.ref j)):M a:=by
 cases a with
 |ref j=>exact H j h
 |_=>cases h
theorem cV{o:Option Obj} {f:List Value→Bool} {G:Prop}(h:cW o f=true)(H:∀c d xs k s,o=some ⟨c,d,.seq xs k,s⟩→c=.type "tuple"→f xs.toList=true→G):G:=by
 cases o with
 |none=>cases h
 |some o=>
  obtain⟨c,d,dt,sl⟩:=o;cases dt with
  |seq xs k=>exact H c d xs k sl rfl (beq_iff_eq.mp (A8 h).1) (A8 h).2
  |_=>cases h
theorem d7{o:Option Obj} {f:List Value→Bool} {G:Prop}(h:d8 o f=true)(H:∀xs k,o=some ⟨.type "list",none,.seq xs k,⟨[]⟩⟩→f xs.toList=true→G):G:=by
 cases o with
 |none=>cases h
 |some o=>
  obtain⟨c,d,dt,sl⟩:=o;cases dt with
  |seq xs k=>
   have q:=A8 (A8 h).1;exact H xs k (by rw[beq_iff_eq.mp (A8 q.1).1,Option.isNone_iff_eq_none.mp (A8 q.1).2,W6 q.2]) (A8 h).2
  |_=>cases h
theorem et{o:Option Obj} {f:List DictEntry→Bool} {G:Prop}(h:eu o f=true)(H:∀es k,o=some ⟨.type "dict",none,.dict es k,⟨[]⟩⟩→f es.toList=true→G):G:=by
 cases o with
 |none=>cases h
 |some o=>
  obtain⟨c,d,dt,sl⟩:=o;cases dt with
  |dict es k=>
   have q:=A8 (A8 h).1;exact H es k (by rw[beq_iff_eq.mp (A8 q.1).1,Option.isNone_iff_eq_none.mp (A8 q.1).2,W6 q.2]) (A8 h).2
  |_=>cases h
theorem aX(hL:∀a o,L a=some o→g a=some o)(hD:∀b∈D,JY P (PH L b)):∀{n:Nat} {μ:Mu} {v:V} {a:Value},H9 L D n v a=true→VR P ca g μ v a
 |0,_,_,_,h=>nomatch h
 |n+1,μ,v,a,h=>by
  have I:∀{μ:Mu} v a,H9 L D n v a=true→VR P ca g μ v a:=fun v a h=>aX hL hD h;cases v with
  |int i=>exact nW (f:=fun j=>i==j) h fun j t h=>beq_iff_eq.mp h▸ .of_i
  |str s=>exact nV (f:=fun x=>DT x.cps.toList s) h fun x t h=>.of_s (of_decide_eq_true (G_▸h))
  |tup l=>
   refine dP (f:=fun b=>cW (L b) (Pc (H9 L D n) l)) h fun b h=>?_;unfold VR;exact cV h fun c d xs k s e h1 h2=>⟨b,_,xs,k,rfl,hL _ _ e,h1,rfl,fM I h2⟩
  |lst l=>
   refine dP (f:=fun b=>d8 (L b) (Pc (H9 L D n) l)) h fun b h=>?_;unfold VR;exact d7 h fun xs k e h2=>⟨b,xs,k,rfl,hL _ _ e,fM I h2⟩
  |dct l=>
   refine dP (f:=fun b=>(D.contains b&&(!(b==sysModules)&&decide (l.map (Prod.fst)).Nodup))&&eu (L b) (Pc (fun(p:List Nat×V) e=>rS e.key fun x=>DT x.cps.toList p.1&&H9 L D n p.2 e.val) l)) h fun b h=>?_;unfold VR;refine et (A8 h).2 fun es k e h2=>?_;have q:=A8 (A8 h).1;have hd:=hD b (List.contains_iff_mem.mp q.1);unfold PH at hd;rw[e] at hd;exact⟨b,es.toList,k,rfl,⟨by simpa using (A8 q.2).1,of_decide_eq_true (A8 q.2).2⟩,hL _ _ e,kh I h2 hd⟩
  |_=>cases h
end
noncomputable def sI(o:Obj):Option Obj:=match o.data with
 |.freed=>none
 |_=>some o
noncomputable def bp(P:Params)(a:Addr):Option Obj:=cC (Nat.blt a 1144) none (Mn.cO ((ZF P).get a) none sI)
theorem qj{P:Params} {a:Addr} {o:Obj}(h:bp P a=some o):(HB P).get? a=some o:=by
 refine B3 (show cC (Nat.blt a 1144) none (Mn.cO ((ZF P).get a) none sI)=some o from h) (fun hb h=>Mn.BQ h (fun o1 ha h=>?_) fun J=>AD) (fun J=>AD);refine(abs_get (Nat.le_of_ble_eq_true hb) ha).trans ?_;clear ha hb;obtain⟨c,d,dt,sl⟩:=o1;cases dt<;>first|exact h|exact AD h
noncomputable def bb:List (Nat×Addr):= [(Ab,398)]
noncomputable def fP(w:World)(os:OsState)(B:Heap):Wd:=⟨fun k=>AK k bb,w,fun k=>AK k fH,B,os,fun J J J J=>False,KW w.params,ke⟩
theorem fn1:eX.map (·.1)=j7.map nk:=by kernel_rfl
theorem fn2(P:Params):j7.map (fun x=>Z1 (SJ (KW P) x))=eX.map (fun p=>some p.2):=by kernel_rfl
theorem fn3:(j7.all fun n=>nk n !=0&&!(n=="__debug__"))=true:=by kernel_rfl
theorem Pk:Q0.map (·.1)=rF.map nk:=by kernel_rfl
theorem aD:(rF.all fun n=>nk n !=0&&!(n=="__debug__"))=true:=by kernel_rfl
noncomputable def fE(K:Frag)(n:Str)(c:Cl):Bool:=match SJ K n with
 |some (.ref C)=>(match c.exc with
  |false=>AK (nk n) fH==some C
  |true=>AK (nk n) bb==some C)
 |_=>false
theorem Y0(P:Params):((rF.zip Q0).all fun z=>fE (KW P) z.1 z.2.2)=true:=by kernel_rfl
set_option tactic.hygienic true in
theorem T6{K:Frag} {n:Str} {c:Cl}(h:fE K n c=true):∃C,SJ K n=some (.ref C)∧(c.exc=false→AK (nk n) fH=some C)∧(c.exc=true→AK (nk n) bb=some C):=by
 unfold fE at h
 split at h
 ·rename_i C _
  split at h
  ·rename_i e2;exact⟨_,by assumption,fun J=>beq_iff_eq.mp h,fun z=>(by rw[e2] at z;cases z)⟩
  ·rename_i e2;exact⟨_,by assumption,fun z=>(by rw[e2] at z;cases z),fun J=>beq_iff_eq.mp h⟩
 ·cases h
theorem co1:X7.map (·.1)=rD.map nk:=by kernel_rfl
theorem co3:(rD.all fun n=>nk n !=0&&!(n=="__debug__"))=true:=by kernel_rfl
noncomputable def rA:List Addr:= [288,777]
noncomputable def kH(P:Params)(n:Str)(v:V):Bool:=match SJ (KW P) n with
 |some a=>H9 (bp P) rA 9 v a
 |none=>false
theorem co2(P:Params):((rD.zip X7).all fun z=>kH P z.1 z.2.2)=true:=by kernel_rfl
theorem rC(P:Params):JY P (PH (bp P) 288):=by unfold JY;kernel_rfl
theorem rB(P:Params):JY P (PH (bp P) 777):=by unfold JY;kernel_rfl
theorem m1:Qa.map (fun t=>(AK t.1 Q0).map fun c=>c.ms.map (·.1))=Qa.map (fun t=>some (t.2.2.map nk)):=by kernel_rfl
noncomputable def oj:Option (Option Value)→Option Value
 |some (some a)=>some a
 |_=>none
theorem m2(P:Params):Qa.map (fun t=>some (t.2.2.map fun m=>Z1 (oj (findIn (KW P) (.ref t.2.1) m))))=Qa.map (fun t=>(AK t.1 Q0).map fun c=>c.ms.map (fun p=>some p.2)):=by kernel_rfl
theorem m3:(Qa.all fun t=>t.2.2.all fun n=>nk n !=0&&!(n=="__debug__"))=true:=by kernel_rfl
theorem YH{c:Nat} {C:Addr}(h:AK c fH=some C):∃t∈Qa,t.1=c∧t.2.1=C:=by
 refine AZ (List.mem_map.mp (GX h)) fun t h1 h2=>?_;clear h;cases h2;exact⟨t,h1,rfl,rfl⟩
noncomputable def rM:List Str:=W2 ["len","ord","chr","str","list","int","abs","max"]
theorem bf1:bfs.map (·.1)=rM.map nk:=by kernel_rfl
theorem bf2(P:Params):rM.map (fun x=>SJ (KW P) x)=bfs.map (fun p=>some (Q2 p.2)):=by kernel_rfl
theorem bf3:(rM.all fun n=>nk n !=0&&!(n=="__debug__"))=true:=by kernel_rfl
noncomputable def K2(P:Params):Frag:=match bp P 2 with
 |some o=> [(2,o)]
 |none=> []
theorem jk(P:Params):(K2 P).In (HB P):=by
 unfold K2;cases e:bp P 2 with
 |none=>exact Xf fun p h=>nomatch h
 |some o=>
  refine Xf fun p h=>?_;rcases List.mem_cons.mp (show p∈[(2,o)] from h) with h|h
  ·rw[h];exact qj e
  ·cases h
theorem jU(P:Params):(HB P).NoLimit:=⟨_,.of_isNs (isNs_of_in (jk P) (show nsOkIn (K2 P) 2=true by kernel_rfl)),nsMap_none_of_in (jk P) (show nsOkIn (K2 P) 2=true by kernel_rfl) (show nsIn (K2 P) 2 _=some none by kernel_rfl)⟩
theorem ob1(P:Params):(bp P 1).isSome=true:=by kernel_rfl
theorem rE(P:Params){c:Nat} {C:Addr}(h:AK c fH=some C):aT (KW P) C ke:=by
 refine BU (YH h) fun t h1 z2q z3q=>?_;subst z2q;clear h;subst z3q;exact aC (List.all_eq_true.mp (cc P) t h1)
theorem rO:∀a∈ke,nk a≠0:=by
 have:=sf;unfold LC at this;simp only[Bool.and_eq_true,List.all_eq_true,bne_iff_ne] at this;exact this.2
set_option tactic.hygienic true in
set_option tactic.hygienic true in
theorem wf(w:World)(os:OsState)(B:Heap)(hB:(HB w.params).StaysIn B):WF (fP w os B) where
 kin:=(kin w.params).keeps hB
 sys:=by
  cases e:bp w.params 1 with
  |some o=>exact⟨o,hB _ _ (qj e)⟩
  |none=>have:=ob1 w.params;rw[e] at this;cases this
 lim:=(jU w.params).keeps hB
 af:=YW sf
 nz:=rO
 cf:=fun c C h=>rE w.params h
 cons:=fun x v h=>Rk co1 co3 (Q:=fun x v=>∃a,GN (fP w os B) x a∧VR w.params _ B.get? μ0 v a) (fun z hz=>by
  have q:=List.all_eq_true.mp (co2 w.params) z hz;unfold kH at q
  split at q
  ·rename_i a e
   refine⟨a,L8 ((kin w.params).keeps hB) e,aX (fun J J e=>hB _ _ (qj e)) (fun b hb=>?_) q⟩;rcases List.mem_cons.mp hb with rfl|hb
   ·exact rC _
   ·rcases List.mem_cons.mp hb with rfl|hb
    ·exact rB _
    ·cases hb
  ·cases q) h
 fns:=fun x fn h=>Rk fn1 fn3 (Q:=fun x fn=>∃f,GN (fP w os B) x (.ref f)∧Jm (KW w.params) f fn) (fun z hz=>by
  refine AZ (K_ w.params (Hi (fn2 w.params) z hz)) fun f e q=>?_;exact⟨f,L8 ((kin w.params).keeps hB) e,q⟩) h
 cls:=fun x c h=>Rk Pk aD (Q:=fun x c=>∃C,GN (fP w os B) x (.ref C)∧(c.exc=false→AK (nk x) fH=some C)∧(c.exc=true→AK (nk x) bb=some C)) (fun z hz=>by
  refine AZ (T6 (List.all_eq_true.mp (Y0 w.params) z hz)) fun C e q=>?_;exact⟨C,L8 ((kin w.params).keeps hB) e,q⟩) h
 meths:=fun c C m fn h1 h2=>by
  refine BU (YH h1) fun t ht z2q z3q=>?_;subst z2q;clear h1;subst z3q;unfold DR at h2
  split at h2
  ·cases h2
  ·rename_i cl e
   have a1:=List.map_inj_left.mp m1 t ht;have a2:=List.map_inj_left.mp (m2 w.params) t ht;have e:AK t.1 Q0=some cl:=e;rw[e] at a1 a2;obtain⟨-,-,f,q1,q2⟩:=Rk (Option.some.inj a1) (List.all_eq_true.mp m3 t ht) (Q:=fun m fn=>∃f,findIn (KW w.params) (.ref t.2.1) m=some (some (.ref f))∧Jm (KW w.params) f fn) (fun z hz=>by
    refine AZ (K_ w.params (Hi (Option.some.inj a2) z hz)) fun f e q=>?_;refine⟨f,?_,q⟩;unfold oj at e
    split at e
    ·rename_i e2;rw[e2,e]
    ·cases e) h2
   exact⟨f,q1,q2⟩
 bfs:=fun x b h J J=>Rk bf1 bf3 (Q:=fun x b=>GN (fP w os B) x (Q2 b)) (fun z hz=>L8 ((kin w.params).keeps hB) (Hi (bf2 w.params) z hz)) h
 rng:=L8 ((kin w.params).keeps hB) (by kernel_rfl)
 excs:=fun x C h=>by
  have h:AK (nk x) bb=some C:=h;unfold bb at h;rw[A7] at h
  by_cases c:Ab=nk x
  ·rw[if_pos c] at h
   cases h;have e1:Ab=nk "SyntaxFail":=by kernel_rfl
   have n0:nk x≠0:=by rw[←c];decide
   have e2:x="SyntaxFail":=EI (c.symm.trans e1) n0;clear h c;subst e2;exact⟨n0,by decide,L8 ((kin w.params).keeps hB) (by kernel_rfl),_,_,sY w.params⟩
  ·rw[if_neg c] at h;cases h
 exci:=fun x c fi h1 h2 h3=>by
  have key:Q0.map (fun p=>match p.2.exc with|true=>AK (nk "__init__") p.2.ms|false=>some (Yz (some (sM 69 0))))=Q0.map fun J=>some (Yz (some (sM 69 0))):=by kernel_rfl
  obtain⟨-,-,C,-,-,h6⟩:=Rk Pk aD (Q:=fun x c=>∃C,GN (fP w os B) x (.ref C)∧(c.exc=false→AK (nk x) fH=some C)∧(c.exc=true→AK (nk x) bb=some C)) (fun z hz=>by
   refine AZ (T6 (List.all_eq_true.mp (Y0 w.params) z hz)) fun C e q=>?_;exact⟨C,L8 ((kin w.params).keeps hB) e,q⟩) h1
  have k:=List.map_inj_left.mp key _ (GX h1);simp only[h2,h3] at k;clear h3;cases k;have q:=GX (h6 h2);unfold bb at q;have hC:C=398:=by
   rcases List.mem_cons.mp q with q|q
   ·exact(Prod.mk.inj q).2
   ·cases q
  exact⟨C,395,h6 h2,hC▸sY w.params⟩
theorem Ti:∀{xs:List WData},WShape.hasItems [] xs .int=true→∃l:List Int,xs=l.map .int
 | [],_=>⟨[],rfl⟩
 |x::xs,h=>by
  unfold WShape.hasItems at h;refine xA (Bool.and_eq_true_iff.mp h) fun h1 h2=>?_;refine xE (Ti h2) fun l z1q=>?_;subst z1q;clear h;cases x with
  |int i=>exact⟨i::l,rfl⟩
  |_=>cases(show false=true from h1)
set_option backward.match.sparseCases true in
noncomputable def lR(d:Bool):Bool:=match(match some (WData.bool !d) with
 |some (.bool false)=>some (WData.bool false)
 |some (.bool true)=>some (.bool true)
 |_=>none) with
 |some (.bool true)=>true
 |_=>false
theorem gi{d:Bool}(h:lR d=true):d=false:=by
 cases d with
 |false=>rfl
 |true=>cases h
theorem dR{args:List WData}(h:RL.toRowW.claim.pre args=true):∃l:List Int,args= [.list (l.map .int)]∧l.length≤63:=by
 refine xA (pre_splitW h) fun h1 h2=>?_;refine BE (hasAllW_cons (R:=RL.records) (e:=.list .int) (es:= []) h1) fun d r z2q h3 h4=>?_;subst z2q;have:=hasAllW_nil h4;subst this;cases d with
 |list xs=>
  refine xE (Ti ((Bool.or_false _).symm.trans (show(WShape.hasItems [] xs .int||false)=true from h3))) fun l z1q=>?_;clear h3 h1 h;subst z1q;refine⟨l,rfl,?_⟩;have e:RL.toRowW.pre.holds RL.records {args:= [.list (l.map .int)]}=lR (decide ((63:Int)<((l.map WData.int).length:Int))):=by kernel_rfl
  have h:=of_decide_eq_false (gi (e.symm.trans h2));rw[List.length_map] at h;omega
 |_=>cases h3
theorem Px{P:Params} {h:Heap} {ca:Ca} {μ:Mu} {g:Hp}:∀{l:List Int} {vs:List Value},WellAll P h vs (l.map .int)→BC P ca g μ (l.map .int) vs
 | [],_,x=>by cases x;exact .nil
 |i::l,_,x=>by
  cases x with
  |cons a b=>
   cases a with
   |int i t=>exact .cons .of_i (Px b)
set_option tactic.hygienic true in
theorem ZY{K:Frag} {h:Heap} {N:Addr} {mg:Str→Option Value} {n:Str} {v:Value}(X:K.In h)(G:h.Ns N mg)(e:nsIn K N n=some (some v)):mg n=some v:=by
 refine FN G fun o es ep ho hd J hf=>?_;unfold nsIn at e
 split at e
 ·rename_i c d es' n' sl q
  have:=X _ _ q;rw[ho] at this;cases this;clear q ho;cases hd
  split at e
  ·rename_i en he
   cases e;rw[←hf];unfold nsFind findBy;rw[←Array.find?_toList,he];rfl
  ·split at e<;>cases e
 ·cases e
theorem ZO(args:List WData):RL.toRowW.claim.post args (.bool true) args=true:=by
 refine postW_of (X:=true) rfl ?_ rfl;kernel_rfl
noncomputable def hz:HA:=⟨.none,.none,.none,.none,.none,.none,[],[],0,0,.none,none,[],[]⟩
theorem SA{h:HA} {tp:List V} {sl:Sl} {c:B5}(e:cel (hI h tp) μ0 sl=some c):False:=by
 cases sl with
 |lo i=>refine xA (Ai (show B0 ([]:List Ob)[i]? ([]:List AA)[i]? μ0.nt=some c from e)) fun e J=>?_;simp at e
 |gl i=>refine xA (Ai (show B0 ([]:List Ob)[i]? ([]:List AA)[i]? μ0.nlo=some c from e)) fun e J=>?_;simp at e
 |_=>cases e
theorem jT{h:HA} {tp:List V} {s:Shared} {a:Addr}:¬St.Y ⟨hI h tp,μ0,s⟩ a:=fun⟨_,_,e,_⟩=>SA e
theorem tx0{h:HA}:∀s,μ0.tx=some s→h.base=s.2∧h.chs=s.1.drop s.2∧s.1.length≤Ei:=nofun
theorem VS{LX:List Nat→Nat→V→List V→Prop} {r:List V}:∀x,μ0.lx=some x→LX x.1 x.2.1 x.2.2 r:=nofun
theorem fr0{h B:Heap}:FF h B []:=fun env he=>absurd he (List.not_mem_nil (a:=env))
theorem md0{h:HA} {s:Shared}:Md 0 ⟨h,μ0,s⟩:=⟨fun J=>⟨rfl,rfl⟩,nofun,nofun⟩
theorem l8:WalkO q0 JS (fun J J=>True) YB RL.toRowW dL [] fun f vs=>PySem.call f vs:=by
 intro w s₀ s₁ mg mb G Y a o pm cd doc dV kV ho hd hc hD hm hg args vals as hpre hlay hr hw hs;have hB:(HB w.params).StaysIn s₁.heap:=Y;have K:(KW w.params).In s₁.heap:=(kin w.params).keeps hB;refine AZ (dR hpre) fun l z1q hl=>?_;clear hpre hlay;subst z1q;refine xE (ji hl) fun tp hT=>?_;refine xE (hT hz) fun h' hT=>?_;have ea:a=1143:=by
  have e1:=ZY K G.T.g (show nsIn (KW w.params) mainGlobals "law"=some (some (.ref 1143)) by kernel_rfl);have e2:mg "law"=some (.ref a):=hm;rw[e2] at e1;clear e2 hm ho;cases e1;rfl
 clear hm ho;subst ea;cases hw with
 |cons hw1 hw2=>
  cases hw2;clear hr;cases hw1 with
  | @list b vs xs hb hw=>
   refine AZ (K_ w.params (o:=some (.ref 1143)) (fn:=AU) (by kernel_rfl)) fun f hf1 hf2=>?_;cases hf1;have S:SR (fP w s₁.os s₁.heap) [] Z0 ⟨hI hz tp,μ0,s₁⟩:=⟨fun s c e=>(SA e).elim,fun s J c J J e=>(SA e).elim,fun J h=>(jT h).elim,rfl,rfl,rfl,tx0,VS,fun J J e=>e,fun J h=>h.elim,fr0,rfl,hg⟩;refine wpAny_call (eD (wf w s₁.os s₁.heap hB) 0 callerA [] Z0 ⟨hI hz tp,μ0,s₁⟩ 1143 [.lst (l.map .int)] _ _ ⟨rfl,rfl,rfl,by decide,by decide⟩ (by decide) hf2 S md0 rfl (.cons ?_ .nil) (by rw[hT];exact .inl ⟨_,_,_,rfl⟩) ⟨fun v ρ σ' x e N w'=>?_,fun c s' e C h1=>by rw[hT] at h1;cases h1⟩)
   ·unfold VR
    exact⟨b,vs.toArray,0,rfl,Ac (Ac hb (fun q=>q)) jT,Px hw⟩
   ·rw[hT] at e
    have e:RA.ok (α:=Mn.X) (Fl.ret (.bool true),[]) (JQ h')=.ok (.ret v,ρ) σ'.h:=e;have hv:((Fl.ret (.bool true),[]):Mn.X)=(.ret v,ρ):=by injection e
    clear e;cases hv;cases w'.b;refine⟨.inl ⟨_,.bool true,[],rfl,fun J=>rfl,.bool true,ZO _,fun J=>⟨.nil,fun a h=>absurd h (List.not_mem_nil (a:=a))⟩⟩,.of_keep N.sr.base,N.sr.os,?_⟩;exact .of_eq N.sr.gens
theorem sO:(PySem.Challenge.rw_nt0413_02).Holds:=Xg l8
end Mn.Hd
theorem PySem.Challenge.cw_nt0413_02_holds : PySem.Challenge.rw_nt0413_02.Holds :=
 Mn.Hd.sO
