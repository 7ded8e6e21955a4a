import PyProof.Rows.All
import Wide.All
import OpenK.AllK
import Wide.FinOn
import KE.LcSums
import KE.BytesMake
import KE.KxMul
import KE.KTryMore
import PyProof.P3Statements
import PyProof.EqLayable
import PyProof.Rows.RuleB_and
import PyProof.Rows.RuleB_or
import PyProof.EnumMake
import PyProof.WalksMore
import PyProof.StrWalks
import PyProof.AutoIntOps
import PyProof.CompFree
import PyProof.RulesDel
import PyProof.P3Eq
import Lean
import PySem.Challenge.RW_nm0150_01
set_option linter.all false
set_option autoImplicit false
set_option tactic.hygienic false
set_option backward.match.sparseCases false
set_option genInjectivity false
set_option genSizeOf false
set_option genSizeOfSpec false
set_option genCtorIdx false
set_option bootstrap.genMatcherCode false
set_option maxRecDepth 100000
set_option maxHeartbeats 0
set_option Elab.async false
section
set_option compiler.extract_closed false
local macro_rules
  | `(tactic| show $e:term) => `(tactic| refine $e)
namespace Mine.Internal
section
def bx:=@Option.some.inj
def bD:=@List.length_map
def c7:=@List.getElem?_eq_some_iff
def cA:=@List.length_append
def aF:=@if_pos
def aM:=@if_neg
def cE:=@decide_eq_false
def cF:=@decide_eq_true
def dE:=@List.mem_cons_of_mem
def dF:=@List.mem_cons_self
def cm:=@Nat.le_refl
def dX:=@List.append_assoc
def ee:=@List.mem_singleton
def eP:=@List.getElem?_set_ne
def c6:=@Nat.le_trans
def eZ:=@List.mem_of_getElem?
def gx:=@List.getElem?_eq_getElem
def eQ:=@List.getElem?_map
def eo:=@List.append_nil
def hC:=@Option.bind_eq_some_iff
def ep:=@List.mem_cons
def dw:=@beq_iff_eq
def gy:=@Bool.false_eq_true
def g8:=@beq_eq_false_iff_ne
def fM:=@Bool.and_eq_true
def hD:=@Bool.and_eq_true_iff
def gz:=@decide_eq_true_eq
def hE:=@Nat.lt_of_le_of_lt
def iM:=@Array.length_toList
def hF:=@List.length_cons
def jT:=@Nat.le_of_ble_eq_true
def e0:=@Nat.zero_le
def jU:=@List.forall_mem_cons
def kE:=@List.getElem?_set_self
def kF:=@List.length_take_le'
def jV:=@Nat.lt_of_lt_of_le
def jW:=@Int.lt_of_lt_of_le
def jd:=@List.all_eq_true
def g9:=@Int.le_trans
def kG:=@Bool.false_ne_true
def og:=@List.getElem?_append_right
@[elab_as_elim]theorem rwE{α:Sort _}{a b:α}{C:α→Prop}(h:a=b)(k:C b):C a:=h▸k
@[elab_as_elim]theorem rwF{α:Sort _}{a b:α}{C:α→Prop}(h:b=a)(k:C b):C a:=h▸k
theorem Nx{f8 hw ms sw IO:Prop}{G:Prop}(h:f8∧hw∧ms∧sw∧IO)(k:f8→hw→ms→sw→IO→G):G:=k h.1 h.2.1 h.2.2.1 h.2.2.2.1 h.2.2.2.2
theorem cf{α:Type _}{a:α}{P:Prop}(h:none=some a):P:=nomatch h
theorem ns{α:Type _}{a:α}{P:Prop}(h:some a=none):P:=nomatch h
theorem fy{P:Prop}(h:false=true):P:=nomatch h
theorem JK{P:Prop}(h:true=false):P:=nomatch h
theorem nm{α:Type _}{a:α}{P:Prop}(h:a∈[]):P:=nomatch h
theorem c4{f8 hw:Prop}{G:Prop}(h:f8∧hw)(k:f8→hw→G):G:=k h.1 h.2
theorem sA{f8 hw ms:Prop}{G:Prop}(h:f8∧hw∧ms)(k:f8→hw→ms→G):G:=k h.1 h.2.1 h.2.2
theorem Nw{f8 hw ms sw:Prop}{G:Prop}(h:f8∧hw∧ms∧sw)(k:f8→hw→ms→sw→G):G:=k h.1 h.2.1 h.2.2.1 h.2.2.2
theorem b6{lw:Sort _}{f8:lw→Prop}{G:Prop}(h:∃aj,f8 aj)(k:∀aj,f8 aj→G):G:=h.elim fun aj h=>k aj h
theorem aW{lw:Sort _}{f8 hw:lw→Prop}{G:Prop}(h:∃aj,f8 aj∧hw aj)(k:∀aj,f8 aj→hw aj→G):G:=h.elim fun aj h=>k aj h.1 h.2
theorem eA{lw:Sort _}{f8 hw ms:lw→Prop}{G:Prop}(h:∃aj,f8 aj∧hw aj∧ms aj)(k:∀aj,f8 aj→hw aj→ms aj→G):G:=h.elim fun aj h=>k aj h.1 h.2.1 h.2.2
theorem oM{lw:Sort _}{f8 hw ms sw:lw→Prop}{G:Prop}(h:∃aj,f8 aj∧hw aj∧ms aj∧sw aj)(k:∀aj,f8 aj→hw aj→ms aj→sw aj→G):G:=h.elim fun aj h=>k aj h.1 h.2.1 h.2.2.1 h.2.2.2
theorem Fh{lw:Sort _}{f8 hw ms sw IO:lw→Prop}{G:Prop}(h:∃aj,f8 aj∧hw aj∧ms aj∧sw aj∧IO aj)(k:∀aj,f8 aj→hw aj→ms aj→sw aj→IO aj→G):G:=h.elim fun aj h=>k aj h.1 h.2.1 h.2.2.1 h.2.2.2.1 h.2.2.2.2
theorem zv{lw:Sort _}{pt:Sort _}{f8:lw→pt→Prop}{G:Prop}(h:∃aj ao,f8 aj ao)(k:∀aj ao,f8 aj ao→G):G:=h.elim fun aj h=>h.elim fun ao h=>k aj ao h
theorem h9{lw:Sort _}{pt:Sort _}{f8 hw:lw→pt→Prop}{G:Prop}(h:∃aj ao,f8 aj ao∧hw aj ao)(k:∀aj ao,f8 aj ao→hw aj ao→G):G:=h.elim fun aj h=>h.elim fun ao h=>k aj ao h.1 h.2
theorem dR{lw:Sort _}{pt:Sort _}{f8 hw ms:lw→pt→Prop}{G:Prop}(h:∃aj ao,f8 aj ao∧hw aj ao∧ms aj ao)(k:∀aj ao,f8 aj ao→hw aj ao→ms aj ao→G):G:=h.elim fun aj h=>h.elim fun ao h=>k aj ao h.1 h.2.1 h.2.2
theorem iV{lw:Sort _}{pt:Sort _}{f8 hw ms sw:lw→pt→Prop}{G:Prop}(h:∃aj ao,f8 aj ao∧hw aj ao∧ms aj ao∧sw aj ao)(k:∀aj ao,f8 aj ao→hw aj ao→ms aj ao→sw aj ao→G):G:=h.elim fun aj h=>h.elim fun ao h=>k aj ao h.1 h.2.1 h.2.2.1 h.2.2.2
theorem zw{lw:Sort _}{pt:Sort _}{f8 hw ms sw IO:lw→pt→Prop}{G:Prop}(h:∃aj ao,f8 aj ao∧hw aj ao∧ms aj ao∧sw aj ao∧IO aj ao)(k:∀aj ao,f8 aj ao→hw aj ao→ms aj ao→sw aj ao→IO aj ao→G):G:=h.elim fun aj h=>h.elim fun ao h=>k aj ao h.1 h.2.1 h.2.2.1 h.2.2.2.1 h.2.2.2.2
theorem Fi{lw:Sort _}{pt:Sort _}{f8 hw ms sw IO j0:lw→pt→Prop}{G:Prop}(h:∃aj ao,f8 aj ao∧hw aj ao∧ms aj ao∧sw aj ao∧IO aj ao∧j0 aj ao)(k:∀aj ao,f8 aj ao→hw aj ao→ms aj ao→sw aj ao→IO aj ao→j0 aj ao→G):G:=h.elim fun aj h=>h.elim fun ao h=>k aj ao h.1 h.2.1 h.2.2.1 h.2.2.2.1 h.2.2.2.2.1 h.2.2.2.2.2
theorem oN{lw:Sort _}{pt:Sort _}{zn:Sort _}{f8:lw→pt→zn→Prop}{G:Prop}(h:∃aj ao ay,f8 aj ao ay)(k:∀aj ao ay,f8 aj ao ay→G):G:=h.elim fun aj h=>h.elim fun ao h=>h.elim fun ay h=>k aj ao ay h
theorem Fj{lw:Sort _}{pt:Sort _}{zn:Sort _}{f8 hw:lw→pt→zn→Prop}{G:Prop}(h:∃aj ao ay,f8 aj ao ay∧hw aj ao ay)(k:∀aj ao ay,f8 aj ao ay→hw aj ao ay→G):G:=h.elim fun aj h=>h.elim fun ao h=>h.elim fun ay h=>k aj ao ay h.1 h.2
theorem d5{lw:Sort _}{pt:Sort _}{zn:Sort _}{f8 hw ms:lw→pt→zn→Prop}{G:Prop}(h:∃aj ao ay,f8 aj ao ay∧hw aj ao ay∧ms aj ao ay)(k:∀aj ao ay,f8 aj ao ay→hw aj ao ay→ms aj ao ay→G):G:=h.elim fun aj h=>h.elim fun ao h=>h.elim fun ay h=>k aj ao ay h.1 h.2.1 h.2.2
theorem Fl{lw:Sort _}{pt:Sort _}{zn:Sort _}{f8 hw ms sw:lw→pt→zn→Prop}{G:Prop}(h:∃aj ao ay,f8 aj ao ay∧hw aj ao ay∧ms aj ao ay∧sw aj ao ay)(k:∀aj ao ay,f8 aj ao ay→hw aj ao ay→ms aj ao ay→sw aj ao ay→G):G:=h.elim fun aj h=>h.elim fun ao h=>h.elim fun ay h=>k aj ao ay h.1 h.2.1 h.2.2.1 h.2.2.2
theorem Ny{lw:Sort _}{pt:Sort _}{zn:Sort _}{hA:Sort _}{f8:lw→pt→zn→hA→Prop}{G:Prop}(h:∃aj ao ay a7,f8 aj ao ay a7)(k:∀aj ao ay a7,f8 aj ao ay a7→G):G:=h.elim fun aj h=>h.elim fun ao h=>h.elim fun ay h=>h.elim fun a7 h=>k aj ao ay a7 h
theorem Nz{lw:Sort _}{pt:Sort _}{zn:Sort _}{hA:Sort _}{f8 hw:lw→pt→zn→hA→Prop}{G:Prop}(h:∃aj ao ay a7,f8 aj ao ay a7∧hw aj ao ay a7)(k:∀aj ao ay a7,f8 aj ao ay a7→hw aj ao ay a7→G):G:=h.elim fun aj h=>h.elim fun ao h=>h.elim fun ay h=>h.elim fun a7 h=>k aj ao ay a7 h.1 h.2
theorem vr{lw:Sort _}{pt:Sort _}{zn:Sort _}{hA:Sort _}{f8 hw ms:lw→pt→zn→hA→Prop}{G:Prop}(h:∃aj ao ay a7,f8 aj ao ay a7∧hw aj ao ay a7∧ms aj ao ay a7)(k:∀aj ao ay a7,f8 aj ao ay a7→hw aj ao ay a7→ms aj ao ay a7→G):G:=h.elim fun aj h=>h.elim fun ao h=>h.elim fun ay h=>h.elim fun a7 h=>k aj ao ay a7 h.1 h.2.1 h.2.2
theorem Fm{lw:Sort _}{pt:Sort _}{zn:Sort _}{hA:Sort _}{f8 hw ms sw:lw→pt→zn→hA→Prop}{G:Prop}(h:∃aj ao ay a7,f8 aj ao ay a7∧hw aj ao ay a7∧ms aj ao ay a7∧sw aj ao ay a7)(k:∀aj ao ay a7,f8 aj ao ay a7→hw aj ao ay a7→ms aj ao ay a7→sw aj ao ay a7→G):G:=h.elim fun aj h=>h.elim fun ao h=>h.elim fun ay h=>h.elim fun a7 h=>k aj ao ay a7 h.1 h.2.1 h.2.2.1 h.2.2.2
theorem Fn{lw:Sort _}{pt:Sort _}{zn:Sort _}{hA:Sort _}{f8 hw ms sw IO:lw→pt→zn→hA→Prop}{G:Prop}(h:∃aj ao ay a7,f8 aj ao ay a7∧hw aj ao ay a7∧ms aj ao ay a7∧sw aj ao ay a7∧IO aj ao ay a7)(k:∀aj ao ay a7,f8 aj ao ay a7→hw aj ao ay a7→ms aj ao ay a7→sw aj ao ay a7→IO aj ao ay a7→G):G:=h.elim fun aj h=>h.elim fun ao h=>h.elim fun ay h=>h.elim fun a7 h=>k aj ao ay a7 h.1 h.2.1 h.2.2.1 h.2.2.2.1 h.2.2.2.2
theorem Fo{lw:Sort _}{pt:Sort _}{zn:Sort _}{hA:Sort _}{f8 hw ms sw IO j0:lw→pt→zn→hA→Prop}{G:Prop}(h:∃aj ao ay a7,f8 aj ao ay a7∧hw aj ao ay a7∧ms aj ao ay a7∧sw aj ao ay a7∧IO aj ao ay a7∧j0 aj ao ay a7)(k:∀aj ao ay a7,f8 aj ao ay a7→hw aj ao ay a7→ms aj ao ay a7→sw aj ao ay a7→IO aj ao ay a7→j0 aj ao ay a7→G):G:=h.elim fun aj h=>h.elim fun ao h=>h.elim fun ay h=>h.elim fun a7 h=>k aj ao ay a7 h.1 h.2.1 h.2.2.1 h.2.2.2.1 h.2.2.2.2.1 h.2.2.2.2.2
theorem sC{lw:Sort _}{pt:Sort _}{zn:Sort _}{hA:Sort _}{X0:Sort _}{f8:lw→pt→zn→hA→X0→Prop}{G:Prop}(h:∃aj ao ay a7 cx,f8 aj ao ay a7 cx)(k:∀aj ao ay a7 cx,f8 aj ao ay a7 cx→G):G:=h.elim fun aj h=>h.elim fun ao h=>h.elim fun ay h=>h.elim fun a7 h=>h.elim fun cx h=>k aj ao ay a7 cx h
@[elab_as_elim]theorem Fp{hB:Sort _}{u:hB}{f:hB}{f8 hw:Prop}{C:hB→Prop}(h:f8∧hw∧u=f)(k:f8→hw→C f):C u:=h.2.2▸k h.1 h.2.1
theorem xb{f8 hw ms:Prop}(I:f8)(O:hw)(bn:ms):f8∧hw∧ms:=⟨I,O,bn⟩
theorem HY{f8 hw ms sw:Prop}(I:f8)(O:hw)(bn:ms)(lc:sw):f8∧hw∧ms∧sw:=⟨I,O,bn,lc⟩
theorem b'{lw:Sort _}{f8 hw:lw→Prop}(aj:lw)(I:f8 aj)(O:hw aj):∃aj,f8 aj∧hw aj:=⟨aj,I,O⟩
theorem iv{lw:Sort _}{f8 hw ms:lw→Prop}(aj:lw)(I:f8 aj)(O:hw aj)(bn:ms aj):∃aj,f8 aj∧hw aj∧ms aj:=⟨aj,I,O,bn⟩
theorem Cu{lw:Sort _}{f8 hw ms sw:lw→Prop}(aj:lw)(I:f8 aj)(O:hw aj)(bn:ms aj)(lc:sw aj):∃aj,f8 aj∧hw aj∧ms aj∧sw aj:=⟨aj,I,O,bn,lc⟩
theorem Un{lw:Sort _}{f8 hw ms sw IO:lw→Prop}(aj:lw)(I:f8 aj)(O:hw aj)(bn:ms aj)(lc:sw aj)(nl:IO aj):∃aj,f8 aj∧hw aj∧ms aj∧sw aj∧IO aj:=⟨aj,I,O,bn,lc,nl⟩
theorem pE{lw pt:Sort _}{f8:lw→pt→Prop}(aj:lw)(ao:pt)(I:f8 aj ao):∃aj ao,f8 aj ao:=⟨aj,ao,I⟩
theorem Uo{lw pt:Sort _}{f8 hw:lw→pt→Prop}(aj:lw)(ao:pt)(I:f8 aj ao)(O:hw aj ao):∃aj ao,f8 aj ao∧hw aj ao:=⟨aj,ao,I,O⟩
theorem nS{lw pt:Sort _}{f8 hw ms:lw→pt→Prop}(aj:lw)(ao:pt)(I:f8 aj ao)(O:hw aj ao)(bn:ms aj ao):∃aj ao,f8 aj ao∧hw aj ao∧ms aj ao:=⟨aj,ao,I,O,bn⟩
theorem nT{lw pt:Sort _}{f8 hw ms sw:lw→pt→Prop}(aj:lw)(ao:pt)(I:f8 aj ao)(O:hw aj ao)(bn:ms aj ao)(lc:sw aj ao):∃aj ao,f8 aj ao∧hw aj ao∧ms aj ao∧sw aj ao:=⟨aj,ao,I,O,bn,lc⟩
theorem Up{lw pt:Sort _}{f8 hw ms sw IO j0:lw→pt→Prop}(aj:lw)(ao:pt)(I:f8 aj ao)(O:hw aj ao)(bn:ms aj ao)(lc:sw aj ao)(nl:IO aj ao)(wf:j0 aj ao):∃aj ao,f8 aj ao∧hw aj ao∧ms aj ao∧sw aj ao∧IO aj ao∧j0 aj ao:=⟨aj,ao,I,O,bn,lc,nl,wf⟩
theorem HZ{lw pt zn:Sort _}{f8 hw:lw→pt→zn→Prop}(aj:lw)(ao:pt)(ay:zn)(I:f8 aj ao ay)(O:hw aj ao ay):∃aj ao ay,f8 aj ao ay∧hw aj ao ay:=⟨aj,ao,ay,I,O⟩
theorem nU{lw pt zn:Sort _}{f8 hw ms:lw→pt→zn→Prop}(aj:lw)(ao:pt)(ay:zn)(I:f8 aj ao ay)(O:hw aj ao ay)(bn:ms aj ao ay):∃aj ao ay,f8 aj ao ay∧hw aj ao ay∧ms aj ao ay:=⟨aj,ao,ay,I,O,bn⟩
theorem Cv{lw pt zn:Sort _}{f8 hw ms sw:lw→pt→zn→Prop}(aj:lw)(ao:pt)(ay:zn)(I:f8 aj ao ay)(O:hw aj ao ay)(bn:ms aj ao ay)(lc:sw aj ao ay):∃aj ao ay,f8 aj ao ay∧hw aj ao ay∧ms aj ao ay∧sw aj ao ay:=⟨aj,ao,ay,I,O,bn,lc⟩
theorem Uq{lw pt zn:Sort _}{f8 hw ms sw IO:lw→pt→zn→Prop}(aj:lw)(ao:pt)(ay:zn)(I:f8 aj ao ay)(O:hw aj ao ay)(bn:ms aj ao ay)(lc:sw aj ao ay)(nl:IO aj ao ay):∃aj ao ay,f8 aj ao ay∧hw aj ao ay∧ms aj ao ay∧sw aj ao ay∧IO aj ao ay:=⟨aj,ao,ay,I,O,bn,lc,nl⟩
theorem H0{lw pt zn hA:Sort _}{f8 hw ms sw IO j0:lw→pt→zn→hA→Prop}(aj:lw)(ao:pt)(ay:zn)(a7:hA)(I:f8 aj ao ay a7)(O:hw aj ao ay a7)(bn:ms aj ao ay a7)(lc:sw aj ao ay a7)(nl:IO aj ao ay a7)(wf:j0 aj ao ay a7):∃aj ao ay a7,f8 aj ao ay a7∧hw aj ao ay a7∧ms aj ao ay a7∧sw aj ao ay a7∧IO aj ao ay a7∧j0 aj ao ay a7:=⟨aj,ao,ay,a7,I,O,bn,lc,nl,wf⟩
inductive b7 where
 |v (i:Nat)|n (k:Nat)|a (x y:b7)|m (k:Nat) (x:b7)|r (x:b7) (k:Nat)
inductive bK where
 |v (i:Nat)|n (k:Int)|c (u:b7)|g (x:bK)|a (x y:bK)|s (x y:bK)|m (k:Int) (x:bK)|r (x:bK) (k:Int)
noncomputable abbrev b7.R:=b7.n 1000
noncomputable abbrev b7.S:=b7.n 100
noncomputable abbrev b7.T:=b7.n 900
noncomputable abbrev b7.c:=b7.n 3
noncomputable abbrev b7.U:=b7.n 200
noncomputable abbrev b7.eh:=b7.n 20
noncomputable abbrev b7.W:=b7.n 10
noncomputable abbrev b7.x:=b7.v 0
noncomputable abbrev b7.y:=b7.v 1
noncomputable abbrev b7.aa:=b7.v 2
noncomputable abbrev b7.w:=b7.v 3
noncomputable abbrev b7.u:=b7.v 4
noncomputable abbrev b7.t:=b7.v 5
noncomputable abbrev b7.p:=b7.v 6
noncomputable abbrev b7.q:=b7.v 7
noncomputable abbrev b7.o:=b7.n 0
noncomputable abbrev b7.l:=b7.n 1
noncomputable abbrev b7.b:=b7.n 2
noncomputable abbrev b7.L:=b7.n 1048576
noncomputable abbrev b7.M:=b7.n 100000
noncomputable abbrev bK.x:=bK.v 0
noncomputable abbrev bK.y:=bK.v 1
noncomputable abbrev bK.aa:=bK.v 2
noncomputable abbrev bK.w:=bK.v 3
noncomputable abbrev bK.u:=bK.v 4
noncomputable abbrev bK.t:=bK.v 5
noncomputable abbrev bK.p:=bK.v 6
noncomputable abbrev bK.q:=bK.v 7
noncomputable abbrev bK.k(k:Nat):=bK.n (.ofNat k)
noncomputable abbrev bK.af(k:Nat):=bK.n (.negSucc k)
noncomputable abbrev bK.e(k:Nat)(x:bK):=bK.m (.ofNat k) x
noncomputable abbrev bK.i(k:Nat)(x:bK):=bK.m (.negSucc k) x
noncomputable abbrev bK.o:=bK.k 0
noncomputable abbrev bK.l:=bK.k 1
noncomputable abbrev bK.A:=bK.k 4294967296
noncomputable abbrev bK.B:=bK.k 1267650600228229401496703205376
noncomputable abbrev bK.D:=bK.k 9223372036854775808
noncomputable abbrev bK.E:=bK.af 9223372036854775807
noncomputable abbrev bK.F:=bK.k 256
noncomputable abbrev bK.G:=bK.k 128
noncomputable abbrev bK.ae:=bK.k 7
noncomputable abbrev bK.aJ:=bK.k 2147483648
noncomputable abbrev bK.eS:=bK.af 2147483647
noncomputable abbrev bK.K:=bK.k 64512
noncomputable abbrev bK.N:=bK.k 64529
noncomputable abbrev bK.az:=bK.af 0
noncomputable abbrev bK.P:=bK.k 18446744073709551616
inductive dx where
 |f|le (x y:b7)|lt (x y:b7)|eq (x y:b7)|ax (x y:bK)|au (x y:bK)|a8 (x y:bK)
 |aK (p:dx)|aA (p q:dx)|or (p q:dx)|wM (p q:dx)
noncomputable def oy{α:Type}(d:α):List α→Nat→α
 |[],_=>d
 |x::_,0=>x
 |_::l,i+1=>oy d l i
noncomputable def b7.den(c:List Nat):b7→Nat
 |.v i=>oy 0 c i
 |.n k=>k
 |.a x y=>x.den c+y.den c
 |.m k x=>k*x.den c
 |.r x k=>x.den c*k
noncomputable def bK.den(c:List Nat)(aa:List Int):bK→Int
 |.v i=>oy 0 aa i
 |.n k=>k
 |.c u=>((u.den c:Nat):Int)
 |.g x=>-x.den c aa
 |.a x y=>x.den c aa+y.den c aa
 |.s x y=>x.den c aa-y.den c aa
 |.m k x=>k*x.den c aa
 |.r x k=>x.den c aa*k
def dx.den(c:List Nat)(aa:List Int):dx→Prop
 |.f=>False
 |.le x y=>x.den c≤y.den c
 |.lt x y=>x.den c<y.den c
 |.eq x y=>x.den c=y.den c
 |.ax x y=>x.den c aa≤y.den c aa
 |.au x y=>x.den c aa<y.den c aa
 |.a8 x y=>x.den c aa=y.den c aa
 |.aK p=>¬p.den c aa
 |.aA p q=>p.den c aa∧q.den c aa
 |.or p q=>p.den c aa∨q.den c aa
 |.wM p q=>p.den c aa→q.den c aa
def dx.imp(c:List Nat)(aa:List Int)(g:dx):List dx→Prop
 |[]=>g.den c aa
 |h::a1=>h.den c aa→dx.imp c aa g a1
noncomputable def cK:List Nat→(Nat→Int)→Int
 |[],_=>0
 |a::l,f=>a*f 0+cK l (fun k=>f (k+1))
noncomputable def gf:List Nat→List Nat→List Nat
 |[],l=>l
 |a::k,[]=>a::k
 |a::k,b::l=>Nat.add a b::gf k l
noncomputable def ly(t:Nat):List Nat→List Nat
 |[]=>[]
 |a::l=>Nat.mul t a::ly t l
noncomputable def xX:Nat→List Nat
 |0=>[1]
 |i+1=>0::xX i
abbrev cw:=List Nat×List Nat
noncomputable def cw.val(x:cw)(f:Nat→Int):Int:=cK x.1 f-cK x.2 f
noncomputable def cw.add(x y:cw):cw:=(gf x.1 y.1,gf x.2 y.2)
noncomputable def cw.neg(x:cw):cw:=(x.2,x.1)
noncomputable def cw.mul(k:Nat)(x:cw):cw:=(ly k x.1,ly k x.2)
noncomputable def cw.Cy(k:Int)(x:cw):cw:=match k with
 |.ofNat n=>x.mul n
 |.negSucc n=>(x.mul (Nat.succ n)).neg
noncomputable def cw.lit(k:Int):cw:=match k with
 |.ofNat n=>([n],[])
 |.negSucc n=>([],[Nat.succ n])
noncomputable def b7.bY:b7→List Nat
 |.v i=>xX (2*i+1)
 |.n k=>[k]
 |.a x y=>gf x.bY y.bY
 |.m k x=>ly k x.bY
 |.r x k=>ly k x.bY
noncomputable def bK.bY:bK→cw
 |.v i=>(xX (2*i+2),[])
 |.n k=>.lit k
 |.c u=>(u.bY,[])
 |.g x=>x.bY.neg
 |.a x y=>x.bY.add y.bY
 |.s x y=>x.bY.add y.bY.neg
 |.m k x=>x.bY.Cy k
 |.r x k=>x.bY.Cy k
noncomputable def fK(c:List Nat)(aa:List Int)(p:Nat):Int:=match p with
 |0=>1
 |p+1=>if p%2=0 then((oy 0 c (p/2):Nat):Int)else oy 0 aa (p/2)
theorem Ee(a b c d:Int):(a+b)+(c+d)=(a+c)+(b+d):=by rw[Int.add_assoc,Int.add_assoc,Int.add_left_comm b]
theorem l7(k l:List Nat):∀f,cK (gf k l) f=cK k f+cK l f:=by
 induction k generalizing l with
 |nil=>intro f;show(Int.zero_add _).symm
 |cons a k ap=>
  intro f;cases l with
  |nil=>show(Int.add_zero _).symm
  |cons b l=>change((a+b:Nat):Int)*f 0+cK (gf k l) _=a*f 0+cK k _+(b*f 0+cK l _);rw[ap,Int.natCast_add,Int.add_mul];show Ee _ _ _ _
theorem qA(t:Nat)(l:List Nat):∀f,cK (ly t l) f=t*cK l f:=by
 induction l with
 |nil=>intro f;show(Int.mul_zero _).symm
 |cons a l ap=>intro f;show(congr (congrArg _ (Int.mul_assoc t a (f 0))) (ap _)).trans (Int.mul_add _ _ _).symm
theorem zm(i:Nat):∀f,cK (xX i) f=f i:=by
 induction i with
 |zero=>intro f;show(Int.add_zero _).trans (Int.one_mul _)
 |succ i ap=>intro f;show(congrArg (0*f 0+·) (ap _)).trans (by rw[Int.zero_mul,Int.zero_add])
theorem sy(k:Nat)(f:Nat→Int)(h:f 0=1):cK [k] f=k:=by change k*f 0+0=k;rw[h];show(Int.add_zero _).trans (Int.mul_one _)
theorem oc(c:List Nat)(aa:List Int):∀u:b7,cK u.bY (fK c aa)=((u.den c:Nat):Int)
 |.v i=>(zm _ _).trans (by change(if(2*i)%2=0 then((oy 0 c (2*i/2):Nat):Int)else _)=_;rw[aF (Nat.mul_mod_right 2 i),Nat.mul_div_cancel_left i (by decide)];rfl)
 |.n k=>sy _ _ rfl
 |.a x y=>(l7 _ _ _).trans (by rw[oc c aa x,oc c aa y];rfl)
 |.m k x=>(qA _ _ _).trans (by rw[oc c aa x];rfl)
 |.r x k=>(qA _ _ _).trans (by rw[oc c aa x,Int.mul_comm];rfl)
theorem JW(x y:cw)(f:Nat→Int):(x.add y).val f=x.val f+y.val f:=by change cK (gf _ _) f-cK (gf _ _) f=(cK _ f-cK _ f)+(cK _ f-cK _ f);rw[l7,l7,Int.sub_eq_add_neg,Int.neg_add];show Ee _ _ _ _
theorem Dy(x:cw)(f:Nat→Int):x.neg.val f=-x.val f:=(Int.neg_sub _ _).symm
theorem JX(k:Nat)(x:cw)(f:Nat→Int):(x.mul k).val f=k*x.val f:=by change cK (ly _ _) f-cK (ly _ _) f=_*(cK _ f-cK _ f);rw[qA,qA,Int.mul_sub]
theorem JY(k:Int)(x:cw)(f:Nat→Int):(x.Cy k).val f=k*x.val f:=by
 cases k with
 |ofNat n=>show JX n x f
 |negSucc n=>show(Dy _ _).trans ((congrArg _ (JX _ _ _)).trans (Int.neg_mul _ _).symm)
theorem Xz(k:Int)(f:Nat→Int)(h:f 0=1):(cw.lit k).val f=k:=by
 cases k with
 |ofNat n=>show(congrArg (·-0) (sy n f h)).trans (Int.sub_zero _)
 |negSucc n=>show(congrArg (0-·) (sy _ f h)).trans (Int.zero_sub _)
theorem mZ(c:List Nat)(aa:List Int):∀u:bK,u.bY.val (fK c aa)=u.den c aa
 |.v i=>(Int.sub_zero _).trans ((zm _ _).trans (by change(if(2*i+1)%2=0 then _ else oy 0 aa ((2*i+1)/2))=_;rw[aM (by rw[Nat.mul_add_mod];decide),show(2*i+1)/2=i from Nat.mul_add_div (by decide) i 1];rfl))
 |.n k=>Xz _ _ rfl
 |.c u=>(Int.sub_zero _).trans (oc c aa u)
 |.g x=>(Dy _ _).trans (by rw[mZ c aa x];rfl)
 |.a x y=>(JW _ _ _).trans (by rw[mZ c aa x,mZ c aa y];rfl)
 |.s x y=>(JW _ _ _).trans (by rw[Dy,mZ c aa x,mZ c aa y];rfl)
 |.m k x=>(JY _ _ _).trans (by rw[mZ c aa x];rfl)
 |.r x k=>(JY _ _ _).trans (by rw[mZ c aa x,Int.mul_comm];rfl)
noncomputable def mA(x y:List Nat)(t:Nat):cw:=(gf [t] x,y)
noncomputable def lx(x y:cw)(t:Nat):cw:=(gf [t] (gf x.1 y.2),gf x.2 y.1)
noncomputable def qj(A B:List (List cw)):List (List cw):=A.flatMap fun a=>B.map fun b=>a++b
noncomputable def dx.dJ:dx→Bool→List (List cw)
 |.f,true=>[]
 |.f,false=>[[]]
 |.le x y,true=>[[mA x.bY y.bY 0]]
 |.le x y,false=>[[mA y.bY x.bY 1]]
 |.lt x y,true=>[[mA x.bY y.bY 1]]
 |.lt x y,false=>[[mA y.bY x.bY 0]]
 |.eq x y,true=>[[mA x.bY y.bY 0,mA y.bY x.bY 0]]
 |.eq x y,false=>[[mA x.bY y.bY 1],[mA y.bY x.bY 1]]
 |.ax x y,true=>[[lx x.bY y.bY 0]]
 |.ax x y,false=>[[lx y.bY x.bY 1]]
 |.au x y,true=>[[lx x.bY y.bY 1]]
 |.au x y,false=>[[lx y.bY x.bY 0]]
 |.a8 x y,true=>[[lx x.bY y.bY 0,lx y.bY x.bY 0]]
 |.a8 x y,false=>[[lx x.bY y.bY 1],[lx y.bY x.bY 1]]
 |.aK p,b=>p.dJ (!b)
 |.aA p q,true=>qj (p.dJ true) (q.dJ true)
 |.aA p q,false=>p.dJ false++q.dJ false
 |.or p q,true=>p.dJ true++q.dJ true
 |.or p q,false=>qj (p.dJ false) (q.dJ false)
 |.wM p q,true=>p.dJ false++q.dJ true
 |.wM p q,false=>qj (p.dJ true) (q.dJ false)
def cw.ok(f:Nat→Int)(x:cw):Prop:=cK x.1 f≤cK x.2 f
def ji(f:Nat→Int)(pr:List cw):Prop:=∀x∈pr,cw.ok f x
def eR(f:Nat→Int)(d:List (List cw)):Prop:=∃pr∈d,ji f pr
theorem ji.de{f:Nat→Int}{x:cw}(h:x.ok f):ji f [x]:=fun _ f1=>(ee.mp f1)▸h
theorem ji.du{f:Nat→Int}{a b:List cw}(h:ji f a)(h':ji f b):ji f (a++b):=fun x ad=>(List.mem_append.mp ad).elim (h x) (h' x)
theorem eR.de{f:Nat→Int}{x:cw}(h:x.ok f):eR f [[x]]:=⟨_,ee.mpr rfl,ji.de h⟩
theorem eR.rK{f:Nat→Int}{x y:cw}(h:x.ok f)(h':y.ok f):eR f [[x,y]]:=⟨_,ee.mpr rfl,ji.du (ji.de h) (ji.de h')⟩
theorem eR.and{f:Nat→Int}{A B:List (List cw)}(h:eR f A)(h':eR f B):eR f (qj A B):=h.elim fun a ds=>h'.elim fun b Y=>⟨a++b,List.mem_flatMap.mpr ⟨a,ds.1,List.mem_map.mpr ⟨b,Y.1,rfl⟩⟩,ds.2.du Y.2⟩
theorem eR.inl{f:Nat→Int}{A B:List (List cw)}(h:eR f A):eR f (A++B):=h.elim fun a ds=>⟨a,List.mem_append_left _ ds.1,ds.2⟩
theorem eR.inr{f:Nat→Int}{A B:List (List cw)}(h:eR f B):eR f (A++B):=h.elim fun a ds=>⟨a,List.mem_append_right _ ds.1,ds.2⟩
theorem nP(c:List Nat)(aa:List Int)(x y:b7)(t:Nat)(h:x.den c+t≤y.den c):(mA x.bY y.bY t).ok (fK c aa):=by change cK (gf [t] x.bY) (fK c aa)≤cK y.bY (fK c aa);rw[l7,sy _ _ rfl,oc c aa x,oc c aa y];show g9 (Int.le_of_eq (Int.add_comm _ _)) (Int.ofNat_le.mpr h)
theorem tC(c:List Nat)(aa:List Int)(x y:bK)(t:Nat)(h:x.den c aa+t≤y.den c aa):(lx x.bY y.bY t).ok (fK c aa):=by rw[←mZ c aa x,←mZ c aa y]at h;change cK (gf [t] (gf x.bY.1 y.bY.2)) (fK c aa)≤cK (gf x.bY.2 y.bY.1) (fK c aa);rw[l7,l7,l7,sy _ _ rfl];have h':(cK x.bY.1 (fK c aa)-cK x.bY.2 (fK c aa))+t≤cK y.bY.1 (fK c aa)-cK y.bY.2 (fK c aa):=h;lia
theorem w3(c:List Nat)(aa:List Int)(x y:bK)(h:x.den c aa≤y.den c aa):(lx x.bY y.bY 0).ok (fK c aa):=tC c aa x y 0 ((Int.add_zero _).symm▸h)
theorem hh(c:List Nat)(aa:List Int):∀p:dx,(p.den c aa→eR (fK c aa) (p.dJ true))∧(¬p.den c aa→eR (fK c aa) (p.dJ false))
 |.f=>⟨False.elim,fun _=>⟨[],ee.mpr rfl,fun _ h=>nm h⟩⟩
 |.le x y=>⟨fun h=>.de (nP c aa x y 0 h),fun h=>.de (nP c aa y x 1 (Nat.lt_of_not_le h))⟩
 |.lt x y=>⟨fun h=>.de (nP c aa x y 1 h),fun h=>.de (nP c aa y x 0 (Nat.le_of_not_lt h))⟩
 |.eq x y=>⟨fun h=>.rK (nP c aa x y 0 (Nat.le_of_eq h)) (nP c aa y x 0 (Nat.le_of_eq h.symm)),fun h=>(Nat.lt_or_gt_of_ne h).elim (fun h=>eR.inl (B:=[_]) (.de (nP c aa x y 1 h))) fun h=>eR.inr (A:=[_]) (.de (nP c aa y x 1 h))⟩
 |.ax x y=>⟨fun h=>.de (w3 c aa x y h),fun h=>.de (tC c aa y x 1 (Int.lt_of_not_ge h))⟩
 |.au x y=>⟨fun h=>.de (tC c aa x y 1 h),fun h=>.de (w3 c aa y x (Int.not_lt.mp h))⟩
 |.a8 x y=>⟨fun h=>.rK (w3 c aa x y (Int.le_of_eq h)) (w3 c aa y x (Int.le_of_eq h.symm)),fun h=>(Int.lt_or_gt_of_ne h).elim (fun h=>eR.inl (B:=[_]) (.de (tC c aa x y 1 h))) fun h=>eR.inr (A:=[_]) (.de (tC c aa y x 1 h))⟩
 |.aK p=>⟨(hh c aa p).2,fun h=>(hh c aa p).1 (Classical.byContradiction h)⟩
 |.aA p q=>⟨fun h=>((hh c aa p).1 h.1).and ((hh c aa q).1 h.2),fun h=>(Classical.em (p.den c aa)).elim (fun be=>.inr ((hh c aa q).2 fun ne=>h ⟨be,ne⟩)) fun be=>.inl ((hh c aa p).2 be)⟩
 |.or p q=>⟨fun h=>h.elim (fun h=>.inl ((hh c aa p).1 h)) fun h=>.inr ((hh c aa q).1 h),fun h=>((hh c aa p).2 fun be=>h (.inl be)).and ((hh c aa q).2 fun ne=>h (.inr ne))⟩
 |.wM p q=>⟨fun h=>(Classical.em (p.den c aa)).elim (fun be=>.inr ((hh c aa q).1 (h be))) fun be=>.inl ((hh c aa p).2 be),fun h=>((hh c aa p).1 (Classical.byContradiction fun be=>h fun IN=>absurd IN be)).and ((hh c aa q).2 fun ne=>h fun _=>ne)⟩
noncomputable def y_:List Nat→List cw→cw
 |m::fG,x::pr=>(x.mul m).add (y_ fG pr)
 |_,_=>([],[])
noncomputable def o5:List Nat→Nat
 |[]=>0
 |x::_=>x
noncomputable def uh:List Nat→List Nat
 |[]=>[]
 |_::l=>l
noncomputable def CK:List Nat→Bool
 |[]=>true
 |y::r=>(Nat.beq y 0).and (CK r)
noncomputable def AE:Bool→List Nat→List Nat→Bool
 |_,[],r=>CK r
 |b,x::l,r=>(cond b (Nat.ble (o5 r) x) (Nat.beq x (o5 r))).and (AE (!b) l (uh r))
noncomputable def ED(x:cw):Bool:=(Nat.blt (o5 x.2) (o5 x.1)).and (AE true (uh x.1) (uh x.2))
noncomputable def C4:List (List Nat)→List (List cw)→Bool
 |_,[]=>true
 |m::fG,pr::d=>(ED (y_ m pr)).and (C4 fG d)
 |[],_::_=>false
noncomputable def y1(m:List (List Nat))(g:dx):List dx→List (List cw)→Bool
 |[],d=>C4 m (qj (g.dJ false) d)
 |h::a1,d=>y1 m g a1 (qj (h.dJ true) d)
theorem MY(f:Nat→Int):∀(m:List Nat)(pr:List cw),ji f pr→(y_ m pr).ok f:=by
 intro ca;induction ca with
 |nil=>
  intro sK Ev;cases sK with
  |nil=>show Int.le_refl _
  |cons mY iH=>show Int.le_refl _
 |cons T0 iI ap=>
  intro j6 h;cases j6 with
  |nil=>show Int.le_refl _
  |cons x pr=>change cK (gf (ly T0 x.1) _) f≤cK (gf (ly T0 x.2) _) f;rw[l7,l7,qA,qA];show Int.add_le_add (Int.mul_le_mul_of_nonneg_left (h x (dF ..)) (Int.natCast_nonneg T0)) (ap pr fun y f1=>h y (dE _ f1))
def m5(b:Bool)(f:Nat→Int):Prop:=∀i,0≤f (2*i+cond b 0 1)
theorem m5.eY{b:Bool}{f:Nat→Int}(h:m5 b f):m5 (!b) (fun i=>f (i+1)):=match b with
 |true=>fun i=>h (i+1)
 |false=>fun i=>h i
theorem Tv{b:Bool}{f:Nat→Int}(h:m5 b f){x y:Nat}(e:cond b (Nat.ble y x) (Nat.beq x y)=true):(y:Int)*f 0≤x*f 0:=match b with
 |true=>Int.mul_le_mul_of_nonneg_right (Int.ofNat_le.mpr (jT e)) (h 0)
 |false=>Int.le_of_eq (congrArg (fun t:Nat=>(t:Int)*f 0) (Nat.eq_of_beq_eq_true e).symm)
theorem zl(f:Nat→Int):∀l:List Nat,cK l f=o5 l*f 0+cK (uh l) (fun i=>f (i+1)):=by
 intro ca;induction ca with
 |nil=>show((Int.add_zero _).trans (Int.zero_mul _)).symm
 |cons xZ lP ap=>show rfl
theorem UU:∀(r:List Nat)(f:Nat→Int),CK r=true→cK r f=0:=by
 intro ca;induction ca with
 |nil=>intro sK Ev;show rfl
 |cons y r ap=>intro f e;have e:=hD.mp (show(_&&_)=true from e);change y*f 0+cK r _=0;rw[Nat.eq_of_beq_eq_true e.1,ap _ e.2];show(Int.add_zero _).trans (Int.zero_mul _)
theorem F0:∀(b:Bool)(l r:List Nat)(f:Nat→Int),m5 b f→AE b l r=true→cK r f≤cK l f
 |_,[],r,f,_,e=>Int.le_of_eq (UU r f e)
 |b,_::l,r,f,h,e=>have e:=hD.mp (show(_&&_)=true from e);(zl f r)▸Int.add_le_add (Tv h e.1) (F0 (!b) l (uh r) _ h.eY e.2)
theorem LS(f:Nat→Int)(am:f 0=1)(be:m5 true (fun i=>f (i+1)))(x:cw)(e:ED x=true)(h:x.ok f):False:=by have e:=hD.mp (show(_&&_)=true from e);have I:=F0 true _ _ _ be e.2;have O:o5 x.2<o5 x.1:=jT e.1;have h:cK x.1 f≤cK x.2 f:=h;rw[zl f x.1,zl f x.2,am]at h;lia
theorem IW(f:Nat→Int)(am:f 0=1)(be:m5 true (fun i=>f (i+1))):∀(m:List (List Nat))(d:List (List cw)),C4 m d=true→eR f d→False
 |_,[],_,h=>h.elim fun _ h=>nm h.1
 |[],_::_,e,_=>fy e
 |m::fG,pr::d,e,h=>h.elim fun x ad=>have e:=hD.mp e;(ep.mp ad.1).elim (fun nr=>LS f am be _ e.1 (MY f m pr (nr▸ad.2))) fun ac=>IW f am be fG d e.2 ⟨x,ac,ad.2⟩
theorem Vi(c:List Nat)(aa:List Int):m5 true (fun i=>fK c aa (i+1)):=fun i=>by have:fK c aa (2*i+1)=_:=(zm (2*i+1) (fK c aa)).symm.trans (oc c aa (.v i));change 0≤fK c aa (2*i+1);show this▸Int.natCast_nonneg _
theorem MM(c:List Nat)(aa:List Int)(m:List (List Nat))(g:dx):∀(a1:List dx)(d:List (List cw)),y1 m g a1 d=true→eR (fK c aa) d→dx.imp c aa g a1:=by
 intro ca;induction ca with
 |nil=>intro _ e h;show Classical.byContradiction fun pp=>IW _ rfl (Vi c aa) _ _ e (((hh c aa g).2 pp).and h)
 |cons p a1 ap=>intro _ e h;show fun be=>ap _ e (((hh c aa p).1 be).and h)
theorem ai(m:List (List Nat))(c:List Nat)(aa:List Int)(a1:List dx)(g:dx)(e:y1 m g a1 [[]]=true):dx.imp c aa g a1:=MM c aa m g a1 _ e ⟨[],ee.mpr rfl,fun _ h=>nm h⟩
theorem ah:true=true:=rfl
noncomputable def dx.Yq(n:Nat)(q r a:b7):dx:=.aA (.eq (.a (.m n q) r) a) (.lt r (.n n))
noncomputable def dx.Np(n:Int)(q r a:bK):dx:=.aA (.a8 (.a (.m n q) r) a) (.aA (.ax (.n 0) r) (.au r (.n n)))
noncomputable abbrev dx.d(n:Nat)(q r a:bK):dx:=.Np (.ofNat n) q r a
noncomputable def dx.cG(k a b:b7):dx:=.or (.aA (.le b a) (.eq (.a k b) a)) (.aA (.le a b) (.eq k (.n 0)))
noncomputable def dx.cz(k:b7)(a:bK):dx:=.or (.aA (.ax (.n 0) a) (.a8 (.c k) a)) (.aA (.ax a (.n 0)) (.eq k (.n 0)))
noncomputable def dx.ab(k:b7)(a:bK):dx:=.or (.aA (.ax (.n 0) a) (.a8 (.c k) a)) (.aA (.ax a (.n 0)) (.a8 (.c k) (.g a)))
theorem cI(x k:Int)(h:decide (0<k)=true):k*(x/k)+x%k=x∧0≤x%k∧x%k<k:=⟨Int.mul_ediv_add_emod x k,Int.emod_nonneg x (Int.ne_of_gt (of_decide_eq_true h)),Int.emod_lt_of_pos x (of_decide_eq_true h)⟩
theorem cy(x y:Nat):(y≤x∧x-y+y=x)∨(x≤y∧x-y=0):=(Nat.le_total y x).imp (fun h=>⟨h,Nat.sub_add_cancel h⟩) fun h=>⟨h,Nat.sub_eq_zero_of_le h⟩
theorem cS(x:Int):(0≤x∧((Int.toNat x:Nat):Int)=x)∨(x≤0∧Int.toNat x=0):=(Int.le_total 0 x).imp (fun h=>⟨h,Int.toNat_of_nonneg h⟩) fun h=>⟨h,Int.toNat_of_nonpos h⟩
theorem uI(x:Int):(0≤x∧((Int.natAbs x:Nat):Int)=x)∨(x≤0∧((Int.natAbs x:Nat):Int)=-x):=(Int.le_total 0 x).imp (fun h=>⟨h,Int.natAbs_of_nonneg h⟩) fun h=>⟨h,Int.ofNat_natAbs_of_nonpos h⟩
theorem hG{a b:Nat}(am:b<a):¬(a=b):=ai [[1,0,1]] [a,b] [] [.lt .y .x] (.aK (.eq .x .y)) ah am
theorem jZ{a:Nat}(am:a≤100):a≤200:=ai [[1,1]] [a] [] [.le .x .S] (.le .x .U) ah am
theorem lW{a:Nat}:(0:Int)≤((a:Nat):Int):=ai [[1]] [a] [] [] (.ax .o (.c .x)) ah
theorem m4{a:Nat}:a<(a+1):=ai [[1]] [a] [] [] (.lt .x (.a .x .l)) ah
theorem om{a b:Nat}(am:b<a):¬((a+1)=b):=ai [[1,0,1]] [a,b] [] [.lt .y .x] (.aK (.eq (.a .x .l) .y)) ah am
theorem oo:((0:Int)<(3:Int))∧((3:Int)<(1267650600228229401496703205376:Int)):=ai [[1],[1]] [] [] [] (.aA (.au .o (.k 3)) (.au (.k 3) .B)) ah
theorem qd{a b c:Nat}(am:((a+(30*c))+120)<b):(a+64)<b:=ai [[1,1]] [a,b,c] [] [.lt (.a (.a .x (.m 30 .aa)) (.n 120)) .y] (.lt (.a .x (.n 64)) .y) ah am
theorem qe{a:Nat}:¬(a=(a+1)):=ai [[0,1]] [a] [] [] (.aK (.eq .x (.a .x .l))) ah
theorem qf{p q r s:Int}(am:r<(128*q))(I:128*p+s=r∧0≤s∧s<128):p<q:=ai [[128,1,0,1,0,1]] [] [p,q,r,s] [.au .aa (.e 128 .y),.d 128 .x .w .aa] (.au .x .y) ah am I
theorem qg{a b c:Nat}(am:c≤a)(I:b<c):¬(a=b):=ai [[1,0,1,1]] [a,b,c] [] [.le .aa .x,.lt .y .aa] (.aK (.eq .x .y)) ah am I
theorem qa{a b c:Nat}(am:a≤c)(I:c≤b):a≤b:=ai [[1,1,1]] [a,b,c] [] [.le .x .aa,.le .aa .y] (.le .x .y) ah am I
theorem qb{a b:Nat}(am:b≤200)(I:a=b):a<1048576:=ai [[1,1,0,1]] [a,b] [] [.le .y .U,.eq .x .y] (.lt .x .L) ah am I
theorem qc{a b:Nat}(am:b≤63)(I:a≤b):a≤63:=ai [[1,1,1]] [a,b] [] [.le .y (.n 63),.le .x .y] (.le .x (.n 63)) ah am I
theorem rR{a b:Nat}(am:¬(b<a)):a≤b:=ai [[1,1]] [a,b] [] [.aK (.lt .y .x)] (.le .x .y) ah am
theorem rS{a:Nat}:a≤(a+1):=ai [[1]] [a] [] [] (.le .x (.a .x .l)) ah
theorem rT{a:Nat}:1≤(a+1):=ai [[1]] [a] [] [] (.le .l (.a .x .l)) ah
theorem rU{a:Nat}(am:a<1000):a<1048576:=ai [[1,1]] [a] [] [.lt .x .R] (.lt .x .L) ah am
theorem rV:((0:Int)<(2:Int))∧((2:Int)<(1267650600228229401496703205376:Int)):=ai [[1],[1]] [] [] [] (.aA (.au .o (.k 2)) (.au (.k 2) .B)) ah
theorem rW:1≤1:=ai [[1]] [] [] [] (.le .l .l) ah
theorem rX{a b:Nat}(am:a≤b):a≤(b+1):=ai [[1,1]] [a,b] [] [.le .x .y] (.le .x (.a .y .l)) ah am
theorem uR{p:Int}(am:¬((0:Int)≤p)):p<(0:Int):=ai [[1,1]] [] [p] [.aK (.ax .o .x)] (.au .x .o) ah am
theorem uS{a b:Nat}:((((a:Nat):Int)-(((b+1):Nat):Int))+(1:Int))=(((a:Nat):Int)-((b:Nat):Int)):=ai [[1],[1]] [a,b] [] [] (.a8 (.a (.s (.c .x) (.c (.a .y .l))) .l) (.s (.c .x) (.c .y))) ah
theorem uT{a:Nat}:¬((a+1)=a):=ai [[1]] [a] [] [] (.aK (.eq (.a .x .l) .x)) ah
theorem uU{a b:Nat}(am:(a+(b+1))≤900):((a+1)+b)≤900:=ai [[1,1]] [a,b] [] [.le (.a .x (.a .y .l)) .T] (.le (.a (.a .x .l) .y) .T) ah am
theorem uV{p q r s:Int}(am:(-64*(128*p))≤r)(I:128*q+s=r∧0≤s∧s<128):(-64*p)≤q:=ai [[128,0,1,0,1,1]] [] [p,q,r,s] [.ax (.i 63 (.e 128 .x)) .aa,.d 128 .y .w .aa] (.ax (.i 63 .x) .y) ah am I
theorem uW{p q r s:Int}(am:r<(64*(128*q)))(I:128*p+s=r∧0≤s∧s<128):p<(64*q):=ai [[128,1,0,1,0,1]] [] [p,q,r,s] [.au .aa (.e 64 (.e 128 .y)),.d 128 .x .w .aa] (.au .x (.e 64 .y)) ah am I
theorem uX:¬(1≤0):=ai [[1]] [] [] [] (.aK (.le .l .o)) ah
theorem uY{a:Nat}(am:a≤10):a<900:=ai [[1,1]] [a] [] [.le .x .W] (.lt .x .T) ah am
theorem uZ{a b:Nat}(am:a<b):(a+1)≤b:=ai [[1,1]] [a,b] [] [.lt .x .y] (.le (.a .x .l) .y) ah am
theorem u0{a:Nat}(am:a≤3):a<1048576:=ai [[1,1]] [a] [] [.le .x .c] (.lt .x .L) ah am
theorem u1{a:Nat}(am:a<100000):a<1048576:=ai [[1,1]] [a] [] [.lt .x .M] (.lt .x .L) ah am
theorem u2{a:Nat}(am:a≤20000):a<100000:=ai [[1,1]] [a] [] [.le .x (.n 20000)] (.lt .x .M) ah am
theorem yd{a b:Nat}(am:a<b):¬(a=b):=ai [[0,1,1]] [a,b] [] [.lt .x .y] (.aK (.eq .x .y)) ah am
theorem ye{a:Nat}(am:0<a):(0:Int)≤((-1:Int)+((a:Nat):Int)):=ai [[1,1]] [a] [] [.lt .o .x] (.ax .o (.a .az (.c .x))) ah am
theorem yf{a b c:Nat}(am:(0≤((-1:Int)+((c:Nat):Int))∧((a:Nat):Int)=((-1:Int)+((c:Nat):Int)))∨(((-1:Int)+((c:Nat):Int))≤0∧a=0))(I:(1≤c∧b+1=c)∨(c≤1∧b=0)):a=b:=ai [[1,0,1,0,0,0,1],[1,0,1,0,1],[1,0,1],[1,0,1],[1,0,0,1,0,1],[1,0,0,0,0,1],[1,1,0,0,0,1],[1,0,0,0,0,1]] [a,b,c] [] [.cz .x (.a .az (.c .aa)),.cG .y .aa .l] (.eq .x .y) ah am I
theorem yg{a b:Nat}(am:a≤b)(I:¬(a<b)):a=b:=ai [[1,1],[1,0,1]] [a,b] [] [.le .x .y,.aK (.lt .x .y)] (.eq .x .y) ah am I
theorem yh{a b:Nat}(am:5<b)(I:a=b):5<a:=ai [[1,0,1,1]] [a,b] [] [.lt (.n 5) .y,.eq .x .y] (.lt (.n 5) .x) ah am I
theorem yi{p:Int}(am:(0:Int)≤p):¬(p<(0:Int)):=ai [[1,1]] [] [p] [.ax .o .x] (.aK (.au .x .o)) ah am
theorem yj{a:Nat}(am:a<900):a<1048576:=ai [[1,1]] [a] [] [.lt .x .T] (.lt .x .L) ah am
theorem yk{p q r:Int}(am:128*q+p=r∧0≤p∧p<128):(0:Int)≤p:=ai [[1,0,0,1]] [] [p,q,r] [.d 128 .y .x .aa] (.ax .o .x) ah am
theorem yl{a b:Nat}{p:Int}:((p+((a:Nat):Int))+((b:Nat):Int))=(p+(((a+b):Nat):Int)):=ai [[1],[1]] [a,b] [p] [] (.a8 (.a (.a .x (.c .x)) (.c .y)) (.a .x (.c (.a .x .y)))) ah
theorem ym{a:Nat}(am:a≤2):a<900:=ai [[1,1]] [a] [] [.le .x .b] (.lt .x .T) ah am
theorem yn{p:Int}(am:((0:Int)≤p)∧(p<(32:Int))):p<(4294967296:Int):=ai [[1,0,1]] [] [p] [.aA (.ax .o .x) (.au .x (.k 32))] (.au .x .A) ah am
theorem yo{p q r s:Int}(am:p≤q)(I:q≤r)(O:s=q)(bn:(s<p)∨(r<s)):False:=ai [[1,0,1,0,1],[1,1,0,1]] [] [p,q,r,s] [.ax .x .y,.ax .y .aa,.a8 .w .y,.or (.au .w .x) (.au .aa .w)] .f ah am I O bn
theorem yp{a:Nat}(am:1000≤a):9<a:=ai [[1,1]] [a] [] [.le .R .x] (.lt (.n 9) .x) ah am
theorem yq{a b:Nat}(am:1≤a)(I:(1≤a∧b+1=a)∨(a≤1∧b=0)):a=(b+1):=ai [[1,0,1],[1,0,1,0,1],[1,0,0,1],[1,1]] [a,b] [] [.le .l .x,.cG .y .x .l] (.eq .x (.a .y .l)) ah am I
theorem yr{p q r:Int}(am:128*q+p=r∧0≤p∧p<128):((0:Int)≤(p+(128:Int)))∧((p+(128:Int))<(256:Int)):=ai [[1,0,0,1],[1,0,0,0,1]] [] [p,q,r] [.d 128 .y .x .aa] (.aA (.ax .o (.a .x .G)) (.au (.a .x .G) .F)) ah am
theorem yt{p q r:Int}(am:128*q+p=r∧0≤p∧p<128):((0:Int)≤p)∧(p<(256:Int)):=ai [[1,0,0,1],[1,0,0,0,1]] [] [p,q,r] [.d 128 .y .x .aa] (.aA (.ax .o .x) (.au .x .F)) ah am
theorem yu{a b c d:Nat}(am:(a+(b+d))<c):(a+b)<c:=ai [[1,1]] [a,b,c,d] [] [.lt (.a .x (.a .y .w)) .aa] (.lt (.a .x .y) .aa) ah am
theorem yv{a b:Nat}(am:a≤b)(I:b≤a):a=b:=ai [[1,1],[1,0,1]] [a,b] [] [.le .x .y,.le .y .x] (.eq .x .y) ah am I
theorem yw{a b c:Nat}(am:c≤b)(I:a<c):¬(a=b):=ai [[0,1,1,1]] [a,b,c] [] [.le .aa .y,.lt .x .aa] (.aK (.eq .x .y)) ah am I
theorem yx:(0:Int)≤(0:Int):=ai [[1]] [] [] [] (.ax .o .o) ah
theorem yy{a b c d:Nat}(am:(b<c)∨(d≤b))(I:c≤a)(O:a<d):¬(a=b):=ai [[1,0,0,1,1],[0,1,1,0,1]] [a,b,c,d] [] [.or (.lt .y .aa) (.le .w .y),.le .aa .x,.lt .x .w] (.aK (.eq .x .y)) ah am I O
theorem yz{a b c:Nat}(am:c≤b)(I:a<c):a<b:=ai [[1,1,1]] [a,b,c] [] [.le .aa .y,.lt .x .aa] (.lt .x .y) ah am I
theorem yA{a:Nat}(am:a≤10):a≤20:=ai [[1,1]] [a] [] [.le .x .W] (.le .x .eh) ah am
theorem yB:0≤2:=ai [[1]] [] [] [] (.le .o .b) ah
theorem yC{a:Nat}(am:a≤63):a<1000:=ai [[1,1]] [a] [] [.le .x (.n 63)] (.lt .x .R) ah am
theorem yD{a b c:Nat}(am:a≤3)(I:c≤100)(O:b≤(56*c)):(a+b)<1048576:=ai [[1,1,56,1]] [a,b,c] [] [.le .x .c,.le .aa .S,.le .y (.m 56 .aa)] (.lt (.a .x .y) .L) ah am I O
theorem yE{a b:Nat}(am:b≤100)(I:a=b):a<1048576:=ai [[1,1,0,1]] [a,b] [] [.le .y .S,.eq .x .y] (.lt .x .L) ah am I
theorem yF{p:Int}(am:((0:Int)≤p)∧(p<(100000000000:Int))):((-100000000:Int)<p)∧(p<(100000000000:Int)):=ai [[1,1],[1,0,1]] [] [p] [.aA (.ax .o .x) (.au .x (.k 100000000000))] (.aA (.au (.af 99999999) .x) (.au .x (.k 100000000000))) ah am
theorem yG{a b c:Nat}(am:b≤100)(I:c<b)(O:a=c):(1+a)≤900:=ai [[1,1,0,1,1]] [a,b,c] [] [.le .y .S,.lt .aa .y,.eq .x .aa] (.le (.a .l .x) .T) ah am I O
theorem yH{p q r:Int}(am:q≤p)(I:p≤r)(O:(q≤r)∧(((0:Int)≤q)∧(r<((64512:Int)+(4294967296:Int))))):((0:Int)≤p)∧(p<(100000000000:Int)):=ai [[1,0,1,0,0,1],[1,0,0,1,1]] [] [p,q,r] [.ax .y .x,.ax .x .aa,.aA (.ax .y .aa) (.aA (.ax .o .y) (.au .aa (.a .K .A)))] (.aA (.ax .o .x) (.au .x (.k 100000000000))) ah am I O
theorem yI{p:Int}(am:(0:Int)≤p):(0:Int)≤(p+(7:Int)):=ai [[1,1]] [] [p] [.ax .o .x] (.ax .o (.a .x .ae)) ah am
end
section
set_option backward.match.sparseCases true
open _root_.PySem _root_.PySem.W _root_.PySem.Calls PyProof.Rows
open Sem (wp)
def aU:=@wpAny_bind
def bz:=@wpAny_pure
def eH:=@Heap.get?_push_of_some
def iN:=@builtinLookup_eq_fast
def iO:=@Heap.get?_push_size
def ey:=@wpAny_of_eq
def jX:=@Heap.get?_update_self
def iP:=@typeLookup_type
theorem sV{G:Prop}(h:∀rP:Prop,(G→rP)→rP):G:=h G id
noncomputable def o6:List String:=["bytearray.__contains__","bytearray.__mod__","bytearray.__rmod__","_struct.pack_into.held","bytearray.find.held"]++Builtin.Bytes.decodersThatHold
noncomputable def j4:Code→Bool
 |.builtin id _=>o6.contains id
 |_=>false
theorem Uv{id s:String}(h:o6.contains id=false)(a1:o6.contains s=true):id≠s:=by rintro rfl;show Bool.noConfusion (h.symm.trans a1)
def uN(l:List (Code×Pos)):Prop:=∀x∈l,j4 x.1=false
def aD{α:Type}(M:Model)(A:Around)(t:Sem α)(Q:α→Shared→Prop)(E:Value→Shared→Prop)(s:Shared):Prop:=∀t0 p,t0.In A→j4 t0.code=false→uN t0.below→wp M t0 t (fun a _ s'=>Q a s') (fun e _ s'=>E e s') p s
def dK(M:Model)(A:Around)(c:Code)(R:Result→Shared→Prop)(s:Shared):Prop:=∀t0 p,t0.code=c→t0.Below A→uN t0.below→wpCode M t0 R p s
section
variable{α go:Type}{M:Model}{A:Around}{E:Value→Shared→Prop}{s:Shared}
theorem bk{t:Sem α}{Q:α→Shared→Prop}(h:wpAny M A t Q E s):aD M A t Q E s:=fun t0 p NE _ _=>h t0 p NE
theorem bw{a:α}{Q:α→Shared→Prop}(h:Q a s):aD M A (pure a) Q E s:=fun _ _ _ _ _=>h
theorem en{t:Sem α}{Q sp:α→Shared→Prop}{p7:Value→Shared→Prop}(h:aD M A t Q E s)(Ix:∀a s,Q a s→sp a s)(zs:∀e s,E e s→p7 e s):aD M A t sp p7 s:=fun t0 p NE I O=>Sem.wp_mono M t0 t (fun a _ s=>Ix a s) (fun e _ s=>zs e s) p s (h t0 p NE I O)
theorem aB{m:Sem α}{f:α→Sem go}{Q:go→Shared→Prop}(h:aD M A m (fun a s'=>aD M A (f a) Q E s') E s):aD M A (m>>=f) Q E s:=fun t0 p NE I O=>by rw[Sem.wp_bind'];show Sem.wp_mono M t0 m (fun a jp s' h'=>h' t0 jp NE I O) (fun _ _ _ h'=>h') p s (h t0 p NE I O)
theorem cV{m:Sem α}{f:α→Sem go}{Q:go→Shared→Prop}(h:wpAny M A m (fun a s'=>aD M A (f a) Q E s') E s):aD M A (m>>=f) Q E s:=aB (bk h)
theorem uG{m:Sem α}{k:Value→Sem Unit}{Q:α→Shared→Prop}(h:aD M A m Q (fun e s'=>aD M A (k e) (fun _ f_=>E e f_) E s') s):aD M A (m.onRaise k) Q E s:=fun t0 p NE I O=>by rw[Sem.wp_onRaise];show Sem.wp_mono M t0 m (fun _ _ _ h'=>h') (fun e jp s' h'=>h' t0 jp NE I O) p s (h t0 p NE I O)
theorem DB{m:Sem α}{Q:Except Value α→Shared→Prop}(h:aD M A m (fun a=>Q (.ok a)) (fun e=>Q (.error e)) s):aD M A m.attempt Q E s:=fun t0 p NE I O=>by rw[Sem.wp_attempt];show h t0 p NE I O
theorem cp{vs:List Value}{m:Sem α}{Q:α→Shared→Prop}(h:aD M A m Q E s):aD M A (holding vs m) Q E s:=fun t0 p NE I O=>by rw[Sem.wp_holding];show h t0 p NE I O
theorem XG{c:Prop}[Decidable c]{a b:Sem α}{Q:α→Shared→Prop}(h:if c then aD M A a Q E s else aD M A b Q E s):aD M A (if c then a else b) Q E s:=by split<;>simp_all
theorem cH{pos:Pos}{Q:Unit→Shared→Prop}(h:Q () s):aD M A (standAt pos) Q E s:=fun _ _ _ _ _=>h
theorem x3{Xa:String}{Q:Unit→Shared→Prop}(h:Q () s):aD M A (rule Xa) Q E s:=fun _ _ _ _ _=>h
theorem J3{Q:Unit→Shared→Prop}(h:Q () s):aD M A point Q E s:=bk (wpAny_point h)
theorem XF{m jG:Sem α}{Q:α→Shared→Prop}(e:m=jG)(h:aD M A jG Q E s):aD M A m Q E s:=e▸h
theorem vf{c:Code}{R kN:Result→Shared→Prop}(h:dK M A c R s)(mf:∀r s,R r s→kN r s):dK M A c kN s:=fun t0 p Z NE ad=>wpCode_mono mf (h t0 p Z NE ad)
theorem EZ{t0:Ctx}(I:j4 t0.code=false)(O:uN t0.below)(c:Code)(hd:Option Value)(p:Pos):uN (t0.enter c hd p).below:=by
 intro x ad;rcases ep.mp ad with rfl|ad
 ·show I
 ·show O x ad
theorem J4{c:Code}{h:Option Value}{Q:Flow→Shared→Prop}(Z:dK M (A.mark h) c (fun r s'=>match r with|.ok f=>Q f s'|.error e=>E e s') s)(pf:h≠some byPass):aD M A (run c h) Q E s:=fun t0 p NE I O=>by rw[Sem.wp_run];show Z _ p rfl (NE.enter c h p pf) (EZ I O c h p)
theorem XH{c:Code}{Q:Value→Shared→Prop}(Z:dK M A c (fun r s'=>match r with|.ok (.ret v)=>Q v s'|.ok _=>False|.error e=>E e s') s):aD M A (runValue c) Q E s:=fun t0 p NE I O=>by rw[Sem.wp_runValue];show Z _ p rfl (NE.enter c none p (by intro x;cases x)) (EZ I O c none p)
theorem lR{f:Value}{pos:List Value}{kw:List (Str×Value)}{Q:Value→Shared→Prop}(Z:dK M A (.call f ⟨pos,kw⟩) (fun r s'=>match r with|.ok (.ret v)=>Q v s'|.ok _=>False|.error e=>E e s') s):aD M A (call f pos kw) Q E s:=XH Z
theorem j8{c:Code}{R:Result→Shared→Prop}(Y:j4 c=false)(h:aD M (A.under c) (M.den c) (fun v4 s'=>match v4 with|.done f=>R (.ok f) s'|.again h0=>h0.quiet=true∧dK M A h0 R s') (fun e s'=>R (.error e) s') s):dK M A c R s:=fun t0 p Z NE ad=>by
 rw[wpCode_iff_wp,Z];show Sem.wp_mono M t0 _ (fun v4 jp s' h'=>?_) (fun _ _ _ h'=>h') p s (h t0 p (Z▸NE.in) (Z▸Y) ad);cases v4 with
 |done f=>show h'
 |again h0=>show⟨h'.1,h'.2 (t0.goto h0) jp rfl (NE.goto h0) ad⟩
set_option tactic.hygienic true in
theorem FE{v:Value}{Q:Bool→Shared→Prop}(h:Q false s):aD M A (Builtin.Bytes.exported v) Q E s:=by
 intro t0 p NE I O;unfold Builtin.Bytes.exported;show(?_:Q (List.any ((t0.code,p)::t0.below) _) s);have e:∀f,(∀x:Code×Pos,j4 x.1=false→f x=false)→List.any ((t0.code,p)::t0.below) f=false:=fun f ch=>List.any_eq_false.mpr fun x ad=>Bool.eq_false_iff.mp (ch x (by
  rcases ep.mp ad with rfl|ad
  ·show I
  ·show O x ad))
 rw[e _ ?_];·show h
 ·rintro⟨c,p⟩ Y;delta PySem.Builtin.Bytes.exported.match_1;cases c<;>try rfl
  rename_i id args;obtain⟨pos,kw⟩:=args;have g(s:String)(a1:o6.contains s=true):id≠s:=Uv Y a1;show(dif_neg (g _ rfl)).trans ((dif_neg (g _ rfl)).trans ((dif_neg (g _ rfl)).trans ((dif_neg (g _ rfl)).trans ((dif_neg (g _ rfl)).trans ?_))));cases pos with
  |nil=>rfl
  |cons a r=>
   have hd:Builtin.Bytes.decodersThatHold.contains id=false:=by have Y:o6.contains id=false:=Y;unfold o6 at Y;rw[List.contains_append,Bool.or_eq_false_iff]at Y;show Y.2
   show(congrArg (Builtin.Bytes.sameRef a v&&·) hd).trans (Bool.and_false _)
end
end
section
open _root_.PySem _root_.PySem.W _root_.PySem.Calls PyProof.Rows
open Sem (wp)
section
variable{prog:Program}{w:World}{A:Around}{E:Value→Shared→Prop}{s:Shared}{R:Result→Shared→Prop}
theorem MV{id:String}{args:Args}{b:Builtin}(bi:j4 (.builtin id args)=false)(Y:entryFor table id=some b)(h:aD (model prog w) (A.under (.builtin id args)) (b args) (fun v4 s'=>match v4 with|.done f=>R (.ok f) s'|.again h0=>h0.quiet=true∧dK (model prog w) A h0 R s') (fun e s'=>R (.error e) s') s):dK (model prog w) A (.builtin id args) R s:=by show j8 bi ?_;change aD _ _ (match entryFor table id with|some b=>b args|none=>unsupported ((withoutEnding? id "#data").getD id)) _ _ s;rw[Y];show h
theorem y4{id:String}{args:Args}{b:Builtin}(bi:j4 (.builtin id args)=false)(ne:(Code.builtin id args).quiet=true)(Y:entryFor table id=some b)(h:wpAny (model prog w) A.in1 (checkBuiltinCall id args) (fun _ a2=>aD (model prog w) (A.under (.builtin id args)) (b args) (fun v4 s'=>match v4 with|.done f=>R (.ok f) s'|.again h0=>h0.quiet=true∧dK (model prog w) A h0 R s') (fun e s'=>R (.error e) s') a2) (fun e s'=>R (.error e) s') s):dK (model prog w) A (.call (.builtin id) args) R s:=by show j8 rfl ?_;change aD _ A.in1 (do checkBuiltinCall id args;again (.builtin id args)) _ _ s;show cV (wpAny_mono h (fun _ a2 s4=>bw (And.intro ne (j8 bi ?_))) fun _ _ h'=>h');change aD _ _ (match entryFor table id with|some b=>b args|none=>unsupported ((withoutEnding? id "#data").getD id)) _ _ a2;rw[Y];show s4
theorem MW{id:String}{args:Args}{b:Builtin}(bi:j4 (.builtin id args)=false)(ne:plainId id=true)(Y:entryFor table id=some b)(h:wpAny (model prog w) A.in1 (checkBuiltinCall id args) (fun _ a2=>aD (model prog w) A.in1 (b args) (fun v4 s'=>match v4 with|.done f=>R (.ok f) s'|.again h0=>h0.quiet=true∧dK (model prog w) A h0 R s') (fun e s'=>R (.error e) s') a2) (fun e s'=>R (.error e) s') s):dK (model prog w) A (.call (.builtin id) args) R s:=y4 bi (plainId_quiet ne args) Y (by rw[Around.under_plainId ne args];show h)
theorem DC{T:String}{name:Str}{id:String}{b:Builtin}{self:Value}{bh:List Value}{Q:Value→Shared→Prop}(bi:j4 (.builtin id ⟨self::bh,[]⟩)=false)(h:Slot T name id)(py:s.TypeIs self T)(Y:entryFor table id=some b)(Z:aD (model prog w) A.in1 (b ⟨self::bh,[]⟩) (fun v4 s'=>∃v,v4=.done (.ret v)∧Q v s') E s)(ds:argsOk id ⟨self::bh,[]⟩):aD (model prog w) A (call (.builtin id) (self::bh)) Q E s:=by show lR (MW bi h.plain Y (h.check _ _ _ _ _ _ _ _ py ds (en Z (fun v4 s' h'=>?_) fun _ _ h'=>h')));obtain⟨v,rfl,al⟩:=h';show al
end
theorem ql{id:String}{args:Args}(h:o6.contains id=false):j4 (.builtin id args)=false:=h
theorem Jl:Slot "bytearray" "append" "bytearray.append":=.of (owner:="bytearray") (n:="append") (by rw[iP,iN];kernel_rfl) (by decide+kernel) (by decide+kernel) (by decide+kernel) (by first|show .inl (by decide+kernel)|show .inr (by decide+kernel)) (by rw[isSubtype_type];kernel_rfl)
theorem Jm:Slot "bytearray" "extend" "bytearray.extend":=.of (owner:="bytearray") (n:="extend") (by rw[iP,iN];kernel_rfl) (by decide+kernel) (by decide+kernel) (by decide+kernel) (by first|show .inl (by decide+kernel)|show .inr (by decide+kernel)) (by rw[isSubtype_type];kernel_rfl)
theorem NB:entryFor table "bytearray.append"=some Builtin.«bytearray.append»:=entryFor_of_tree (by kernel_rfl)
theorem NC:entryFor table "bytearray.extend"=some Builtin.«bytearray.extend»:=entryFor_of_tree (by kernel_rfl)
theorem Ld(a b:Value):argsOk "bytearray.append" ⟨[a,b],[]⟩:=by unfold argsOk;kernel_rfl
theorem Le(a b:Value):argsOk "bytearray.extend" ⟨[a,b],[]⟩:=by unfold argsOk;kernel_rfl
section
variable{prog:Program}{w:World}{A:Around}{E:Value→Shared→Prop}{s:Shared}{a:Addr}{b:Array UInt8}{co:Array (Option Value)}{d:Option Addr}
theorem EV{Q:Unit→Shared→Prop}(pp:A.guards=some [])(ds:s.heap.get? a=some ⟨.type "bytearray",d,.bytearray b 0,co⟩)(q:Q () s):aD (model prog w) A (Builtin.Bytes.checkResize (.ref a)) Q E s:=by unfold Builtin.Bytes.checkResize;show aB ?_;unfold orM;show aB (FE ?_);change aD _ _ (Builtin.Bytes.exportsOf (.ref a)>>=fun n=>pure (decide (n>0))) _ _ _;show cV (aU (wpAny_load ds (bz ?_)));show bw (bw q)
theorem DI{f:Array UInt8→Array UInt8}{Q:Unit→Shared→Prop}(ds:s.heap.get? a=some ⟨.type "bytearray",d,.bytearray b 0,co⟩)(lm:(f b).size≤sizeLine)(q:Q () {s with heap:=s.heap.update a (Obj.mapBytearray f)}):wpAny (model prog w) A (Builtin.Bytes.write (.ref a) f) Q E s:=by change wpAny _ _ (updateBytearray a f) _ _ _;unfold updateBytearray;show aU (wpAny_load ds (aU (wpAny_update ds ?_)));show wpAny_lookBehind (o:=⟨.type "bytearray",d,.bytearray (f b) 0,co⟩) (jX _ ds rfl) ?_ q;show aM (Nat.not_lt.mpr lm)
theorem LD{i:Int}{t:Tok}{Q:Value→Shared→Prop}(pp:A.guards=some [])(ds:s.heap.get? a=some ⟨.type "bytearray",d,.bytearray b 0,co⟩)(am:0≤i)(I:i<256)(lm:b.size+1≤sizeLine)(q:Q .none {s with heap:=s.heap.update a (Obj.mapBytearray (·.push i.toNat.toUInt8))}):aD (model prog w) A (call (.builtin "bytearray.append") [.ref a,.int i t]) Q E s:=by show DC (ql (by decide+kernel)) Jl ⟨_,ds,rfl⟩ NB ?_ (Ld _ _);change aD _ _ (Builtin.Bytes.byteValue (.int i t)>>=fun c=>Builtin.Bytes.checkResize (.ref a)>>=fun _=>Builtin.Bytes.write (.ref a) (·.push c)>>=fun _=>ret .none) _ _ _;show cV ?_;·unfold Builtin.Bytes.byteValue;show aU (bz (a:=i) ?_);dsimp only;rw[aM (by simp;show ai [[1,0,1],[1,1]] [] [_] [.ax .o .x,.au .x .F] (.aA (.ax .o .x) (.au .x .F)) ah am I)];show bz ?_;show aB (EV pp ds ?_);show cV (DI ds (by rw[Array.size_push];show lm) ?_);show bw ⟨_,rfl,q⟩
theorem LK{c:Array UInt8}{t:Tok}{Q:Value→Shared→Prop}(pp:A.guards=some [])(ds:s.heap.get? a=some ⟨.type "bytearray",d,.bytearray b 0,co⟩)(lm:b.size+c.size≤sizeLine)(q:Q .none {s with heap:=s.heap.update a (Obj.mapBytearray (·++c))}):aD (model prog w) A (call (.builtin "bytearray.extend") [.ref a,.bytes c t]) Q E s:=by
 show DC (ql (by decide+kernel)) Jm ⟨_,ds,rfl⟩ NC ?_ (Le _ _);unfold Builtin.«bytearray.extend»;show cV (ey (a:=(Value.ref a,Value.bytes c t)) (by kernel_rfl) ?_);dsimp only;show cV (ey (KBy.special_eq KBy.look_buffer) ?_);dsimp only[Option.isSome_some,if_true];show cV (wpAny_rule ?_);show cV (aU ?_);change wpAny _ _ (Builtin.Bytes.payload? (.ref a)) _ _ _;show aU (wpAny_load ds (bz (bz ?_)));have e:Builtin.Bytes.takeBufferQuiet? "bytearray.extend" (.bytes c t) 0=pure (some (c,none)):=by unfold Builtin.Bytes.takeBufferQuiet? Builtin.Bytes.takeBuffer?;rw[show((0:Int)==Builtin.Bytes.fullReadOnly)=false by decide+kernel,KBy.special_eq KBy.look_buffer,KBy.own_buffer,KBy.buffer_eq];kernel_rfl
 show cV (ey e ?_);dsimp only;dsimp only[Option.isNone_none,if_true];have v4:aD (model prog w) A.in1 (Builtin.Bytes.write (.ref a) (·++c)>>=fun _=>ret .none) (fun v4 s'=>∃v,v4=.done (.ret v)∧Q v s') E s:=cV (DI ds (by rw[Array.size_append];show lm) (bw ⟨_,rfl,q⟩));change aD _ _ (if(!c.isEmpty)=true then(Builtin.Bytes.checkResize (.ref a)>>=fun _=>Builtin.Bytes.write (.ref a) (·++c)>>=fun _=>ret .none)else(Builtin.Bytes.write (.ref a) (·++c)>>=fun _=>ret .none)) _ _ _;split;·show aB (EV pp ds v4)
 ·show v4
theorem TQ:typeLookup (.type "bytearray") "__bytes__"=pure none:=by rw[iP,iN];kernel_rfl
theorem TR:typeLookup (.type "bytearray") "__index__"=pure none:=by rw[iP,iN];kernel_rfl
theorem Cm:typeLookup (.type "bytearray") "__buffer__"=pure (some (.builtin "bytearray.__buffer__")):=by rw[iP,iN];kernel_rfl
theorem HO:typeLookup (.type "bytearray") "__release_buffer__"=pure (some (.builtin "bytearray.__release_buffer__")):=by rw[iP,iN];kernel_rfl
theorem De{Q:Bool→Shared→Prop}{id:String}(name:String)(py:s.TypeIs (.ref a) "bytearray")(V:typeLookup (.type "bytearray") (name:Str)=pure (some (.builtin id)))(I:id.endsWith ("."++name)=true)(O:id.dropRight (name.length+1)="bytearray")(q:Q true s):wpAny (model prog w) A (Builtin.Bytes.slotIsOwn (.ref a) name) Q E s:=by unfold Builtin.Bytes.slotIsOwn;show aU (wpAny_specialOf py V ?_);dsimp only;rw[I];simp only[Bool.not_true,gy,if_false];rw[O];show wpAny_isInstance py F.sub_bytearray_bytearray q
theorem MB{Q:Value→Shared→Prop}(ds:s.heap.get? a=some ⟨.type "bytearray",d,.bytearray b 0,co⟩)(lm:b.size≤sizeLine)(Ix:∀t k,Q (.bytes b t) {s with toks:=k}):wpAny (model prog w) A (call (.type "bytes") [.ref a]) Q E s:=by
 have py:s.TypeIs (.ref a) "bytearray":=⟨_,ds,rfl⟩;show callType_codes (Q₁:=fun gX a2=>a2.TypeIs gX "bytes"∧Q gX a2) F.bm_called (F.bm_typeCall _) F.entry_object_init ?_ fun gX a2 s4=>?_
 ·show codeAny_of_tree ?_;change wpAny _ A.in1.in1 (do checkBuiltinCall "bytes.__new__" ⟨[.type "bytes",.ref a],[]⟩;again (.builtin "bytes.__new__" ⟨[.type "bytes",.ref a],[]⟩)) _ _ s;show aU (ey (F.bm_newCall _) (bz ⟨plainId_quiet F.bm_plain _,codeAny_builtin F.bm_entry ?_⟩));rw[Around.under_plainId F.bm_plain _];unfold Builtin.«bytes.__new__»;show aU (ey (a:=true) rfl ?_);show bm_if_false rfl ?_;show aU (ey F.bm_sub ?_);show bm_if_false rfl ?_;show aU (ey (F.bm_bind _) ?_);show aU (ey (a:=()) rfl ?_);show aU (ey (a:=()) rfl ?_);show bm_if_false rfl ?_;show aU (wpAny_specialOf py TQ ?_);show aU (aU ?_);change wpAny _ _ (load a>>=_) _ _ _;show aU (wpAny_load ds ?_);show bz (bz ?_);show bm_if_false rfl ?_;show aU (wpAny_specialOf py TR ?_);show bm_if_true rfl ?_
  first
   |show wpAny _ _ (Builtin.Bytes.buffer? "bytes.__new__" (.ref a) true>>=_) _ _ _
   |(show aU ?_;change wpAny _ _ (Builtin.Bytes.buffer? "bytes.__new__" (.ref a) true>>=_) _ _ _)
  show aU ?_;unfold Builtin.Bytes.buffer?;show aU (wpAny_specialOf py Cm ?_);dsimp only;show aU (De "__buffer__" py Cm (by decide+kernel) (by decide+kernel) ?_);show bm_if_false rfl ?_;show aU (wpAny_specialOf py Cm ?_);show aU (aU (De "__release_buffer__" py HO (by decide+kernel) (by decide+kernel) ?_));show bz ?_;show bm_if_false rfl ?_;show aU (aU ?_);change wpAny _ _ (load a>>=_) _ _ _;show aU (wpAny_load ds (bz (bz (bz ?_))));show aU (wpAny_rule (aU (wpAny_mkBytes ?_ lm)));change wpAny _ _ (if(Value.type "bytes"==Value.type "bytes")=true then _ else _) _ _ _;show bm_if_true (by decide) ?_
  first
   |show bz ⟨PySem.W.typeIs_bytes _ _ _,Ix _ _⟩
   |show aU (bz (bz ⟨PySem.W.typeIs_bytes _ _ _,Ix _ _⟩))
 ·show⟨s4.1,F.args_object_init_2 gX _,object_init_meets F.bm_called.init.lookup F.bm_called.made (by decide) prog w A.in1 _ a2 ⟨s4.1,rfl,s4.2⟩⟩
theorem h3{α:Type}{M:Model}{c:Bool}{a b:Sem α}{Q:α→Shared→Prop}(Z:c=false)(h:aD M A b Q E s):aD M A (if c=true then a else b) Q E s:=by subst Z;show h
theorem Xo{T Ic Hj:String}{args:List Value}{Q Q₁:Value→Shared→Prop}(fy:TypeCalled T Ic Hj)(nC:checkTypeCall T ⟨args,[]⟩=pure ())(ij:codeAny (model prog w) A.in1 (.call (.builtin Ic) ⟨.type T::args,[]⟩) (wants Q₁ E) s)(q1:∀gX a2,Q₁ gX a2→a2.TypeIs gX T∧aD (model prog w) A.in1 (call (.builtin Hj) (gX::args)) (fun r lo=>r=.none∧Q gX lo) E a2):aD (model prog w) A (call (.type T) args) Q E s:=by
 show zv fy.mro fun c tl Rk=>?_;have Rj:=fy.made;have WP:=fy.sub;show lR (j8 rfl ?_);change aD _ _ (callAny (.type T) _) _ _ _;show bw ⟨Code.quiet_builtin _ (by decide+kernel),MV (ql (by decide+kernel)) F.entry_type_call ?_⟩;rw[Around.under_plain (weight_type_call_type T args []) rfl];have I:=fy.notType;have O:=fy.canCreate;unfold Builtin.«type.__call__»;show h3 I ?_;show h3 O ?_;show cV (ey nC ?_);show cV (ey Rk ?_);show h3 rfl ?_;show cV (ey Rj ?_);show cV (bz ?_);show aB (cp (bk (wpAny_call (codeAny_mono ij fun r a2 ar=>?_))));cases r with
 |error e=>show ar
 |ok J=>
  cases J with
  |ret gX=>obtain⟨py,an⟩:=q1 _ _ ar;show cV (wpAny_isInstance py WP ?_);show h3 rfl ?_;have wh:=fy.init.lookup;have vZ:=fy.init.bind gX;show aB (cp ?_);unfold callSpecial?;show cV (wpAny_specialOf py wh ?_);show cp (cV (ey vZ ?_));show aB (en an (fun r lo aa=>?_) fun _ _ aa=>aa);obtain⟨rfl,aa⟩:=aa;show bw (h3 rfl (bw aa))
  |_=>show ar.elim
theorem EA:mroOf (.type "bytearray")=pure [.type "bytearray",.type "object"]:=by rw[mroOf_type];kernel_rfl
theorem LN:typeLookup (.type "bytearray") "__new__"=pure (some (.builtin "bytearray.__new__")):=by rw[iP,iN];kernel_rfl
theorem EC:Slot "bytearray" "__init__" "bytearray.__init__":=.of (owner:="bytearray") (n:="__init__") (by rw[iP,iN];kernel_rfl) (by decide+kernel) (by decide+kernel) (by decide+kernel) (by first|show .inl (by decide+kernel)|show .inr (by decide+kernel)) (by rw[isSubtype_type];kernel_rfl)
theorem LH:TypeCalled "bytearray" "bytearray.__new__" "bytearray.__init__":=⟨by decide+kernel,by decide+kernel,⟨_,_,EA⟩,madeBy_type EA LN (by decide+kernel),by decide+kernel,by rw[isSubtype_type];kernel_rfl,EC⟩
theorem LQ:checkTypeCall "bytearray" ⟨[],[]⟩=pure ():=by kernel_rfl
theorem LO:checkBuiltinCall "bytearray.__new__" ⟨[.type "bytearray"],[]⟩=pure ():=by kernel_rfl
theorem LJ:entryFor table "bytearray.__new__"=some Builtin.«list.__new__»:=entryFor_alias (id':="list.__new__") (by kernel_rfl) (by first|rfl|decide+kernel) (by decide+kernel) (by kernel_rfl)
theorem LI:entryFor table "bytearray.__init__"=some Builtin.«bytearray.__init__»:=entryFor_of_tree (by kernel_rfl)
theorem EB:plainId "bytearray.__new__"=true:=by decide+kernel
theorem LF(a:Value):argsOk "bytearray.__init__" ⟨[a],[]⟩:=by unfold argsOk;kernel_rfl
theorem LG:Builtin.Bytes.bindOptional "bytearray.__init__" "bytearray" ["source","encoding","errors"] [] []=pure [none,none,none]:=by kernel_rfl
set_option maxRecDepth 1000000 in
set_option maxHeartbeats 4000000 in
theorem LP:("bytearray.__new__".splitOn ".__new__").headD ""="bytearray":=by simp+decide [String.splitOn,String.splitOnAux]
theorem MA{Q:Value→Shared→Prop}(pp:A.guards=some [])(q:∀h',h'=(s.heap.push {cls:=.type "bytearray",data:=.bytearray #[]}).update s.heap.objs.size (Obj.mapBytearray fun _=>#[])→Q (.ref s.heap.objs.size) {s with heap:=h'}):aD (model prog w) A (call (.type "bytearray") []) Q E s:=by
 show Xo (Q₁:=fun gX a2=>gX=.ref s.heap.objs.size∧a2={s with heap:=s.heap.push {cls:=.type "bytearray",data:=.bytearray #[]}}) LH LQ ?_ fun gX a2 h=>?_;·show codeAny_of_tree ?_;change wpAny _ A.in1.in1 (do checkBuiltinCall "bytearray.__new__" ⟨[.type "bytearray"],[]⟩;again (.builtin "bytearray.__new__" ⟨[.type "bytearray"],[]⟩)) _ _ s;show aU (ey LO (bz ⟨plainId_quiet EB _,codeAny_builtin_stack LJ rfl fun p cb=>?_⟩));rw[Around.under_plainId EB _];have WP:=F.sub_bytearray_bytearray;have Rv:=LP;obtain⟨be,g,d,Do,os⟩:=s;simp only[Rv];wp_walk;show⟨rfl,rfl⟩
 ·obtain⟨rfl,rfl⟩:=h;have ds:(s.heap.push {cls:=.type "bytearray",data:=.bytearray #[]}).get? s.heap.objs.size=some ⟨.type "bytearray",none,.bytearray #[] 0,#[]⟩:=iO _ rfl;have py:({s with heap:=s.heap.push {cls:=.type "bytearray",data:=.bytearray #[]}}:Shared).TypeIs (.ref s.heap.objs.size) "bytearray":=⟨_,ds,rfl⟩;show⟨py,DC (ql (by decide+kernel)) EC py LI ?_ (LF _)⟩;unfold Builtin.«bytearray.__init__»;show cV (aU (De "__release_buffer__" py HO (by decide+kernel) (by decide+kernel) (bz ?_)));show h3 rfl ?_;show cV (ey LG ?_);show cV (ey (a:=()) rfl ?_);show cV (ey (a:=()) rfl ?_);show aB ?_;unfold orM;show aB (FE ?_);change aD _ _ (Builtin.Bytes.exportsOf (.ref s.heap.objs.size)>>=fun n=>pure (decide (n>0))) _ _ _;show cV (aU (wpAny_load ds (bz ?_)));show bw ?_;show h3 rfl ?_;show cV (DI ds (e0 _) ?_);show bw ⟨_,rfl,rfl,q _ rfl⟩
end
end
section
open _root_.PySem _root_.PySem.W _root_.PySem.Calls PyProof.Rows
open Sem (wp)
theorem Nl{prog:Program}{w:World}{t:Sem Fin}{s:Shared}{R:Result→Shared→Prop}(RE:s.asleep)(h:aD (model prog w) callerA t (fun v4 s'=>∃f,v4=.done f∧(R (.ok f) s'∧leftWithCleanup s'.gens=false)) (fun e s'=>R (.error e) s'∧leftWithCleanup s'.gens=false) s):∃n r s' f_,runN (denote table) prog w n s ⟨t,.builtin "claim.caller" {},default,[]⟩=.halted (outcomeOf r) s'∧schedN (denote table) prog w n (.single s ⟨t,.builtin "claim.caller" {},default,[]⟩)=.halted (outcomeOf r) s'∧s'.forget=f_.forget∧R r f_:=by
 have g:wp (model prog w) ⟨.builtin "claim.caller" {},none,none,[],none⟩ t (Sem.finPost (model prog w) ⟨.builtin "claim.caller" {},none,none,[],none⟩ fun r s'=>R r s'∧leftWithCleanup s'.gens=false) (fun e _ s'=>R (.error e) s'∧leftWithCleanup s'.gens=false) default s:=by show Sem.wp_mono _ _ t (fun v4 jp s' h'=>?_) (fun _ _ _ h'=>h') default s (h _ default caller_in (by decide+kernel) (fun x ad=>by cases ad));show aW h' fun f cl ch=>?_;subst cl;show ch
 show Fm (wp_halts_full (M:=model prog w) (R:=R) RE g) fun n r a2 lo a1 bi QO mf=>?_;show⟨n,r,lo,a2,bi,a1,QO,mf⟩
theorem Mx{c:ClaimW}{JP:List Value→Sem Fin}{w:World}{s:Shared}{free:Addr→Prop}{gens:Prop}{dv:Heap→Prop}(lm:s.asleep)(qS:s.gens=#[])(RQ:∀args,c.pre args=true→WData.layableAll args=true→∀ord:List DictEntry→List DictEntry,(∀l,(ord l).Perm l)→∃vs a2,layAllW c.records (classAt s.heap) w.params ord args s=some (vs,a2)∧aD (model c.prog w) callerA (JP vs) (fun v4 s'=>∃f,v4=.done f∧(c.Ends s args vs a2 (.ok f) s'∧s'.os=s.os∧AllBare s'.gens∧dv s'.heap)) (fun e s'=>c.Ends s args vs a2 (.error e) s'∧s'.os=s.os∧AllBare s'.gens∧dv s'.heap) a2):c.CallFrom (fun vs=>⟨JP vs,.builtin "claim.caller" {},default,[]⟩) w free gens dv s:=by
 intro args lj s6 ord wx;show sV fun _ done=>?_;show h9 (RQ args lj s6 ord wx) fun vs a2 V Z=>?_;have bh:=layAllW_rest _ _ _ V;obtain⟨k,r,s',f_,I,O,bn,lc,nl,wf⟩:=Nl (R:=fun r s'=>c.Ends s args vs a2 r s'∧s'.os=s.os∧dv s'.heap) (Shared.asleep_of_life bh.2.2.2 lm) (en Z (fun v4 s' ⟨f,e,a,b,d,g⟩=>⟨f,e,⟨a,b,g⟩,leftWithCleanup_false_of_bare d⟩) (fun e s' ⟨a,b,d,g⟩=>⟨⟨a,b,g⟩,leftWithCleanup_false_of_bare d⟩));obtain⟨kW,_,_,iW,_⟩:=Shared.forget_eq bn;have lc:=lc.congr kW;have wf:dv s'.heap:=by rw[kW];show wf
 rw[←iW]at nl;have GP:s'.heap.life=s.heap.life:=(runN_life _ _ _ I).trans bh.2.2.2;show done ⟨vs,a2,V,k,_,s',O,?_,(fun _ i x ad=>by rw[qS]at ad;simp at ad),wf,by rw[GP],Shared.rest_eq nl⟩;show sV fun _ done=>?_;clear I O bn nl kW left left_1 iW right wf GP;rcases lc with⟨v,rfl,ze,zf,zg,zh,zi⟩|⟨e,ln,cls,rfl,ze,zf,zg,zh,zi⟩
 ·show done (.inl ⟨v,rfl,ze,zf,zg,fun b o y _=>zh b o y,zi⟩)
 ·show done (.inr ⟨e,ln,cls,rfl,ze,zf,zg,zh,fun b o y _=>zi b o y⟩)
abbrev dH(q:Program)(loose:List Str)(XP:(Str→Option Value)→Heap→Prop)(YP:World→Heap→Prop)(r:RowW)(d:DefRec)(i5:List (Str×Expr))(run:Value→List Value→Sem Value):Prop:=∀(w:World)(mV a2:Shared)(dO fF:Str→Option Value),Ground q loose r.records XP w mV dO fF a2.heap→YP w a2.heap→∀(a:Addr)(o:Obj)(jL Id jn su tx:Value),a2.heap.get? a=some o→o.data=.func {docDef d.name d.params d.body d.scope jL Id jn with defaults:=su,kwdefaults:=tx}→a2.heap.CodeRec Id d.name→Dflts dO a2.heap d.params i5 su tx→dO d.name=some (.ref a)→a2.gens=#[]→∀(args:List WData)(ls:List Value)(as:List Addr),r.claim.pre args=true→WData.layableAll args=true→ReadsAllW r.records (classAt mV.heap) a2.heap ls args as→WellAll w.params a2.heap ls args→(∀a∈as,(a==sysModules)=false)→aD (model r.prog w) callerA (run (.ref a) ls) (fun v s'=>GoodWG r.claim (classAt mV.heap) (ExcName.means mV.heap) args a2 (.ok (.ret v)) s') (fun e s'=>GoodWG r.claim (classAt mV.heap) (ExcName.means mV.heap) args a2 (.error e) s') a2
theorem PySem.W.holds_open{r:OpenRow}{q:Program}{loose:List Str}{Xt:Shared→Bool}{XP:(Str→Option Value)→Heap→Prop}{α:Type}{Yf:Shared→α}{Ya:World→α}{YP:World→Heap→Prop}{d:DefRec}{i5:List (Str×Expr)}{N:Nat}(left:LeftO r.prog q loose Xt Yf Ya N)(oW:∀w s,Yf s=Ya w→YP w s.heap)(Qi:∀w h h',YP w h→(∀b o,h.get? b=some o→h'.get? b=some o)→YP w h')(po:∀s,Xt s=true→XP (s.heap.nsMap mainGlobals) s.heap)(Qg:∀dO h h',XP dO h→(∀b o,h.get? b=some o→h'.get? b=some o)→XP dO h')(AP:defOf q r.name=some (d,i5))(be:r.prog.theDef r.name=some (d.params,d.body,d.scope))(ak:kwWritten? d.params.kwonlyargs d.params.kw_defaults=some i5)(Qc:∀s,Xt s=true→RecFacts r.records s.heap)(He:(!r.writes||r.records.isEmpty)=true)(k1:r.wellSaid=true)(ok:(chainsOk q&&opensWell r.prog&&(frees r.toRowW&&r.within.isEmpty))=true)(Y:r.prog.bare)(f0:r.toRowW.promised)(call:dH q loose XP YP r.toRowW d i5 fun f vs=>_root_.PySem.call f vs):r.Holds:=by
 show⟨k1,f0,?_⟩;show sV fun _ done=>?_;obtain⟨U0,SP⟩:=hD.mp ok;obtain⟨Gm,tP⟩:=hD.mp U0;obtain⟨k5,SQ⟩:=hD.mp SP;show Nx (frees_parts k5) fun G4 np ds Qs ac=>?_;show done ⟨⟨Y,tP,by change r.toRowW.makers.map _=[];rw[ac];rfl⟩,f0.witness,fun w=>⟨(left.behind po Gm w).1,fun s' fY=>?_⟩⟩;show sV fun _ done=>?_;obtain⟨mV,ch,QQ,s,py,lm,qS,pp,iQ,y⟩:=(left.behind (XP:=fun dO h=>XP dO h∧RecFacts r.records h) (fun s a1=>⟨po s a1,Qc s a1⟩) Gm w).2 s' fY;have DV:Ground q loose [] XP w s (s.heap.nsMap mainGlobals) (s.heap.nsMap builtinsNs) s.heap:=⟨iQ.T,iQ.B,iQ.D,iQ.TE,iQ.TD,iQ.W,iQ.X.1,iQ.cls,iQ.has,iQ.apart,iQ.once,iQ.K⟩;have yK:=iQ.X.2;have Gd:=py;show done ⟨mV,ch,QQ,s,py,fun n bi=>?_,yK.1,yK.2.1,?_⟩
 ·obtain rfl:n=r.name:=by split at bi<;>simp_all
  show pinned_of_view pp DV AP be ak
 have qS:s.gens=#[]:=Array.eq_empty_of_size_eq_zero (dw.mp qS);have G:Ground q loose r.records XP w s _ _ s.heap:=yK.ground DV;show Mx (c:=r.toRowW.claim) lm qS fun args lj s6 ord wx=>?_;show sV fun _ done=>?_;obtain⟨⟨vs,a2⟩,sZ⟩:=Option.isSome_iff_exists.mp (layAllW_isSome (P:=w.params) (ord:=ord) G.has args r.args s (pre_splitW lj).1);have keeps:=layAllW_keeps _ _ _ sZ;have hl:=layAllW_rest _ _ _ sZ;show eA (reads_layAllW wx _ _ _ sZ s6 a2.heap (fun _ _ e=>e)) fun as Bj wa wu=>?_;have L:Laid r.records w s a2 args vs as:=⟨⟨ord,wx,sZ⟩,Bj,wa,wu,keeps,hl.1.trans qS,hl.2.2.1⟩;have yb:=G.keeps Qg keeps;obtain⟨a,o,jL,Id,jn,su,tx,I,O,bn,lc,nl⟩:=yb.fn AP;have an:=ident_freeW np ds Qs;have Hd:r.toRowW.claim.within=[]:=List.isEmpty_iff.mp SQ;have W:=call w s a2 _ _ yb (Qi _ _ _ (oW w s y) keeps) a o jL Id jn su tx O bn lc nl (defOf_name AP▸I) L.gens args vs as lj s6 L.reads L.well (L.low G.low);show done ⟨vs,a2,sZ,?_⟩;change aD _ _ (nsGet mainNs r.name>>=_) _ _ _;show cV (wpAny_nsGet yb.T.g ?_);rw[I];show aB (en W (fun v s' g=>bw ⟨_,rfl,?_⟩) fun e s' g=>?_);·have aa:=g.laid (c:=r.toRowW.claim) G4 Hd an L;show⟨aa.1,aa.2.1,aa.2.2,fun q=>⟨namesKept_of Gd pp _ keeps g.2.1.old,noTable He q⟩⟩
 ·have aa:=g.laid (c:=r.toRowW.claim) G4 Hd an L;show⟨aa.1,aa.2.1,aa.2.2,fun q=>⟨namesKept_of Gd pp _ keeps g.2.1.old,noTable He q⟩⟩
end
section
set_option compiler.extract_closed false
local macro_rules
  | `(tactic| rw [$rs,*]) => do
    let mut ts : Array (Lean.TSyntax `tactic) := #[]
    for r in rs.getElems do
      let t ← match r with
        | `(Lean.Parser.Tactic.rwRule| ← $e:term) => `(tactic| first | refine Mine.Internal.rwF $e ?_ | rewrite [← $e:term])
        | `(Lean.Parser.Tactic.rwRule| $e:term) => `(tactic| first | refine Mine.Internal.rwE $e ?_ | rewrite [$e:term])
        | _ => Lean.Macro.throwUnsupported
      ts := ts.push t
    `(tactic| (($[$ts:tactic]*); try (with_reducible rfl)))
section
open _root_.PySem
theorem aX{G:Prop}(h:∀rP:Prop,(G→rP)→rP):G:=h G id
theorem c5{α go:Type}{x:Option α}{f:α→Option go}{b:go}{G:Prop}(h:x.bind f=some b)(k:∀a,x=some a→f a=some b→G):G:=match x,h,k with
 |some a,h,k=>k a rfl h
 |none,h,_=>cf h
theorem eF{α go:Type}{x:Option α}{f:α→go}{b:go}{G:Prop}(h:x.map f=some b)(k:∀a,x=some a→f a=b→G):G:=match x,h,k with
 |some a,h,k=>k a rfl (bx h)
 |none,h,_=>cf h
set_option genCtorIdx true in
inductive gA where
 |any|str|len|tuple|bytes|bytearray|min|list
 deriving DecidableEq,Inhabited
noncomputable def gA.val:gA→Value
 |.any=>.builtin "any"|.str=>.type "str"|.len=>.builtin "len"|.tuple=>.type "tuple"|.bytes=>.type "bytes"|.bytearray=>.type "bytearray"|.min=>.builtin "min"|.list=>.type "list"
set_option genCtorIdx true in
inductive ag where
 |none
 |bool (b:Bool)
 |int (i:Int)
 |str (s:Str)
 |bytes (l:List Int)
 |av (l:List ag)
 |ref (k:Nat)
 |fn (a:Addr)
 |b0 (b:gA)
 deriving Inhabited
set_option genCtorIdx true in
inductive c8 where
 |ej|at|l9|c2
 deriving DecidableEq,Inhabited
noncomputable def c8.str:c8→Str
 |.ej=>"octets"|.at=>"at"|.l9=>"end"|.c2=>"why"
noncomputable def c8.all:List c8:=[.ej,.at,.l9,.c2]
set_option genCtorIdx true in
inductive dG where
 |b2|d_|gn|hW|ob|lJ|mC|ko|ja|rA|xE|xF|xG|n1
 deriving DecidableEq,Inhabited
noncomputable def dG.str:dG→Str
 |.b2=>"append"|.d_=>"extend"|.gn=>"pop"|.hW=>"octet"|.ob=>"unsigned"|.lJ=>"signed"|.mC=>"many"|.ko=>"put"
 |.ja=>"u32"|.rA=>"s7"|.xE=>"s32"|.xF=>"s33"|.xG=>"s64"|.n1=>"peek"
noncomputable def dG.all:List dG:=[.b2,.d_,.gn,.hW,.ob,.lJ,.mC,.ko,.ja,.rA,.xE,.xF,.xG,.n1]
abbrev c9:=List (c8×ag)
set_option genCtorIdx true in
inductive aI where
 |list (l:List ag)
 |bS (l:List Int)
 |b_ (C:Addr) (dL:c9)
 |a6 (C:Addr) (dL:c9)
 |cX (C:Addr) (dL:c9)
 deriving Inhabited
abbrev ae:=List aI
abbrev aq:=List (Option ag)
mutual
inductive a0 where
 |aC (v:ag)
 |aw (i:Nat)
 |lG (i:Int) (n:Nat)
 |aV (op:Operator) (a b:a0)
 |neg (a:a0)
 |aQ (op:CmpOp) (a b:a0)
 |jk (a:a0) (op:CmpOp) (b:a0) (f6:CmpOp) (c:a0)
 |not (a:a0)
 |and (a b:a0)
 |or (a b:a0)
 |ite (c a b:a0)
 |av (l:b5)
 |bM (l:b5)
 |sub (a i:a0)
 |hx (a z an:a0)
 |bO (a:a0) (f:c8)
 |call (f:a0) (as:b5)
 |bq (a:a0) (m:dG) (as:b5)
 |init (C:Addr) (as:b5)
 |comp (u8:a0) (Y9:List Nat) (tt:a0) (bW:Bool) (n:Nat) (ut:List (Nat×Nat))
inductive b5 where
 |nil
 |cons (e:a0) (r:b5)
end
inductive eI where
 |aw (i:Nat)
 |fe (l:List Nat)
 |bO (o:a0) (f:c8)
 |sub (o i:a0)
mutual
inductive kJ where
 |bB (e:a0)
 |ret (e:a0)
 |a5 (t:eI) (e:a0)
 |m8 (i:Nat) (e:a0)
 |ite (c:a0) (a b:bZ)
 |iJ (c:a0) (b:bZ)
 |fx (t:List Nat) (tt:a0) (bW:Bool) (b:bZ)
 |dV (C:Addr) (as:b5)
 |n9 (b:bZ) (a1:h4)
inductive bZ where
 |nil
 |cons (s:kJ) (r:bZ)
inductive h4 where
 |nil
 |cons (C:Addr) (i:Nat) (b:bZ) (r:h4)
end
noncomputable abbrev a0.k(i:Int):a0:=.aC (.int i)
noncomputable abbrev a0.g(s:Str):a0:=.aC (.str s)
noncomputable abbrev a0.h(a:Addr):a0:=.aC (.fn a)
noncomputable abbrev a0.aE:a0:=.aw 0
noncomputable abbrev a0.aj:a0:=.aw 1
noncomputable abbrev a0.ao:a0:=.aw 2
noncomputable abbrev a0.ay:a0:=.aw 3
noncomputable abbrev a0.a7:a0:=.aw 4
noncomputable abbrev a0.cx:a0:=.aw 5
noncomputable abbrev eI.aE:eI:=.aw 0
noncomputable abbrev eI.aj:eI:=.aw 1
noncomputable abbrev eI.ao:eI:=.aw 2
noncomputable abbrev eI.ay:eI:=.aw 3
noncomputable abbrev eI.a7:eI:=.aw 4
noncomputable abbrev eI.cx:eI:=.aw 5
noncomputable abbrev b5.c(a:a0)(l:b5):b5:=.cons a l
noncomputable abbrev b5.o(a:a0):b5:=.cons a .nil
noncomputable abbrev h4.c(C:Addr)(i:Nat)(b:bZ)(r:h4):h4:=.cons C i b r
noncomputable abbrev bZ.c(a:kJ)(l:bZ):bZ:=.cons a l
noncomputable abbrev bZ.o(a:kJ):bZ:=.cons a .nil
structure bC where
 n:Nat
 aZ:List Nat
 body:bZ
set_option genCtorIdx true in
inductive aG(α:Type)where
 |ok (a:α) (j:ae)
 |a6 (k:Nat) (j:ae)
 |aS
noncomputable def aG.bind{α go:Type}(x:aG α)(f:α→ae→aG go):aG go:=match x with
 |.ok a j=>f a j
 |.a6 k j=>.a6 k j
 |.aS=>.aS
@[simp]theorem aG.yU{α go:Type}(a:α)(j:ae)(f:α→ae→aG go):(aG.ok a j).bind f=f a j:=rfl
@[simp]theorem aG.LW{α go:Type}(k:Nat)(j:ae)(f:α→ae→aG go):(aG.a6 k j).bind f=.a6 k j:=rfl
@[simp]theorem aG.LX{α go:Type}(f:α→ae→aG go):(aG.aS:aG α).bind f=.aS:=rfl
noncomputable def aG.bg{α:Type}(x:Option α)(j:ae):aG α:=match x with
 |some a=>.ok a j
 |none=>.aS
@[simp]theorem aG.YY{α:Type}(a:α)(j:ae):aG.bg (some a) j=.ok a j:=rfl
@[simp]theorem aG.YX{α:Type}(j:ae):aG.bg (none:Option α) j=.aS:=rfl
noncomputable def h6{α:Type}(x:Option Bool)(a b:aG α):aG α:=match x with
 |some true=>a
 |some false=>b
 |none=>.aS
@[simp]theorem Yh{α:Type}(a b:aG α):h6 (some true) a b=a:=rfl
@[simp]theorem Ye{α:Type}(a b:aG α):h6 (some false) a b=b:=rfl
@[simp]theorem Yg{α:Type}(a b:aG α):h6 none a b=.aS:=rfl
inductive bH where
 |next (z:aq) (j:ae)
 |ret (v:ag) (z:aq) (j:ae)
 |a6 (k:Nat) (z:aq) (j:ae)
 |aS
noncomputable def bH.bind(x:bH)(f:aq→ae→bH):bH:=match x with
 |.next z j=>f z j
 |.ret v z j=>.ret v z j
 |.a6 k z j=>.a6 k z j
 |.aS=>.aS
@[simp]theorem bH.X_(z:aq)(j:ae)(f:aq→ae→bH):(bH.next z j).bind f=f z j:=rfl
@[simp]theorem bH.X'(v:ag)(z:aq)(j:ae)(f:aq→ae→bH):(bH.ret v z j).bind f=.ret v z j:=rfl
@[simp]theorem bH.LW(k:Nat)(z:aq)(j:ae)(f:aq→ae→bH):(bH.a6 k z j).bind f=.a6 k z j:=rfl
@[simp]theorem bH.LX(f:aq→ae→bH):bH.aS.bind f=.aS:=rfl
noncomputable def kS(x:Option Bool)(a b:bH):bH:=match x with
 |some true=>a
 |some false=>b
 |none=>.aS
@[simp]theorem Yd(a b:bH):kS (some true) a b=a:=rfl
@[simp]theorem Yb(a b:bH):kS (some false) a b=b:=rfl
@[simp]theorem Yc(a b:bH):kS none a b=.aS:=rfl
noncomputable def aG.toS{α:Type}(x:aG α)(z:aq)(f:α→ae→bH):bH:=match x with
 |.ok a j=>f a j
 |.a6 k j=>.a6 k z j
 |.aS=>.aS
@[simp]theorem aG.Y'{α:Type}(a:α)(j:ae)(z:aq)(f:α→ae→bH):(aG.ok a j).toS z f=f a j:=rfl
@[simp]theorem aG.Y_{α:Type}(k:Nat)(j:ae)(z:aq)(f:α→ae→bH):(aG.a6 k j).toS z f=.a6 k z j:=rfl
@[simp]theorem aG.Za{α:Type}(z:aq)(f:α→ae→bH):(aG.aS:aG α).toS z f=.aS:=rfl
noncomputable def qI(dL:c9)(f:c8):Option ag:=match dL with
 |[]=>none
 |(g,v)::r=>if g=f then some v else qI r f
noncomputable def kp(dL:c9)(f:c8)(v:ag):c9:=match dL with
 |[]=>[(f,v)]
 |(g,u)::r=>if g=f then(g,v)::r else(g,u)::kp r f v
noncomputable def fQ:Addr:=459
noncomputable def eN:Addr:=529
noncomputable def e4:Addr:=134
noncomputable def bE:Addr:=154
noncomputable def dy:Addr:=173
noncomputable def fR:Addr:=185
noncomputable def W0(l:List (Int×String)):List (Int×ag):=l.map fun p=>(p.1,.str p.2)
noncomputable def kb:List (Int×ag):=W0 [(0,"none"),(1,"none"),(2,"block"),(3,"block"),(4,"block"),(5,"none"),(11,"none"),(12,"label"),(13,"label"),(14,"labels"),(15,"none"),(16,"func"),(17,"indirect"),(18,"func"),(19,"indirect"),(26,"none"),(27,"none"),(28,"kinds"),(32,"local"),(33,"local"),(34,"local"),(35,"global"),(36,"global"),(37,"table"),(38,"table"),(63,"memory"),(64,"memory"),(65,"i32"),(66,"i64"),(208,"refkind"),(209,"none"),(210,"func"),(64520,"memory_init"),(64521,"data"),(64522,"two_memories"),(64523,"memory"),(64524,"table_init"),(64525,"elem"),(64526,"table_copy"),(64527,"table"),(64528,"table"),(64529,"table")]
noncomputable def oH(a:Addr):Option (List (Int×ag)):=if a=22 then some ([40,41,44,45,46,47,48,49,50,51,52,53].map fun k=>(k,.none))else if a=35 then some ([54,55,58,59,60,61,62].map fun k=>(k,.none))else if a=52 then some kb else none
noncomputable def rp(l:List (Int×Int)):List ag:=l.map fun p=>.av [.int p.1,.int p.2]
noncomputable def w8(a:Addr):Option (List ag):=if a=51 then some (rp [(42,43),(56,57),(67,68),(91,102),(139,166),(168,171),(174,191),(64512,64519)])else none
noncomputable def dS(l:List Int):ag:=.av (l.map .int)
noncomputable def UQ:ag:=.av [.av [.int 69,.int 69,dS [-1],dS [-1]],.av [.int 70,.int 79,dS [-1,-1],dS [-1]],.av [.int 80,.int 80,dS [-2],dS [-1]],.av [.int 81,.int 90,dS [-2,-2],dS [-1]],.av [.int 103,.int 105,dS [-1],dS [-1]],.av [.int 106,.int 120,dS [-1,-1],dS [-1]],.av [.int 121,.int 123,dS [-2],dS [-2]],.av [.int 124,.int 138,dS [-2,-2],dS [-2]],.av [.int 167,.int 167,dS [-2],dS [-1]],.av [.int 172,.int 173,dS [-1],dS [-2]],.av [.int 192,.int 193,dS [-1],dS [-1]],.av [.int 194,.int 196,dS [-2],dS [-2]]]
noncomputable def Oc:List (String×Addr):=[("number_kind",98),("form_of",105),("is_block",112),("is_left_out",117),("put_kind",194),("put_kinds",201),("put_block_kind",208),("put_code",215),("put_numbers",222),("put_immediates",229),("put_instruction",236),("write_body",243),("list_at",252),("index_at",259),("want_kept",266),("told_kind",273),("kind_at",280),("ref_kind_at",287),("block_kind_at",294),("want_zero",301),("memarg_at",308),("labels_at",315),("first_immediates_at",322),("immediates_at",329),("code_at",336),("body_at",343),("_law_next",540),("_law_pick",547),("_law_rows",554),("_law_index",561),("_law_signed",568),("_law_kind",575),("_law_block",582),("_law_numbers",587),("_law_groups",592),("_law_free",599),("_law_own",606),("_law_told",611),("_law_code",618),("_law_step",625),("_law_plain",632),("_law_steps",639),("_law_joined",646),("_law_due",651),("_law_read",658),("_law_none",665),("_law_broken",672),("Cursor",459),("Sink",529),("Malformed",154),("LeftOut",173),("Misused",185),("LOADS",22),("STORES",35),("FORMS",52),("LEFT_RANGES",51)]
noncomputable def Sl:List (String×Int):=[("I32",-1),("I64",-2),("FUNCREF",-16),("EXTERNREF",-17),("EMPTY",-64),("BLOCK",2),("LOOP",3),("IF",4),("ELSE",5),("END",11),("MANY_PREFIX",252),("VECTOR_PREFIX",253),("PREFIXED",64512),("SEVEN",127),("EMPTY_OCTET",64),("BODY",0),("LAST_SUB",17),("VECTOR",-5),("GREATEST_ALIGN",31)]
noncomputable def Xh:List (String×Addr×ag):=[("NUMBERS",91,UQ),("DATA_CODES",244,dS [64520,64521]),("FLOATS",245,dS [-3,-4])]
noncomputable def Mi:List (String×gA):=[("any",.any),("str",.str),("len",.len),("tuple",.tuple),("bytes",.bytes),("bytearray",.bytearray),("min",.min),("list",.list)]
noncomputable def F4:List (Str×ag):=Oc.map (fun p=>((p.1:Str),.fn p.2))++Sl.map (fun p=>((p.1:Str),.int p.2))++Xh.map (fun p=>((p.1:Str),p.2.2))++Mi.map (fun p=>((p.1:Str),.b0 p.2))
noncomputable def oQ(x:Str):Option ag:=F4.lookup x
noncomputable def sk(x:Str):Option Addr:=if x==("Malformed":Str)then some bE else if x==("LeftOut":Str)then some dy else if x==("Misused":Str)then some fR else none
noncomputable def gu(aaa:List (Str×NameKind))(x:Str):Option Nat:=aaa.findIdx? fun p=>p.1==x
noncomputable def qF(x:Str):Option c8:=c8.all.find? fun f=>f.str==x
noncomputable def H5(x:Str):Option dG:=dG.all.find? fun f=>f.str==x
noncomputable def kv(aaa:List (Str×NameKind))(x:Str):Option Nat:=(aaa.lookup x).bind fun k=>if k=.local∨k=.cell then gu aaa x else none
noncomputable def Jj(aaa:List (Str×NameKind))(x:Str):Option Nat:=(aaa.lookup x).bind fun k=>if k=.local then gu aaa x else none
noncomputable def Il:Expr→Bool
 |.ListComp .. =>false
 |.SetComp .. =>false
 |.DictComp .. =>false
 |_=>true
noncomputable def nf(v6:List (Str×NameKind)):Nat→List (Str×NameKind)→Option (List (Nat×Nat))
 |_,[]=>some []
 |i,(x,k)::r=>if k==NameKind.free then(gu v6 x).bind fun af=>(nf v6 (i+1) r).map fun l=>(i,af)::l else nf v6 (i+1) r
theorem MH{v6 r:List (Str×NameKind)}{i:Nat}{x:Str}{k:NameKind}:nf v6 i ((x,k)::r)=if k==NameKind.free then(gu v6 x).bind fun af=>(nf v6 (i+1) r).map fun l=>(i,af)::l else nf v6 (i+1) r:=rfl
noncomputable def ng(v6 aaa:List (Str×NameKind)):Option (List (Nat×Nat)):=nf v6 0 aaa
noncomputable def tL:Expr→Bool
 |.Name .. =>true
 |.Attribute .. =>true
 |_=>false
noncomputable def xh:Expr→Bool
 |.Slice .. =>false
 |_=>true
noncomputable def xH(v6:List (Str×NameKind))(aab:Scope):Bool:=aab.kind==.function&&decide ((aab.names.map (·.1)).Nodup)&&aab.names.all fun p=>p.2 !=.cell&&(p.2 !=.free||v6.lookup p.1==some .cell||v6.lookup p.1==some .free)
end
section
open _root_.PySem
noncomputable def aP:Nat:=1048576
noncomputable def cZ(a:Addr):Bool:=a==fQ||a==eN
noncomputable def gN(C:Addr):Addr:=if C=fQ then 358 else if C=eN then 477 else if C=bE then 151 else if C=dy then 170 else 131
noncomputable def gm(C:Addr)(m:dG):Option Addr:=if C=fQ then(match m with
 |.n1=>some 379|.hW=>some 386|.ob=>some 407|.lJ=>some 414|.ja=>some 421|.rA=>some 428|.xE=>some 435|.xF=>some 442|.xG=>some 449
 |_=>none)
 else if C=eN then(match m with
  |.hW=>some 484|.ko=>some 491|.ob=>some 498|.lJ=>some 505|.mC=>some 512
  |_=>none)
 else none
noncomputable def dz{α go:Type}(f:α→Option go):List α→Option (List go)
 |[]=>some []
 |x::r=>(f x).bind fun y=>(dz f r).bind fun ys=>some (y::ys)
noncomputable def bL{α go:Type}(x:Option α)(f:α→aG go):aG go:=match x with
 |some a=>f a
 |none=>.aS
noncomputable def eb{α:Type}(x:Option α)(f:α→bH):bH:=match x with
 |some a=>f a
 |none=>.aS
noncomputable def wV:ag→Option (List ag)
 |.av l=>some l
 |_=>none
noncomputable def gO:ag→Option Nat
 |.ref k=>some k
 |_=>none
noncomputable def isStr:ag→Option Str
 |.str s=>some s
 |_=>none
noncomputable def BQ:ag→Option Addr
 |.fn a=>some a
 |_=>none
noncomputable def wR:ag→Option (List Int)
 |.bytes l=>some l
 |_=>none
noncomputable def aI.wU:aI→Option (List ag)
 |.list l=>some l
 |_=>none
noncomputable def f5:List ag→Option ag
 |v::r=>(match r with
  |[]=>some v
  |_=>none)
 |[]=>none
noncomputable def kZ{α:Type}(c:Prop)[Decidable c](x:α):Option α:=if c then some x else none
noncomputable def c1(j:ae):Nat→ag→Option PyData
 |0,_=>none
 |n+1,v=>match v with
  |.none=>some .none
  |.bool b=>some (.bool b)
  |.int i=>some (.int i)
  |.str s=>if PyData.strOk s then some (.str s)else none
  |.av l=>(dz (c1 j n) l).map .tuple
  |.ref k=>((j[k]?).bind aI.wU).bind fun l=>(dz (c1 j n) l).map .list
  |_=>none
noncomputable def ck:ag→Option Bool
 |.bool b=>some b
 |.int i=>some (i !=0)
 |_=>none
noncomputable def isInt:ag→Option Int
 |.int i=>some i
 |_=>none
noncomputable def tp:ag→Option Int
 |.int i=>if 0≤i∧i<256 then some i else none
 |_=>none
noncomputable def wQ:ag→Option Bool
 |.bool b=>some b
 |_=>none
noncomputable def c0(j:ae)(k:Nat):Option (List ag):=(j[k]?).bind aI.wU
noncomputable def es(l:List ag)(j:ae):aG ag:=if l.length<aP then .ok (.ref j.length) (j++[.list l])else .aS
noncomputable def i_(i:Int)(n:Nat):Option Nat:=if 0≤i then(if i<n then some i.toNat else none)else if 0≤i+n then some (i+n).toNat else none
noncomputable def tn(op:Operator)(x y:Int):Option Int:=match op with
 |.Add=>some (x+y)
 |.Sub=>some (x-y)
 |.Mult=>if x.natAbs<2^100∧y.natAbs<2^100 then some (x*y)else none
 |.FloorDiv=>if y≠0∧y.natAbs<2^100 then some (x.fdiv y)else none
 |.Mod=>if y≠0∧y.natAbs<2^100 then some (x.fmod y)else none
 |.Pow=>if 0≤y∧y≤1000∧x.natAbs<2^64 then some (x^y.toNat)else none
 |.BitAnd=>some (Builtin.bitAnd x y)
 |.BitOr=>some (Builtin.bitOr x y)
 |.RShift=>if 0≤y then some (x.fdiv (2^y.toNat))else none
 |.LShift=>if 0≤y∧y≤1000∧x.natAbs<2^64 then some (x*2^y.toNat)else none
 |_=>none
noncomputable def cj(op:Operator)(x y:ag)(j:ae):aG ag:=match x with
 |.int a=>bL (isInt y) fun b=>aG.bg ((tn op a b).map .int) j
 |.str a=>bL (isStr y) fun b=>if op=.Add∧a.cps.size+b.cps.size<aP then .ok (.str (a++b)) j else .aS
 |.av a=>bL (wV y) fun b=>if op=.Add∧a.length+b.length<aP then .ok (.av (a++b)) j else .aS
 |.ref a=>bL ((gO y).bind (c0 j)) fun r=>bL (c0 j a) fun l=>if op=.Add then es (l++r) j else .aS
 |_=>.aS
noncomputable def vt(j:ae)(x y:ag):Option Bool:=(c1 j 8 x).bind fun d=>(c1 j 8 y).bind fun e=>kZ ((SeqAt.shaped d&&SeqAt.shaped e)=true) (PyData.eqv d e)
noncomputable def h_(j:ae)(x y:ag):Option Bool:=match x with
 |.bytes a=>(wR y).map fun b=>a==b
 |x=>vt j x y
noncomputable def wN(x:ag)(l:List ag):Option Bool:=(c1 [] 8 x).bind fun d=>(dz (c1 [] 8) l).bind fun wr=>kZ ((d.canLay0&&PyData.canLayAll0 wr&&d.depth==0)=true) (wr.any fun y=>PyData.eqv y d)
noncomputable def tk(x y:ag):Option Bool:=match y with
 |.av l=>wN x l
 |.fn a=>(isInt x).bind fun i=>(oH a).map fun l=>(l.lookup i).isSome
 |_=>none
noncomputable def ag.isNone:ag→Bool
 |.none=>true
 |_=>false
noncomputable def ri:ag→Option ag
 |.b0 _=>none
 |x=>some x
noncomputable def tm(f:Int→Int→Bool)(x y:ag):Option Bool:=(isInt x).bind fun a=>(isInt y).map fun b=>f a b
noncomputable def cC(op:CmpOp)(x y:ag)(j:ae):Option Bool:=match op with
 |.Eq=>h_ j x y
 |.NotEq=>(h_ j x y).map (!·)
 |.Is=>if y.isNone=true then(ri x).map fun x=>x.isNone else none
 |.IsNot=>if y.isNone=true then(ri x).map fun x=>!x.isNone else none
 |.In=>tk x y
 |.NotIn=>(wV y).bind fun l=>(wN x l).map (!·)
 |.Lt=>tm (fun a b=>decide (a<b)) x y
 |.LtE=>tm (fun a b=>decide (a≤b)) x y
 |.Gt=>tm (fun a b=>decide (b<a)) x y
 |.GtE=>tm (fun a b=>decide (b≤a)) x y
noncomputable def n7(l:List ag)(i:Int):Option ag:=if l.length<aP then(i_ i l.length).bind fun af=>l[af]? else none
noncomputable def dj(j:ae)(x i:ag):Option ag:=(isInt i).bind fun i=>match x with
 |.av l=>n7 l i
 |.bytes l=>if 0≤i∧l.length<aP then(l[i.toNat]?).map .int else none
 |.ref k=>(c0 j k).bind fun l=>n7 l i
 |.fn a=>(oH a).bind fun l=>(l.lookup i).bind fun v=>(isStr v).map .str
 |_=>none
noncomputable def Wq(l:List ag)(an:ag)(j:ae):aG ag:=bL (isInt an) fun i=>if 0≤i∧l.length<aP then es (l.take i.toNat) j else .aS
noncomputable def i'(x z an:ag)(j:ae):aG ag:=match x with
 |.av l=>bL (isInt z) fun i=>if an.isNone=true∧1≤i∧i≤l.length∧l.length<aP then .ok (.av (l.drop i.toNat)) j else .aS
 |.ref k=>bL (c0 j k) fun l=>(match z with
  |.int i=>if an.isNone=true∧0≤i∧l.length<aP then es (l.drop i.toNat) j else .aS
  |.none=>Wq l an j
  |_=>.aS)
 |_=>.aS
noncomputable def cD(C:Addr):Bool:=C==bE||C==dy||C==fR
noncomputable def vJ:aI→Option c9
 |.b_ C dL=>if cZ C=true then some dL else none
 |.a6 C dL=>if cD C=true then some dL else none
 |.cX C dL=>if cD C=true then some dL else none
 |_=>none
noncomputable def c'(j:ae)(x:ag)(f:c8):Option ag:=(gO x).bind fun k=>(j[k]?).bind fun o=>(vJ o).bind fun dL=>(qI dL f).bind ri
structure aY where
 N:Nat
 sa:Addr
 ns:List Int
 hd:Bool
 d':Addr→List ag→ae→aG ag
noncomputable def Ep(P:aY)(v:ag)(j:ae):aG ag:=if P.hd then aG.bg ((((gO v).bind (c0 j)).bind (dz wQ)).map fun l=>.bool (l.any id)) j else .aS
noncomputable def Ey(v:ag)(j:ae):aG ag:=bL (isInt v) fun i=>if-100000000<i∧i<100000000000 then .ok (.str (Str.ofString (toString i))) j else .aS
noncomputable def Eu(v:ag)(j:ae):aG ag:=match v with
 |.av l=>if l.length<aP then .ok (.int l.length) j else .aS
 |.bytes l=>if l.length<aP then .ok (.int l.length) j else .aS
 |.ref k=>bL (c0 j k) fun l=>if l.length<aP then .ok (.int l.length) j else .aS
 |_=>.aS
noncomputable def Ez(v:ag)(j:ae):aG ag:=bL ((gO v).bind (c0 j)) fun l=>if l.length<aP then .ok (.av l) j else .aS
noncomputable def Es(P:aY)(v:ag)(j:ae):aG ag:=bL ((gO v).bind fun k=>j[k]?) fun o=>match o with
 |.list l=>if P.hd∧l.length<aP then aG.bg ((dz tp l).map .bytes) j else .aS
 |.bS l=>if l.length<aP then .ok (.bytes l) j else .aS
 |_=>.aS
noncomputable def Ew(P:aY)(v:ag)(j:ae):aG ag:=bL (BQ v) fun a=>if a=P.sa then es (P.ns.map .int) j else .aS
noncomputable def Ex(P:aY)(xs:List ag)(j:ae):aG ag:=match xs with
 |x::r=>bL (isInt x) fun a=>bL ((f5 r).bind isInt) fun b=>if P.hd then .ok (.int (if b<a then b else a)) j else .aS
 |[]=>.aS
noncomputable def cY(P:aY)(b:gA)(xs:List ag)(j:ae):aG ag:=match b with
 |.any=>bL (f5 xs) fun v=>Ep P v j
 |.str=>bL (f5 xs) fun v=>Ey v j
 |.len=>bL (f5 xs) fun v=>Eu v j
 |.tuple=>bL (f5 xs) fun v=>Ez v j
 |.bytes=>bL (f5 xs) fun v=>Es P v j
 |.bytearray=>if xs.isEmpty=true then .ok (.ref j.length) (j++[.bS []])else .aS
 |.min=>Ex P xs j
 |.list=>bL (f5 xs) fun v=>Ew P v j
noncomputable def nd(P:aY)(f:ag)(xs:List ag)(j:ae):aG ag:=match f with
 |.fn a=>if !P.hd then .aS else if cZ a then(P.d' (gN a) (.ref j.length::xs) (j++[.b_ a []])).bind fun v H=>(match v with
  |.none=>.ok (.ref j.length) H
  |_=>.aS)
  else P.d' a xs j
 |.b0 b=>cY P b xs j
 |_=>.aS
noncomputable def Hz(k:Nat)(l:List ag)(xs:List ag)(j:ae):aG ag:=bL (f5 xs) fun v=>if l.length<aP then .ok .none (j.set k (.list (l++[v])))else .aS
noncomputable def HA(k:Nat)(l:List ag)(xs:List ag)(j:ae):aG ag:=bL ((f5 xs).bind gO) fun af=>bL (c0 j af) fun r=>if af≠k∧l.length+r.length<aP then .ok .none (j.set k (.list (l++r)))else .aS
noncomputable def Vf(k:Nat)(l:List ag)(j:ae):aG ag:=bL l.getLast? fun v=>if l.length<aP then .ok v (j.set k (.list l.dropLast))else .aS
noncomputable def Ve(k:Nat)(l:List ag)(j:ae):aG ag:=match l with
 |v::r=>if r.length+1<aP then .ok v (j.set k (.list r))else .aS
 |[]=>.aS
noncomputable def HB(k:Nat)(l:List ag)(xs:List ag)(j:ae):aG ag:=if xs.isEmpty=true then Vf k l j else bL ((f5 xs).bind isInt) fun i=>if i=0 then Ve k l j else .aS
noncomputable def Er(k:Nat)(l:List Int)(xs:List ag)(j:ae):aG ag:=bL ((f5 xs).bind isInt) fun i=>if l.length<aP∧0≤i∧i<256 then .ok .none (j.set k (.bS (l++[i])))else .aS
noncomputable def Et(k:Nat)(l:List Int)(xs:List ag)(j:ae):aG ag:=bL ((f5 xs).bind wR) fun r=>if l.length+r.length<aP then .ok .none (j.set k (.bS (l++r)))else .aS
noncomputable def se(P:aY)(k:Nat)(ln:aI)(o:ag)(m:dG)(xs:List ag)(j:ae):aG ag:=match ln with
 |.list l=>(match m with
  |.b2=>Hz k l xs j
  |.d_=>HA k l xs j
  |.gn=>HB k l xs j
  |_=>.aS)
 |.bS l=>(match m with
  |.b2=>Er k l xs j
  |.d_=>Et k l xs j
  |_=>.aS)
 |.b_ C _=>if !P.hd then .aS else bL (gm C m) fun f=>P.d' f (o::xs) j
 |_=>.aS
noncomputable def cJ(P:aY)(o:ag)(m:dG)(xs:List ag)(j:ae):aG ag:=bL (gO o) fun k=>bL j[k]? fun ln=>se P k ln o m xs j
noncomputable def AK(m:dG):aI→Bool
 |.list _=>m==.b2||m==.d_||m==.gn
 |.bS _=>m==.b2||m==.d_
 |.b_ C _=>cZ C&&(gm C m).isSome
 |_=>false
noncomputable def ht(_:aY)(j:ae)(o:ag)(m:dG):Bool:=(((gO o).bind fun k=>j[k]?).map (AK m)).getD false
noncomputable def BP:aI→Option Addr
 |.a6 C _=>some C
 |_=>none
noncomputable def vd(P:aY)(C:Addr)(xs:List ag)(j:ae):aG ag:=if !P.hd then .aS else if C=e4 then P.d' 131 xs j else match xs with
 |x::r=>bL (f5 r) fun _=>bL ((gO x).bind fun k=>(j[k]?).bind BP) fun C=>if cD C then .ok .none j else .aS
 |[]=>.aS
noncomputable def dg(z:aq)(i:Nat)(v:ag):aq:=z.set i (some v)
noncomputable def gs(z:aq):List Nat→List ag→Option aq
 |[],[]=>some z
 |i::o0,v::vs=>gs (dg z i v) o0 vs
 |_,_=>none
noncomputable def dY(z:aq)(t:List Nat)(v:ag):Option aq:=match t with
 |[i]=>some (dg z i v)
 |t=>match v with
  |.av l=>if t.Nodup then gs z t l else none
  |_=>none
noncomputable def e5(z:aq):List (Nat×Nat)→aq→aq
 |[],r=>r
 |(i,af)::pr,r=>e5 z pr (r.set i ((z[af]?).join))
theorem MD{z r:aq}{i af:Nat}{pr:List (Nat×Nat)}:e5 z ((i,af)::pr) r=e5 z pr (r.set i ((z[af]?).join)):=rfl
inductive d8 where
 |all (l:List ag)
 |cc (k:Nat)
noncomputable def nh(s:Str):List ag:=s.cps.toList.map fun c=>.str ⟨#[c]⟩
noncomputable def d6(j:ae)(bW:Bool)(v:ag):Option d8:=match bW with
 |true=>(isInt v).bind fun n=>kZ (n<aP∧-aP<n) (.all ((List.range n.toNat).map fun(i:Nat)=>.int i))
 |false=>(match v with
  |.av l=>some (.all l)
  |.str s=>some (.all (nh s))
  |.ref k=>(c0 j k).map fun _=>.cc k
  |.fn a=>(w8 a).map .all
  |_=>none)
noncomputable def lD(k:Nat)(v:ag)(j:ae):Option ae:=(c0 j k).bind fun l=>kZ (l.length<aP) (j.set k (.list (l++[v])))
noncomputable def gQ(db:d8)(i:Nat)(j:ae):Option (Option ag):=match db with
 |.all l=>some l[i]?
 |.cc k=>(c0 j k).bind fun l=>kZ (l.length<aP) l[i]?
noncomputable def gG(f:ag→ae→aG ag)(k:Nat)(db:d8):Nat→Nat→ae→aG Unit
 |0,_,_=>.aS
 |n+1,i,j=>match gQ db i j with
  |some (some x)=>(f x j).bind fun y j=>bL (lD k y j) fun j=>gG f k db n (i+1) j
  |some none=>.ok () j
  |none=>.aS
noncomputable def kX(f:ag→aq→ae→bH)(db:d8):Nat→Nat→aq→ae→bH
 |0,_,_,_=>.aS
 |n+1,i,z,j=>match gQ db i j with
  |some (some x)=>(f x z j).bind (kX f db n (i+1))
  |some none=>.next z j
  |none=>.aS
noncomputable def zb(f:ag→ae→aG ag)(k:Nat)(db:d8)(n i:Nat)(j:ae)(r:Option ag):aG Unit:=match r with
 |some x=>(f x j).bind fun y j=>bL (lD k y j) fun j=>gG f k db n (i+1) j
 |none=>.ok () j
theorem E5{f:ag→ae→aG ag}{k:Nat}{db:d8}{n i:Nat}{j:ae}{x:ag}:zb f k db n i j (some x)=(f x j).bind fun y j=>bL (lD k y j) fun j=>gG f k db n (i+1) j:=rfl
theorem E4{f:ag→ae→aG ag}{k:Nat}{db:d8}{n i:Nat}{j:ae}:gG f k db (n+1) i j=bL (gQ db i j) (zb f k db n i j):=by
 show(?_:(match gQ db i j with
  |some (some x)=>_
  |some none=>_
  |none=>_)=_)
 cases gQ db i j with
 |none=>rfl
 |some r=>cases r<;>rfl
noncomputable def Ax(f:ag→aq→ae→bH)(db:d8)(n i:Nat)(z:aq)(j:ae)(r:Option ag):bH:=match r with
 |some x=>(f x z j).bind (kX f db n (i+1))
 |none=>.next z j
theorem FL{f:ag→aq→ae→bH}{db:d8}{n i:Nat}{z:aq}{j:ae}{x:ag}:Ax f db n i z j (some x)=(f x z j).bind (kX f db n (i+1)):=rfl
theorem FK{f:ag→aq→ae→bH}{db:d8}{n i:Nat}{z:aq}{j:ae}:kX f db (n+1) i z j=eb (gQ db i j) (Ax f db n i z j):=by
 show(?_:(match gQ db i j with
  |some (some x)=>_
  |some none=>_
  |none=>_)=_)
 cases gQ db i j with
 |none=>rfl
 |some r=>cases r<;>rfl
noncomputable def rN(c:aq→ae→aG ag)(b:aq→ae→bH):Nat→aq→ae→bH
 |0,_,_=>.aS
 |n+1,z,j=>(c z j).toS z fun v j=>kS (ck v) ((b z j).bind fun z j=>rN c b n z j) (.next z j)
mutual
noncomputable def den(P:aY):a0→aq→ae→aG ag
 |.aC v,_,j=>.ok v j
 |.aw i,z,j=>aG.bg ((z[i]?).join) j
 |.lG i n,_,j=>if n<100∧0<n then es (List.replicate n (.int i)) (j++[.list [.int i]])else .aS
 |.aV op a b,z,j=>(den P a z j).bind fun x j=>(den P b z j).bind fun y j=>cj op x y j
 |.neg a,z,j=>(den P a z j).bind fun x j=>aG.bg ((isInt x).map fun i=>.int (-i)) j
 |.aQ op a b,z,j=>(den P a z j).bind fun x j=>(den P b z j).bind fun y j=>aG.bg ((cC op x y j).map .bool) j
 |.jk a op b f6 c,z,j=>(den P a z j).bind fun x j=>(den P b z j).bind fun y j=>h6 (cC op x y j) ((den P c z j).bind fun aa j=>aG.bg ((cC f6 y aa j).map .bool) j) (.ok (.bool false) j)
 |.not a,z,j=>(den P a z j).bind fun x j=>aG.bg ((ck x).map fun b=>.bool (!b)) j
 |.and a b,z,j=>(den P a z j).bind fun x j=>h6 (ck x) (den P b z j) (.ok (.bool false) j)
 |.or a b,z,j=>(den P a z j).bind fun x j=>h6 (ck x) (.ok (.bool true) j) (den P b z j)
 |.ite c a b,z,j=>(den P c z j).bind fun x j=>h6 (ck x) (den P a z j) (den P b z j)
 |.av l,z,j=>(hM P l z j).bind fun xs j=>.ok (.av xs) j
 |.bM l,z,j=>(hM P l z j).bind fun xs j=>es xs j
 |.sub a i,z,j=>(den P a z j).bind fun x j=>(den P i z j).bind fun af j=>aG.bg (dj j x af) j
 |.hx a f4 an,z,j=>(den P a z j).bind fun x j=>(den P f4 z j).bind fun i j=>(den P an z j).bind fun af j=>i' x i af j
 |.bO a f,z,j=>(den P a z j).bind fun x j=>aG.bg (c' j x f) j
 |.call f as,z,j=>(den P f z j).bind fun f j=>(hM P as z j).bind fun xs j=>nd P f xs j
 |.bq a m as,z,j=>(den P a z j).bind fun o j=>if ht P j o m then(hM P as z j).bind fun xs j=>cJ P o m xs j else .aS
 |.init C as,z,j=>(hM P as z j).bind fun xs j=>vd P C xs j
 |.comp u8 t tt bW n ut,z,j=>if !P.hd then .aS else(den P tt z j).bind fun v j=>bL (d6 j bW v) fun db=>(gG (fun(x:ag)(j:ae)=>bL (dY (e5 z ut (List.replicate n none)) t x) fun f4=>den P u8 f4 j) j.length db P.N 0 (j++([.list []]:ae))).bind fun _ H=>.ok (.ref j.length) H
noncomputable def hM(P:aY):b5→aq→ae→aG (List ag)
 |.nil,_,j=>.ok [] j
 |.cons e r,z,j=>(den P e z j).bind fun x j=>(hM P r z j).bind fun xs j=>.ok (x::xs) j
end
noncomputable def IL(f:c8)(v:ag):aI→Option aI
 |.b_ C dL=>kZ (cZ C=true∧dL.length<10) (.b_ C (kp dL f v))
 |.a6 C dL=>kZ (cD C=true∧dL.length<10) (.a6 C (kp dL f v))
 |_=>none
noncomputable def pK(j:ae)(x:ag)(f:c8)(v:ag):Option ae:=(gO x).bind fun k=>(j[k]?).bind fun o=>(IL f v o).map fun o=>j.set k o
noncomputable def rr(j:ae)(x i v:ag):Option ae:=(gO x).bind fun k=>(isInt i).bind fun i=>(c0 j k).bind fun l=>if l.length<aP then(i_ i l.length).map fun af=>j.set k (.list (l.set af v))else none
noncomputable def Dj(P:aY)(t:eI)(v:ag)(z:aq)(j:ae):bH:=match t with
 |.aw i=>.next (dg z i v) j
 |.fe l=>if !P.hd then .aS else eb (dY z l v) fun z=>.next z j
 |.bO o f=>(den P o z j).toS z fun x j=>eb (pK j x f v) fun j=>.next z j
 |.sub o i=>(den P o z j).toS z fun x j=>(den P i z j).toS z fun af j=>eb (rr j x af v) fun j=>.next z j
noncomputable def zz:aI→Option (Addr×c9)
 |.a6 C dL=>some (C,dL)
 |_=>none
noncomputable def ru(C:Addr)(k:Nat)(z:aq)(v:ag)(j:ae):bH:=if v.isNone=true then eb ((j[k]?).bind zz) fun x=>if x.1=C∧cD C=true then .a6 k z (j.set k (.cX C x.2))else .aS else .aS
noncomputable def xq(P:aY)(C:Addr)(xs:List ag)(z:aq)(j:ae):bH:=if aP≤xs.length then .aS else(P.d' (gN C) (.ref j.length::xs) (j++[.a6 C []])).toS z (ru C j.length z)
noncomputable def t':aI→Option Addr
 |.cX C _=>some C
 |_=>none
noncomputable def Bp(i:Nat)(r:bH):bH:=match r with
 |.next z j=>.next (z.set i none) j
 |.ret v z j=>.ret v (z.set i none) j
 |_=>.aS
mutual
noncomputable def qz(P:aY):kJ→aq→ae→bH
 |.bB e,z,j=>(den P e z j).toS z fun _ j=>.next z j
 |.ret e,z,j=>(den P e z j).toS z fun v j=>.ret v z j
 |.a5 t e,z,j=>(den P e z j).toS z fun v j=>Dj P t v z j
 |.m8 i e,z,j=>eb ((z[i]?).join.bind isInt) fun a=>(den P e z j).toS z fun v j=>eb (isInt v) fun b=>.next (dg z i (.int (a+b))) j
 |.ite c a b,z,j=>(den P c z j).toS z fun v j=>kS (ck v) (dB P a z j) (dB P b z j)
 |.iJ c b,z,j=>if !P.hd then .aS else rN (fun z j=>den P c z j) (fun z j=>dB P b z j) P.N z j
 |.fx t tt bW b,z,j=>if !P.hd then .aS else(den P tt z j).toS z fun v j=>eb (d6 j bW v) fun db=>kX (fun(x:ag)(z:aq)(j:ae)=>eb (dY z t x) fun z=>dB P b z j) db P.N 0 z j
 |.dV C as,z,j=>if !P.hd then .aS else(hM P as z j).toS z fun xs j=>xq P C xs z j
 |.n9 b a1,z,j=>if !P.hd then .aS else match dB P b z j with
  |.a6 k z j=>eb ((j[k]?).bind t') fun C=>if cD C=true then j_ P a1 C k z j else .aS
  |r=>r
noncomputable def dB(P:aY):bZ→aq→ae→bH
 |.nil,z,j=>.next z j
 |.cons s r,z,j=>(qz P s z j).bind fun z j=>dB P r z j
noncomputable def j_(P:aY):h4→Addr→Nat→aq→ae→bH
 |.nil,_,_,_,_=>.aS
 |.cons C i b r,D,k,z,j=>if C=D then Bp i (dB {P with hd:=false} b (dg z i (.ref k)) j)else j_ P r D k z j
end
noncomputable def bH.dU:bH→aG ag
 |.next _ j=>.ok .none j
 |.ret v _ j=>.ok v j
 |.a6 k _ j=>.a6 k j
 |.aS=>.aS
noncomputable def u'(f:bC)(xs:List ag):Option aq:=gs (List.replicate f.n none) f.aZ xs
noncomputable def run(a_:Addr→Option bC)(N:Nat)(sa:Addr)(ns:List Int):Nat→Addr→List ag→ae→aG ag
 |0,_,_,_=>.aS
 |d+1,a,xs,j=>bL (a_ a) fun f=>bL (u' f xs) fun z=>(dB ⟨N,sa,ns,true,run a_ N sa ns d⟩ f.body z j).dU
end
section
open _root_.PySem
noncomputable def Aj:bC:=⟨6,[0],(.c (.fx [1,2,3,4] (.aC (.av [(.av [(.int 69),(.int 69),(.av [(.int (-1))]),(.av [(.int (-1))])]),(.av [(.int 70),(.int 79),(.av [(.int (-1)),(.int (-1))]),(.av [(.int (-1))])]),(.av [(.int 80),(.int 80),(.av [(.int (-2))]),(.av [(.int (-1))])]),(.av [(.int 81),(.int 90),(.av [(.int (-2)),(.int (-2))]),(.av [(.int (-1))])]),(.av [(.int 103),(.int 105),(.av [(.int (-1))]),(.av [(.int (-1))])]),(.av [(.int 106),(.int 120),(.av [(.int (-1)),(.int (-1))]),(.av [(.int (-1))])]),(.av [(.int 121),(.int 123),(.av [(.int (-2))]),(.av [(.int (-2))])]),(.av [(.int 124),(.int 138),(.av [(.int (-2)),(.int (-2))]),(.av [(.int (-2))])]),(.av [(.int 167),(.int 167),(.av [(.int (-2))]),(.av [(.int (-1))])]),(.av [(.int 172),(.int 173),(.av [(.int (-1))]),(.av [(.int (-2))])]),(.av [(.int 192),(.int 193),(.av [(.int (-1))]),(.av [(.int (-1))])]),(.av [(.int 194),(.int 196),(.av [(.int (-2))]),(.av [(.int (-2))])])])) false (.o (.ite (.jk .aj .LtE .aE .LtE .ao) (.o (.ret (.av (.c .ay (.o .a7))))) .nil))) (.o (.ret (.aC .none))))⟩
noncomputable def zU:bC:=⟨5,[0],(.c (.ite (.aQ .In .aE (.h 52)) (.o (.ret (.sub (.h 52) .aE))) .nil) (.c (.ite (.or (.aQ .In .aE (.h 22)) (.aQ .In .aE (.h 35))) (.o (.ret (.g "memarg"))) .nil) (.o (.ret (.ite (.aQ .Is (.call (.h 98) (.o .aE)) (.aC .none)) (.aC .none) (.g "none"))))))⟩
noncomputable def zX:bC:=⟨4,[0],(.o (.ret (.aQ .In .aE (.av (.c (.k 2) (.c (.k 3) (.o (.k 4))))))))⟩
noncomputable def zY:bC:=⟨4,[0],(.c (.ite (.aQ .Eq .aE (.k 253)) (.o (.ret (.aC (.bool true)))) .nil) (.o (.ret (.call (.aC (.b0 .any)) (.o (.comp (.jk .aj .LtE .ay .LtE .ao) [1,2] (.h 51) false 4 [(3,0)]))))))⟩
noncomputable def FF:bC:=⟨3,[0,1],(.c (.bB (.init 0 (.c .aE (.o .aj)))) (.o (.a5 (.bO .aE .c2) .aj)))⟩
noncomputable def vA:bC:=⟨4,[0,1,2],(.c (.bB (.init 134 (.c .aE (.o .aj)))) (.o (.a5 (.bO .aE .at) .ao)))⟩
noncomputable def vz:bC:=⟨4,[0,1,2],(.c (.bB (.init 134 (.c .aE (.o .aj)))) (.o (.a5 (.bO .aE .at) .ao)))⟩
noncomputable def Am:bC:=⟨3,[0,1],(.o (.bB (.bq .aE .hW (.o (.aV .BitAnd .aj (.k 127))))))⟩
noncomputable def An:bC:=⟨5,[0,1],(.c (.bB (.bq .aE .mC (.o (.call (.aC (.b0 .len)) (.o .aj))))) (.o (.fx [2] .aj false (.o (.bB (.call (.h 194) (.c .aE (.o .ao))))))))⟩
noncomputable def Ak:bC:=⟨3,[0,1],(.o (.ite (.aQ .Lt .aj (.k 0)) (.o (.bB (.call (.h 194) (.c .aE (.o .aj))))) (.o (.bB (.bq .aE .lJ (.o .aj))))))⟩
noncomputable def Al:bC:=⟨4,[0,1],(.o (.ite (.aQ .Lt .aj (.k 64512)) (.o (.bB (.bq .aE .hW (.o .aj)))) (.c (.bB (.bq .aE .hW (.o (.k 252)))) (.o (.bB (.bq .aE .ob (.o (.aV .Sub .aj (.k 64512)))))))))⟩
noncomputable def Ao:bC:=⟨3,[0,1],(.o (.fx [2] .aj false (.o (.bB (.bq .aE .ob (.o .ao))))))⟩
noncomputable def vF:bC:=⟨8,[0,1,2],(.o (.ite (.aQ .Eq .aj (.g "block")) (.o (.bB (.call (.h 208) (.c .aE (.o (.sub .ao (.k 0))))))) (.o (.ite (.aQ .In .aj (.av (.c (.g "i32") (.o (.g "i64"))))) (.o (.bB (.bq .aE .lJ (.o (.sub .ao (.k 0)))))) (.o (.ite (.aQ .Eq .aj (.g "refkind")) (.o (.bB (.call (.h 194) (.c .aE (.o (.sub .ao (.k 0))))))) (.o (.ite (.aQ .Eq .aj (.g "kinds")) (.o (.bB (.call (.h 201) (.c .aE (.o .ao))))) (.o (.ite (.aQ .Eq .aj (.g "labels")) (.c (.bB (.bq .aE .mC (.o (.aV .Sub (.call (.aC (.b0 .len)) (.o .ao)) (.k 1))))) (.o (.bB (.call (.h 222) (.c .aE (.o .ao)))))) (.c (.bB (.call (.h 222) (.c .aE (.o .ao)))) (.c (.ite (.aQ .In .aj (.av (.c (.g "memory") (.c (.g "memory_init") (.o (.g "two_memories")))))) (.o (.bB (.bq .aE .hW (.o (.k 0))))) .nil) (.o (.ite (.aQ .Eq .aj (.g "two_memories")) (.o (.bB (.bq .aE .hW (.o (.k 0))))) .nil))))))))))))))⟩
noncomputable def vG:bC:=⟨9,[0,1],(.c (.a5 .ao (.sub .aj (.k 0))) (.c (.a5 .ay (.call (.h 105) (.o .ao))) (.c (.ite (.aQ .Is .ay (.aC .none)) (.o (.dV 185 (.o (.aV .Add (.g "no instruction has the code ") (.call (.aC (.b0 .str)) (.o .ao)))))) .nil) (.c (.bB (.call (.h 215) (.c .aE (.o .ao)))) (.o (.bB (.call (.h 229) (.c .aE (.c .ay (.o (.hx .aj (.k 1) (.aC .none))))))))))))⟩
noncomputable def Au:bC:=⟨4,[0,1],(.o (.fx [2] .aj false (.o (.bB (.call (.h 236) (.c .aE (.o .ao)))))))⟩
noncomputable def Ah:bC:=⟨5,[0,1],(.c (.a5 .ao (.bM .nil)) (.c (.fx [3] (.bq .aE .ja .nil) true (.o (.bB (.bq .ao .b2 (.o (.call .aj (.o .aE))))))) (.o (.ret .ao))))⟩
noncomputable def zW:bC:=⟨1,[0],(.o (.ret (.bq .aE .ja .nil)))⟩
noncomputable def Ar:bC:=⟨5,[0,1],(.c (.ite (.aQ .In .aE (.aC (.av [(.int (-3)),(.int (-4))]))) (.o (.dV 173 (.c (.g "floats are left out") (.o .aj)))) .nil) (.o (.ite (.aQ .Eq .aE (.k (-5))) (.o (.dV 173 (.c (.g "vectors are left out") (.o .aj)))) .nil)))⟩
noncomputable def Aq:bC:=⟨10,[0,1],(.c (.a5 .ao (.bO .aE .at)) (.c (.a5 .ay (.bq .aE .rA .nil)) (.c (.bB (.call (.h 266) (.c .ay (.o .ao)))) (.c (.ite (.aQ .NotIn .ay (.av (.c (.k (-1)) (.c (.k (-2)) (.c (.k (-16)) (.o (.k (-17)))))))) (.o (.dV 154 (.c .aj (.o .ao)))) .nil) (.o (.ret .ay))))))⟩
noncomputable def zZ:bC:=⟨2,[0],(.o (.ret (.call (.h 273) (.c .aE (.o (.g "malformed value type"))))))⟩
noncomputable def Ap:bC:=⟨6,[0],(.c (.a5 .aj (.bO .aE .at)) (.c (.a5 .ao (.bq .aE .rA .nil)) (.c (.ite (.aQ .NotIn .ao (.av (.c (.k (-16)) (.o (.k (-17)))))) (.o (.dV 154 (.c (.g "malformed reference type") (.o .aj)))) .nil) (.o (.ret .ao)))))⟩
noncomputable def zR:bC:=⟨7,[0],(.c (.a5 .aj (.bO .aE .at)) (.c (.ite (.aQ .Eq (.bq .aE .n1 .nil) (.k 64)) (.c (.bB (.bq .aE .hW .nil)) (.o (.ret (.k (-64))))) .nil) (.c (.ite (.aQ .Eq (.aV .BitAnd (.bq .aE .n1 .nil) (.k 192)) (.k 64)) (.o (.ret (.call (.h 273) (.c .aE (.o (.g "malformed block type")))))) .nil) (.c (.a5 .ao (.bq .aE .xF .nil)) (.c (.ite (.aQ .Lt .ao (.k 0)) (.o (.dV 154 (.c (.g "integer representation too long") (.o .aj)))) .nil) (.o (.ret .ao)))))))⟩
noncomputable def As:bC:=⟨3,[0],(.c (.a5 .aj (.bO .aE .at)) (.o (.ite (.aQ .NotEq (.bq .aE .hW .nil) (.k 0)) (.o (.dV 154 (.c (.g "zero byte expected") (.o .aj)))) .nil)))⟩
noncomputable def Ai:bC:=⟨5,[0],(.c (.a5 .aj (.bO .aE .at)) (.c (.a5 .ao (.bq .aE .ja .nil)) (.c (.ite (.aQ .Gt .ao (.k 31)) (.o (.dV 154 (.c (.g "malformed memop flags") (.o .aj)))) .nil) (.o (.ret (.av (.c .ao (.o (.bq .aE .ja .nil)))))))))⟩
noncomputable def z0:bC:=⟨5,[0],(.c (.a5 .aj (.call (.h 252) (.c .aE (.o (.h 259))))) (.c (.bB (.bq .aj .b2 (.o (.bq .aE .ja .nil)))) (.o (.ret (.call (.aC (.b0 .tuple)) (.o .aj))))))⟩
noncomputable def vB:bC:=⟨5,[0,1],(.c (.ite (.aQ .Eq .aj (.g "none")) (.o (.ret (.av .nil))) .nil) (.c (.ite (.aQ .In .aj (.av (.c (.g "label") (.c (.g "func") (.c (.g "local") (.c (.g "global") (.c (.g "table") (.c (.g "data") (.o (.g "elem")))))))))) (.o (.ret (.av (.o (.bq .aE .ja .nil))))) .nil) (.c (.ite (.aQ .Eq .aj (.g "block")) (.o (.ret (.av (.o (.call (.h 294) (.o .aE)))))) .nil) (.c (.ite (.aQ .Eq .aj (.g "i32")) (.o (.ret (.av (.o (.bq .aE .xE .nil))))) .nil) (.c (.ite (.aQ .Eq .aj (.g "i64")) (.o (.ret (.av (.o (.bq .aE .xG .nil))))) .nil) (.c (.ite (.aQ .Eq .aj (.g "memarg")) (.o (.ret (.call (.h 308) (.o .aE)))) .nil) (.c (.ite (.aQ .Eq .aj (.g "refkind")) (.o (.ret (.av (.o (.call (.h 287) (.o .aE)))))) .nil) (.o (.ret (.aC .none))))))))))⟩
noncomputable def zV:bC:=⟨10,[0,1],(.c (.a5 .ao (.call (.h 322) (.c .aE (.o .aj)))) (.c (.ite (.aQ .IsNot .ao (.aC .none)) (.o (.ret .ao)) .nil) (.c (.ite (.aQ .Eq .aj (.g "labels")) (.o (.ret (.call (.h 315) (.o .aE)))) .nil) (.c (.ite (.aQ .Eq .aj (.g "kinds")) (.o (.ret (.call (.aC (.b0 .tuple)) (.o (.call (.h 252) (.c .aE (.o (.h 280)))))))) .nil) (.c (.ite (.aQ .In .aj (.av (.c (.g "indirect") (.c (.g "table_init") (.o (.g "table_copy")))))) (.c (.a5 .ay (.bq .aE .ja .nil)) (.o (.ret (.av (.c .ay (.o (.bq .aE .ja .nil))))))) .nil) (.c (.ite (.aQ .Eq .aj (.g "memory_init")) (.c (.a5 .ay (.bq .aE .ja .nil)) (.c (.bB (.call (.h 301) (.o .aE))) (.o (.ret (.av (.o .ay)))))) .nil) (.c (.bB (.call (.h 301) (.o .aE))) (.c (.ite (.aQ .Eq .aj (.g "two_memories")) (.o (.bB (.call (.h 301) (.o .aE)))) .nil) (.o (.ret (.av .nil)))))))))))⟩
noncomputable def zT:bC:=⟨11,[0],(.c (.a5 .aj (.bO .aE .at)) (.c (.a5 .ao (.bq .aE .hW .nil)) (.c (.ite (.aQ .Eq .ao (.k 252)) (.c (.a5 .ay (.bq .aE .ja .nil)) (.c (.ite (.aQ .Gt .ay (.k 17)) (.o (.dV 154 (.c (.g "illegal opcode") (.o .aj)))) .nil) (.o (.a5 .ao (.aV .Add (.k 64512) .ay))))) .nil) (.c (.ite (.call (.h 117) (.o .ao)) (.o (.dV 173 (.c (.g "an instruction that is left out") (.o .aj)))) .nil) (.c (.ite (.aQ .Is (.call (.h 105) (.o .ao)) (.aC .none)) (.o (.dV 154 (.c (.g "illegal opcode") (.o .aj)))) .nil) (.o (.ret .ao)))))))⟩
noncomputable def zS:bC:=⟨16,[0,1],(.c (.a5 (.fe [2,3]) (.av (.c (.bM .nil) (.o (.bM (.o (.k 0))))))) (.c (.iJ (.aQ .NotEq .ay (.bM .nil)) (.c (.a5 .a7 (.bO .aE .at)) (.c (.a5 .cx (.call (.h 336) (.o .aE))) (.o (.ite (.aQ .Eq .cx (.k 11)) (.c (.bB (.bq .ay .gn .nil)) (.o (.bB (.bq .ao .b2 (.o (.av (.o (.k 11)))))))) (.o (.ite (.aQ .Eq .cx (.k 5)) (.c (.ite (.aQ .NotEq (.sub .ay (.neg (.k 1))) (.k 4)) (.o (.dV 154 (.c (.g "END opcode expected") (.o .a7)))) .nil) (.c (.a5 (.sub .ay (.neg (.k 1))) (.k 5)) (.o (.bB (.bq .ao .b2 (.o (.av (.o (.k 5))))))))) (.c (.ite (.and (.aQ .In .cx (.aC (.av [(.int 64520),(.int 64521)]))) (.not .aj)) (.o (.dV 154 (.c (.g "data count section required") (.o .a7)))) .nil) (.c (.bB (.bq .ao .b2 (.o (.aV .Add (.av (.o .cx)) (.call (.h 329) (.c .aE (.o (.call (.h 105) (.o .cx))))))))) (.o (.ite (.call (.h 112) (.o .cx)) (.o (.bB (.bq .ay .b2 (.o .cx)))) .nil))))))))))) (.o (.ret .ao))))⟩
noncomputable def zD:bC:=⟨5,[0,1,2,3],(.c (.a5 (.bO .aE .ej) .aj) (.c (.a5 (.bO .aE .at) .ao) (.o (.a5 (.bO .aE .l9) (.ite (.aQ .Is .ay (.aC .none)) (.call (.aC (.b0 .len)) (.o .aj)) .ay)))))⟩
noncomputable def vy:bC:=⟨2,[0],(.c (.ite (.aQ .GtE (.bO .aE .at) (.bO .aE .l9)) (.o (.dV 154 (.c (.g "unexpected end") (.o (.bO .aE .at))))) .nil) (.o (.ret (.sub (.bO .aE .ej) (.bO .aE .at)))))⟩
noncomputable def vx:bC:=⟨2,[0],(.c (.a5 .aj (.bq .aE .n1 .nil)) (.c (.a5 (.bO .aE .at) (.aV .Add (.bO .aE .at) (.k 1))) (.o (.ret .aj))))⟩
noncomputable def zK:bC:=⟨8,[0,1],(.c (.a5 (.fe [2,3,4]) (.av (.c (.k 0) (.c (.k 0) (.o (.bO .aE .at)))))) (.o (.iJ (.aC (.bool true)) (.c (.a5 .cx (.bq .aE .hW .nil)) (.c (.a5 (.aw 6) (.aV .Sub .aj .ay)) (.c (.ite (.and (.aQ .Lt (.aw 6) (.k 7)) (.aQ .NotEq (.aV .RShift (.aV .BitAnd .cx (.k 127)) (.aw 6)) (.k 0))) (.o (.dV 154 (.c (.g "integer too large") (.o .a7)))) .nil) (.c (.ite (.and (.aQ .LtE (.aw 6) (.k 7)) (.aQ .GtE .cx (.k 128))) (.o (.dV 154 (.c (.g "integer representation too long") (.o .a7)))) .nil) (.c (.a5 .ao (.aV .Add .ao (.aV .LShift (.aV .BitAnd .cx (.k 127)) .ay))) (.c (.ite (.aQ .Lt .cx (.k 128)) (.o (.ret .ao)) .nil) (.o (.a5 .ay (.aV .Add .ay (.k 7)))))))))))))⟩
noncomputable def zI:bC:=⟨8,[0,1],(.c (.a5 (.fe [2,3,4]) (.av (.c (.k 0) (.c (.k 0) (.o (.bO .aE .at)))))) (.o (.iJ (.aC (.bool true)) (.c (.a5 .cx (.bq .aE .hW .nil)) (.c (.a5 (.aw 6) (.aV .Sub .aj .ay)) (.c (.ite (.and (.aQ .Lt (.aw 6) (.k 7)) (.aQ .NotIn (.aV .RShift (.aV .BitAnd .cx (.k 127)) (.aV .Sub (.aw 6) (.k 1))) (.av (.c (.k 0) (.o (.aV .RShift (.k 127) (.aV .Sub (.aw 6) (.k 1)))))))) (.o (.dV 154 (.c (.g "integer too large") (.o .a7)))) .nil) (.c (.ite (.and (.aQ .LtE (.aw 6) (.k 7)) (.aQ .GtE .cx (.k 128))) (.o (.dV 154 (.c (.g "integer representation too long") (.o .a7)))) .nil) (.c (.a5 .ao (.aV .Add .ao (.aV .LShift (.aV .BitAnd .cx (.k 127)) .ay))) (.c (.a5 .ay (.aV .Add .ay (.k 7))) (.o (.ite (.aQ .Lt .cx (.k 128)) (.o (.ret (.ite (.aV .BitAnd .cx (.k 64)) (.aV .Sub .ao (.aV .LShift (.k 1) .ay)) .ao))) .nil)))))))))))⟩
noncomputable def zJ:bC:=⟨1,[0],(.o (.ret (.bq .aE .ob (.o (.k 32)))))⟩
noncomputable def zH:bC:=⟨1,[0],(.o (.ret (.bq .aE .lJ (.o (.k 7)))))⟩
noncomputable def zE:bC:=⟨1,[0],(.o (.ret (.bq .aE .lJ (.o (.k 32)))))⟩
noncomputable def zF:bC:=⟨1,[0],(.o (.ret (.bq .aE .lJ (.o (.k 33)))))⟩
noncomputable def zG:bC:=⟨1,[0],(.o (.ret (.bq .aE .lJ (.o (.k 64)))))⟩
noncomputable def zL:bC:=⟨2,[0],(.o (.a5 (.bO .aE .ej) (.call (.aC (.b0 .bytearray)) .nil)))⟩
noncomputable def zN:bC:=⟨2,[0,1],(.o (.bB (.bq (.bO .aE .ej) .b2 (.o .aj))))⟩
noncomputable def zO:bC:=⟨2,[0,1],(.o (.bB (.bq (.bO .aE .ej) .d_ (.o .aj))))⟩
noncomputable def zQ:bC:=⟨3,[0,1],(.c (.ite (.aQ .Lt .aj (.k 0)) (.o (.dV 185 (.o (.g "an unsigned number below 0")))) .nil) (.c (.iJ (.aQ .GtE .aj (.k 128)) (.c (.bB (.bq (.bO .aE .ej) .b2 (.o (.aV .BitOr (.aV .BitAnd .aj (.k 127)) (.k 128))))) (.o (.a5 .aj (.aV .RShift .aj (.k 7)))))) (.o (.bB (.bq (.bO .aE .ej) .b2 (.o .aj))))))⟩
noncomputable def zP:bC:=⟨2,[0,1],(.c (.iJ (.not (.jk (.neg (.k 64)) .LtE .aj .Lt (.k 64))) (.c (.bB (.bq (.bO .aE .ej) .b2 (.o (.aV .BitOr (.aV .BitAnd .aj (.k 127)) (.k 128))))) (.o (.a5 .aj (.aV .RShift .aj (.k 7)))))) (.o (.bB (.bq (.bO .aE .ej) .b2 (.o (.aV .BitAnd .aj (.k 127)))))))⟩
noncomputable def zM:bC:=⟨2,[0,1],(.o (.bB (.bq .aE .ob (.o .aj))))⟩
noncomputable def z9:bC:=⟨1,[0],(.o (.ret (.bM (.o (.ite (.aQ .NotEq .aE (.bM .nil)) (.bq .aE .gn (.o (.k 0))) (.k 0))))))⟩
noncomputable def Aa:bC:=⟨3,[0,1],(.c (.a5 .ao (.aV .Mod (.sub .aE (.k 0)) .aj)) (.c (.a5 (.sub .aE (.k 0)) (.aV .FloorDiv (.sub .aE (.k 0)) .aj)) (.o (.ret .ao))))⟩
noncomputable def Ad:bC:=⟨0,[],(.o (.ret (.av (.c (.av (.c (.k 65) (.c (.k 65) (.o (.g "i"))))) (.c (.av (.c (.k 2) (.c (.k 4) (.o (.g "b"))))) (.c (.av (.c (.k 66) (.c (.k 66) (.o (.g "l"))))) (.c (.av (.c (.k 14) (.c (.k 14) (.o (.g "t"))))) (.c (.av (.c (.k 40) (.c (.k 41) (.o (.g "au"))))) (.c (.av (.c (.k 64520) (.c (.k 64520) (.o (.g "uz"))))) (.c (.av (.c (.k 28) (.c (.k 28) (.o (.g "k"))))) (.c (.av (.c (.k 208) (.c (.k 208) (.o (.g "r"))))) (.c (.av (.c (.k 12) (.c (.k 13) (.o (.g "u"))))) (.c (.av (.c (.k 16) (.c (.k 16) (.o (.g "u"))))) (.c (.av (.c (.k 17) (.c (.k 17) (.o (.g "uu"))))) (.c (.av (.c (.k 18) (.c (.k 18) (.o (.g "u"))))) (.c (.av (.c (.k 19) (.c (.k 19) (.o (.g "uu"))))) (.c (.av (.c (.k 0) (.c (.k 1) (.o (.g ""))))) (.c (.av (.c (.k 15) (.c (.k 15) (.o (.g ""))))) (.c (.av (.c (.k 26) (.c (.k 27) (.o (.g ""))))) (.c (.av (.c (.k 32) (.c (.k 38) (.o (.g "u"))))) (.c (.av (.c (.k 44) (.c (.k 55) (.o (.g "au"))))) (.c (.av (.c (.k 58) (.c (.k 62) (.o (.g "au"))))) (.c (.av (.c (.k 63) (.c (.k 64) (.o (.g "z"))))) (.c (.av (.c (.k 69) (.c (.k 90) (.o (.g ""))))) (.c (.av (.c (.k 103) (.c (.k 138) (.o (.g ""))))) (.c (.av (.c (.k 167) (.c (.k 167) (.o (.g ""))))) (.c (.av (.c (.k 172) (.c (.k 173) (.o (.g ""))))) (.c (.av (.c (.k 192) (.c (.k 196) (.o (.g ""))))) (.c (.av (.c (.k 209) (.c (.k 209) (.o (.g ""))))) (.c (.av (.c (.k 210) (.c (.k 210) (.o (.g "u"))))) (.c (.av (.c (.k 64521) (.c (.k 64521) (.o (.g "u"))))) (.c (.av (.c (.k 64522) (.c (.k 64522) (.o (.g "zz"))))) (.c (.av (.c (.k 64523) (.c (.k 64523) (.o (.g "z"))))) (.c (.av (.c (.k 64524) (.c (.k 64524) (.o (.g "uu"))))) (.c (.av (.c (.k 64525) (.c (.k 64525) (.o (.g "u"))))) (.c (.av (.c (.k 64526) (.c (.k 64526) (.o (.g "uu"))))) (.o (.av (.c (.k 64527) (.c (.k 64529) (.o (.g "u"))))))))))))))))))))))))))))))))))))))))))⟩
noncomputable def z6:bC:=⟨3,[0],(.c (.a5 .aj (.call (.h 547) (.c .aE (.o (.k 3))))) (.c (.ite (.aQ .Eq .aj (.k 0)) (.o (.ret (.call (.h 547) (.c .aE (.o (.k 5)))))) .nil) (.c (.ite (.aQ .Eq .aj (.k 1)) (.o (.ret (.sub (.bM (.c (.k 63) (.c (.k 64) (.c (.k 127) (.c (.k 128) (.c (.k 8191) (.c (.k 8192) (.c (.k 16383) (.o (.k 16384)))))))))) (.call (.h 547) (.c .aE (.o (.k 8))))))) .nil) (.o (.ret (.aV .Sub (.aV .Sub (.aV .Pow (.k 2) (.k 32)) (.k 1)) (.call (.h 547) (.c .aE (.o (.aV .Pow (.k 2) (.k 32)))))))))))⟩
noncomputable def Ae:bC:=⟨4,[0,1],(.c (.a5 .ao (.call (.h 547) (.c .aE (.o (.k 3))))) (.c (.ite (.aQ .Eq .ao (.k 0)) (.o (.ret (.aV .Sub (.call (.h 547) (.c .aE (.o (.k 5)))) (.k 2)))) .nil) (.c (.ite (.aQ .Eq .ao (.k 1)) (.o (.ret (.sub (.bM (.c (.k 63) (.c (.k 64) (.c (.neg (.k 64)) (.c (.neg (.k 65)) (.c (.k 8191) (.c (.k 8192) (.c (.neg (.k 8192)) (.o (.neg (.k 8193))))))))))) (.call (.h 547) (.c .aE (.o (.k 8))))))) .nil) (.o (.ret (.aV .Sub (.call (.h 547) (.c .aE (.o (.aV .Pow (.k 2) .aj)))) (.aV .Pow (.k 2) (.aV .Sub .aj (.k 1)))))))))⟩
noncomputable def z8:bC:=⟨2,[0],(.o (.ret (.sub (.av (.c (.neg (.k 1)) (.c (.neg (.k 2)) (.c (.neg (.k 16)) (.o (.neg (.k 17))))))) (.call (.h 547) (.c .aE (.o (.k 4)))))))⟩
noncomputable def z1:bC:=⟨5,[0],(.c (.a5 .aj (.call (.h 547) (.c .aE (.o (.k 3))))) (.c (.ite (.aQ .Eq .aj (.k 0)) (.o (.ret (.neg (.k 64)))) .nil) (.o (.ret (.ite (.aQ .Eq .aj (.k 1)) (.call (.h 575) (.o .aE)) (.call (.h 561) (.o .aE)))))))⟩
noncomputable def vD:bC:=⟨7,[0,1],(.c (.ite (.aQ .Eq .aj (.g "u")) (.o (.ret (.bM (.o (.call (.h 561) (.o .aE)))))) .nil) (.c (.ite (.aQ .Eq .aj (.g "a")) (.o (.ret (.bM (.o (.call (.h 547) (.c .aE (.o (.k 32)))))))) .nil) (.c (.ite (.aQ .Eq .aj (.g "i")) (.o (.ret (.bM (.o (.call (.h 568) (.c .aE (.o (.k 32)))))))) .nil) (.c (.ite (.aQ .Eq .aj (.g "l")) (.o (.ret (.bM (.o (.call (.h 568) (.c .aE (.o (.k 64)))))))) .nil) (.c (.ite (.aQ .Eq .aj (.g "r")) (.o (.ret (.bM (.o (.sub (.av (.c (.neg (.k 16)) (.o (.neg (.k 17))))) (.call (.h 547) (.c .aE (.o (.k 2))))))))) .nil) (.c (.ite (.aQ .Eq .aj (.g "b")) (.o (.ret (.bM (.o (.call (.h 582) (.o .aE)))))) .nil) (.c (.ite (.aQ .Eq .aj (.g "k")) (.o (.ret (.comp (.call (.h 575) (.o .ay)) [1] (.aV .Mod (.aV .Add (.k 1) (.call (.h 547) (.c .aE (.o (.k 3))))) (.k 3)) true 4 [(3,0)]))) .nil) (.c (.ite (.aQ .Eq .aj (.g "t")) (.o (.ret (.comp (.call (.h 561) (.o .ay)) [1] (.aV .Add (.k 1) (.aV .Mod (.aV .Add (.k 1) (.call (.h 547) (.c .aE (.o (.k 3))))) (.k 3))) true 4 [(3,0)]))) .nil) (.o (.ret (.bM .nil)))))))))))⟩
noncomputable def z5:bC:=⟨3,[0,1],(.o (.ret (.comp (.aV .Add (.aV .Mod (.aV .FloorDiv .ay (.aV .Pow (.k 128) .aj)) (.k 128)) (.ite (.aQ .Lt .aj (.aV .Sub .ao (.k 1))) (.k 128) (.k 0))) [1] .aj true 4 [(2,1),(3,0)])))⟩
noncomputable def z4:bC:=⟨5,[0,1],(.c (.a5 .ao (.k 1)) (.c (.iJ (.aQ .GtE .aE (.aV .Pow (.k 128) .ao)) (.o (.m8 2 (.k 1)))) (.o (.ret (.call (.h 592) (.c .aE (.o (.call (.aC (.b0 .min)) (.c (.k 5) (.o (.aV .Add .ao .aj)))))))))))⟩
noncomputable def z':bC:=⟨6,[0,1,2],(.c (.a5 .ay (.k 1)) (.c (.iJ (.or (.aQ .Lt .aE (.aV .Mult (.neg (.k 64)) (.aV .Pow (.k 128) (.aV .Sub .ay (.k 1))))) (.aQ .GtE .aE (.aV .Mult (.k 64) (.aV .Pow (.k 128) (.aV .Sub .ay (.k 1)))))) (.o (.m8 3 (.k 1)))) (.o (.ret (.call (.h 592) (.c .aE (.o (.call (.aC (.b0 .min)) (.c (.aV .FloorDiv (.aV .Add .aj (.k 6)) (.k 7)) (.o (.aV .Add .ay .ao)))))))))))⟩
noncomputable def vE:bC:=⟨8,[0,1,2],(.c (.ite (.aQ .Eq .aE (.g "z")) (.o (.ret (.bM (.o (.k 0))))) .nil) (.c (.ite (.aQ .Eq .aE (.g "i")) (.o (.ret (.call (.h 606) (.c (.sub .aj (.k 0)) (.c (.k 32) (.o .ao)))))) .nil) (.c (.ite (.aQ .Eq .aE (.g "l")) (.o (.ret (.call (.h 606) (.c (.sub .aj (.k 0)) (.c (.k 64) (.o .ao)))))) .nil) (.c (.ite (.and (.aQ .Eq .aE (.g "b")) (.aQ .GtE (.sub .aj (.k 0)) (.k 0))) (.o (.ret (.call (.h 606) (.c (.sub .aj (.k 0)) (.c (.k 33) (.o .ao)))))) .nil) (.c (.ite (.or (.aQ .Eq .aE (.g "b")) (.aQ .Eq .aE (.g "r"))) (.o (.ret (.bM (.o (.aV .Add (.k 128) (.sub .aj (.k 0))))))) .nil) (.c (.a5 .ay (.bM .nil)) (.c (.ite (.aQ .Eq .aE (.g "k")) (.c (.bB (.bq .ay .d_ (.o (.call (.h 599) (.c (.call (.aC (.b0 .len)) (.o .aj)) (.o .ao)))))) (.o (.ret (.aV .Add .ay (.comp (.aV .Add (.k 128) .aj) [1] .aj false 2 []))))) .nil) (.c (.ite (.aQ .Eq .aE (.g "t")) (.o (.bB (.bq .ay .d_ (.o (.call (.h 599) (.c (.aV .Sub (.call (.aC (.b0 .len)) (.o .aj)) (.k 1)) (.o .ao))))))) .nil) (.c (.fx [4] .aj false (.o (.bB (.bq .ay .d_ (.o (.call (.h 599) (.c .a7 (.o .ao)))))))) (.o (.ret .ay)))))))))))⟩
noncomputable def z2:bC:=⟨3,[0,1],(.o (.ret (.ite (.aQ .Lt .aE (.k 64512)) (.bM (.o .aE)) (.aV .Add (.bM (.o (.k 252))) (.call (.h 599) (.c (.aV .Sub .aE (.k 64512)) (.o .aj)))))))⟩
noncomputable def Af:bC:=⟨21,[0,1,2,3],(.c (.a5 .a7 (.call (.h 554) .nil)) (.c (.a5 (.fe [5,6,7]) (.sub .a7 (.aV .Mod (.aV .Add (.call (.h 547) (.c .aE (.o (.call (.aC (.b0 .len)) (.o .a7))))) .aj) (.call (.aC (.b0 .len)) (.o .a7))))) (.c (.a5 (.aw 8) (.aV .Add .cx (.call (.h 547) (.c .aE (.o (.aV .Add (.aV .Sub (.aw 6) .cx) (.k 1))))))) (.c (.a5 (.aw 9) (.bM (.o (.aw 8)))) (.c (.a5 (.aw 10) (.bM .nil)) (.c (.a5 (.aw 11) (.bM .nil)) (.c (.fx [12] (.aw 7) false (.c (.a5 (.aw 13) (.call (.h 587) (.c .aE (.o (.aw 12))))) (.c (.bB (.bq (.aw 9) .d_ (.o (.aw 13)))) (.c (.bB (.bq (.aw 10) .d_ (.o (.call (.h 611) (.c (.aw 12) (.c (.aw 13) (.o (.k 0)))))))) (.o (.bB (.bq (.aw 11) .d_ (.o (.call (.h 611) (.c (.aw 12) (.c (.aw 13) (.o .ao)))))))))))) (.o (.ret (.av (.c (.call (.aC (.b0 .tuple)) (.o (.aw 9))) (.c .ay (.c (.bM (.c (.call (.h 618) (.c (.aw 8) (.o (.k 0)))) (.o (.call (.h 618) (.c (.aw 8) (.o .ao)))))) (.o (.bM (.c (.aw 10) (.o (.aw 11))))))))))))))))))⟩
noncomputable def Ab:bC:=⟨2,[0,1],(.o (.ret (.av (.c (.av (.o .aE)) (.c .aj (.c (.bM (.c (.bM (.o .aE)) (.o (.bM (.o .aE))))) (.o (.bM (.c (.bM .nil) (.o (.bM .nil)))))))))))⟩
noncomputable def Ag:bC:=⟨13,[0,1,2],(.c (.a5 .ay (.bM .nil)) (.c (.a5 .a7 (.bM (.o (.k 0)))) (.c (.fx [5] .aj true (.c (.a5 (.aw 6) (.call (.h 540) (.o .aE))) (.c (.a5 (.aw 7) (.sub .a7 (.neg (.k 1)))) (.o (.ite (.and (.aQ .NotEq (.aw 7) (.k 0)) (.aQ .Eq (.call (.h 547) (.c (.aw 6) (.o (.k 3)))) (.k 2))) (.o (.ite (.and (.aQ .Eq (.aw 7) (.k 4)) (.aQ .Eq (.call (.h 547) (.c (.aw 6) (.o (.k 2)))) (.k 1))) (.c (.a5 (.sub .a7 (.neg (.k 1))) (.k 5)) (.o (.bB (.bq .ay .b2 (.o (.call (.h 632) (.c (.k 5) (.o (.aw 7))))))))) (.c (.bB (.bq .a7 .gn .nil)) (.o (.bB (.bq .ay .b2 (.o (.call (.h 632) (.c (.k 11) (.o (.aw 7))))))))))) (.c (.bB (.bq .ay .b2 (.o (.call (.h 625) (.c (.aw 6) (.c .cx (.c .ao (.o (.aw 7))))))))) (.o (.ite (.aQ .In (.sub (.sub (.sub .ay (.neg (.k 1))) (.k 0)) (.k 0)) (.av (.c (.k 2) (.c (.k 3) (.o (.k 4)))))) (.o (.bB (.bq .a7 .b2 (.o (.sub (.sub (.sub .ay (.neg (.k 1))) (.k 0)) (.k 0)))))) .nil)))))))) (.c (.iJ (.aQ .NotEq .a7 (.bM .nil)) (.o (.bB (.bq .ay .b2 (.o (.call (.h 632) (.c (.k 11) (.o (.bq .a7 .gn .nil))))))))) (.o (.ret .ay))))))⟩
noncomputable def z7:bC:=⟨7,[0,1],(.c (.a5 .ao (.bM .nil)) (.c (.fx [3,4,5,6] .aE false (.o (.a5 .ao (.aV .Add (.aV .Add .ao (.sub .cx .aj)) (.sub (.aw 6) .aj))))) (.o (.ret .ao))))⟩
noncomputable def z3:bC:=⟨11,[0,1,2,3,4],(.c (.a5 .cx .ao) (.c (.fx [6,7,8,9] .aE false (.c (.ite (.and (.aQ .In (.sub (.aw 6) (.k 0)) (.av (.c (.k 64520) (.o (.k 64521))))) (.and (.not .a7) (.aQ .LtE (.aV .Add .cx (.call (.aC (.b0 .len)) (.o (.sub (.aw 8) .aj)))) .ay))) (.o (.ret (.av (.c (.g "malformed") (.c (.g "data count section required") (.o .cx)))))) .nil) (.c (.a5 .cx (.aV .Add (.aV .Add .cx (.call (.aC (.b0 .len)) (.o (.sub (.aw 8) .aj)))) (.call (.aC (.b0 .len)) (.o (.sub (.aw 9) .aj))))) (.o (.ite (.aQ .Gt .cx .ay) (.o (.ret (.av (.c (.g "malformed") (.c (.g "unexpected end") (.o .ay)))))) .nil))))) (.o (.ret (.av (.c (.g "a body") (.c (.comp (.sub .aj (.k 0)) [1] .aE false 2 []) (.o .cx))))))))⟩
noncomputable def Ac:bC:=⟨12,[0,1,2,3],(.c (.a5 .a7 (.call (.h 459) (.c (.call (.aC (.b0 .bytes)) (.o .aE)) (.c .aj (.o .ao))))) (.c (.n9 (.o (.a5 .cx (.call (.h 343) (.c .a7 (.o .ay))))) (.c 154 6 (.o (.ret (.av (.c (.g "malformed") (.c (.bO (.aw 6) .c2) (.o (.bO (.aw 6) .at))))))) (.c 173 6 (.o (.ret (.av (.c (.g "left out") (.c (.bO (.aw 6) .c2) (.o (.bO (.aw 6) .at))))))) .nil))) (.o (.ret (.av (.c (.g "a body") (.c .cx (.o (.bO .a7 .at)))))))))⟩
noncomputable def z_:bC:=⟨7,[0],(.c (.a5 .aj (.av (.c (.av (.c (.k 6) (.o (.k 10)))) (.c (.av (.c (.k 20) (.o (.k 25)))) (.c (.av (.c (.k 29) (.o (.k 31)))) (.c (.av (.c (.k 39) (.o (.k 39)))) (.c (.av (.c (.k 197) (.o (.k 207)))) (.c (.av (.c (.k 211) (.o (.k 251)))) (.c (.av (.c (.k 254) (.o (.k 255)))) (.c (.av (.c (.k 42) (.o (.k 43)))) (.c (.av (.c (.k 56) (.o (.k 57)))) (.c (.av (.c (.k 67) (.o (.k 68)))) (.c (.av (.c (.k 91) (.o (.k 102)))) (.c (.av (.c (.k 139) (.o (.k 166)))) (.c (.av (.c (.k 168) (.o (.k 171)))) (.c (.av (.c (.k 174) (.o (.k 191)))) (.c (.av (.c (.k 253) (.o (.k 253)))) (.c (.av (.c (.k 64512) (.o (.k 64519)))) (.o (.av (.c (.k 64530) (.o (.aV .Sub (.aV .Add (.k 64512) (.aV .Pow (.k 2) (.k 32))) (.k 1)))))))))))))))))))))))) (.c (.a5 .ao (.call (.h 547) (.c .aE (.o (.k 17))))) (.c (.a5 (.fe [3,4]) (.sub .aj .ao)) (.c (.a5 .cx (.aV .Add .ay (.call (.h 547) (.c .aE (.o (.aV .Add (.aV .Sub .a7 .ay) (.k 1))))))) (.c (.ite (.and (.aQ .LtE (.k 7) .ao) (.aQ .LtE .ao (.k 15))) (.o (.ret (.av (.c .cx (.c (.g "left out") (.o (.g "an instruction that is left out"))))))) .nil) (.o (.ret (.av (.c .cx (.c (.g "malformed") (.o (.g "illegal opcode"))))))))))))⟩
noncomputable def vC:bC:=⟨12,[0,1,2],(.c (.a5 .ay (.g "integer too large")) (.c (.a5 .a7 (.g "integer representation too long")) (.c (.a5 .cx (.g "zero byte expected")) (.c (.a5 (.aw 6) (.av (.c (.av (.c (.bM (.o (.k 5))) (.c (.g "END opcode expected") (.o (.k 0))))) (.c (.av (.c (.bM (.c (.k 40) (.c (.k 32) (.o (.k 0))))) (.c (.g "malformed memop flags") (.o (.k 1))))) (.c (.av (.c (.bM (.c (.k 63) (.o (.k 1)))) (.c .cx (.o (.k 1))))) (.c (.av (.c (.bM (.c (.k 252) (.c (.k 10) (.c (.k 0) (.o (.k 1)))))) (.c .cx (.o (.k 3))))) (.c (.av (.c (.bM (.c (.k 252) (.c (.k 11) (.o (.k 128))))) (.c .cx (.o (.k 2))))) (.c (.av (.c (.bM (.c (.k 252) (.c (.k 8) (.c (.k 0) (.o (.k 1)))))) (.c .cx (.o (.k 3))))) (.c (.av (.c (.bM (.c (.k 2) (.o (.k 65)))) (.c (.g "malformed block type") (.o (.k 1))))) (.c (.av (.c (.bM (.c (.k 3) (.o (.k 125)))) (.c (.g "floats are left out") (.o (.k 1))))) (.c (.av (.c (.bM (.c (.k 4) (.o (.k 123)))) (.c (.g "vectors are left out") (.o (.k 1))))) (.c (.av (.c (.bM (.c (.k 2) (.c (.k 255) (.o (.k 127))))) (.c .a7 (.o (.k 1))))) (.c (.av (.c (.bM (.c (.k 2) (.c (.k 128) (.c (.k 128) (.c (.k 128) (.c (.k 128) (.o (.k 16)))))))) (.c .ay (.o (.k 1))))) (.c (.av (.c (.bM (.c (.k 208) (.o (.k 127)))) (.c (.g "malformed reference type") (.o (.k 1))))) (.c (.av (.c (.bM (.c (.k 208) (.o (.k 125)))) (.c (.g "malformed reference type") (.o (.k 1))))) (.c (.av (.c (.bM (.c (.k 28) (.c (.k 1) (.o (.k 124))))) (.c (.g "floats are left out") (.o (.k 2))))) (.c (.av (.c (.bM (.c (.k 28) (.c (.k 2) (.c (.k 127) (.o (.k 110)))))) (.c (.g "malformed value type") (.o (.k 3))))) (.c (.av (.c (.bM (.c (.k 28) (.c (.k 1) (.c (.k 240) (.o (.k 127)))))) (.c .a7 (.o (.k 2))))) (.c (.av (.c (.bM (.c (.k 32) (.c (.k 128) (.c (.k 128) (.c (.k 128) (.c (.k 128) (.o (.k 16)))))))) (.c .ay (.o (.k 1))))) (.c (.av (.c (.bM (.c (.k 16) (.c (.k 255) (.c (.k 255) (.c (.k 255) (.c (.k 255) (.o (.k 128)))))))) (.c .a7 (.o (.k 1))))) (.c (.av (.c (.bM (.c (.k 65) (.c (.k 128) (.c (.k 128) (.c (.k 128) (.c (.k 128) (.o (.k 8)))))))) (.c .ay (.o (.k 1))))) (.c (.av (.c (.bM (.c (.k 65) (.c (.k 255) (.c (.k 255) (.c (.k 255) (.c (.k 255) (.o (.k 255)))))))) (.c .a7 (.o (.k 1))))) (.c (.av (.c (.aV .Add (.aV .Add (.bM (.o (.k 66))) (.lG (128) 9)) (.bM (.o (.k 1)))) (.c .ay (.o (.k 1))))) (.c (.av (.c (.aV .Add (.bM (.o (.k 66))) (.lG (255) 10)) (.c .a7 (.o (.k 1))))) (.c (.av (.c (.bM (.c (.k 14) (.c (.k 1) (.c (.k 0) (.c (.k 128) (.c (.k 128) (.c (.k 128) (.c (.k 128) (.o (.k 16)))))))))) (.c .ay (.o (.k 3))))) (.c (.av (.c (.bM (.c (.k 252) (.c (.k 14) (.c (.k 0) (.c (.k 128) (.c (.k 128) (.c (.k 128) (.c (.k 128) (.o (.k 128)))))))))) (.c .a7 (.o (.k 3))))) (.o (.av (.c (.bM (.c (.k 252) (.c (.k 128) (.c (.k 128) (.c (.k 128) (.c (.k 128) (.o (.k 16)))))))) (.c .ay (.o (.k 1)))))))))))))))))))))))))))))))) (.c (.a5 (.aw 7) (.call (.h 547) (.c .aE (.o (.k 25))))) (.c (.ite (.and (.aQ .Eq (.aw 7) (.k 0)) (.aQ .Eq .aj (.k 4))) (.o (.a5 (.aw 7) (.k 1))) .nil) (.c (.a5 (.fe [8,9,10]) (.sub (.aw 6) (.aw 7))) (.c (.ite (.and (.aQ .Eq (.aw 7) (.k 5)) (.not .ao)) (.o (.ret (.av (.c (.aw 8) (.c (.g "malformed") (.c (.g "data count section required") (.o (.k 0)))))))) .nil) (.o (.ret (.av (.c (.aw 8) (.c (.ite (.aQ .In (.aw 7) (.av (.c (.k 7) (.c (.k 8) (.o (.k 13)))))) (.g "left out") (.g "malformed")) (.c (.aw 9) (.o (.aw 10))))))))))))))))⟩
noncomputable def e7:bC:=⟨40,[0],(.c (.a5 .aj (.call (.aC (.b0 .list)) (.o .aE))) (.c (.a5 .ao (.call (.h 540) (.o .aj))) (.c (.a5 .ay (.aQ .Eq (.call (.h 547) (.c .ao (.o (.k 2)))) (.k 0))) (.c (.a5 .a7 (.aV .Add (.k 1) (.call (.h 547) (.c .ao (.o (.k 2)))))) (.c (.a5 .cx (.aV .Mod (.aV .Add (.k 6) (.call (.h 547) (.c .ao (.o (.k 9))))) (.k 9))) (.c (.a5 (.aw 6) (.comp (.call (.h 547) (.c .ay (.o (.k 256)))) [1] (.aV .Add (.k 1) (.call (.h 547) (.c .ao (.o (.k 3))))) true 4 [(3,2)])) (.c (.a5 (.aw 7) (.comp (.aV .Mod (.aV .Add (.k 11) (.call (.h 547) (.c .ay (.o (.k 256))))) (.k 256)) [1] (.k 2) true 4 [(3,2)])) (.c (.a5 (.aw 8) (.call (.aC (.b0 .len)) (.o (.aw 6)))) (.c (.a5 (.aw 9) (.call (.h 639) (.c .aj (.c .cx (.o .a7))))) (.c (.a5 (.aw 10) (.comp (.sub .aj (.k 0)) [1] (.aw 9) false 2 [])) (.c (.a5 (.aw 11) (.call (.h 529) .nil)) (.c (.bB (.bq (.aw 11) .ko (.o (.call (.aC (.b0 .bytes)) (.o (.aw 6)))))) (.c (.bB (.call (.h 243) (.c (.aw 11) (.o (.aw 10))))) (.c (.ite (.or (.aQ .NotEq (.call (.aC (.b0 .bytes)) (.o (.bO (.aw 11) .ej))) (.call (.aC (.b0 .bytes)) (.o (.aV .Add (.aw 6) (.call (.h 646) (.c (.aw 9) (.o (.k 0)))))))) (.aQ .NotEq (.aw 10) (.comp (.sub .aj (.k 0)) [1] (.aw 9) false 2 []))) (.o (.ret (.aC (.bool false)))) .nil) (.c (.a5 .ao (.call (.h 540) (.o .aj))) (.c (.fx [12] (.k 2) true (.c (.a5 (.aw 13) (.aV .Add (.aw 6) (.call (.h 646) (.c (.aw 9) (.o (.aw 12)))))) (.c (.a5 (.aw 14) (.aV .Sub (.aV .Sub (.call (.aC (.b0 .len)) (.o (.aw 13))) (.k 1)) (.call (.h 547) (.c .ao (.o (.aV .Sub (.call (.aC (.b0 .len)) (.o (.aw 13))) (.aw 8))))))) (.c (.a5 (.aw 13) (.aV .Add (.aw 13) (.aw 7))) (.o (.fx [15] (.av (.c (.call (.aC (.b0 .len)) (.o (.aw 13))) (.o (.aw 14)))) false (.o (.ite (.aQ .NotEq (.call (.h 658) (.c (.aw 13) (.c (.aw 8) (.c (.aw 15) (.o .ay))))) (.call (.h 651) (.c (.aw 9) (.c (.aw 12) (.c (.aw 8) (.c (.aw 15) (.o .ay))))))) (.o (.ret (.aC (.bool false)))) .nil)))))))) (.c (.a5 .ao (.call (.h 540) (.o .aj))) (.c (.a5 (.aw 16) (.call (.h 547) (.c .ao (.o (.call (.aC (.b0 .len)) (.o (.aw 9))))))) (.c (.a5 (.fe [17,18,19]) (.call (.h 665) (.o .ao))) (.c (.a5 (.fe [13,20]) (.av (.c (.call (.h 618) (.c (.aw 17) (.o (.k 0)))) (.o (.k 0))))) (.c (.ite (.aQ .Eq (.call (.h 547) (.c .ao (.o (.k 2)))) (.k 0)) (.o (.a5 (.fe [13,18,19,20]) (.call (.h 672) (.c .ao (.c (.sub (.sub (.aw 9) (.aw 16)) (.k 1)) (.o .ay)))))) .nil) (.c (.a5 (.aw 13) (.aV .Add (.aV .Add (.aV .Add (.aw 6) (.call (.h 646) (.c (.hx (.aw 9) (.aC .none) (.aw 16)) (.o (.k 1))))) (.aw 13)) (.call (.h 646) (.c (.hx (.aw 9) (.aw 16) (.aC .none)) (.o (.k 1)))))) (.c (.a5 (.aw 21) (.call (.h 651) (.c (.hx (.aw 9) (.aC .none) (.aw 16)) (.c (.k 1) (.c (.aw 8) (.c (.call (.aC (.b0 .len)) (.o (.aw 13))) (.o .ay))))))) (.c (.ite (.aQ .Eq (.sub (.aw 21) (.k 0)) (.g "a body")) (.o (.a5 (.aw 21) (.av (.c (.aw 18) (.c (.aw 19) (.o (.aV .Add (.sub (.aw 21) (.k 2)) (.aw 20)))))))) .nil) (.c (.ite (.aQ .NotEq (.call (.h 658) (.c (.aw 13) (.c (.aw 8) (.c (.call (.aC (.b0 .len)) (.o (.aw 13))) (.o .ay))))) (.aw 21)) (.o (.ret (.aC (.bool false)))) .nil) (.c (.a5 (.aw 11) (.call (.h 529) .nil)) (.c (.n9 (.c (.bB (.call (.h 243) (.c (.aw 11) (.o (.aV .Add (.hx (.aw 10) (.aC .none) (.aw 16)) (.bM (.o (.av (.o (.aw 17)))))))))) (.o (.ret (.aC (.bool false))))) (.c 185 22 (.o (.ite (.aQ .NotEq (.bO (.aw 22) .c2) (.aV .Add (.g "no instruction has the code ") (.call (.aC (.b0 .str)) (.o (.aw 17))))) (.o (.ret (.aC (.bool false)))) .nil)) .nil)) (.o (.ret (.aQ .Eq (.call (.aC (.b0 .bytes)) (.o (.bO (.aw 11) .ej))) (.call (.aC (.b0 .bytes)) (.o (.call (.h 646) (.c (.hx (.aw 9) (.aC .none) (.aw 16)) (.o (.k 0))))))))))))))))))))))))))))))))))))⟩
noncomputable def Dn:List (Addr×bC):=[(98,Aj),(105,zU),(112,zX),(117,zY),(131,FF),(151,vA),(170,vz),(194,Am),(201,An),(208,Ak),(215,Al),(222,Ao),(229,vF),(236,vG),(243,Au),(252,Ah),(259,zW),(266,Ar),(273,Aq),(280,zZ),(287,Ap),(294,zR),(301,As),(308,Ai),(315,z0),(322,vB),(329,zV),(336,zT),(343,zS),(358,zD),(379,vy),(386,vx),(407,zK),(414,zI),(421,zJ),(428,zH),(435,zE),(442,zF),(449,zG),(477,zL),(484,zN),(491,zO),(498,zQ),(505,zP),(512,zM),(540,z9),(547,Aa),(554,Ad),(561,z6),(568,Ae),(575,z8),(582,z1),(587,vD),(592,z5),(599,z4),(606,z'),(611,vE),(618,z2),(625,Af),(632,Ab),(639,Ag),(646,z7),(651,z3),(658,Ac),(665,z_),(672,vC),(677,e7)]
noncomputable def a_(a:Addr):Option bC:=Dn.lookup a
end
namespace Pp
open _root_.PySem
section
def W{α:Type}(r:aG α)(Q:α→ae→Prop)(X:Nat→ae→Prop):Prop:=match r with
 |.ok a j=>Q a j
 |.a6 k j=>X k j
 |.aS=>False
def b1(r:bH)(N:aq→ae→Prop)(R:ag→aq→ae→Prop)(X:Nat→aq→ae→Prop):Prop:=match r with
 |.next z j=>N z j
 |.ret v z j=>R v z j
 |.a6 k z j=>X k z j
 |.aS=>False
theorem W.dA{α:Type}{a:α}{j:ae}{Q:α→ae→Prop}{X:Nat→ae→Prop}(h:Q a j):W (.ok a j) Q X:=h
theorem W.bind{α go:Type}{x:aG α}{f:α→ae→aG go}{Q:go→ae→Prop}{X:Nat→ae→Prop}(h:W x (fun a j=>W (f a j) Q X) X):W (x.bind f) Q X:=by cases x<;>show h
theorem W.bb{α:Type}{x:aG α}{Q sp:α→ae→Prop}{X hm:Nat→ae→Prop}(h:W x Q X)(Ix:∀a j,Q a j→sp a j)(po:∀k j,X k j→hm k j):W x sp hm:=by
 cases x with
 |ok a j=>show Ix a j h
 |a6 k j=>show po k j h
 |aS=>show h
theorem b1.bb{x:bH}{N u5:aq→ae→Prop}{R kN:ag→aq→ae→Prop}{X hm:Nat→aq→ae→Prop}(h:b1 x N R X)(bv:∀z j,N z j→u5 z j)(mf:∀v z j,R v z j→kN v z j)(po:∀k z j,X k z j→hm k z j):b1 x u5 kN hm:=by
 cases x with
 |next z j=>show bv z j h
 |ret v z j=>show mf v z j h
 |a6 k z j=>show po k z j h
 |aS=>show h
theorem b1.bind{x:bH}{f:aq→ae→bH}{N:aq→ae→Prop}{R:ag→aq→ae→Prop}{X:Nat→aq→ae→Prop}(h:b1 x (fun z j=>b1 (f z j) N R X) R X):b1 (x.bind f) N R X:=by cases x<;>show h
theorem b1.toS{α:Type}{x:aG α}{z:aq}{f:α→ae→bH}{N:aq→ae→Prop}{R:ag→aq→ae→Prop}{X:Nat→aq→ae→Prop}(h:W x (fun a j=>b1 (f a j) N R X) (fun k j=>X k z j)):b1 (x.toS z f) N R X:=by cases x<;>show h
theorem W.dU{x:bH}{Q:ag→ae→Prop}{X:Nat→ae→Prop}(h:b1 x (fun _ j=>Q .none j) (fun v _ j=>Q v j) (fun k _ j=>X k j)):W x.dU Q X:=by cases x<;>show h
theorem W.Sd{α:Type}{c:Prop}[Decidable c]{a b:aG α}{Q:α→ae→Prop}{X:Nat→ae→Prop}(Z:c)(h:W a Q X):W (if c then a else b) Q X:=by rw[aF Z];show h
theorem W.Sb{α:Type}{c:Prop}[Decidable c]{a b:aG α}{Q:α→ae→Prop}{X:Nat→ae→Prop}(Z:¬c)(h:W b Q X):W (if c then a else b) Q X:=by rw[aM Z];show h
def ff{α:Type}(x:Option α)(Q:α→Prop):Prop:=match x with
 |some v=>Q v
 |none=>False
theorem U5{α:Type}{x:Option α}{Q:α→Prop}(h:ff x Q):∃v,x=some v∧Q v:=by
 cases x with
 |none=>show h.elim
 |some v=>show⟨v,rfl,h⟩
theorem tS{α:Type}{x:Option α}{Q:α→Prop}(h:ff x Q){re:Prop}(gl:∀v,x=some v→Q v→re):re:=aW (U5 h) gl
theorem cN{α:Type}{x:Option α}{v:α}{Q:α→Prop}(e:x=some v)(h:Q v):ff x Q:=e▸h
theorem u_{α go:Type}{x:Option go}{f:go→aG α}{Q:α→ae→Prop}{X:Nat→ae→Prop}(h:ff x fun a=>W (f a) Q X):W (bL x f) Q X:=by cases x<;>show h
theorem u9{go:Type}{x:Option go}{f:go→bH}{N:aq→ae→Prop}{R:ag→aq→ae→Prop}{X:Nat→aq→ae→Prop}(h:ff x fun a=>b1 (f a) N R X):b1 (eb x f) N R X:=by cases x<;>show h
def bg(x:Option ag)(Q:ag→Prop):Prop:=match x with
 |some v=>Q v
 |none=>False
theorem hV{x:Option Bool}{r:Bool}{Q:ag→Prop}(e:x=some r)(h:Q (.bool r)):bg (x.map .bool) Q:=by rw[e];show h
theorem b3{x:Option ag}{v:ag}{Q:ag→Prop}(e:x=some v)(h:Q v):bg x Q:=e▸h
theorem pB{x:Option ag}{j:ae}{Q:ag→ae→Prop}{X:Nat→ae→Prop}(h:bg x (fun v=>Q v j)):W (aG.bg x j) Q X:=by cases x<;>show h
def bN(x:Option Bool)(a b:Prop):Prop:=match x with
 |some true=>a
 |some false=>b
 |none=>False
theorem xU{α:Type}{x:Option Bool}{a b:aG α}{Q:α→ae→Prop}{X:Nat→ae→Prop}(h:bN x (W a Q X) (W b Q X)):W (h6 x a b) Q X:=by
 cases x with
 |none=>show h
 |some t=>cases t<;>show h
theorem JI{x:Option Bool}{a b:bH}{N:aq→ae→Prop}{R:ag→aq→ae→Prop}{X:Nat→aq→ae→Prop}(h:bN x (b1 a N R X) (b1 b N R X)):b1 (kS x a b) N R X:=by
 cases x with
 |none=>show h
 |some t=>cases t<;>show h
theorem rI{x:Option Bool}{a b pc oA:Prop}(h:bN x a b)(ds:a→pc)(Y:b→oA):bN x pc oA:=by
 cases x with
 |none=>show h
 |some t=>cases t<;>first|show ds h|show Y h
mutual
def wp(P:aY):a0→aq→ae→(ag→ae→Prop)→(Nat→ae→Prop)→Prop
 |.aC v,_,j,Q,_=>Q v j
 |.aw i,z,j,Q,_=>bg (z[i]?).join fun v=>Q v j
 |.aV op a b,z,j,Q,X=>wp P a z j (fun x j=>wp P b z j (fun y j=>W (cj op x y j) Q X) X) X
 |.neg a,z,j,Q,X=>wp P a z j (fun x j=>bg ((isInt x).map fun i=>.int (-i)) fun v=>Q v j) X
 |.aQ op a b,z,j,Q,X=>wp P a z j (fun x j=>wp P b z j (fun y j=>bg ((cC op x y j).map .bool) fun v=>Q v j) X) X
 |.jk a op b f6 c,z,j,Q,X=>wp P a z j (fun x j=>wp P b z j (fun y j=>bN (cC op x y j) (wp P c z j (fun aa j=>bg ((cC f6 y aa j).map .bool) fun v=>Q v j) X) (Q (.bool false) j)) X) X
 |.not a,z,j,Q,X=>wp P a z j (fun x j=>bg ((ck x).map fun b=>.bool (!b)) fun v=>Q v j) X
 |.and a b,z,j,Q,X=>wp P a z j (fun x j=>bN (ck x) (wp P b z j Q X) (Q (.bool false) j)) X
 |.or a b,z,j,Q,X=>wp P a z j (fun x j=>bN (ck x) (Q (.bool true) j) (wp P b z j Q X)) X
 |.ite c a b,z,j,Q,X=>wp P c z j (fun x j=>bN (ck x) (wp P a z j Q X) (wp P b z j Q X)) X
 |.av l,z,j,Q,X=>cR P l z j (fun xs j=>Q (.av xs) j) X
 |.bM l,z,j,Q,X=>cR P l z j (fun xs j=>W (es xs j) Q X) X
 |.sub a i,z,j,Q,X=>wp P a z j (fun x j=>wp P i z j (fun af j=>bg (dj j x af) fun v=>Q v j) X) X
 |.hx a l h,z,j,Q,X=>wp P a z j (fun x j=>wp P l z j (fun i j=>wp P h z j (fun af j=>W (i' x i af j) Q X) X) X) X
 |.bO a f,z,j,Q,X=>wp P a z j (fun x j=>bg (c' j x f) fun v=>Q v j) X
 |.call f as,z,j,Q,X=>wp P f z j (fun f j=>cR P as z j (fun xs j=>W (nd P f xs j) Q X) X) X
 |.bq a m as,z,j,Q,X=>wp P a z j (fun o j=>ht P j o m=true∧cR P as z j (fun xs j=>W (cJ P o m xs j) Q X) X) X
 |.init C as,z,j,Q,X=>cR P as z j (fun xs j=>W (vd P C xs j) Q X) X
 |.comp u8 t tt bW n ut,z,j,Q,X=>P.hd=true∧wp P tt z j (fun v j=>ff (d6 j bW v) fun db=>W (gG (fun(x:ag)(j:ae)=>bL (dY (e5 z ut (List.replicate n none)) t x) fun f4=>den P u8 f4 j) j.length db P.N 0 (j++([.list []]:ae))) (fun _ H=>Q (.ref j.length) H) X) X
 |.lG i n,z,j,Q,X=>W (den P (.lG i n) z j) Q X
def cR(P:aY):b5→aq→ae→(List ag→ae→Prop)→(Nat→ae→Prop)→Prop
 |.nil,_,j,Q,_=>Q [] j
 |.cons e r,z,j,Q,X=>wp P e z j (fun x j=>cR P r z j (fun xs j=>Q (x::xs) j) X) X
end
mutual
theorem cQ{P:aY}:∀(e:a0){z:aq}{j:ae}{Q:ag→ae→Prop}{X:Nat→ae→Prop},wp P e z j Q X→W (den P e z j) Q X
 |.aC v,_,_,_,_,h=>h
 |.aw i,_,_,_,_,h=>pB h
 |.lG i n,_,_,_,_,h=>h
 |.aV op a b,_,_,_,_,h=>by show W.bind ((cQ a h).bb (fun x j h=>W.bind (cQ b h)) fun _ _ h=>h)
 |.neg a,_,_,_,_,h=>by show W.bind ((cQ a h).bb (fun x j h=>pB h) fun _ _ h=>h)
 |.aQ op a b,_,_,_,_,h=>by show W.bind ((cQ a h).bb (fun x j h=>W.bind ((cQ b h).bb (fun y j h=>pB h) fun _ _ h=>h)) fun _ _ h=>h)
 |.jk a op b f6 c,_,_,_,_,h=>by show W.bind ((cQ a h).bb (fun x j h=>W.bind ((cQ b h).bb (fun y j h=>xU (rI h (fun h=>W.bind ((cQ c h).bb (fun aa j h=>pB h) fun _ _ h=>h)) fun h=>h)) fun _ _ h=>h)) fun _ _ h=>h)
 |.not a,_,_,_,_,h=>by show W.bind ((cQ a h).bb (fun x j h=>pB h) fun _ _ h=>h)
 |.and a b,_,_,_,_,h=>by show W.bind ((cQ a h).bb (fun x j h=>xU (rI h (cQ b) fun h=>h)) fun _ _ h=>h)
 |.or a b,_,_,_,_,h=>by show W.bind ((cQ a h).bb (fun x j h=>xU (rI h (fun h=>h) (cQ b))) fun _ _ h=>h)
 |.ite c a b,_,_,_,_,h=>by show W.bind ((cQ c h).bb (fun x j h=>xU (rI h (cQ a) (cQ b))) fun _ _ h=>h)
 |.av l,_,_,_,_,h=>by show W.bind ((p2 l h).bb (fun _ _ h=>h) fun _ _ h=>h)
 |.bM l,_,_,_,_,h=>by show W.bind ((p2 l h).bb (fun _ _ h=>h) fun _ _ h=>h)
 |.sub a i,_,_,_,_,h=>by show W.bind ((cQ a h).bb (fun x j h=>W.bind ((cQ i h).bb (fun y j h=>pB h) fun _ _ h=>h)) fun _ _ h=>h)
 |.hx a l r,_,_,_,_,h=>by show W.bind ((cQ a h).bb (fun x j h=>W.bind ((cQ l h).bb (fun y j h=>W.bind ((cQ r h).bb (fun aa j h=>h) fun _ _ h=>h)) fun _ _ h=>h)) fun _ _ h=>h)
 |.bO a f,_,_,_,_,h=>by show W.bind ((cQ a h).bb (fun x j h=>pB h) fun _ _ h=>h)
 |.call f as,_,_,_,_,h=>by show W.bind ((cQ f h).bb (fun x j h=>W.bind ((p2 as h).bb (fun _ _ h=>h) fun _ _ h=>h)) fun _ _ h=>h)
 |.bq a m as,_,_,_,_,h=>by show W.bind ((cQ a h).bb (fun x j h=>?_) fun _ _ h=>h);show W.Sd h.1 ?_;show W.bind ((p2 as h.2).bb (fun _ _ h=>h) fun _ _ h=>h)
 |.init C as,_,_,_,_,h=>by show W.bind ((p2 as h).bb (fun _ _ h=>h) fun _ _ h=>h)
 |.comp u8 t tt bW n ut,_,_,_,_,h=>by show W.Sb (fun aa=>kG ((congrArg (!·) h.1).symm.trans aa)) ?_;show W.bind ((cQ tt h.2).bb (fun v j h=>u_ ?_) fun _ _ h=>h);show tS h fun db e h=>?_;show cN e (W.bind (h.bb (fun _ _ h=>h) fun _ _ h=>h))
theorem p2{P:aY}:∀(l:b5){z:aq}{j:ae}{Q:List ag→ae→Prop}{X:Nat→ae→Prop},cR P l z j Q X→W (hM P l z j) Q X
 |.nil,_,_,_,_,h=>h
 |.cons e r,_,_,_,_,h=>by show W.bind ((cQ e h).bb (fun x j h=>W.bind ((p2 r h).bb (fun _ _ h=>h) fun _ _ h=>h)) fun _ _ h=>h)
end
section
variable{P:aY}{z:aq}{j:ae}{Q:ag→ae→Prop}{X:Nat→ae→Prop}
theorem el{v:ag}(h:Q v j):wp P (.aC v) z j Q X:=h
theorem ew{i:Nat}(h:bg (z[i]?).join fun v=>Q v j):wp P (.aw i) z j Q X:=h
theorem hy{op:Operator}{a b:a0}(h:wp P a z j (fun x j=>wp P b z j (fun y j=>W (cj op x y j) Q X) X) X):wp P (.aV op a b) z j Q X:=h
theorem oa{op:CmpOp}{a b:a0}(h:wp P a z j (fun x j=>wp P b z j (fun y j=>bg ((cC op x y j).map .bool) fun v=>Q v j) X) X):wp P (.aQ op a b) z j Q X:=h
theorem Xu{c a b:a0}(h:wp P c z j (fun x j=>bN (ck x) (wp P a z j Q X) (wp P b z j Q X)) X):wp P (.ite c a b) z j Q X:=h
theorem rM{l:b5}(h:cR P l z j (fun xs j=>Q (.av xs) j) X):wp P (.av l) z j Q X:=h
theorem uz{l:b5}(h:cR P l z j (fun xs j=>W (es xs j) Q X) X):wp P (.bM l) z j Q X:=h
theorem uA{a i:a0}(h:wp P a z j (fun x j=>wp P i z j (fun af j=>bg (dj j x af) fun v=>Q v j) X) X):wp P (.sub a i) z j Q X:=h
theorem Xv{a l r:a0}(h:wp P a z j (fun x j=>wp P l z j (fun i j=>wp P r z j (fun af j=>W (i' x i af j) Q X) X) X) X):wp P (.hx a l r) z j Q X:=h
theorem Xs{a:a0}{f:c8}(h:wp P a z j (fun x j=>bg (c' j x f) fun v=>Q v j) X):wp P (.bO a f) z j Q X:=h
theorem uy{f:a0}{as:b5}(h:wp P f z j (fun f j=>cR P as z j (fun xs j=>W (nd P f xs j) Q X) X) X):wp P (.call f as) z j Q X:=h
theorem rL{a:a0}{m:dG}{as:b5}(h:wp P a z j (fun o j=>ht P j o m=true∧cR P as z j (fun xs j=>W (cJ P o m xs j) Q X) X) X):wp P (.bq a m as) z j Q X:=h
theorem ky{Q:List ag→ae→Prop}(h:Q [] j):cR P .nil z j Q X:=h
theorem gv{Q:List ag→ae→Prop}{e:a0}{r:b5}(h:wp P e z j (fun x j=>cR P r z j (fun xs j=>Q (x::xs) j) X) X):cR P (.cons e r) z j Q X:=h
end
theorem Dx{P:aY}{u8 tt:a0}{t:List Nat}{bW:Bool}{n:Nat}{ut:List (Nat×Nat)}{z P3:aq}{j:ae}{Q:ag→ae→Prop}{X:Nat→ae→Prop}(AN:e5 z ut (List.replicate n none)=P3)(hd:P.hd=true)(h:wp P tt z j (fun v j=>ff (d6 j bW v) fun db=>W (gG (fun(x:ag)(j:ae)=>bL (dY P3 t x) fun f4=>den P u8 f4 j) j.length db P.N 0 (j++([.list []]:ae))) (fun _ H=>Q (.ref j.length) H) X) X):wp P (.comp u8 t tt bW n ut) z j Q X:=by subst AN;show⟨hd,h⟩
theorem eE{α go:Type}{x:Option α}{f:α→Option go}{a:α}{b:go}(h:x=some a)(e:f a=some b):x.bind f=some b:=by rw[h];show e
theorem gY{α go:Type}{x:Option α}{f:α→aG go}{a:α}(h:x=some a):bL x f=f a:=by rw[h];rfl
section
variable{j:ae}{k:Nat}{P:aY}
theorem vu{x y:ag}{d e:PyData}(I:c1 j 8 x=some d)(O:c1 j 8 y=some e)(a1:(SeqAt.shaped d&&SeqAt.shaped e)=true):vt j x y=some (PyData.eqv d e):=eE I (eE O (aF a1))
theorem Hg{x:ag}{l:List ag}{d:PyData}{wr:List PyData}(I:c1 [] 8 x=some d)(O:dz (c1 [] 8) l=some wr)(Z:(d.canLay0&&PyData.canLayAll0 wr&&d.depth==0)=true):wN x l=some (wr.any fun y=>PyData.eqv y d):=eE I (eE O (aF Z))
theorem ll{op:Operator}{a b i:Int}(h:tn op a b=some i):cj op (.int a) (.int b) j=.ok (.int i) j:=by show(?_:aG.bg ((tn op a b).map ag.int) j=_);rw[h];rfl
theorem Oa{x y r:Int}(h:y≠0∧y.natAbs<2^100)(e:x.fmod y=r):cj .Mod (.int x) (.int y) j=.ok (.int r) j:=ll ((aF h).trans (congrArg some e))
theorem N0{x y r:Int}(h:y≠0∧y.natAbs<2^100)(e:x.fdiv y=r):cj .FloorDiv (.int x) (.int y) j=.ok (.int r) j:=ll ((aF h).trans (congrArg some e))
theorem d1{l:List ag}(h:j[k]?=some (.list l)):c0 j k=some l:=eE h rfl
theorem oz{o:aI}{dL:c9}{f:c8}{w v:ag}(h:j[k]?=some o)(e:vJ o=some dL)(g:qI dL f=some w)(n:ri w=some v):c' j (.ref k) f=some v:=eE (a:=k) rfl (eE h (eE e (eE g n)))
theorem t2{o o':aI}{f:c8}{v:ag}(h:j[k]?=some o)(e:IL f v o=some o'):pK j (.ref k) f v=some (j.set k o'):=eE (a:=k) rfl (eE h (congrArg (Option.map _) e))
theorem vP{α:Type}{c:Prop}[Decidable c]{x:α}(h:c):kZ c x=some x:=aF h
theorem rH{l:List ag}{i:Int}(h:j[k]?=some (.list l)):dj j (.ref k) (.int i)=n7 l i:=congrArg (Option.bind · fun l=>n7 l i) (d1 h)
theorem IJ{l:List ag}{i:Int}{v:ag}(h:j[k]?=some (.list l))(V:l.length<aP):rr j (.ref k) (.int i) v=(i_ i l.length).map fun af=>j.set k (.list (l.set af v)):=(congrArg (Option.bind · _) (d1 h)).trans (aF V)
theorem nc{o:aI}{m:dG}{xs:List ag}(h:j[k]?=some o):cJ P (.ref k) m xs j=se P k o (.ref k) m xs j:=gY h
theorem Jt{n:Int}(h:n<aP∧-aP<n):d6 j true (.int n)=some (.all ((List.range n.toNat).map fun(i:Nat)=>.int i)):=aF h
theorem uf{l:List ag}(h:c0 j k=some l):d6 j false (.ref k)=some (.cc k):=congrArg (Option.map _) h
theorem tF{l:List ag}{i:Nat}(h:c0 j k=some l)(V:l.length<aP):gQ (.cc k) i j=some l[i]?:=eE h (aF V)
theorem Cj{l:List ag}(h:c0 j k=some l)(V:l.length<aP):cY P .len [.ref k] j=.ok (.int l.length) j:=(gY h).trans (aF V)
theorem Ml{l:List Int}(h:j[k]?=some (.bS l))(V:l.length<aP):cY P .bytes [.ref k] j=.ok (.bytes l) j:=(gY h).trans (aF V)
theorem ve{a:Addr}{xs:List ag}(hd:P.hd=true)(an:cZ a=false):nd P (.fn a) xs j=P.d' a xs j:=by show(?_:(if !P.hd then _ else if cZ a=true then _ else _)=_);rw[hd,an];rfl
theorem yT{l:List ag}{v:ag}(h:j[k]?=some (.list l))(V:l.length<aP):cJ P (.ref k) .b2 [v] j=.ok .none (j.set k (.list (l++[v]))):=(nc h).trans (aF V)
theorem mF{o:aI}{m:dG}(h:j[k]?=some o):ht P j (.ref k) m=AK m o:=by show(?_:(((j[k]?).map (AK m)).getD false)=_);rw[h];rfl
theorem Wc{i:Int}{n:Nat}(am:0≤i)(I:i<n):i_ i n=some i.toNat:=(aF am).trans (aF I)
theorem rG{l:List ag}{i:Int}(V:l.length<aP)(am:0≤i)(I:i<l.length):n7 l i=l[i.toNat]?:=(aF V).trans (congrArg (Option.bind · fun af=>l[af]?) (Wc am I))
theorem My{C:Addr}{dL:c9}{m:dG}{f:Addr}{xs:List ag}(h:j[k]?=some (.b_ C dL))(ac:gm C m=some f)(hd:P.hd=true):cJ P (.ref k) m xs j=P.d' f (.ref k::xs) j:=by show(nc h).trans (?_:(if !P.hd then _ else bL (gm C m) _)=_);rw[hd,ac];rfl
theorem Uh{C:Addr}{dL:c9}{m:dG}(h:j[k]?=some (.b_ C dL))(an:cZ C=true)(ac:(gm C m).isSome=true):ht P j (.ref k) m=true:=by show(mF h).trans (?_:(cZ C&&(gm C m).isSome)=true);rw[an,ac];rfl
theorem tY{l:List ag}{v:ag}(h:j[k]?=some (.list l))(V:l.length<aP):lD k v j=some (j.set k (.list (l++[v]))):=eE (d1 h) (aF V)
theorem TL{l:List ag}{i:Nat}(h:j[k]?=some (.list l))(V:l.length<aP):gQ (.cc k) i j=some l[i]?:=eE (d1 h) (aF V)
theorem WK{l:List ag}(h:j[k]?=some (.list l)):d6 j false (.ref k)=some (.cc k):=congrArg (Option.map _) (d1 h)
theorem JS{l:List ag}(h:j[k]?=some (.list l))(V:l.length<aP):cY P .tuple [.ref k] j=.ok (.av l) j:=(gY (d1 h)).trans (aF V)
theorem HF{l:List ag}(V:l.length<aP):cY P .len [.av l] j=.ok (.int l.length) j:=aF V
end
end
section
noncomputable abbrev b9(N:Nat)(sa:Addr)(ns:List Int)(d:Nat):aY:=⟨N,sa,ns,true,run a_ N sa ns d⟩
abbrev ha(X:Nat→aq→ae→Prop)(z:aq):Nat→ae→Prop:=fun k j=>X k z j
abbrev NW(Q:ag→ae→Prop):aq→ae→Prop:=fun _ j=>Q .none j
abbrev NX(Q:ag→ae→Prop):ag→aq→ae→Prop:=fun v _ j=>Q v j
abbrev NY(X:Nat→ae→Prop):Nat→aq→ae→Prop:=fun k _ j=>X k j
abbrev p'(aJ:Nat→aq→ae→Prop)(n:Nat):aq→ae→Prop:=fun z j=>∃m,m<n∧aJ m z j
def DD(P:aY)(t:eI)(v:ag)(z:aq)(j:ae)(N:aq→ae→Prop)(X:Nat→aq→ae→Prop):Prop:=match t with
 |.aw i=>N (dg z i v) j
 |.fe l=>P.hd=true∧ff (dY z l v) fun z=>N z j
 |.bO o f=>wp P o z j (fun x j=>ff (pK j x f v) fun j=>N z j) (ha X z)
 |.sub o i=>wp P o z j (fun x j=>wp P i z j (fun af j=>ff (rr j x af v) fun j=>N z j) (ha X z)) (ha X z)
theorem r6{b:Bool}{x:bH}{N:aq→ae→Prop}{R:ag→aq→ae→Prop}{X:Nat→aq→ae→Prop}(Y:b=true)(h:b1 x N R X):b1 (if !b then .aS else x) N R X:=by subst Y;show h
theorem XK{P:aY}{t:eI}{v:ag}{z:aq}{j:ae}{N:aq→ae→Prop}{R:ag→aq→ae→Prop}{X:Nat→aq→ae→Prop}(h:DD P t v z j N X):b1 (Dj P t v z j) N R X:=by
 cases t with
 |aw i=>show h
 |fe l=>show c4 h fun I O=>?_;show tS O fun f4 e O=>?_;show r6 I (u9 (cN e O))
 |bO o f=>show b1.toS ((cQ o h).bb (fun x j h=>u9 h) fun _ _ h=>h)
 |sub o i=>show b1.toS ((cQ o h).bb (fun x j h=>b1.toS ((cQ i h).bb (fun y j h=>u9 h) fun _ _ h=>h)) fun _ _ h=>h)
def Em(v:ag)(Q:Int→Prop):Prop:=match v with
 |.int i=>Q i
 |_=>False
mutual
def kz(P:aY):kJ→aq→ae→(aq→ae→Prop)→(ag→aq→ae→Prop)→(Nat→aq→ae→Prop)→Prop
 |.bB e,z,j,N,_,X=>wp P e z j (fun _ j=>N z j) (ha X z)
 |.ret e,z,j,_,R,X=>wp P e z j (fun v j=>R v z j) (ha X z)
 |.a5 t e,z,j,N,_,X=>wp P e z j (fun v j=>DD P t v z j N X) (ha X z)
 |.m8 i e,z,j,N,_,X=>ff (z[i]?).join fun a=>Em a fun a=>wp P e z j (fun v j=>Em v fun b=>N (dg z i (.int (a+b))) j) (ha X z)
 |.ite c a b,z,j,N,R,X=>wp P c z j (fun v j=>bN (ck v) (bX P a z j N R X) (bX P b z j N R X)) (ha X z)
 |.iJ c b,z,j,N,R,X=>P.hd=true∧b1 (rN (fun z j=>den P c z j) (fun z j=>dB P b z j) P.N z j) N R X
 |.fx t tt bW b,z,j,N,R,X=>P.hd=true∧wp P tt z j (fun v j=>ff (d6 j bW v) fun db=>b1 (kX (fun(x:ag)(z:aq)(j:ae)=>eb (dY z t x) fun z=>dB P b z j) db P.N 0 z j) N R X) (ha X z)
 |.dV C as,z,j,N,R,X=>P.hd=true∧cR P as z j (fun xs j=>b1 (xq P C xs z j) N R X) (ha X z)
 |.n9 b a1,z,j,N,R,X=>P.hd=true∧bX P b z j N R (fun k z j=>∃C dL,j[k]?=some (.cX C dL)∧cD C=true∧b1 (j_ P a1 C k z j) N R X)
def bX(P:aY):bZ→aq→ae→(aq→ae→Prop)→(ag→aq→ae→Prop)→(Nat→aq→ae→Prop)→Prop
 |.nil,z,j,N,_,_=>N z j
 |.cons s r,z,j,N,R,X=>kz P s z j (fun z j=>bX P r z j N R X) R X
end
mutual
theorem XJ{P:aY}:∀(s:kJ){z:aq}{j:ae}{N:aq→ae→Prop}{R:ag→aq→ae→Prop}{X:Nat→aq→ae→Prop},kz P s z j N R X→b1 (qz P s z j) N R X
 |.bB e,_,_,_,_,_,h=>b1.toS ((cQ e h).bb (fun _ _ h=>h) fun _ _ h=>h)
 |.ret e,_,_,_,_,_,h=>b1.toS ((cQ e h).bb (fun _ _ h=>h) fun _ _ h=>h)
 |.a5 t e,_,_,_,_,_,h=>b1.toS ((cQ e h).bb (fun _ _ h=>XK h) fun _ _ h=>h)
 |.m8 i e,z,_,_,_,_,h=>by
  show tS (show ff _ _ from h) fun a cd h=>?_;show(?_:b1 (eb ((z[i]?).join.bind isInt) _) _ _ _);rw[cd];clear cd;cases a with
  |int a=>
   show b1.toS ((cQ e h).bb (fun v _ h=>?_) fun _ _ h=>h);cases v with
   |int b=>show h
   |_=>show h.elim
  |_=>show h.elim
 |.ite c a b,_,_,_,_,_,h=>b1.toS ((cQ c h).bb (fun _ _ h=>JI (rI h (m1 a) (m1 b))) fun _ _ h=>h)
 |.iJ c b,_,_,_,_,_,h=>r6 h.1 h.2
 |.fx t tt bW b,_,_,_,_,_,h=>by show r6 h.1 ?_;show b1.toS ((cQ tt h.2).bb (fun v _ h=>u9 h) fun _ _ h=>h)
 |.dV C as,_,_,_,_,_,h=>by show r6 h.1 ?_;show b1.toS ((p2 as h.2).bb (fun _ _ h=>h) fun _ _ h=>h)
 |.n9 b a1,_,_,_,_,_,h=>by
  show r6 h.1 ?_;have h:=m1 b h.2;revert h;generalize dB P b _ _=r;intro h;cases r with
  |next z j=>show h
  |ret v z j=>show h
  |aS=>show h
  |a6 k z j=>show dR h fun C dL e on h=>?_;show(?_:b1 (eb ((j[k]?).bind t') _) _ _ _);rw[e];show(?_:b1 (if cD C=true then _ else bH.aS) _ _ _);rw[aF on];show h
theorem m1{P:aY}:∀(s:bZ){z:aq}{j:ae}{N:aq→ae→Prop}{R:ag→aq→ae→Prop}{X:Nat→aq→ae→Prop},bX P s z j N R X→b1 (dB P s z j) N R X
 |.nil,_,_,_,_,_,h=>h
 |.cons s r,_,_,_,_,_,h=>b1.bind ((XJ s h).bb (fun _ _ h=>m1 r h) (fun _ _ _ h=>h) fun _ _ _ h=>h)
end
abbrev w1(P:aY)(r:bZ)(N:aq→ae→Prop)(R:ag→aq→ae→Prop)(X:Nat→aq→ae→Prop):aq→ae→Prop:=fun z j=>bX P r z j N R X
abbrev SR(P:aY)(r:bZ)(N:aq→ae→Prop)(R:ag→aq→ae→Prop)(X:Nat→aq→ae→Prop)(z:aq)(i:Nat):ag→ae→Prop:=fun v j=>bX P r (dg z i v) j N R X
abbrev SS(P:aY)(r:bZ)(N:aq→ae→Prop)(R:ag→aq→ae→Prop)(X:Nat→aq→ae→Prop)(z:aq):ag→ae→Prop:=fun _ j=>bX P r z j N R X
abbrev SU(R:ag→aq→ae→Prop)(z:aq):ag→ae→Prop:=fun v j=>R v z j
section
variable{P:aY}{z:aq}{j:ae}{N:aq→ae→Prop}{R:ag→aq→ae→Prop}{X:Nat→aq→ae→Prop}
theorem ek(h:N z j):bX P .nil z j N R X:=h
theorem df{s:kJ}{r:bZ}(h:kz P s z j (w1 P r N R X) R X):bX P (.cons s r) z j N R X:=h
theorem dP{i:Nat}{e:a0}{r:bZ}(h:wp P e z j (SR P r N R X z i) (ha X z)):bX P (.cons (.a5 (.aw i) e) r) z j N R X:=h
theorem mP{t:eI}{e:a0}{r:bZ}(h:wp P e z j (fun v j=>DD P t v z j (w1 P r N R X) X) (ha X z)):bX P (.cons (.a5 t e) r) z j N R X:=h
theorem pS{e:a0}{r:bZ}(h:wp P e z j (SS P r N R X z) (ha X z)):bX P (.cons (.bB e) r) z j N R X:=h
theorem rB{e:a0}{r:bZ}(h:wp P e z j (SU R z) (ha X z)):bX P (.cons (.ret e) r) z j N R X:=h
theorem C9{c:a0}{a b r:bZ}(h:wp P c z j (fun v j=>bN (ck v) (bX P a z j (w1 P r N R X) R X) (bX P b z j (w1 P r N R X) R X)) (ha X z)):bX P (.cons (.ite c a b) r) z j N R X:=h
end
theorem oe{P:aY}{c:a0}{b:bZ}{N:aq→ae→Prop}{R:ag→aq→ae→Prop}{X:Nat→aq→ae→Prop}(aJ:Nat→aq→ae→Prop)(step:∀n z j,aJ n z j→wp P c z j (fun v j=>bN (ck v) (bX P b z j (p' aJ n) R X) (N z j)) (ha X z)):∀(k n:Nat)(z:aq)(j:ae),aJ n z j→n<k→b1 (rN (fun z j=>den P c z j) (fun z j=>dB P b z j) k z j) N R X:=by
 intro ca;induction ca with
 |zero=>intro sK Ev Da FM h;show absurd h (Nat.not_lt_zero _)
 |succ k ap=>intro n z j ga bi;show(?_:b1 ((den P c z j).toS z fun v j=>kS (ck v) ((dB P b z j).bind fun z j=>rN _ _ k z j) (.next z j)) N R X);show b1.toS ((cQ c (step n z j ga)).bb (fun v j h=>JI (rI h (fun h=>?_) fun h=>h)) fun _ _ h=>h);show b1.bind ((m1 b h).bb (fun z j ⟨m,ac,ga⟩=>ap m z j ga (by show ai [[1,1,1]] [_,_,_] [] [.lt .aa (.a .y .l),.lt .x .aa] (.lt .x .y) ah bi ac)) (fun _ _ _ h=>h) fun _ _ _ h=>h)
theorem FN{P:aY}{t:List Nat}{b:bZ}{db:d8}{l:List ag}{N:aq→ae→Prop}{R:ag→aq→ae→Prop}{X:Nat→aq→ae→Prop}(aJ:Nat→aq→ae→Prop)(Pi:∀i z j,aJ i z j→gQ db i j=some l[i]?)(item:∀i x z j,aJ i z j→l[i]?=some x→ff (dY z t x) fun z=>bX P b z j (aJ (i+1)) R X)(done:∀z j,aJ l.length z j→N z j):∀(k i:Nat)(z:aq)(j:ae),aJ i z j→i≤l.length→l.length-i<k→b1 (kX (fun(x:ag)(z:aq)(j:ae)=>eb (dY z t x) fun z=>dB P b z j) db k i z j) N R X:=by
 intro ca;induction ca with
 |zero=>intro sK Ev Da FM hg h;show absurd h (Nat.not_lt_zero _)
 |succ k ap=>
  intro i z j ga an ak;rw[FK,Pi i z j ga];cases ad:l[i]? with
  |none=>
   have:i=l.length:=by rw[List.getElem?_eq_none_iff]at ad;show yv an ad
   clear an ak ad;subst this;show done z j ga
  |some x=>have m0:=(c7.mp ad).1;show tS (item i x z j ga ad) fun f4 e h=>?_;show(?_:b1 ((eb (dY z t x) fun z=>dB P b z j).bind _) N R X);rw[e];show b1.bind ((m1 b h).bb (fun z j ga=>ap (i+1) z j ga (by show uZ m0) (by show ai [[1,0,0,1,0,1,0,0,1],[1,0,0,1,0,1,0,1,1],[0,1,0,0,1],[0,1,0,0,0,0,0,1]] [_,_,_,_,_] [] [.lt .aa (.a .y .l),.lt .w .u,.cG .x .u (.a .w .l),.cG .aa .u .w] (.lt .x .y) ah ak m0 (cy _ _) (cy _ _))) (fun _ _ _ h=>h) fun _ _ _ h=>h)
theorem so{f:ag→ae→aG ag}{db:d8}{l:List ag}{cu:Nat}{Q:Unit→ae→Prop}{X:Nat→ae→Prop}(aJ:Nat→ae→Prop)(Pi:∀i j,aJ i j→gQ db i j=some l[i]?)(item:∀i x j,aJ i j→l[i]?=some x→W (f x j) (fun y j=>ff (lD cu y j) fun j=>aJ (i+1) j) X)(done:∀j,aJ l.length j→Q () j):∀(k i:Nat)(j:ae),aJ i j→i≤l.length→l.length-i<k→W (gG f cu db k i j) Q X:=by
 intro ca;induction ca with
 |zero=>intro sK Ev Da FM h;show absurd h (Nat.not_lt_zero _)
 |succ k ap=>
  intro i j ga an ak;rw[E4,Pi i j ga];cases ad:l[i]? with
  |none=>
   have:i=l.length:=by rw[List.getElem?_eq_none_iff]at ad;show yv an ad
   clear an ak ad;subst this;show done j ga
  |some x=>have m0:=(c7.mp ad).1;show W.bind ((item i x j ga ad).bb (fun y j h=>u_ ?_) fun _ _ h=>h);show tS h fun H e ga=>?_;show cN e ?_;show ap (i+1) H ga (by show uZ m0) (by show ai [[1,0,0,1,0,1,0,0,1],[1,0,0,1,0,1,0,1,1],[0,1,0,0,1],[0,1,0,0,0,0,0,1]] [_,_,_,_,_] [] [.lt .aa (.a .y .l),.lt .w .u,.cG .x .u (.a .w .l),.cG .aa .u .w] (.lt .x .y) ah ak m0 (cy _ _) (cy _ _))
theorem bQ{N:Nat}{sa:Addr}{ns:List Int}{d:Nat}{a:Addr}{f:bC}{xs:List ag}{z:aq}{j:ae}{Q:ag→ae→Prop}{X:Nat→ae→Prop}(im:a_ a=some f)(Y:u' f xs=some z)(h:bX (b9 N sa ns d) f.body z j (NW Q) (NX Q) (NY X)):W (run a_ N sa ns (d+1) a xs j) Q X:=by show u_ (cN im (u_ (cN Y (W.dU (m1 _ h)))))
end
section
set_option genInjectivity false in
set_option genCtorIdx false in
inductive bI(α:Type)where
 |ret (a:α)
 |cT (C:Addr) (c2:Str) (ft:Int)
 |get (k:Int→bI α)
 |pos (k:Int→bI α)
 |dI
set_option genInjectivity true in
set_option genCtorIdx true in
inductive c_(α:Type)where
 |ok (a:α) (p:Int) (L:List Int)
 |di (C:Addr) (c2:Str) (ft:Int)
 |g0
 |dI
noncomputable def bI.bind{α go:Type}:bI α→(α→bI go)→bI go
 |.ret a,f=>f a
 |.cT C w a,_=>.cT C w a
 |.get k,f=>.get fun x=>(k x).bind f
 |.pos k,f=>.pos fun x=>(k x).bind f
 |.dI,_=>.dI
noncomputable def bI.exec{α:Type}:bI α→Int→List Int→c_ α
 |.ret a,p,L=>.ok a p L
 |.cT C w a,_,_=>.di C w a
 |.get _,_,[]=>.g0
 |.get k,p,x::L=>(k x).exec (p+1) L
 |.pos k,p,L=>(k p).exec p L
 |.dI,_,_=>.dI
theorem dr{α:Type}{a:α}{p:Int}{L:List Int}:(bI.ret a).exec p L=.ok a p L:=rfl
theorem dm{α:Type}{C:Addr}{w:Str}{a p:Int}{L:List Int}:(bI.cT C w a:bI α).exec p L=.di C w a:=rfl
theorem dp{α:Type}{k:Int→bI α}{p:Int}:(bI.get k).exec p []=.g0:=rfl
theorem dn{α:Type}{k:Int→bI α}{p x:Int}{L:List Int}:(bI.get k).exec p (x::L)=(k x).exec (p+1) L:=rfl
theorem dq{α:Type}{k:Int→bI α}{p:Int}{L:List Int}:(bI.pos k).exec p L=(k p).exec p L:=rfl
theorem dk{α:Type}{p:Int}{L:List Int}:(bI.dI:bI α).exec p L=.dI:=rfl
noncomputable def c_.bind{α go:Type}(r:c_ α)(f:α→Int→List Int→c_ go):c_ go:=match r with
 |.ok a p L=>f a p L
 |.di C w a=>.di C w a
 |.g0=>.g0
 |.dI=>.dI
theorem eB{α go:Type}(f:α→bI go):∀(t:bI α)(p:Int)(L:List Int),(t.bind f).exec p L=(t.exec p L).bind fun a p L=>(f a).exec p L:=by
 intro ca;induction ca with
 |ret xZ=>intro Ev Da;show rfl
 |cT iH T0 iI=>intro j6 kT;show rfl
 |get lQ ap=>
  intro p m_;cases m_ with
  |nil=>show rfl
  |cons x L=>show ap x (p+1) L
 |pos k ap=>intro p L;show ap p p L
 |dI=>intro lY m';show rfl
theorem vw{α:Type}:∀(t:bI α)(p:Int)(L:List Int){a:α}{jp:Int}{g3:List Int},t.exec p L=.ok a jp g3→g3<:+L∧jp+g3.length=p+L.length:=by
 intro ca;induction ca with
 |ret xZ=>intro p L Ev Da FM h;simp only[dr,dm,dp,dn,dq,dk,c_.ok.injEq]at h;obtain⟨_,rfl,rfl⟩:=h;show⟨List.suffix_refl _,rfl⟩
 |cT T0 iI h2=>intro kT lZ m_ lY m' h;simp[dr,dm,dp,dn,dq,dk]at h
 |get Zd ap=>
  intro p vc Mm Mn Mo h;cases vc with
  |nil=>simp[dr,dm,dp,dn,dq,dk]at h
  |cons x L=>obtain⟨I,O⟩:=ap x (p+1) L h;show⟨I.trans (List.suffix_cons _ _),?_⟩;rw[O,hF];show ai [[1],[1]] [_] [_] [] (.a8 (.a (.a .x .l) (.c .x)) (.a .x (.c (.a .x .l)))) ah
 |pos k ap=>intro p L Mp Mq Mr h;show ap p p L h
 |dI=>intro Ms Yi Yj Yk Yl h;simp[dr,dm,dp,dn,dq,dk]at h
theorem NT{α:Type}:∀(t:bI α)(p:Int)(A B:List Int){a:α}{jp:Int},t.exec p (A++B)=.ok a jp B→(∀x7,t.exec p (A++x7)=.ok a jp x7)∧∀g7,g7<+:A→g7≠A→t.exec p g7=.g0:=by
 intro ca;induction ca with
 |ret xZ=>
  intro p A B Ev Da h;simp only[dr,dm,dp,dn,dq,dk,c_.ok.injEq]at h;obtain⟨rfl,rfl,h⟩:=h;have:A=[]:=by have:=congrArg List.length h;simp at this;show this
  clear h;subst this;show⟨fun x7=>rfl,fun g7 I O=>absurd (List.prefix_nil.mp I) O⟩
 |cT iH T0 iI=>intro j6 kT lZ m_ lY h;simp[dr,dm,dp,dn,dq,dk]at h
 |get k ap=>
  intro p m' B sb vc h;cases m' with
  |nil=>
   cases B with
   |nil=>simp[dr,dm,dp,dn,dq,dk]at h
   |cons x B=>have:=(vw (k x) (p+1) B h).1;have:=this.length_le;simp at this;show absurd this (Nat.not_succ_le_self _)
  |cons x A=>
   obtain⟨I,O⟩:=ap x (p+1) A B h;show⟨I,fun g7 be li=>?_⟩;cases g7 with
   |nil=>rfl
   |cons y g7=>have KE:=List.cons_prefix_cons.mp be;clear h I be;obtain⟨rfl,IN⟩:=KE;show O g7 IN fun e=>li (by rw[e])
 |pos k ap=>intro p A B Mm Mn h;show ap p p A B h
 |dI=>intro Mo Mp Mq Mr Ms h;simp[dr,dm,dp,dn,dq,dk]at h
def aO(c:Nat)(j H:ae):Prop:=j.length≤H.length∧∀k,k≠c→k<j.length→H[k]?=j[k]?
theorem aO.refl(c:Nat)(j:ae):aO c j j:=⟨cm _,fun _ _ _=>rfl⟩
theorem aO.trans{c:Nat}{f2 s1 jS:ae}(x:aO c f2 s1)(y:aO c s1 jS):aO c f2 jS:=⟨c6 x.1 y.1,fun k I O=>(y.2 k I (jV O x.1)).trans (x.2 k I O)⟩
theorem aO.push(c:Nat)(j:ae)(l:List aI):aO c j (j++l):=⟨by simp,fun k _ h=>List.getElem?_append_left h⟩
theorem aO.set(c:Nat)(j:ae)(o:aI):aO c j (j.set c o):=⟨by simp,fun k I _=>eP (Ne.symm I)⟩
theorem aO.iC{c:Nat}{fL j:ae}(x:aO c fL j){k:Nat}(ak:fL.length≤k)(o:aI):aO c fL (j.set k o):=⟨by rw[List.length_set];show x.1,fun af I O=>by rw[eP (by show qg ak O)];show x.2 af I O⟩
theorem aO.get{c:Nat}{j H:ae}(x:aO c j H){k:Nat}{o:aI}(h:j[k]?=some o)(Z:k≠c):H[k]?=some o:=(x.2 k Z (c7.mp h).1).trans h
theorem kc{j:ae}{k:Nat}{o:aI}(h:j[k]?=some o):k<j.length:=(c7.mp h).1
theorem eu{j:ae}{k:Nat}{o o':aI}(h:j[k]?=some o):(j.set k o')[k]?=some o':=kE (kc h)
theorem bG(j:ae)(o:aI):(j++[o])[j.length]?=some o:=by simp
theorem hY{j:ae}{k:Nat}{o:aI}(h:j[k]?=some o)(l:List aI):(j++l)[k]?=some o:=(List.getElem?_append_left (kc h)).trans h
theorem fP{r:aG ag}{a:ag}{b:ae}(h:W r (fun v j=>v=a∧j=b) (fun _ _=>False)):r=.ok a b:=by
 cases r with
 |ok v j=>obtain⟨rfl,rfl⟩:=h;rfl
 |a6 k j=>show h.elim
 |aS=>show h.elim
section
variable{N:Nat}{sa:Addr}{ns:List Int}{d:Nat}
noncomputable def ib(C:Addr)(w:Str)(a:Int):aI:=.cX C [(.c2,.str w),(.at,.int a)]
theorem C_{j:ae}{k:Nat}{a b:aI}:(j.set k a).set k b=j.set k b:=List.set_set ..
theorem I9{C:Addr}{w:Str}{k:Nat}{j:ae}(on:cD C=true)(h:j[k]?=some (.a6 C [])):run a_ N sa ns (d+1) 131 [.ref k,.str w] j=.ok .none (j.set k (.a6 C [(.c2,.str w)])):=by show fP (bQ rfl rfl ?_);show(?_:W (vd _ 0 [.ref k,.str w] j) _ _);show(?_:W (bL ((j[k]?).bind BP) fun C=>if cD C then aG.ok ag.none j else .aS) _ _);rw[h];show(?_:W (if cD C=true then _ else _) _ _);rw[aF on];show cN (t2 h (vP ⟨on,by decide⟩)) ⟨rfl,rfl⟩
theorem V9{C:Addr}{w:Str}{a:Int}{k:Nat}{j:ae}(on:C=bE∨C=dy)(h:j[k]?=some (.a6 C [])):run a_ N sa ns (d+2) (gN C) [.ref k,.str w,.int a] j=.ok .none (j.set k (.a6 C [(.c2,.str w),(.at,.int a)])):=by
 have zs:cD C=true:=by rcases on with rfl|rfl<;>rfl
 have body:∀f,(f=vA∨f=vz)→bX (b9 N sa ns (d+1)) f.body [some (.ref k),some (.str w),some (.int a),none] j (fun _ H=>(ag.none=ag.none∧H=j.set k (.a6 C [(.c2,.str w),(.at,.int a)]))) (fun v _ H=>v=ag.none∧H=j.set k (.a6 C [(.c2,.str w),(.at,.int a)])) (fun _ _ _=>False):=by rintro f (rfl|rfl);all_goals show(?_:W (run a_ N sa ns (d+1) 131 [.ref k,.str w] j) _ _);rw[I9 zs h];show cN (t2 (eu h) (vP ⟨zs,(by decide:1<10)⟩)) ⟨rfl,C_⟩
 clear h zs;rcases on with rfl|rfl
 ·show fP (bQ (f:=vA) rfl rfl (body _ (.inl rfl)))
 ·show fP (bQ (f:=vz) rfl rfl (body _ (.inr rfl)))
theorem IQ{C:Addr}{dL:c9}{k:Nat}{z:aq}{j:ae}{rZ:aq→ae→Prop}{R:ag→aq→ae→Prop}{X:Nat→aq→ae→Prop}(h:j[k]?=some (.a6 C dL))(on:cD C=true)(q:X k z (j.set k (.cX C dL))):b1 (ru C k z .none j) rZ R X:=by show(?_:b1 (eb ((j[k]?).bind zz) _) _ _ _);rw[h];show(?_:b1 (if C=C∧cD C=true then _ else _) _ _ _);rw[aF ⟨rfl,on⟩];show q
theorem gZ{C:Addr}{w:Str}{a:Int}{hd:Bool}{z:aq}{j:ae}{rZ:aq→ae→Prop}{R:ag→aq→ae→Prop}{X:Nat→aq→ae→Prop}(on:C=bE∨C=dy)(h:X j.length z (j++[ib C w a])):b1 (xq ⟨N,sa,ns,hd,run a_ N sa ns (d+2)⟩ C [.str w,.int a] z j) rZ R X:=by
 have zs:cD C=true:=by rcases on with rfl|rfl<;>rfl
 show(?_:b1 ((run a_ N sa ns (d+2) (gN C) [.ref j.length,.str w,.int a] (j++[.a6 C []])).toS z _) _ _ _);rw[V9 on (bG j _)];show IQ (eu (bG j _)) zs ?_;have:(((j++[aI.a6 C []]).set j.length (.a6 C [(.c2,.str w),(.at,.int a)])).set j.length (.cX C [(.c2,.str w),(.at,.int a)]))=j++[ib C w a]:=by rw[C_];unfold ib;simp
 rw[this];show h
theorem Vy{w:Str}{hd:Bool}{z:aq}{j:ae}{rZ:aq→ae→Prop}{R:ag→aq→ae→Prop}{X:Nat→aq→ae→Prop}(h:X j.length z (j++[.cX fR [(.c2,.str w)]])):b1 (xq ⟨N,sa,ns,hd,run a_ N sa ns (d+1)⟩ fR [.str w] z j) rZ R X:=by
 show(?_:b1 ((run a_ N sa ns (d+1) 131 [.ref j.length,.str w] (j++[.a6 fR []])).toS z _) _ _ _);rw[I9 rfl (bG j _)];show IQ (eu (bG j _)) rfl ?_;have:(((j++[aI.a6 fR []]).set j.length (.a6 fR [(.c2,.str w)])).set j.length (.cX fR [(.c2,.str w)]))=j++[.cX fR [(.c2,.str w)]]:=by rw[C_];simp
 rw[this];show h
noncomputable def ez(az:List Int)(e:Nat)(L:List Int):aI:=.b_ fQ [(.ej,.bytes az),(.at,.int (e-L.length)),(.l9,.int e)]
structure cO(c:Nat)(az:List Int)(e:Nat)(L:List Int)(j:ae):Prop where
 ft:j[c]?=some (ez az e L)
 n8:L<:+az.take e
 le:e≤az.length
 pC:az.length<aP
theorem cO.len{c:Nat}{az:List Int}{e:Nat}{L:List Int}{j:ae}(x:cO c az e L j):L.length≤e:=by have:=x.n8.length_le;show c6 this (List.length_take_le _ _)
def c3(j:ae)(c:Nat)(az:List Int)(e:Nat){α:Type}(r:c_ α)(Q:α→ae→Prop)(X:Nat→ae→Prop):Prop:=match r with
 |.ok v _ L=>∀H,aO c j H→cO c az e L H→Q v H
 |.di C w a=>∀H k,aO c j H→H[k]?=some (ib C w a)→X k H
 |.g0=>∀H k,aO c j H→H[k]?=some (ib bE "unexpected end" e)→X k H
 |.dI=>False
theorem c3.eY{j f2:ae}{c:Nat}{az:List Int}{e:Nat}{α:Type}{r:c_ α}{Q:α→ae→Prop}{X:Nat→ae→Prop}(h:c3 j c az e r Q X)(f:aO c j f2):c3 f2 c az e r Q X:=by
 cases r with
 |ok v p L=>show fun H iX=>h H (f.trans iX)
 |di C w a=>show fun H k iX=>h H k (f.trans iX)
 |g0=>show fun H k iX=>h H k (f.trans iX)
 |dI=>show h
theorem c3.bind{j:ae}{c:Nat}{az:List Int}{e:Nat}{α go:Type}{r:c_ α}{f:α→Int→List Int→c_ go}{Q:go→ae→Prop}{sp:α→ae→Prop}{X:Nat→ae→Prop}(h:c3 j c az e (r.bind f) Q X)(Ix:∀v p L H,r=.ok v p L→aO c j H→cO c az e L H→c3 H c az e (f v p L) Q X→sp v H):c3 j c az e r sp X:=by
 cases r with
 |ok v p L=>show fun H iX g=>Ix v p L H rfl iX g (h.eY iX)
 |di C w a=>show h
 |g0=>show h
 |dI=>show h
def eV(a:Addr)(D:Nat)(args:List ag){α:Type}(inj:α→ag)(t:bI α):Prop:=∀(N:Nat)(sa:Addr)(ns:List Int)(d c:Nat)(az:List Int)(e:Nat)(L:List Int)(j:ae)(Q:ag→ae→Prop)(X:Nat→ae→Prop),1000≤N→cO c az e L j→c3 j c az e (t.exec (e-L.length) L) (fun v j=>Q (inj v) j) X→W (run a_ N sa ns (d+D) a (.ref c::args) j) Q X
theorem hK{c:Nat}{az:List Int}{e:Nat}{L:List Int}{j:ae}(h:cO c az e L j):c' j (.ref c) .at=some (.int (e-L.length)):=by show oz h.ft rfl rfl rfl
end
end
section
section
variable{N:Nat}{sa:Addr}{ns:List Int}{d:Nat}{c:Nat}{az:List Int}{e:Nat}{L:List Int}{j:ae}
theorem En(h:cO c az e L j):c' j (.ref c) .l9=some (.int e):=by show oz h.ft rfl rfl rfl
theorem Lk(h:cO c az e L j):c' j (.ref c) .ej=some (.bytes az):=by show oz h.ft rfl rfl rfl
theorem Nb{x:Int}(h:cO c az e (x::L) j):az[((e:Int)-((x::L).length:Nat)).toNat]?=some x:=by
 show b6 h.n8 fun t im=>?_;have V:=congrArg List.length im;rw[cA,List.length_take,Nat.min_eq_left h.le]at V;have cd:((e:Int)-((x::L).length:Nat)).toNat=t.length:=by show ai [[1,0,0,1,1],[1,1,0,0,1],[1,0,1,0,0,1],[1,0,1]] [_,_,_,_] [] [.eq (.a .y .aa) .w,.cz .x (.s (.c .w) (.c .aa))] (.eq .x .y) ah V (cS _)
 rw[cd];have O:(az.take e)[t.length]?=some x:=by rw[←im,og (cm _)];simp
 rw[List.getElem?_take]at O;split at O;·show O
 ·show cf O
theorem sr{x:Int}(h:cO c az e (x::L) j):cO c az e L (j.set c (ez az e L)):=⟨eu h.ft,(List.suffix_cons x L).trans h.n8,h.le,h.pC⟩
theorem CV{x:Int}(h:cO c az e (x::L) j):run a_ N sa ns (d+3) 379 [.ref c] j=.ok (.int x) j:=by
 show fP (bQ (f:=vy) rfl rfl ?_);have nb:=h.len;have I:¬((e:Int)≤e-((x::L).length:Nat)):=by rw[hF];show ai [[1]] [_,_] [] [] (.aK (.ax (.c .x) (.s (.c .x) (.c (.a .y .l))))) ah
 show(?_:bg (c' j (.ref c) .at) fun x=>bg (c' j (.ref c) .l9) fun y=>_);rw[hK h,En h];show(?_:bN (some (decide ((e:Int)≤e-((x::L).length:Nat)))) _ _);rw[cE I];show(?_:bg (c' j (.ref c) .ej) fun x=>bg (c' j (.ref c) .at) fun y=>_);rw[Lk h,hK h];show(?_:bg (if 0≤((e:Int)-((x::L).length:Nat))∧az.length<aP then(az[((e:Int)-((x::L).length:Nat)).toNat]?).map ag.int else none) _);rw[aF ⟨by show ai [[1,1]] [_,_] [] [.le .y .x] (.ax .o (.s (.c .x) (.c .y))) ah nb,h.pC⟩,Nb h];show⟨rfl,rfl⟩
theorem Iz(h:cO c az e [] j):run a_ N sa ns (d+3) 379 [.ref c] j=.a6 j.length (j++[ib bE "unexpected end" e]):=by
 have key:W (run a_ N sa ns (d+3) 379 [.ref c] j) (fun _ _=>False) (fun k H=>k=j.length∧H=j++[ib bE "unexpected end" e]):=by show bQ (f:=vy) rfl rfl ?_;show(?_:bg (c' j (.ref c) .at) fun x=>bg (c' j (.ref c) .l9) fun y=>_);rw[hK h,En h];show(?_:bN (some (decide ((e:Int)≤e-(([]:List Int).length:Nat)))) _ _);rw[cF (by simp)];show⟨rfl,?_⟩;show(?_:bg (c' j (.ref c) .at) _);rw[hK h];show gZ (.inl rfl) ⟨rfl,?_⟩;rfl
 revert key;generalize run a_ N sa ns (d+3) 379 [.ref c] j=r;intro key;cases r with
 |ok v j=>show key.elim
 |a6 k j=>obtain⟨rfl,rfl⟩:=key;rfl
 |aS=>show key.elim
theorem Ct{P:aY}{m:dG}{f:Addr}(h:cO c az e L j)(ac:gm fQ m=some f):ht P j (.ref c) m=true:=by show(mF h.ft).trans (?_:(cZ fQ&&(gm fQ m).isSome)=true);rw[ac];rfl
theorem yY{P:aY}{m:dG}{f:Addr}{xs:List ag}(h:cO c az e L j)(ac:gm fQ m=some f)(hd:P.hd=true):cJ P (.ref c) m xs j=P.d' f (.ref c::xs) j:=by show(nc h.ft).trans (?_:(if !P.hd then _ else bL (gm fQ m) _)=_);rw[hd,ac];rfl
theorem Vq(h:cO c az e L j){i:Int}{g3:List Int}(an:i=(e:Int)-(g3.length:Nat)):pK j (.ref c) .at (.int i)=some (j.set c (ez az e g3)):=by subst an;show t2 h.ft (vP ⟨rfl,(by decide:3<10)⟩)
theorem tQ{x:Int}(h:cO c az e (x::L) j):run a_ N sa ns (d+4) 386 [.ref c] j=.ok (.int x) (j.set c (ez az e L)):=by show fP (bQ (f:=vx) rfl rfl ?_);show⟨Ct (f:=379) h rfl,?_⟩;show(?_:W (cJ _ (.ref c) .n1 [] j) _ _);rw[yY (f:=379) h rfl rfl];show(?_:W (run a_ N sa ns (d+3) 379 [.ref c] j) _ _);rw[CV h];show(?_:bg (c' j (.ref c) .at) _);rw[hK h];show(?_:ff (pK j (.ref c) .at (.int ((e:Int)-((x::L).length:Nat)+1))) _);rw[Vq h (g3:=L) (by rw[hF];show uS)];show⟨rfl,rfl⟩
theorem xk(h:cO c az e [] j):run a_ N sa ns (d+4) 386 [.ref c] j=.a6 j.length (j++[ib bE "unexpected end" e]):=by
 have key:W (run a_ N sa ns (d+4) 386 [.ref c] j) (fun _ _=>False) (fun k H=>k=j.length∧H=j++[ib bE "unexpected end" e]):=by show bQ (f:=vx) rfl rfl ?_;show⟨Ct (f:=379) h rfl,?_⟩;show(?_:W (cJ _ (.ref c) .n1 [] j) _ _);rw[yY (f:=379) h rfl rfl];show(?_:W (run a_ N sa ns (d+3) 379 [.ref c] j) _ _);rw[Iz h];show⟨rfl,rfl⟩
 revert key;generalize run a_ N sa ns (d+4) 386 [.ref c] j=r;intro key;cases r with
 |ok v j=>show key.elim
 |a6 k j=>obtain⟨rfl,rfl⟩:=key;rfl
 |aS=>show key.elim
theorem hu{P:aY}{m:dG}{f:Addr}{as:b5}{xs:List ag}{z:aq}{a:a0}{Q:ag→ae→Prop}{X:Nat→ae→Prop}(h:cO c az e L j)(ac:gm fQ m=some f)(hd:P.hd=true)(ds:∀Q,wp P a z j Q X=Q (.ref c) j)(ad:∀Q,cR P as z j Q X=Q xs j)(w:W (P.d' f (.ref c::xs) j) Q X):wp P (.bq a m as) z j Q X:=by show rL ?_;rw[ds];show⟨Ct h ac,?_⟩;rw[ad,yY h ac hd];show w
end
end
section
theorem lX(o:Int):Builtin.bitAnd o 127=o%128:=by
 unfold Builtin.bitAnd Builtin.bitNot;cases o with
 |ofNat n=>rw[cF (show 0≤Int.ofNat n from Int.natCast_nonneg n)];show congrArg Nat.cast (Nat.and_two_pow_sub_one_eq_mod n 7)
 |negSucc n=>rw[cE (show¬0≤Int.negSucc n from Int.not_le.mpr (Int.negSucc_lt_zero n))];show(?_:(127:Int)-((127&&&(-(Int.negSucc n)-1).toNat:Nat):Int)=_);rw[show(-(Int.negSucc n)-1).toNat=n from Int.toNat_sub (n+1) 1,Nat.and_comm,Int.negSucc_emod n (by decide)];show congrArg (fun t:Nat=>(127:Int)-t) (Nat.and_two_pow_sub_one_eq_mod n 7)
theorem l2{s:Str}:(PyData.str s).canLay0=PyData.strOk s:=rfl
theorem l0{i:Int}:(PyData.int i).canLay0=true:=rfl
theorem l3{l:List PyData}:(PyData.tuple l).canLay0=PyData.canLayAll0 l:=rfl
theorem l1{l:List PyData}:(PyData.list l).canLay0=PyData.canLayAll0 l:=rfl
theorem sj:PyData.canLayAll0 []=true:=rfl
theorem si{x:PyData}{l:List PyData}:PyData.canLayAll0 (x::l)=(x.canLay0&&PyData.canLayAll0 l):=rfl
theorem oJ{s:Str}:(PyData.str s).depth=0:=rfl
theorem oI{i:Int}:(PyData.int i).depth=0:=rfl
theorem oK{l:List PyData}:(PyData.tuple l).depth=PyData.depthAll l+1:=rfl
theorem nk{l:List PyData}:(PyData.list l).depth=PyData.depthAll l+1:=rfl
theorem vm:PyData.depthAll []=0:=rfl
theorem vl{x:PyData}{l:List PyData}:PyData.depthAll (x::l)=max x.depth (PyData.depthAll l):=rfl
theorem Dc{d:PyData}(I:d.canLay0=true)(O:d.depth≤64):SeqAt.shaped d=true:=hD.mpr ⟨I,cF O⟩
theorem Fw(j:ae)(a b:Int):h_ j (.int a) (.int b)=some (a==b):=by show vu (x:=.int a) (y:=.int b) rfl rfl rfl
theorem qB(j:ae){a b:Str}(ds:PyData.strOk a=true)(Y:PyData.strOk b=true):h_ j (.str a) (.str b)=some (a==b):=by show vu (x:=.str a) (y:=.str b) (aF ds) (aF Y) (hD.mpr ⟨Dc ds (e0 _),Dc Y (e0 _)⟩)
theorem xc(j:ae)(a b:Int):cC .NotEq (.int a) (.int b) j=some (a !=b):=by change(h_ j (.int a) (.int b)).map (!·)=_;rw[Fw];rfl
theorem e6(j:ae)(a b:Int):cC .Eq (.int a) (.int b) j=some (a==b):=Fw j a b
noncomputable def rf(ce b:Int):Nat→Int→Int→bI Int
 |0,_,_=>.cT 0 "" 0
 |n+1,f,s=>.get fun o=>if ce-s<7∧(Builtin.bitAnd o 127).fdiv (2^(ce-s).toNat)≠0 then .cT bE "integer too large" b else if ce-s≤7∧128≤o then .cT bE "integer representation too long" b else if o<128 then .ret (f+Builtin.bitAnd o 127*2^s.toNat)else rf ce b n (f+Builtin.bitAnd o 127*2^s.toNat) (s+7)
theorem Cp{ce b:Int}{n:Nat}{f s:Int}:rf ce b (n+1) f s=.get fun o=>if ce-s<7∧(Builtin.bitAnd o 127).fdiv (2^(ce-s).toNat)≠0 then .cT bE "integer too large" b else if ce-s≤7∧128≤o then .cT bE "integer representation too long" b else if o<128 then .ret (f+Builtin.bitAnd o 127*2^s.toNat)else rf ce b n (f+Builtin.bitAnd o 127*2^s.toNat) (s+7):=rfl
noncomputable def et(ce:Int):bI Int:=.pos fun b=>rf ce b 20 0 0
section
variable{N:Nat}{sa:Addr}{ns:List Int}{d:Nat}{c:Nat}{az:List Int}{e:Nat}{L:List Int}{j:ae}
theorem ub{a b:Int}(h:0≤b)(j:ae):cj .RShift (.int a) (.int b) j=.ok (.int (a.fdiv (2^b.toNat))) j:=ll (aF h)
theorem C'{a b:Int}(h:0≤b∧b≤1000∧a.natAbs<2^64)(j:ae):cj .LShift (.int a) (.int b) j=.ok (.int (a*2^b.toNat)) j:=ll (aF h)
theorem Ek(o:Int):(Builtin.bitAnd o 127).natAbs<2^64:=by rw[lX];show ai [[1,0,1,0,0,0,0,1],[1,0,1,0,0,0,1]] [_] [_,_,_] [.d 128 .x .y .aa,.ab .x .y] (.lt .x (.n 18446744073709551616)) ah (cI _ 128 rfl) (uI _)
noncomputable abbrev KN(c:Nat)(ce f s:Int)(e:Nat)(L:List Int)(u v w:Option ag):aq:=[some (.ref c),some (.int ce),some (.int f),some (.int s),some (.int ((e:Int)-(L.length:Nat))),u,v,w]
abbrev yO(c:Nat)(az:List Int)(e:Nat)(L:List Int)(ce:Int)(Q:ag→ae→Prop)(X:Nat→ae→Prop)(n:Nat)(z:aq)(H:ae):Prop:=∃f s u v w g3,z=KN c ce f s e L u v w∧cO c az e g3 H∧c3 H c az e ((rf ce ((e:Int)-(L.length:Nat)) n f s).exec ((e:Int)-(g3.length:Nat)) g3) (fun v j=>Q (.int v) j) X∧0≤s∧s<ce∧ce≤s+7*n
theorem WJ(ce:Int)(Y:0<ce∧ce≤64):eV 407 6 [.int ce] ag.int (et ce):=fun N sa ns d c az e L j Q X bv h m=>by
 show bQ (f:=zK) rfl rfl ?_;show(?_:bg (c' j (.ref c) .at) _);rw[hK h];show⟨rfl,?_⟩;show cN (v:=[some (.ref c),some (.int ce),some (.int 0),some (.int 0),some (.int ((e:Int)-(L.length:Nat))),none,none,none]) rfl ?_;show⟨rfl,?_⟩;show oe (yO c az e L ce Q X) ?_ N 20 _ j ?_ (by show ai [[1,1]] [_] [] [.le .R .x] (.lt .eh .x) ah bv)
 ·rintro n z H ⟨f,s,u,v,w,g3,rfl,Z,ac,nK,gM,xz⟩;obtain⟨n,rfl⟩:∃k,n=k+1:=⟨n-1,by show ai [[1,0,1],[7,0,7,0,1,1],[1,0,0,1],[1,1]] [_,_] [_,_] [.au .x .y,.ax .y (.a .x (.e 7 (.c .x))),.cG .y .x .l] (.eq .x (.a .y .l)) ah gM xz (cy _ _)⟩;show hu (xs:=[]) Z (f:=386) rfl rfl (fun _=>rfl) (fun _=>rfl) ?_;show(?_:W (run a_ N sa ns (d+5) 386 [.ref c] H) _ _);cases g3 with
  |nil=>show xk Z▸ac _ _ (aO.push c H _) (bG H _)
  |cons o g3=>
   rw[tQ Z];have s3:=sr Z;have ac:=ac.eY (aO.set c H (ez az e g3));have ww:(e:Int)-((o::g3).length:Nat)+1=(e:Int)-(g3.length:Nat):=by rw[hF];show uS
   dsimp only[Cp,dr,dm,dp,dn,dq,dk]at ac;rw[ww]at ac;have wg:(0:Int)≤ce-s:=by show ai [[1,1]] [] [_,_] [.au .y .x] (.ax .o (.s .x .y)) ah gM
   have bh:¬(ce-s<7∧(Builtin.bitAnd o 127).fdiv (2^(ce-s).toNat)≠0)→bX (b9 N sa ns (d+5)) (.cons (.ite (.and (.aQ .LtE (.aw 6) (.aC (.int (7)))) (.aQ .GtE (.aw 5) (.aC (.int (128))))) (.cons (.dV 154 (.cons (.aC (.str "integer representation too long")) (.cons (.aw 4) .nil))) .nil) .nil) (.cons (.a5 (.aw 2) (.aV .Add (.aw 2) (.aV .LShift (.aV .BitAnd (.aw 5) (.aC (.int (127)))) (.aw 3)))) (.cons (.ite (.aQ .Lt (.aw 5) (.aC (.int (128)))) (.cons (.ret (.aw 2)) .nil) .nil) (.cons (.a5 (.aw 3) (.aV .Add (.aw 3) (.aC (.int (7))))) .nil)))) [some (.ref c),some (.int ce),some (.int f),some (.int s),some (.int ((e:Int)-(L.length:Nat))),some (.int o),some (.int (ce-s)),w] (H.set c (ez az e g3)) (p' (yO c az e L ce Q X) (n+1)) (fun v _ j=>Q v j) (fun k _ j=>X k j):=by
    intro I;rw[aM I]at ac;show(?_:bN (some (decide (ce-s≤7))) _ _);have t9:¬(ce-s≤7∧128≤o)→W (cj .LShift (.int (Builtin.bitAnd o 127)) (.int s) (H.set c (ez az e g3))) (fun y j=>W (cj .Add (.int f) y j) (fun v j=>bX (b9 N sa ns (d+5)) (.cons (.ite (.aQ .Lt (.aw 5) (.aC (.int (128)))) (.cons (.ret (.aw 2)) .nil) .nil) (.cons (.a5 (.aw 3) (.aV .Add (.aw 3) (.aC (.int (7))))) .nil)) [some (.ref c),some (.int ce),some v,some (.int s),some (.int ((e:Int)-(L.length:Nat))),some (.int o),some (.int (ce-s)),w] j (p' (yO c az e L ce Q X) (n+1)) (fun v _ j=>Q v j) (fun k _ j=>X k j)) (fun k j=>X k j)) (fun k j=>X k j):=by
     intro O;rw[aM O]at ac;rw[C' ⟨nK,by show ai [[1,1,0,1]] [] [_,_] [.aA (.au .o .y) (.ax .y (.k 64)),.au .x .y] (.ax .x (.k 1000)) ah Y gM,Ek o⟩];show(?_:bN (some (decide (o<128))) _ _);by_cases bn:o<128;·rw[aF bn]at ac;rw[cF bn];show ac _ (aO.refl _ _) s3
     ·rw[aM bn]at ac;rw[cE bn];show⟨n,by show m4,_,_,_,_,_,g3,rfl,s3,ac,by show yI nK,by show ai [[1,0,1],[0,1,1]] [] [_,_,_] [.aK (.aA (.ax (.s .y .x) .ae) (.ax .G .aa)),.aK (.au .aa .G)] (.au (.a .x .ae) .y) ah O bn,by show ai [[1,1]] [_] [_,_] [.ax .x (.a .y (.e 7 (.c (.a .x .l))))] (.ax .x (.a (.a .y .ae) (.e 7 (.c .x)))) ah xz⟩
    by_cases O:ce-s≤7
    ·rw[cF O];show(?_:bN (some (decide (128≤o))) _ _);by_cases bn:128≤o;·rw[cF bn];rw[aF ⟨O,bn⟩]at ac;show⟨rfl,?_⟩;show gZ (.inl rfl) (ac _ _ (aO.push c _ _) (bG _ _))
     ·rw[cE bn];show t9 (fun aa=>bn aa.2)
    ·rw[cE O];show t9 (fun aa=>O aa.1)
   show(?_:bN (some (decide (ce-s<7))) _ _);by_cases ws:ce-s<7
   ·rw[cF ws];show(?_:W (cj .RShift (.int (Builtin.bitAnd o 127)) (.int (ce-s)) (H.set c (ez az e g3))) _ _);rw[ub wg];show W.dA (el ?_);rw[xc];by_cases lm:(Builtin.bitAnd o 127).fdiv (2^(ce-s).toNat)=0;·show(lm).symm▸bh (fun aa=>aa.2 lm)
    ·have wI:((Builtin.bitAnd o 127).fdiv (2^(ce-s).toNat)!=0)=true:=by simpa using lm
     rw[wI];rw[aF ⟨ws,lm⟩]at ac;show⟨rfl,?_⟩;show gZ (.inl rfl) (ac _ _ (aO.push c _ _) (bG _ _))
   ·rw[cE ws];show bh (fun aa=>ws aa.1)
 ·show⟨0,0,none,none,none,L,rfl,h,m,by show yx,by show ai [[1,1]] [] [_] [.aA (.au .o .x) (.ax .x (.k 64))] (.au .o .x) ah Y,by show ai [[1,0,1]] [] [_] [.aA (.au .o .x) (.ax .x (.k 64))] (.ax .x (.a .o (.e 7 (.c .eh)))) ah Y⟩
end
end
section
theorem Cs(j:ae)(n:Nat):∀l:List Int,dz (c1 j (n+1)) (l.map .int)=some (l.map PyData.int):=by
 intro ca;induction ca with
 |nil=>show rfl
 |cons x l ap=>show eE (f:=fun y=>(dz _ _).bind _) (a:=.int x) rfl (eE (ap) rfl)
theorem Ca:∀l:List Int,PyData.canLayAll0 (l.map PyData.int)=true:=by
 intro ca;induction ca with
 |nil=>rfl
 |cons x l ap=>simp[sj,si,l2,l0,l3,l1,ap]
theorem pw(x:Int)(l:List Int):tk (.int x) (.av (l.map .int))=some (decide (x∈l)):=by
 have am:c1 [] 8 (.int x)=some (.int x):=rfl;have hd:(PyData.int x).canLay0=true∧(PyData.int x).depth=0:=by simp[l2,l0,l3,l1,oJ,oI,oK,nk]
 show(Hg am (Cs [] 7 l) (by rw[hd.1,Ca,hd.2];rfl)).trans (congrArg some ?_);have:((l.map PyData.int).any fun y=>PyData.eqv y (.int x))=l.any fun y=>y==x:=by rw[List.any_map];congr 1
 rw[this];rw[Bool.eq_iff_iff];rw[List.any_eq_true];simp only[dw,gz];show⟨fun⟨y,I,O⟩=>O▸I,fun h=>⟨x,h,rfl⟩⟩
theorem CH(x:Int)(l:List Int)(j:ae):cC .NotIn (.int x) (.av (l.map .int)) j=some (!decide (x∈l)):=by have:cC .NotIn (.int x) (.av (l.map .int)) j=(tk (.int x) (.av (l.map .int))).map (!·):=rfl;rw[this,pw];rfl
noncomputable def rd(ce b:Int):Nat→Int→Int→bI Int
 |0,_,_=>.cT 0 "" 0
 |n+1,f,s=>.get fun o=>if ce-s<7∧(Builtin.bitAnd o 127).fdiv (2^(ce-s-1).toNat)∉[0,(127:Int).fdiv (2^(ce-s-1).toNat)]then .cT bE "integer too large" b else if ce-s≤7∧128≤o then .cT bE "integer representation too long" b else if o<128 then .ret (if Builtin.bitAnd o 64≠0 then f+Builtin.bitAnd o 127*2^s.toNat-1*2^(s+7).toNat else f+Builtin.bitAnd o 127*2^s.toNat)else rd ce b n (f+Builtin.bitAnd o 127*2^s.toNat) (s+7)
theorem Co{ce b:Int}{n:Nat}{f s:Int}:rd ce b (n+1) f s=.get fun o=>if ce-s<7∧(Builtin.bitAnd o 127).fdiv (2^(ce-s-1).toNat)∉[0,(127:Int).fdiv (2^(ce-s-1).toNat)]then .cT bE "integer too large" b else if ce-s≤7∧128≤o then .cT bE "integer representation too long" b else if o<128 then .ret (if Builtin.bitAnd o 64≠0 then f+Builtin.bitAnd o 127*2^s.toNat-1*2^(s+7).toNat else f+Builtin.bitAnd o 127*2^s.toNat)else rd ce b n (f+Builtin.bitAnd o 127*2^s.toNat) (s+7):=rfl
noncomputable def f9(ce:Int):bI Int:=.pos fun b=>rd ce b 20 0 0
section
variable{N:Nat}{sa:Addr}{ns:List Int}{d:Nat}{c:Nat}{az:List Int}{e:Nat}{L:List Int}{j:ae}
noncomputable abbrev KJ(c:Nat)(ce f s:Int)(e:Nat)(L:List Int)(u v w:Option ag):aq:=[some (.ref c),some (.int ce),some (.int f),some (.int s),some (.int ((e:Int)-(L.length:Nat))),u,v,w]
abbrev yN(c:Nat)(az:List Int)(e:Nat)(L:List Int)(ce:Int)(Q:ag→ae→Prop)(X:Nat→ae→Prop)(n:Nat)(z:aq)(H:ae):Prop:=∃f s u v w g3,z=KJ c ce f s e L u v w∧cO c az e g3 H∧c3 H c az e ((rd ce ((e:Int)-(L.length:Nat)) n f s).exec ((e:Int)-(g3.length:Nat)) g3) (fun v j=>Q (.int v) j) X∧0≤s∧s<ce∧ce≤s+7*n
theorem xK(ce:Int)(Y:0<ce∧ce≤64):eV 414 6 [.int ce] ag.int (f9 ce):=fun N sa ns d c az e L j Q X bv h m=>by
 show bQ (f:=zI) rfl rfl ?_;show(?_:bg (c' j (.ref c) .at) _);rw[hK h];show⟨rfl,?_⟩;show cN (v:=[some (.ref c),some (.int ce),some (.int 0),some (.int 0),some (.int ((e:Int)-(L.length:Nat))),none,none,none]) rfl ?_;show⟨rfl,?_⟩;show oe (yN c az e L ce Q X) ?_ N 20 _ j ?_ (by show ai [[1,1]] [_] [] [.le .R .x] (.lt .eh .x) ah bv)
 ·rintro n z H ⟨f,s,u,v,w,g3,rfl,Z,ac,nK,gM,xz⟩;obtain⟨n,rfl⟩:∃k,n=k+1:=⟨n-1,by show ai [[1,0,1],[7,0,7,0,1,1],[1,0,0,1],[1,1]] [_,_] [_,_] [.au .x .y,.ax .y (.a .x (.e 7 (.c .x))),.cG .y .x .l] (.eq .x (.a .y .l)) ah gM xz (cy _ _)⟩;show hu (xs:=[]) Z (f:=386) rfl rfl (fun _=>rfl) (fun _=>rfl) ?_;show(?_:W (run a_ N sa ns (d+5) 386 [.ref c] H) _ _);cases g3 with
  |nil=>show xk Z▸ac _ _ (aO.push c H _) (bG H _)
  |cons o g3=>
   rw[tQ Z];have s3:=sr Z;have ac:=ac.eY (aO.set c H (ez az e g3));have ww:(e:Int)-((o::g3).length:Nat)+1=(e:Int)-(g3.length:Nat):=by rw[hF];show uS
   dsimp only[Co,dr,dm,dp,dn,dq,dk]at ac;rw[ww]at ac;have wg:(0:Int)≤ce-s-1:=by show ai [[1,1]] [] [_,_] [.au .y .x] (.ax .o (.s (.s .x .y) .l)) ah gM
   have bh:¬(ce-s<7∧(Builtin.bitAnd o 127).fdiv (2^(ce-s-1).toNat)∉[0,(127:Int).fdiv (2^(ce-s-1).toNat)])→bX (b9 N sa ns (d+5)) (.cons (.ite (.and (.aQ .LtE (.aw 6) (.aC (.int (7)))) (.aQ .GtE (.aw 5) (.aC (.int (128))))) (.cons (.dV 154 (.cons (.aC (.str "integer representation too long")) (.cons (.aw 4) .nil))) .nil) .nil) (.cons (.a5 (.aw 2) (.aV .Add (.aw 2) (.aV .LShift (.aV .BitAnd (.aw 5) (.aC (.int (127)))) (.aw 3)))) (.cons (.a5 (.aw 3) (.aV .Add (.aw 3) (.aC (.int (7))))) (.cons (.ite (.aQ .Lt (.aw 5) (.aC (.int (128)))) (.cons (.ret (.ite (.aV .BitAnd (.aw 5) (.aC (.int (64)))) (.aV .Sub (.aw 2) (.aV .LShift (.aC (.int (1))) (.aw 3))) (.aw 2))) .nil) .nil) .nil)))) [some (.ref c),some (.int ce),some (.int f),some (.int s),some (.int ((e:Int)-(L.length:Nat))),some (.int o),some (.int (ce-s)),w] (H.set c (ez az e g3)) (p' (yN c az e L ce Q X) (n+1)) (fun v _ j=>Q v j) (fun k _ j=>X k j):=by
    intro I;rw[aM I]at ac;show(?_:bN (some (decide (ce-s≤7))) _ _);have t9:¬(ce-s≤7∧128≤o)→W (cj .LShift (.int (Builtin.bitAnd o 127)) (.int s) (H.set c (ez az e g3))) (fun y j=>W (cj .Add (.int f) y j) (fun v j=>bX (b9 N sa ns (d+5)) (.cons (.a5 (.aw 3) (.aV .Add (.aw 3) (.aC (.int (7))))) (.cons (.ite (.aQ .Lt (.aw 5) (.aC (.int (128)))) (.cons (.ret (.ite (.aV .BitAnd (.aw 5) (.aC (.int (64)))) (.aV .Sub (.aw 2) (.aV .LShift (.aC (.int (1))) (.aw 3))) (.aw 2))) .nil) .nil) .nil)) [some (.ref c),some (.int ce),some v,some (.int s),some (.int ((e:Int)-(L.length:Nat))),some (.int o),some (.int (ce-s)),w] j (p' (yN c az e L ce Q X) (n+1)) (fun v _ j=>Q v j) (fun k _ j=>X k j)) (fun k j=>X k j)) (fun k j=>X k j):=by
     intro O;rw[aM O]at ac;rw[C' ⟨nK,by show ai [[1,1,0,1]] [] [_,_] [.aA (.au .o .y) (.ax .y (.k 64)),.au .x .y] (.ax .x (.k 1000)) ah Y gM,Ek o⟩];show(?_:bN (some (decide (o<128))) _ _);by_cases bn:o<128
     ·rw[aF bn]at ac;rw[cF bn];have ac:=ac _ (aO.refl _ _) s3;show(?_:bN (some (Builtin.bitAnd o 64 !=0)) _ _);by_cases lc:Builtin.bitAnd o 64=0;·show(lc).symm▸ac
      ·rw[aF lc]at ac;have:(Builtin.bitAnd o 64 !=0)=true:=by simpa using lc
       rw[this];show(?_:W (cj .LShift (.int 1) (.int (s+7)) (H.set c (ez az e g3))) _ _);rw[C' ⟨by show yI nK,by show ai [[1,1,0,1]] [] [_,_] [.aA (.au .o .y) (.ax .y (.k 64)),.au .x .y] (.ax (.a .x .ae) (.k 1000)) ah Y gM,by decide⟩];show ac
     ·rw[aM bn]at ac;rw[cE bn];show⟨n,by show m4,_,_,_,_,_,g3,rfl,s3,ac,by show yI nK,by show ai [[1,0,1],[0,1,1]] [] [_,_,_] [.aK (.aA (.ax (.s .y .x) .ae) (.ax .G .aa)),.aK (.au .aa .G)] (.au (.a .x .ae) .y) ah O bn,by show ai [[1,1]] [_] [_,_] [.ax .x (.a .y (.e 7 (.c (.a .x .l))))] (.ax .x (.a (.a .y .ae) (.e 7 (.c .x)))) ah xz⟩
    by_cases O:ce-s≤7
    ·rw[cF O];show(?_:bN (some (decide (128≤o))) _ _);by_cases bn:128≤o;·rw[cF bn];rw[aF ⟨O,bn⟩]at ac;show⟨rfl,?_⟩;show gZ (.inl rfl) (ac _ _ (aO.push c _ _) (bG _ _))
     ·rw[cE bn];show t9 (fun aa=>bn aa.2)
    ·rw[cE O];show t9 (fun aa=>O aa.1)
   show(?_:bN (some (decide (ce-s<7))) _ _);by_cases ws:ce-s<7
   ·rw[cF ws];show(?_:W (cj .RShift (.int (Builtin.bitAnd o 127)) (.int (ce-s-1)) (H.set c (ez az e g3))) _ _);rw[ub wg];show(?_:W (cj .RShift (.int 127) (.int (ce-s-1)) (H.set c (ez az e g3))) _ _);rw[ub wg];have cd:cC .NotIn (.int ((Builtin.bitAnd o 127).fdiv (2^(ce-s-1).toNat))) (.av [.int 0,.int ((127:Int).fdiv (2^(ce-s-1).toNat))]) (H.set c (ez az e g3))=some (!decide ((Builtin.bitAnd o 127).fdiv (2^(ce-s-1).toNat)∈[0,(127:Int).fdiv (2^(ce-s-1).toNat)])):=by show CH _ [0,(127:Int).fdiv (2^(ce-s-1).toNat)] _
    show W.dA (ky (hV cd ?_));show(?_:bN (some (!decide ((Builtin.bitAnd o 127).fdiv (2^(ce-s-1).toNat)∈[0,(127:Int).fdiv (2^(ce-s-1).toNat)]))) _ _);by_cases lm:(Builtin.bitAnd o 127).fdiv (2^(ce-s-1).toNat)∈[0,(127:Int).fdiv (2^(ce-s-1).toNat)];·rw[cF lm];show bh (fun aa=>aa.2 lm)
    ·rw[cE lm];rw[aF ⟨ws,lm⟩]at ac;show⟨rfl,?_⟩;show gZ (.inl rfl) (ac _ _ (aO.push c _ _) (bG _ _))
   ·rw[cE ws];show bh (fun aa=>ws aa.1)
 ·show⟨0,0,none,none,none,L,rfl,h,m,by show yx,by show ai [[1,1]] [] [_] [.aA (.au .o .x) (.ax .x (.k 64))] (.au .o .x) ah Y,by show ai [[1,0,1]] [] [_] [.aA (.au .o .x) (.ax .x (.k 64))] (.ax .x (.a .o (.e 7 (.c .eh)))) ah Y⟩
theorem lK:eV 421 7 [] ag.int (et 32):=fun N sa ns d c az e L j Q X bv h m=>bQ (f:=zJ) rfl rfl (hu (xs:=[.int 32]) h (f:=407) rfl rfl (fun _=>rfl) (fun _=>rfl) (WJ 32 (by decide) N sa ns d c az e L j Q X bv h m))
theorem Jp:eV 428 7 [] ag.int (f9 7):=fun N sa ns d c az e L j Q X bv h m=>bQ (f:=zH) rfl rfl (hu (xs:=[.int 7]) h (f:=414) rfl rfl (fun _=>rfl) (fun _=>rfl) (xK 7 (by decide) N sa ns d c az e L j Q X bv h m))
theorem WG:eV 435 7 [] ag.int (f9 32):=fun N sa ns d c az e L j Q X bv h m=>bQ (f:=zE) rfl rfl (hu (xs:=[.int 32]) h (f:=414) rfl rfl (fun _=>rfl) (fun _=>rfl) (xK 32 (by decide) N sa ns d c az e L j Q X bv h m))
theorem WH:eV 442 7 [] ag.int (f9 33):=fun N sa ns d c az e L j Q X bv h m=>bQ (f:=zF) rfl rfl (hu (xs:=[.int 33]) h (f:=414) rfl rfl (fun _=>rfl) (fun _=>rfl) (xK 33 (by decide) N sa ns d c az e L j Q X bv h m))
theorem WI:eV 449 7 [] ag.int (f9 64):=fun N sa ns d c az e L j Q X bv h m=>bQ (f:=zG) rfl rfl (hu (xs:=[.int 64]) h (f:=414) rfl rfl (fun _=>rfl) (fun _=>rfl) (xK 64 (by decide) N sa ns d c az e L j Q X bv h m))
end
end
section
section
variable{N:Nat}{sa:Addr}{ns:List Int}{d:Nat}{c:Nat}{az:List Int}{e:Nat}{L:List Int}{j:ae}
theorem n6{α go:Type}{a:Addr}{D:Nat}{args:List ag}{inj:α→ag}{t:bI α}(g4:eV a D args inj t)(bv:1000≤N){g:α→bI go}{IR:go→ae→Prop}{Q:ag→ae→Prop}{X:Nat→ae→Prop}(h:cO c az e L j)(m:c3 j c az e ((t.bind g).exec (e-L.length) L) IR X)(k:∀v g3 H,aO c j H→cO c az e g3 H→c3 H c az e ((g v).exec (e-g3.length) g3) IR X→Q (inj v) H):W (run a_ N sa ns (d+D) a (.ref c::args) j) Q X:=by
 show g4 N sa ns d c az e L j Q X bv h ?_;rw[eB]at m;show m.bind fun v p g3 H ge ch Z ac=>?_;have:=(vw _ _ _ ge).2;have be:p=(e:Int)-(g3.length:Nat):=by show ai [[1,0,1],[1,1]] [_,_,_] [_] [.a8 (.a .x (.c .y)) (.a (.s (.c .x) (.c .aa)) (.c .aa))] (.a8 .x (.s (.c .x) (.c .y))) ah this
 subst be;show k v g3 H ch Z ac
theorem jH{α go:Type}{D:Nat}{args:List ag}{inj:α→ag}{t:bI α}{f:Addr}(g4:eV f D args inj t){m:dG}{as:b5}{z:aq}{a:a0}{hd:Bool}(bv:1000≤N){g:α→bI go}{IR:go→ae→Prop}{Q:ag→ae→Prop}{X:Nat→ae→Prop}(h:cO c az e L j)(ac:gm fQ m=some f)(o4:hd=true)(ds:∀Q,wp ⟨N,sa,ns,hd,run a_ N sa ns (d+D)⟩ a z j Q X=Q (.ref c) j)(ad:∀Q,cR ⟨N,sa,ns,hd,run a_ N sa ns (d+D)⟩ as z j Q X=Q args j)(tI:c3 j c az e ((t.bind g).exec (e-L.length) L) IR X)(k:∀v g3 H,aO c j H→cO c az e g3 H→c3 H c az e ((g v).exec (e-g3.length) g3) IR X→Q (inj v) H):wp ⟨N,sa,ns,hd,run a_ N sa ns (d+D)⟩ (.bq a m as) z j Q X:=hu (xs:=args) h ac o4 ds ad (n6 g4 bv h tI k)
theorem cP{P:aY}{op:CmpOp}{a b:a0}{z:aq}{Q:ag→ae→Prop}{X:Nat→ae→Prop}{x y:ag}{r:Bool}(ar:cC op x y j=some r)(h:Q (.bool r) j)(ds:∀Q,wp P a z j Q X=Q x j)(Y:∀Q,wp P b z j Q X=Q y j):wp P (.aQ op a b) z j Q X:=by show oa ?_;rw[ds,Y,ar];show h
theorem XC{k a:Int}{Q:ag→ae→Prop}{X:Nat→ae→Prop}(I:(k=-3∨k=-4)→X j.length (j++[ib dy "floats are left out" a]))(O:k=-5→X j.length (j++[ib dy "vectors are left out" a]))(bn:(k≠-3∧k≠-4∧k≠-5)→Q .none j):W (run a_ N sa ns (d+3) 266 [.int k,.int a] j) Q X:=by
 show bQ (f:=Ar) rfl rfl ?_;have cd:cC .In (.int k) (.av [.int (-3),.int (-4)]) j=some (decide (k∈[(-3:Int),-4])):=pw k [-3,-4];show cP cd ?_ (fun _=>rfl) (fun _=>rfl);show(?_:bN (some (decide (k∈[(-3:Int),-4]))) _ _);by_cases ak:k∈[(-3:Int),-4];·rw[cF ak];show⟨rfl,gZ (.inr rfl) (I (by simpa using ak))⟩
 ·rw[cE ak];show cP (e6 j k (-5)) ?_ (fun _=>rfl) (fun _=>rfl);show(?_:bN (some (k==-5)) _ _);by_cases nl:k=-5;·rw[dw.mpr nl];show⟨rfl,gZ (.inr rfl) (O nl)⟩
  ·rw[g8.mpr nl];show bn ⟨fun q=>ak (by simp[q]),fun q=>ak (by simp[q]),nl⟩
end
noncomputable def pz(k a:Int):bI Unit:=if k=-3∨k=-4 then .cT dy "floats are left out" a else if k=-5 then .cT dy "vectors are left out" a else .ret ()
noncomputable def lN(c2:Str):bI Int:=.pos fun a=>(f9 7).bind fun k=>(pz k a).bind fun _=>if k∉[(-1:Int),-2,-16,-17]then .cT bE c2 a else .ret k
noncomputable def xv:bI Int:=.pos fun a=>(f9 7).bind fun k=>if k∉[(-16:Int),-17]then .cT bE "malformed reference type" a else .ret k
noncomputable def uJ:bI Unit:=.pos fun a=>.get fun o=>if o≠0 then .cT bE "zero byte expected" a else .ret ()
noncomputable def xa:bI (List Int):=.pos fun a=>(et 32).bind fun Eg=>if 31<Eg then .cT bE "malformed memop flags" a else(et 32).bind fun o=>.ret [Eg,o]
noncomputable def bj(l:List Int):ag:=.av (l.map .int)
noncomputable def UC(_:Unit):ag:=.none
theorem Jq(c2:Str):eV 273 8 [.str c2] ag.int (lN c2):=fun N sa ns d c az e L j Q X bv h m=>by
 show bQ (f:=Aq) rfl rfl ?_;show(?_:bg (c' j (.ref c) .at) _);rw[hK h];show jH Jp bv h rfl rfl (fun _=>rfl) (fun _=>rfl) (show c3 j c az e (((f9 7).bind _).exec _ L) _ _ from m) fun k g3 H ch Z ac=>?_;show XC (fun I=>?_) (fun I=>?_) fun I=>?_
 ·have:pz k ((e:Int)-(L.length:Nat))=.cT dy "floats are left out" ((e:Int)-(L.length:Nat)):=by unfold pz;rw[aF I]
  rw[this]at ac;show ac _ _ (aO.push c _ _) (bG _ _)
 ·have:pz k ((e:Int)-(L.length:Nat))=.cT dy "vectors are left out" ((e:Int)-(L.length:Nat)):=by unfold pz;rw[aM (by show ai [[0,1,1],[0,1,1]] [] [_] [.a8 .x (.af 4)] (.aK (.or (.a8 .x (.af 2)) (.a8 .x (.af 3)))) ah I),aF I]
  rw[this]at ac;show ac _ _ (aO.push c _ _) (bG _ _)
 ·have:pz k ((e:Int)-(L.length:Nat))=.ret ():=by unfold pz;rw[aM (by show ai [[0,1,1],[0,1,1],[0,1,1],[0,1,1],[0,1,0,1],[0,1,0,1],[0,1,0,0,1],[1,0,1],[0,1,0,1],[0,1,0,1],[0,1,0,0,1],[1,0,0,1],[0,1,0,1],[0,1,0,1],[0,1,0,0,1],[1,0,1]] [] [_] [.aA (.aK (.a8 .x (.af 2))) (.aA (.aK (.a8 .x (.af 3))) (.aK (.a8 .x (.af 4))))] (.aK (.or (.a8 .x (.af 2)) (.a8 .x (.af 3)))) ah I),aM (by show ai [[0,1,0,0,1],[1,0,0,0,1],[0,1,0,0,1],[1,0,0,1],[0,1,0,0,1],[1,0,1],[0,1,0,0,1],[1,0,1]] [] [_] [.aA (.aK (.a8 .x (.af 2))) (.aA (.aK (.a8 .x (.af 3))) (.aK (.a8 .x (.af 4))))] (.aK (.a8 .x (.af 4))) ah I)]
  rw[this]at ac;have cd:=CH k [-1,-2,-16,-17] H;show cP cd ?_ (fun _=>rfl) (fun _=>rfl);by_cases ak:k∈[(-1:Int),-2,-16,-17];·rw[cF ak];rw[aM (not_not_intro ak)]at ac;show ac _ (aO.refl _ _) Z
  ·rw[cE ak];rw[aF ak]at ac;show⟨rfl,gZ (.inl rfl) (ac _ _ (aO.push c _ _) (bG _ _))⟩
theorem WB:eV 280 9 [] ag.int (lN "malformed value type"):=fun N sa ns d c az e L j Q X bv h m=>bQ (f:=zZ) rfl rfl (Jq "malformed value type" N sa ns d c az e L j _ _ bv h m)
theorem WA:eV 259 8 [] ag.int (et 32):=fun N sa ns d c az e L j Q X bv h m=>bQ (f:=zW) rfl rfl (hu (xs:=[]) h (f:=421) rfl rfl (fun _=>rfl) (fun _=>rfl) (lK N sa ns d c az e L j _ _ bv h m))
theorem WE:eV 287 8 [] ag.int xv:=fun N sa ns d c az e L j Q X bv h m=>by
 show bQ (f:=Ap) rfl rfl ?_;show(?_:bg (c' j (.ref c) .at) _);rw[hK h];show jH Jp bv h rfl rfl (fun _=>rfl) (fun _=>rfl) (show c3 j c az e (((f9 7).bind _).exec _ L) _ _ from m) fun k g3 H ch Z ac=>?_;have cd:cC .NotIn (.int k) (.av [.int (-16),.int (-17)]) H=some (!decide (k∈[(-16:Int),-17])):=CH k [-16,-17] H;show cP cd ?_ (fun _=>rfl) (fun _=>rfl);by_cases ak:k∈[(-16:Int),-17];·rw[cF ak];rw[aM (not_not_intro ak)]at ac;show ac _ (aO.refl _ _) Z
 ·rw[cE ak];rw[aF ak]at ac;show⟨rfl,gZ (.inl rfl) (ac _ _ (aO.push c _ _) (bG _ _))⟩
theorem Dg:eV 301 5 [] UC uJ:=fun N sa ns d c az e L j Q X bv h m=>by
 show bQ (f:=As) rfl rfl ?_;show(?_:bg (c' j (.ref c) .at) _);rw[hK h];show hu (xs:=[]) h (f:=386) rfl rfl (fun _=>rfl) (fun _=>rfl) ?_;show(?_:W (run a_ N sa ns (d+4) 386 [.ref c] j) _ _);cases L with
 |nil=>show xk h▸m _ _ (aO.push c j _) (bG j _)
 |cons o L=>
  rw[tQ h];have Z:=sr h;have m:=m.eY (aO.set c j (ez az e L));simp only[uJ,dr,dm,dp,dn,dq,dk]at m;have cd:=xc (j.set c (ez az e L)) o 0;show W.dA (el (hV cd ?_));by_cases ci:o=0;·subst ci;show m _ (aO.refl _ _) Z
  ·have:(o !=0)=true:=by simpa using ci
   rw[this];rw[aF ci]at m;show⟨rfl,gZ (.inl rfl) (m _ _ (aO.push c _ _) (bG _ _))⟩
theorem WD:eV 308 8 [] bj xa:=fun N sa ns d c az e L j Q X bv h m=>by
 show bQ (f:=Ai) rfl rfl ?_;show(?_:bg (c' j (.ref c) .at) _);rw[hK h];show jH lK bv h rfl rfl (fun _=>rfl) (fun _=>rfl) (show c3 j c az e (((et 32).bind _).exec _ L) _ _ from m) fun k g3 H ch Z ac=>?_;show(?_:bN (some (decide (31<k))) _ _);by_cases ak:31<k;·rw[cF ak];rw[aF ak]at ac;show⟨rfl,gZ (.inl rfl) (ac _ _ (aO.push c _ _) (bG _ _))⟩
 ·rw[cE ak];rw[aM ak]at ac;show jH lK bv Z rfl rfl (fun _=>rfl) (fun _=>rfl) ac fun o lU H1 e_ s3 BT=>?_;show BT _ (aO.refl _ _) s3
end
section
noncomputable def bI.vI{α:Type}:bI α→Int→Int→bI α
 |.pos k,p,o=>(k p).vI p o
 |.get k,_,o=>k o
 |t,_,_=>t
def bI.Fe{α:Type}:bI α→Int→Prop
 |.pos k,p=>(k p).Fe p
 |.get _,_=>True
 |_,_=>False
theorem vv{α:Type}:∀(t:bI α)(p o:Int)(L:List Int),t.Fe p→(t.vI p o).exec (p+1) L=t.exec p (o::L):=by
 intro ca;induction ca with
 |pos k ap=>intro p o L h;show ap p p o L h
 |get k ap=>intro p o L sK;show rfl
 |ret lP=>intro Da FM hg h;show h.elim
 |cT iI h2 jb=>intro lZ m_ lY h;show h.elim
 |dI=>intro m' sb vc h;show h.elim
noncomputable def wL:bI Int:=.pos fun a=>(f9 33).bind fun i=>if i<0 then .cT bE "integer representation too long" a else .ret i
noncomputable def qo:bI Int:=.pos fun a=>.get fun o=>if o=64 then .ret (-64)else if Builtin.bitAnd o 192=64 then(lN "malformed block type").vI a o else wL.vI a o
noncomputable def pN{α:Type}(part:bI α):Nat→bI (List α)
 |0=>.ret []
 |n+1=>part.bind fun x=>(pN part n).bind fun xs=>.ret (x::xs)
theorem VX{α:Type}{part:bI α}:pN part 0=.ret []:=rfl
theorem C6{α:Type}{part:bI α}{n:Nat}:pN part (n+1)=part.bind fun x=>(pN part n).bind fun xs=>.ret (x::xs):=rfl
noncomputable def nR{α:Type}(part:bI α):bI (List α):=(et 32).bind fun n=>if 0≤n∧n<900 then pN part n.toNat else .dI
section
variable{N:Nat}{sa:Addr}{ns:List Int}{d:Nat}{c:Nat}{az:List Int}{e:Nat}{L:List Int}{j:ae}
theorem Ww:eV 294 9 [] ag.int qo:=fun N sa ns d c az e L j Q X bv h m=>by
 show bQ (f:=zR) rfl rfl ?_;show(?_:bg (c' j (.ref c) .at) _);rw[hK h];show hu (xs:=[]) h (f:=379) rfl rfl (fun _=>rfl) (fun _=>rfl) ?_;show(?_:W (run a_ N sa ns (d+8) 379 [.ref c] j) _ _);cases L with
 |nil=>show Iz h▸m _ _ (aO.push c j _) (bG j _)
 |cons o L=>
  rw[CV h];show W.dA (el (hV (e6 j o 64) ?_));show(?_:bN (some (o==64)) _ _);dsimp only[qo,dr,dm,dp,dn,dq,dk]at m;by_cases I:o=64;·rw[dw.mpr I];rw[aF I]at m;show hu (xs:=[]) h (f:=386) rfl rfl (fun _=>rfl) (fun _=>rfl) ?_;show(?_:W (run a_ N sa ns (d+8) 386 [.ref c] j) _ _);show tQ h▸m _ (aO.set c j _) (sr h)
  ·rw[g8.mpr I];rw[aM I]at m;show hu (xs:=[]) h (f:=379) rfl rfl (fun _=>rfl) (fun _=>rfl) ?_;show(?_:W (run a_ N sa ns (d+8) 379 [.ref c] j) _ _);rw[CV h];show W.dA (el (W.dA (el (hV (e6 j _ 64) ?_))));show(?_:bN (some (Builtin.bitAnd o 192==64)) _ _);by_cases O:Builtin.bitAnd o 192=64;·rw[dw.mpr O];rw[aF O,vv (lN "malformed block type") _ o L trivial]at m;show Jq "malformed block type" N sa ns d c az e (o::L) j _ _ bv h m
   ·rw[g8.mpr O];rw[aM O,vv wL _ o L trivial]at m;show jH (d:=d+1) WH bv h rfl rfl (fun _=>rfl) (fun _=>rfl) (show c3 j c az e (((f9 33).bind _).exec _ (o::L)) _ _ from m) fun i g3 H ch Z ac=>?_;show(?_:bN (some (decide (i<0))) _ _);by_cases bn:i<0;·rw[cF bn];rw[aF bn]at ac;show⟨rfl,gZ (.inl rfl) (ac _ _ (aO.push c _ _) (bG _ _))⟩
    ·rw[cE bn];rw[aM bn]at ac;show ac _ (aO.refl _ _) Z
theorem c3.LY{fL j:ae}{c:Nat}{az:List Int}{e:Nat}{α go:Type}{r:c_ α}{f:α→Int→List Int→c_ go}{Q:go→ae→Prop}{sp:α→ae→Prop}{X:Nat→ae→Prop}(h:c3 fL c az e (r.bind f) Q X)(am:aO c fL j)(Ix:∀v p L H,r=.ok v p L→aO c j H→cO c az e L H→c3 fL c az e (f v p L) Q X→sp v H):c3 j c az e r sp X:=by
 cases r with
 |ok v p L=>show fun H iX g=>Ix v p L H rfl iX g h
 |di C w a=>show h.eY am
 |g0=>show h.eY am
 |dI=>show h
theorem ue{α go:Type}{a:Addr}{D:Nat}{args:List ag}{inj:α→ag}{t:bI α}(g4:eV a D args inj t)(bv:1000≤N){fL:ae}{g:α→bI go}{IR:go→ae→Prop}{Q:ag→ae→Prop}{X:Nat→ae→Prop}(h:cO c az e L j)(am:aO c fL j)(m:c3 fL c az e ((t.bind g).exec (e-L.length) L) IR X)(k:∀v g3 H,aO c j H→cO c az e g3 H→c3 fL c az e ((g v).exec (e-g3.length) g3) IR X→Q (inj v) H):W (run a_ N sa ns (d+D) a (.ref c::args) j) Q X:=by
 show g4 N sa ns d c az e L j Q X bv h ?_;rw[eB]at m;show m.LY am fun v p g3 H ge ch Z ac=>?_;have:=(vw _ _ _ ge).2;have be:p=(e:Int)-(g3.length:Nat):=by show ai [[1,0,1],[1,1]] [_,_,_] [_] [.a8 (.a .x (.c .y)) (.a (.s (.c .x) (.c .aa)) (.c .aa))] (.a8 .x (.s (.c .x) (.c .y))) ah this
 clear am m ge this;subst be;show k v g3 H ch Z ac
theorem qn{α go hB:Type}(f:α→bI go)(g:go→bI hB):∀t:bI α,(t.bind f).bind g=t.bind fun x=>(f x).bind g:=by
 intro ca;induction ca with
 |ret xZ=>show rfl
 |cT lP mY iH=>show rfl
 |get k ap=>show congrArg bI.get (funext fun x=>ap x)
 |pos k ap=>show congrArg bI.pos (funext fun x=>ap x)
 |dI=>show rfl
theorem HI{α go:Type}{part:Addr}{D:Nat}{inj:α→ag}{t:bI α}(g4:eV part D [] inj t)(be:cZ part=false)(fA:7≤D)(bv:1000≤N){g:List α→bI go}{IR:go→ae→Prop}{Q:ag→ae→Prop}{X:Nat→ae→Prop}(h:cO c az e L j)(m:c3 j c az e (((nR t).bind g).exec (e-L.length) L) IR X)(k:∀xs g3 H,aO c j H→cO c az e g3 H→H[j.length]?=some (.list (xs.map inj))→c3 j c az e ((g xs).exec (e-g3.length) g3) IR X→xs.length<900→Q (.ref j.length) H):W (run a_ N sa ns (d+D+1) 252 [.ref c,.fn part] j) Q X:=by
 obtain⟨fN,rfl⟩:∃fN,D=fN+7:=⟨D-7,by show ai [[1,0,1],[1,0,1,0,1],[1,0,0,1],[1,1]] [_,_] [] [.le (.n 7) .x,.cG .y .x (.n 7)] (.eq .x (.a .y (.n 7))) ah fA (cy _ _)⟩;have At:=kc h.ft;show bQ (f:=Ah) rfl rfl ?_;have I:cO c az e L (j++[.list []]):=⟨hY h.ft _,h.n8,h.le,h.pC⟩;show⟨rfl,?_⟩;unfold nR at m;rw[qn]at m;show hu (xs:=[]) I (f:=421) rfl rfl (fun _=>rfl) (fun _=>rfl) ?_;show ue (d:=d+fN) lK bv I (aO.push c j _) m fun n g3 H ch Z ac=>?_;by_cases bi:0≤n∧n<900
 ·rw[aF bi]at ac;show cN (v:=.all ((List.range n.toNat).map fun(i:Nat)=>ag.int i)) (Jt (by unfold aP;show ai [[1,0,1],[1,1]] [] [_] [.aA (.ax .o .x) (.au .x (.k 900))] (.aA (.au .x (.c .L)) (.au (.g (.c .L)) .x)) ah bi)) ?_;show FN (P:=⟨N,sa,ns,true,run a_ N sa ns (d+(fN+7))⟩) (t:=[3]) (b:=.cons (.bB (.bq (.aw 2) .b2 (.cons (.call (.aw 1) (.cons (.aw 0) .nil)) .nil))) .nil) (db:=.all ((List.range n.toNat).map fun(i:Nat)=>ag.int i)) (l:=(List.range n.toNat).map fun(i:Nat)=>ag.int i) (fun i z H=>∃(xs:List α)(u v:Option ag)(g3:List Int),z=[some (.ref c),some (.fn part),some (.ref j.length),u,v]∧xs.length=i∧cO c az e g3 H∧aO c j H∧H[j.length]?=some (.list (xs.map inj))∧c3 j c az e (((pN t (n.toNat-i)).bind fun ys=>g (xs++ys)).exec (e-g3.length) g3) IR X) (fun i z H _=>rfl) (fun i x z H ga ad=>?_) (fun z H ga=>?_) N 0 _ H ?_ (by simp) (by simp;show ai [[1,0,1,0,0,1,1],[1,0,1,0,0,0,1]] [_,_] [_] [.le .R .y,.aA (.ax .o .x) (.au .x (.k 900)),.cz .x .x] (.lt .x .y) ah bv bi (cS _))
  ·show aX fun _ done=>?_;show Fo ga fun xs u v g3 cl V Z ch ak ac=>?_;subst cl;have an:i<n.toNat:=by simpa using(c7.mp ad).1
   obtain⟨r,ar⟩:∃r,n.toNat-i=r+1:=⟨n.toNat-i-1,by show ai [[1,0,1],[1,0,1],[1,0,1,0,0,0,1,1],[0,0,0,0,1,0,0,1],[1,0,0,1],[0,0,0,0,1,0,0,1],[1,1],[0,0,0,0,1,0,0,1]] [_,_,_,_] [] [.lt .aa .w,.cG .x .w .aa,.cG .y .x .l] (.eq .x (.a .y .l)) ah an (cy _ _) (cy _ _)⟩;show done ?_;show cN (v:=[some (.ref c),some (.fn part),some (.ref j.length),some x,v]) rfl ?_;show⟨mF ak,?_⟩;rw[ar]at ac;have Nu:∀(P:aY)(s:ae),P.hd=true→nd P (.fn part) [.ref c] s=P.d' part [.ref c] s:=fun P s iY=>ve iY be;show(?_:W (nd _ (.fn part) [.ref c] H) _ _);rw[Nu _ _ rfl];rw[C6,qn]at ac;show ue (d:=d) g4 bv Z ch ac fun y lU H1 e_ s3 BT=>?_;have AT:=e_.get ak (by show hG At);show(?_:W (cJ _ (.ref j.length) .b2 [inj y] H1) _ _);have zr:∀P,cJ P (.ref j.length) .b2 [inj y] H1=.ok .none (H1.set j.length (.list (xs.map inj++[inj y]))):=fun P=>by show yT AT (by rw[bD,V];unfold aP;show ai [[1,0,1,0,1,0,1],[0,0,1,0,1]] [_,_] [_] [.aA (.ax .o .x) (.au .x (.k 900)),.lt .x .y,.cz .y .x] (.lt .x .L) ah bi an (cS _))
   rw[zr];show H0 (xs++[y]) _ _ lU rfl (by simp[V]) ⟨?_,s3.n8,s3.le,s3.pC⟩ ((ch.trans e_).iC (cm _) _) ?_ ?_;·show(eP (by show hG At)).trans s3.ft
   ·rw[eu AT];simp
   ·have cd:n.toNat-(i+1)=r:=by show ai [[1,0,1,0,0,0,1,0,1],[1,0,1,0,1,0,0,0,1],[0,0,1,0,0,0,0,0,1],[0,0,1,0,0,0,0,0,1],[1,0,0,1,0,1,0,1],[1,0,0,0,0,1],[0,1,0,0,1],[1,0,0,0,0,1]] [_,_,_,_,_] [] [.eq .aa (.a .y .l),.cG .x .w (.a .u .l),.cG .aa .w .u] (.eq .x .y) ah ar (cy _ _) (cy _ _)
    rw[cd];rw[qn]at BT;simp only[dX,List.cons_append,List.nil_append];show BT
  ·show aX fun _ done=>?_;show Fo ga fun xs u v g3 cl V Z ch ak ac=>?_;show aX fun _ done=>?_;show done ?_;subst cl;have sY:xs.length=n.toNat:=by simpa using V
   have cd:n.toNat-((List.range n.toNat).map fun(i:Nat)=>ag.int i).length=0:=by simp
   rw[cd]at ac;have ac:c3 j c az e ((g (xs++[])).exec (e-g3.length) g3) IR X:=ac;rw[eo]at ac;show done ?_;show k xs g3 H ch Z ak ac (by show ai [[1,0,1,0,1,0,0,1],[1,0,1,0,1]] [_,_] [_] [.aA (.ax .o .x) (.au .x (.k 900)),.eq .x .y,.cz .y .x] (.lt .x .T) ah bi sY (cS _))
  ·show H0 [] _ _ g3 rfl rfl Z ((aO.push c j _).trans ch) (ch.get (bG j _) (by show hG At)) ac
 ·rw[aM bi]at ac;show ac.elim
end
end
section
theorem FO{P:aY}{t:List Nat}{b:bZ}{l:List ag}{z:aq}{j:ae}{db:d8}{x:Option d8}{N:aq→ae→Prop}{R:ag→aq→ae→Prop}{X:Nat→aq→ae→Prop}(ad:x=some db)(aJ:Nat→aq→ae→Prop)(Pi:∀i z j,aJ i z j→gQ db i j=some l[i]?)(item:∀i x z j,aJ i z j→l[i]?=some x→ff (dY z t x) fun z=>bX P b z j (aJ (i+1)) R X)(done:∀z j,aJ l.length z j→N z j)(am:aJ 0 z j)(ak:l.length<P.N):ff x fun db=>b1 (kX (fun(x:ag)(z:aq)(j:ae)=>eb (dY z t x) fun z=>dB P b z j) db P.N 0 z j) N R X:=by subst ad;show FN aJ Pi item done P.N 0 z j am (e0 _) (by assumption)
theorem kY{P:aY}{t:List Nat}{tt:a0}{bW:Bool}{b:bZ}{l:List ag}{z:aq}{j fd:ae}{v:ag}{db:d8}{N:aq→ae→Prop}{R:ag→aq→ae→Prop}{X:Nat→aq→ae→Prop}(hd:P.hd=true)(k':∀Q,wp P tt z j Q (fun k j=>X k z j)=Q v fd)(ad:d6 fd bW v=some db)(aJ:Nat→aq→ae→Prop)(Pi:∀i z j,aJ i z j→gQ db i j=some l[i]?)(item:∀i x z j,aJ i z j→l[i]?=some x→ff (dY z t x) fun z=>bX P b z j (aJ (i+1)) R X)(done:∀z j,aJ l.length z j→N z j)(am:aJ 0 z fd)(ak:l.length<P.N):kz P (.fx t tt bW b) z j N R X:=by show⟨hd,?_⟩;rw[k'];show FO ad aJ Pi item done am ak
theorem fE{P:aY}{i:Nat}{s na:Str}{A B:bZ}{z:aq}{j:ae}{N:aq→ae→Prop}{R:ag→aq→ae→Prop}{X:Nat→aq→ae→Prop}(ul:(z[i]?).join=some (.str na))(I:PyData.strOk na=true)(O:PyData.strOk s=true)(io:(na==s)=true→bX P A z j N R X)(Tm:(na==s)=false→bX P B z j N R X):kz P (.ite (.aQ .Eq (.aw i) (.aC (.str s))) A B) z j N R X:=by
 show(?_:bg ((z[i]?).join) _);rw[ul];show(?_:bg ((cC .Eq (.str na) (.str s) j).map ag.bool) _);rw[show cC .Eq (.str na) (.str s) j=some (na==s)from qB j I O];show(?_:bN (some (na==s)) _ _);cases Y:na==s;·show Tm Y
 ·show io Y
theorem SE{P:aY}{i:Nat}{op:CmpOp}{v y:ag}{r:Bool}{A B:bZ}{z:aq}{j:ae}{N:aq→ae→Prop}{R:ag→aq→ae→Prop}{X:Nat→aq→ae→Prop}(ul:(z[i]?).join=some v)(ar:cC op v y j=some r)(h:bX P (if r=true then A else B) z j N R X):kz P (.ite (.aQ op (.aw i) (.aC y)) A B) z j N R X:=by
 show(?_:bg ((z[i]?).join) _);rw[ul];show(?_:bg ((cC op v y j).map ag.bool) _);rw[ar];show(?_:bN (some r) _ _);clear y ul ar;cases r;·show h
 ·show h
theorem Uc(j:ae)(n:Nat):∀l:List Str,l.all PyData.strOk=true→dz (c1 j (n+1)) (l.map .str)=some (l.map PyData.str):=by
 intro ca;induction ca with
 |nil=>intro _;show rfl
 |cons x l ap=>intro h;rw[List.all_cons,fM]at h;show eE (f:=fun y=>(dz _ _).bind _) (aF h.1) (eE (ap h.2) rfl)
theorem Tr:∀l:List Str,l.all PyData.strOk=true→PyData.canLayAll0 (l.map PyData.str)=true:=by
 intro ca;induction ca with
 |nil=>intro _;rfl
 |cons x l ap=>intro h;rw[List.all_cons,fM]at h;simp[sj,si,l2,l0,l3,l1,h.1,ap h.2]
theorem Si(x:Str)(l:List Str)(ad:PyData.strOk x=true)(V:l.all PyData.strOk=true):tk (.str x) (.av (l.map .str))=some (l.any (·==x)):=by
 have am:c1 [] 8 (.str x)=some (.str x):=aF ad;have hd:(PyData.str x).canLay0=true∧(PyData.str x).depth=0:=by simp[l2,l0,l3,l1,oJ,oI,oK,nk,ad]
 show(Hg am (Uc [] 7 l V) (by rw[hd.1,Tr l V,hd.2];rfl)).trans (congrArg some ?_);induction l with
 |nil=>rfl
 |cons y l ap=>rw[List.all_cons,fM]at V;rw[List.map_cons,List.any_cons,ap V.2];congr 1
theorem BU{P:aY}{i:Nat}{l:List Str}{na:Str}{bd:b5}{A B:bZ}{z:aq}{j:ae}{N:aq→ae→Prop}{R:ag→aq→ae→Prop}{X:Nat→aq→ae→Prop}(ul:(z[i]?).join=some (.str na))(I:PyData.strOk na=true)(AX:∀Q,cR P bd z j Q (fun k j=>X k z j)=Q (l.map .str) j)(O:l.all PyData.strOk=true)(io:l.any (·==na)=true→bX P A z j N R X)(Tm:l.any (·==na)=false→bX P B z j N R X):kz P (.ite (.aQ .In (.aw i) (.av bd)) A B) z j N R X:=by
 show(?_:bg ((z[i]?).join) _);rw[ul];show(?_:cR P bd z j _ _);rw[AX];show(?_:bg ((cC .In (.str na) (.av (l.map .str)) j).map ag.bool) _);rw[show cC .In (.str na) (.av (l.map .str)) j=some (l.any (·==na))from Si na l I O];show(?_:bN (some (l.any (·==na))) _ _);cases Y:l.any (·==na);·show Tm Y
 ·show io Y
theorem my{α:Type}{P:aY}{i:Nat}{s na:Str}{A B:bZ}{z:aq}{j:ae}{N:aq→ae→Prop}{R:ag→aq→ae→Prop}{X:Nat→aq→ae→Prop}{fL:ae}{c:Nat}{az:List Int}{e:Nat}{t u:bI α}{p:Int}{L:List Int}{IR:α→ae→Prop}{ot:Nat→ae→Prop}(ul:(z[i]?).join=some (.str na))(I:PyData.strOk na=true)(O:PyData.strOk s=true)(m:c3 fL c az e ((if na==s then t else u).exec p L) IR ot)(io:c3 fL c az e (t.exec p L) IR ot→bX P A z j N R X)(Tm:c3 fL c az e (u.exec p L) IR ot→bX P B z j N R X):kz P (.ite (.aQ .Eq (.aw i) (.aC (.str s))) A B) z j N R X:=fE ul I O (fun e=>io (by rw[e]at m;show m)) fun e=>Tm (by rw[e]at m;show m)
theorem Hq{α:Type}{P:aY}{i:Nat}{l:List Str}{na:Str}{bd:b5}{A B:bZ}{z:aq}{j:ae}{N:aq→ae→Prop}{R:ag→aq→ae→Prop}{X:Nat→aq→ae→Prop}{fL:ae}{c:Nat}{az:List Int}{e:Nat}{t u:bI α}{p:Int}{L:List Int}{IR:α→ae→Prop}{ot:Nat→ae→Prop}(ul:(z[i]?).join=some (.str na))(I:PyData.strOk na=true)(AX:∀Q,cR P bd z j Q (fun k j=>X k z j)=Q (l.map .str) j)(O:l.all PyData.strOk=true)(m:c3 fL c az e ((if l.any (·==na)then t else u).exec p L) IR ot)(io:c3 fL c az e (t.exec p L) IR ot→bX P A z j N R X)(Tm:c3 fL c az e (u.exec p L) IR ot→bX P B z j N R X):kz P (.ite (.aQ .In (.aw i) (.av bd)) A B) z j N R X:=BU ul I AX O (fun e=>io (by rw[e]at m;show m)) fun e=>Tm (by rw[e]at m;show m)
theorem bU(s:String):PyData.strOk (Str.ofString s)=true:=by rw[Str.ofString_eq_toList];unfold PyData.strOk;rw[Array.all_eq_true];intro i an;simp only[List.getElem_toArray,List.getElem_map];generalize s.toList[i]'(by simpa using an)=y0;have h:=y0.valid;have:y0.toNat=y0.val.toNat:=rfl;lia
noncomputable def pG:List (Int×Int×List Int×List Int):=[(69,69,[-1],[-1]),(70,79,[-1,-1],[-1]),(80,80,[-2],[-1]),(81,90,[-2,-2],[-1]),(103,105,[-1],[-1]),(106,120,[-1,-1],[-1]),(121,123,[-2],[-2]),(124,138,[-2,-2],[-2]),(167,167,[-2],[-1]),(172,173,[-1],[-2]),(192,193,[-1],[-1]),(194,196,[-2],[-2])]
noncomputable def Im(r:Int×Int×List Int×List Int):ag:=.av [.int r.1,.int r.2.1,dS r.2.2.1,dS r.2.2.2]
noncomputable def rk(c:Int):Bool:=pG.any fun r=>decide (r.1≤c)&&decide (c≤r.2.1)
noncomputable def rb:List (Int×ag):=(oH 22).getD []
noncomputable def rF:List (Int×ag):=(oH 35).getD []
noncomputable def dM(c:Int):Option Str:=match kb.lookup c with
 |some (.str s)=>some s
 |_=>if(rb.lookup c).isSome||(rF.lookup c).isSome then some "memarg"else if rk c then some "none"else none
noncomputable def PD:Option Str→ag
 |some s=>.str s
 |none=>.none
theorem HP{go:Type}{c:Int}{v:go}:∀{l:List (Int×go)},l.lookup c=some v→(c,v)∈l:=by
 intro ca;induction ca with
 |nil=>intro h;simp at h
 |cons t1 l ap=>
  obtain⟨a,w⟩:=t1;intro h;rw[List.lookup_cons]at h;by_cases e:c=a;·subst e;rw[beq_self_eq_true]at h;injection h with h;subst h;show dF
  ·rw[g8.mpr e]at h;show dE _ (ap h)
noncomputable def Sx:ag→Bool
 |.str _=>true
 |_=>false
theorem Py{c:Int}{v:ag}(h:kb.lookup c=some v):∃s,v=.str s:=by have I:kb.all (fun p=>Sx p.2)=true:=rfl;have O:=jd.mp I _ (HP h);clear h;cases v<;>first|show⟨_,rfl⟩|cases O
section
variable{N:Nat}{sa:Addr}{ns:List Int}{d:Nat}{c:Nat}{az:List Int}{e:Nat}{L:List Int}{j:ae}
theorem UP{k:Int}{Q:ag→ae→Prop}{X:Nat→ae→Prop}(bv:1000≤N)(I:rk k=false→Q .none j)(O:rk k=true→∀a b,Q (.av [a,b]) j):W (run a_ N sa ns (d+1) 98 [.int k] j) Q X:=by
 show bQ (f:=Aj) rfl rfl ?_;show⟨rfl,?_⟩;show FO (l:=pG.map Im) (db:=.all (pG.map Im)) rfl (fun i z H=>H=j∧(∃a b u v w,z=[some (.int k),a,b,u,v,w])∧∀af r,af<i→pG[af]?=some r→¬(r.1≤k∧k≤r.2.1)) (fun i z H _=>rfl) (fun i x z H ga ad=>?_) (fun z H ga=>?_) ⟨rfl,⟨_,_,_,_,_,rfl⟩,fun af _ dl=>absurd dl (Nat.not_lt_zero _)⟩ (by change 12<N;show ai [[1,1]] [_] [] [.le .R .x] (.lt (.n 12) .x) ah bv)
 ·clear I;obtain⟨rfl,⟨a,b,u,v,w,rfl⟩,KB⟩:=ga;rw[eQ]at ad;cases ar:pG[i]? with
  |none=>rw[ar]at ad;cases ad
  |some r=>
   rw[ar]at ad;injection ad with ad;subst ad;show cN (v:=[some (.int k),some (.int r.1),some (.int r.2.1),some (dS r.2.2.1),some (dS r.2.2.2),w]) rfl ?_;show(?_:bN (some (decide (r.1≤k))) _ _);by_cases ds:r.1≤k
   ·rw[cF ds];show(?_:bN (some (decide (k≤r.2.1))) _ _);by_cases Y:k≤r.2.1;·rw[cF Y];show O ?_ _ _;show List.any_eq_true.mpr ⟨r,eZ ar,by simp[ds,Y]⟩
    ·rw[cE Y];show⟨rfl,⟨_,_,_,_,_,rfl⟩,fun af gp dl fa=>?_⟩;rcases Nat.lt_succ_iff_lt_or_eq.mp dl with dl|rfl
     ·show KB af gp dl fa
     ·rw[ar]at fa;injection fa with fa;subst fa;show fun aa=>Y aa.2
   ·rw[cE ds];show⟨rfl,⟨_,_,_,_,_,rfl⟩,fun af gp dl fa=>?_⟩;rcases Nat.lt_succ_iff_lt_or_eq.mp dl with dl|rfl
    ·show KB af gp dl fa
    ·rw[ar]at fa;injection fa with fa;subst fa;show fun aa=>ds aa.1
 ·show aX fun _ done=>?_;obtain⟨rfl,⟨a,b,u,v,w,rfl⟩,KB⟩:=ga;show done ?_;show I ?_;rw[rk,List.any_eq_false];intro r ar;obtain⟨af,dl,rfl⟩:=List.getElem_of_mem ar;have:=KB af pG[af] (dl) (gx dl);simpa using this
theorem vK{k:Int}{Q:ag→ae→Prop}{X:Nat→ae→Prop}(bv:1000≤N)(h:Q (PD (dM k)) j):W (run a_ N sa ns (d+2) 105 [.int k] j) Q X:=by
 show bQ (f:=zU) rfl rfl ?_;unfold dM at h;show(?_:bN (some (kb.lookup k).isSome) _ _);cases I:kb.lookup k with
 |some v=>show b6 (Py I) fun s cl=>?_;subst cl;rw[I]at h;show(?_:bg ((kb.lookup k).bind fun v=>(isStr v).map ag.str) _);rw[I];show h
 |none=>
  rw[I]at h;show(?_:bN (some (rb.lookup k).isSome) _ _);have UO:((rb.lookup k).isSome||(rF.lookup k).isSome)=false→W (run a_ N sa ns (d+1) 98 [.int k] j) (fun x j=>bg ((cC .Is x .none j).map .bool) fun v=>bN (ck v) (Q .none j) (Q (.str "none") j)) X:=by
   intro Y;rw[Y]at h;show UP bv (fun bi=>?_) fun bi a b=>?_;·rw[bi]at h;show h
   ·rw[bi]at h;show h
  cases V:(rb.lookup k).isSome with
  |true=>rw[V]at h;show h
  |false=>
   show(?_:bN (some (rF.lookup k).isSome) _ _);cases a1:(rF.lookup k).isSome with
   |true=>rw[V,a1]at h;show h
   |false=>show UO (by rw[V,a1];rfl)
theorem SA{k:Int}{Q:ag→ae→Prop}{X:Nat→ae→Prop}(h:Q (.bool (decide (k∈[(2:Int),3,4]))) j):W (run a_ N sa ns (d+1) 112 [.int k] j) Q X:=by show bQ (f:=zX) rfl rfl ?_;have cd:cC .In (.int k) (.av [.int 2,.int 3,.int 4]) j=some (decide (k∈[(2:Int),3,4])):=pw k [2,3,4];show cP cd h (fun _=>rfl) (fun _=>rfl)
end
end
section
noncomputable def ir:List (Int×Int):=[(42,43),(56,57),(67,68),(91,102),(139,166),(168,171),(174,191),(64512,64519)]
noncomputable def i7(c:Int):Bool:=c==253||ir.any fun r=>decide (r.1≤c)&&decide (c≤r.2)
noncomputable def w2:bI (List Int):=(nR (et 32)).bind fun xs=>(et 32).bind fun x=>.ret (xs++[x])
noncomputable def B2:bI (List Int):=nR (lN "malformed value type")
noncomputable def nY:List Str:=["label","func","local","global","table","data","elem"]
noncomputable def n':List Str:=["indirect","table_init","table_copy"]
theorem U2:nY.all PyData.strOk=true:=by simp[nY,bU]
theorem Xi:n'.all PyData.strOk=true:=by simp[n',bU]
noncomputable def sE(na:Str):bI (Option (List Int)):=if na=="none"then .ret (some [])else if nY.any (·==na)then(et 32).bind fun i=>.ret (some [i])else if na=="block"then qo.bind fun i=>.ret (some [i])else if na=="i32"then(f9 32).bind fun i=>.ret (some [i])else if na=="i64"then(f9 64).bind fun i=>.ret (some [i])else if na=="memarg"then xa.bind fun l=>.ret (some l)else if na=="refkind"then xv.bind fun i=>.ret (some [i])else .ret none
noncomputable def jE(na:Str):bI (List Int):=(sE na).bind fun o=>match o with
 |some l=>.ret l
 |none=>if na=="labels"then w2 else if na=="kinds"then B2 else if n'.any (·==na)then(et 32).bind fun a=>(et 32).bind fun b=>.ret [a,b]else if na=="memory_init"then(et 32).bind fun a=>uJ.bind fun _=>.ret [a]else uJ.bind fun _=>if na=="two_memories"then uJ.bind fun _=>.ret []else .ret []
noncomputable def jl:bI Int:=.pos fun a=>.get fun o=>(if o=252 then(et 32).bind fun u=>if 17<u then .cT bE "illegal opcode" a else .ret (64512+u)else .ret o).bind fun k=>if i7 k then .cT dy "an instruction that is left out" a else if(dM k).isNone then .cT bE "illegal opcode" a else .ret k
noncomputable def U3:Option (List Int)→ag
 |some l=>bj l
 |none=>.none
section
variable{N:Nat}{sa:Addr}{ns:List Int}{d:Nat}{c:Nat}{az:List Int}{e:Nat}{L:List Int}{j:ae}
theorem Tx{k:Int}{Q:ag→ae→Prop}{X:Nat→ae→Prop}(bv:1000≤N)(h:∀l,Q (.bool (i7 k)) (j++l)):W (run a_ N sa ns (d+1) 117 [.int k] j) Q X:=by
 show bQ (f:=zY) rfl rfl ?_;show cP (e6 j k 253) ?_ (fun _=>rfl) (fun _=>rfl);unfold i7 at h;cases Y:(k==253)with
 |true=>rw[Y]at h;have:=h [];rw[eo]at this;show this
 |false=>
  rw[Y]at h;show⟨rfl,?_⟩;show el (cN (v:=d8.all (rp ir)) rfl ?_);show so (l:=rp ir) (fun i H=>H=j++[.list ((ir.take i).map fun r=>ag.bool (decide (r.1≤k)&&decide (k≤r.2)))]) (fun i H _=>rfl) (fun i x H ga ad=>?_) (fun H ga=>?_) N 0 _ rfl (e0 _) (by change 8-0<N;show ai [[1,0,1,0,1],[0,1]] [_,_] [] [.le .R .y,.cG .x (.n 8) .o] (.lt .x .y) ah bv (cy _ _))
  ·subst ga;rw[rp,eQ]at ad;cases ar:ir[i]? with
   |none=>rw[ar]at ad;cases ad
   |some r=>
    rw[ar]at ad;injection ad with ad;subst ad;have m0:=(c7.mp ar).1;have nb:i<8:=m0;have Fu:∀b:Bool,b=(decide (r.1≤k)&&decide (k≤r.2))→ff (lD j.length (.bool b) (j++[.list ((ir.take i).map fun r=>ag.bool (decide (r.1≤k)&&decide (k≤r.2)))])) fun H=>H=j++[.list ((ir.take (i+1)).map fun r=>ag.bool (decide (r.1≤k)&&decide (k≤r.2)))]:=by rintro b rfl;show cN (tY (bG j _) (by rw[bD];show hE (kF _ _) (by decide))) ?_;show(?_:_=_);rw[List.take_succ,ar];simp
    show cQ _ ?_;show(?_:bN (some (decide (r.1≤k))) _ _);by_cases ds:r.1≤k;·rw[cF ds];show Fu _ ?_;rw[cF ds];rfl
    ·rw[cE ds];show Fu _ ?_;rw[cE ds];rfl
  ·subst ga;show(?_:W (cY (b9 N sa ns d) .any [.ref j.length] _) _ _);have cd:c0 (j++[aI.list ((ir.take (rp ir).length).map fun r=>ag.bool (decide (r.1≤k)&&decide (k≤r.2)))]) j.length=some (ir.map fun r=>ag.bool (decide (r.1≤k)&&decide (k≤r.2))):=by unfold c0;rw[bG];rfl
   show(?_:W (aG.bg ((c0 _ j.length).bind (dz wQ)|>.map fun l=>ag.bool (l.any id)) _) Q X);rw[cd];have:=h [.list ((ir.take (rp ir).length).map fun r=>ag.bool (decide (r.1≤k)&&decide (k≤r.2)))];show this
theorem vj(h:cO c az e L j)(l:List aI):cO c az e L (j++l):=⟨hY h.ft _,h.n8,h.le,h.pC⟩
theorem WC:eV 315 10 [] bj w2:=fun N sa ns d c az e L j Q X bv h m=>by
 have At:=kc h.ft;show bQ (f:=z0) rfl rfl ?_;show HI (D:=8) WA rfl (by decide) bv h m fun xs g3 H ch Z ak ac V=>?_;show⟨mF ak,?_⟩;show hu (xs:=[]) Z (f:=421) rfl rfl (fun _=>rfl) (fun _=>rfl) ?_;show ue (d:=d+2) lK bv Z ch ac fun x lU H1 e_ s3 BT=>?_;have AT:=e_.get ak (by show hG At);show(?_:W (cJ _ (.ref j.length) .b2 [.int x] H1) _ _);have zr:∀P,cJ P (.ref j.length) .b2 [.int x] H1=.ok .none (H1.set j.length (.list (xs.map .int++[.int x]))):=fun P=>by show yT AT (by rw[bD];unfold aP;show yj V)
 rw[zr];show(?_:W (cY (b9 N sa ns (d+9)) .tuple [.ref j.length] _) _ _);have la:(H1.set j.length (.list (xs.map .int++[.int x])))[j.length]?=some (.list ((xs++[x]).map .int)):=by rw[eu AT];simp
 rw[JS la (by rw[bD,cA];simp only[List.length_singleton];unfold aP;show ai [[1,1]] [_] [] [.lt .x .T] (.lt (.a .x .l) .L) ah V)];show BT _ ((ch.trans e_).iC (cm _) _) ⟨?_,s3.n8,s3.le,s3.pC⟩;rw[eP (by show hG At)];show s3.ft
theorem Wy(na:Str)(ev:PyData.strOk na=true):eV 322 10 [.str na] U3 (sE na):=fun N sa ns d c az e L j Q X bv h m=>by
 show bQ (f:=vB) rfl rfl ?_;unfold sE at m;unfold vB;show df (my rfl ev (bU _) m (fun m=>?_) fun m=>?_);·show m _ (aO.refl _ _) h
 show ek (df (Hq (l:=nY) rfl ev (fun _=>rfl) U2 m (fun m=>?_) fun m=>?_));·show jH (d:=d+2) lK bv h rfl rfl (fun _=>rfl) (fun _=>rfl) m fun k g3 H ch Z ac=>?_;show ac _ (aO.refl _ _) Z
 show ek (df (my rfl ev (bU _) m (fun m=>?_) fun m=>?_));·show n6 Ww bv h m fun k g3 H ch Z ac=>ac _ (aO.refl _ _) Z
 show ek (df (my rfl ev (bU _) m (fun m=>?_) fun m=>?_));·show jH (d:=d+2) WG bv h rfl rfl (fun _=>rfl) (fun _=>rfl) m fun k g3 H ch Z ac=>?_;show ac _ (aO.refl _ _) Z
 show ek (df (my rfl ev (bU _) m (fun m=>?_) fun m=>?_));·show jH (d:=d+2) WI bv h rfl rfl (fun _=>rfl) (fun _=>rfl) m fun k g3 H ch Z ac=>?_;show ac _ (aO.refl _ _) Z
 show ek (df (my rfl ev (bU _) m (fun m=>?_) fun m=>?_));·show n6 (d:=d+1) WD bv h m fun k g3 H ch Z ac=>ac _ (aO.refl _ _) Z
 show ek (df (my rfl ev (bU _) m (fun m=>?_) fun m=>?_));·show n6 (d:=d+1) WE bv h m fun k g3 H ch Z ac=>ac _ (aO.refl _ _) Z
 show m _ (aO.refl _ _) h
theorem Wz(na:Str)(ev:PyData.strOk na=true):eV 329 11 [.str na] bj (jE na):=fun N sa ns d c az e L j Q X bv h m=>by
 show bQ (f:=zV) rfl rfl ?_;show n6 (Wy na ev) bv h m fun o L H ch h jG=>?_;have m:=jG;clear jG;cases o with
 |some l=>show m _ (aO.refl _ _) h
 |none=>
  simp only at m;show df ?_;show SE (v:=.none) (r:=false) rfl rfl ?_;show ek (df (my rfl ev (bU _) m (fun m=>?_) fun m=>?_));·show WC N sa ns d c az e L H _ _ bv h m
  show ek (df (my rfl ev (bU _) m (fun m=>?_) fun m=>?_))
  ·have m:c3 H c az e (((nR (lN "malformed value type")).bind .ret).exec (e-L.length) L) (fun v j=>Q (bj v) j) X:=by rw[eB];revert m;unfold B2;generalize(nR (lN "malformed value type")).exec (e-L.length) L=r;cases r<;>show fun m=>m
   show HI (D:=9) WB rfl (by decide) bv h m fun xs g3 H1 ch Z ak ac V=>?_;show(?_:W (cY (b9 N sa ns (d+10)) .tuple [.ref H.length] _) _ _);rw[JS ak (by rw[bD];unfold aP;show yj V)];show ac _ ch Z
  show ek (df (Hq (l:=n') rfl ev (fun _=>rfl) Xi m (fun m=>?_) fun m=>?_));·show jH (d:=d+3) lK bv h rfl rfl (fun _=>rfl) (fun _=>rfl) m fun a g3 H1 ch Z ac=>?_;show jH (d:=d+3) lK bv Z rfl rfl (fun _=>rfl) (fun _=>rfl) ac fun b lU Cl ch s3 ac=>?_;show ac _ (aO.refl _ _) s3
  show ek (df (my rfl ev (bU _) m (fun m=>?_) fun m=>?_));·show jH (d:=d+3) lK bv h rfl rfl (fun _=>rfl) (fun _=>rfl) m fun a g3 H1 ch Z ac=>?_;show n6 (d:=d+5) Dg bv Z ac fun _ lU Cl ch s3 ac=>?_;show ac _ (aO.refl _ _) s3
  show n6 (d:=d+5) Dg bv h m fun _ g3 H1 ch Z ac=>?_;show fE rfl ev (bU _) (fun Y=>?_) fun Y=>?_<;>simp only[Y,if_true,gy,if_false]at ac;·show n6 (d:=d+5) Dg bv Z ac fun _ lU Cl ch s3 ac=>?_;show ac _ (aO.refl _ _) s3
  show ac _ (aO.refl _ _) Z
theorem Wx:eV 336 8 [] ag.int jl:=fun N sa ns d c az e L j Q X bv h m=>by
 show bQ (f:=zT) rfl rfl ?_;show(?_:bg (c' j (.ref c) .at) _);rw[hK h];show hu (xs:=[]) h (f:=386) rfl rfl (fun _=>rfl) (fun _=>rfl) ?_;show(?_:W (run a_ N sa ns (d+7) 386 [.ref c] j) _ _);cases L with
 |nil=>show xk h▸m _ _ (aO.push c j _) (bG j _)
 |cons o L=>
  rw[tQ h];have Z:=sr h;have m:=m.eY (aO.set c j (ez az e L));have ww:(e:Int)-((o::L).length:Nat)+1=(e:Int)-(L.length:Nat):=by rw[hF];show uS
  dsimp only[jl,dr,dm,dp,dn,dq,dk]at m;rw[ww]at m;generalize a1:j.set c (ez az e L)=s at*;have bh:∀(k:Int)(u:Option ag)(g3:List Int)(s':ae),cO c az e g3 s'→c3 s' c az e ((if i7 k then bI.cT dy "an instruction that is left out" ((e:Int)-((o::L).length:Nat))else if(dM k).isNone then .cT bE "illegal opcode" ((e:Int)-((o::L).length:Nat))else .ret k).exec (e-g3.length) g3) (fun v j=>Q (.int v) j) X→bX (b9 N sa ns (d+7)) (.cons (.ite (.call (.aC (.fn 117)) (.cons (.aw 2) .nil)) (.cons (.dV 173 (.cons (.aC (.str "an instruction that is left out")) (.cons (.aw 1) .nil))) .nil) .nil) (.cons (.ite (.aQ .Is (.call (.aC (.fn 105)) (.cons (.aw 2) .nil)) (.aC .none)) (.cons (.dV 154 (.cons (.aC (.str "illegal opcode")) (.cons (.aw 1) .nil))) .nil) .nil) (.cons (.ret (.aw 2)) .nil))) [some (.ref c),some (.int ((e:Int)-((o::L).length:Nat))),some (.int k),u,none,none,none,none,none,none,none] s' (fun _ j=>Q .none j) (fun v _ j=>Q v j) (fun k _ j=>X k j):=by
   intro k u g3 s' Z m;show Tx bv fun l=>?_;have Z:=vj Z l;have m:=m.eY (aO.push c s' l);cases Y:i7 k with
   |true=>rw[Y]at m;show⟨rfl,gZ (.inr rfl) (m _ _ (aO.push c _ _) (bG _ _))⟩
   |false=>
    simp only[Y,gy,if_false]at m;show vK bv ?_;cases ch:dM k with
    |none=>rw[ch]at m;show⟨rfl,gZ (.inl rfl) (m _ _ (aO.push c _ _) (bG _ _))⟩
    |some s=>rw[ch]at m;show m _ (aO.refl _ _) Z
  show cP (e6 s o 252) ?_ (fun _=>rfl) (fun _=>rfl);show(?_:bN (some (o==252)) _ _);by_cases I:o=252
  ·rw[dw.mpr I];rw[aF I,qn]at m;show jH lK bv Z rfl rfl (fun _=>rfl) (fun _=>rfl) m fun u g3 H ch Z ac=>?_;show(?_:bN (some (decide (17<u))) _ _);by_cases bn:17<u;·rw[cF bn];rw[aF bn]at ac;show⟨rfl,gZ (.inl rfl) (ac _ _ (aO.push c _ _) (bG _ _))⟩
   ·rw[cE bn];rw[aM bn]at ac;show bh (64512+u) _ g3 H Z ac
  ·rw[g8.mpr I];rw[aM I]at m;show bh o _ L s Z m
end
end
section
theorem Fb:∀l:List Int,PyData.depthAll (l.map PyData.int)=0:=by
 intro ca;induction ca with
 |nil=>rfl
 |cons x l ap=>simp[vm,vl,oJ,oI,oK,nk,ap]
theorem JM{j:ae}{k n:Nat}{l:List Int}(h:j[k]?=some (.list (l.map .int))):c1 j (n+2) (.ref k)=some (.list (l.map PyData.int)):=by show eE (f:=fun l=>(dz (c1 j (n+1)) l).map PyData.list) (d1 h) (congrArg (Option.map _) (Cs j n l))
theorem Ia{j:ae}{k af:Nat}{l:List Int}(h:j[k]?=some (.list (l.map .int)))(dl:j[af]?=some (.list [])):cC .NotEq (.ref k) (.ref af) j=some (!l.isEmpty):=by
 show(?_:(h_ j (.ref k) (.ref af)).map (!·)=_);have I:SeqAt.shaped (.list (l.map PyData.int))=true:=Dc (Ca l) (by rw[nk,Fb];decide);have O:SeqAt.shaped (.list (([]:List Int).map PyData.int))=true:=by decide
 show(congrArg (Option.map _) (vu (JM (n:=6) h) (JM (n:=6) (l:=[]) dl) (by rw[I,O];rfl))).trans ?_;clear h dl I O;cases l<;>simp[PyData.eqv,PyData.eqvAll]
theorem tJ(j:ae):es [] j=.ok (.ref j.length) (j++[.list []]):=by unfold es;rw[aF (by simp[aP])]
theorem gV{l:List ag}(j:ae)(h:l.length<aP):es l j=.ok (.ref j.length) (j++[.list l]):=by unfold es;rw[aF h]
theorem XN{P:aY}{i:Nat}{z:aq}{j:ae}{Q:ag→ae→Prop}{X:Nat→ae→Prop}{k:Nat}{l:List Int}(ul:(z[i]?).join=some (.ref k))(h:j[k]?=some (.list (l.map .int)))(ne:Q (.bool (!l.isEmpty)) (j++[.list []])):wp P (.aQ .NotEq (.aw i) (.bM .nil)) z j Q X:=by show oa (ew ?_);rw[ul];show uz (ky ?_);rw[tJ];dsimp only[W];rw[Ia (hY h _) (bG j _)];show ne
theorem iL{P:aY}{a:Addr}{as:b5}{xs:List ag}{z:aq}{j:ae}{Q:ag→ae→Prop}{X:Nat→ae→Prop}(ad:∀Q,cR P as z j Q X=Q xs j)(an:cZ a=false)(hd:P.hd=true)(h:W (P.d' a xs j) Q X):wp P (.call (.aC (.fn a)) as) z j Q X:=by show uy (el ?_);rw[ad];show(?_:W (nd P (.fn a) xs j) Q X);rw[ve hd an];show h
theorem gw{N:Nat}{sa:Addr}{ns:List Int}{d:Nat}{a:Addr}{as:b5}{xs:List ag}{z:aq}{j:ae}{Q:ag→ae→Prop}{X:Nat→ae→Prop}(ad:∀Q,cR (b9 N sa ns d) as z j Q X=Q xs j)(an:cZ a=false)(h:W (run a_ N sa ns d a xs j) Q X):wp (b9 N sa ns d) (.call (.aC (.fn a)) as) z j Q X:=iL ad an rfl h
theorem Dl{j:ae}{k:Nat}{l:List ag}{v:ag}(h:j[k]?=some (.list l))(V:l.length<aP)(al:l.getLast?=some v):dj j (.ref k) (.int (-1))=some v:=by
 have li:l≠[]:=by rintro rfl;cases al
 have e':=List.length_pos_iff.mpr li;rw[rH h,n7,aF V];unfold i_;rw[aM (by show ai [[1]] [] [] [] (.aK (.ax .o .az)) ah),aF (by show ye e')];simp only[Option.bind_some];rw[show((-1:Int)+(l.length:Int)).toNat=l.length-1 by show yf (cS _) (cy _ _),←List.getLast?_eq_getElem?];show al
theorem IM{j:ae}{k:Nat}{l:List ag}{v:ag}(h:j[k]?=some (.list l))(V:l.length<aP)(li:l≠[]):rr j (.ref k) (.int (-1)) v=some (j.set k (.list (l.dropLast++[v]))):=by have e':=List.length_pos_iff.mpr li;rw[IJ h V];unfold i_;rw[aM (by show ai [[1]] [] [] [] (.aK (.ax .o .az)) ah),aF (by show ye e')];rw[show((-1:Int)+(l.length:Int)).toNat=l.length-1 by show yf (cS _) (cy _ _)];congr 3;clear h V e';obtain⟨r,x,rfl⟩:∃r x,l=r++[x]:=⟨l.dropLast,l.getLast li,(List.dropLast_concat_getLast li).symm⟩;simp
theorem ow{P:aY}{j:ae}{k:Nat}{l:List ag}{v:ag}(h:j[k]?=some (.list l))(V:l.length<aP):cJ P (.ref k) .b2 [v] j=.ok .none (j.set k (.list (l++[v]))):=by show yT h V
theorem CZ{P:aY}{j:ae}{k:Nat}{l:List ag}{v:ag}(h:j[k]?=some (.list l))(V:l.length<aP)(al:l.getLast?=some v):cJ P (.ref k) .gn [] j=.ok v (j.set k (.list l.dropLast)):=by show(nc h).trans ((gY al).trans (aF V))
theorem gU{P:aY}{j:ae}{k:Nat}{l:List ag}(h:j[k]?=some (.list l)):ht P j (.ref k) .b2=true∧ht P j (.ref k) .d_=true∧ht P j (.ref k) .gn=true:=by show⟨mF h,mF h,mF h⟩
noncomputable def ei(cr:Bool):Nat→List Int→List (List Int)→bI (List (List Int))
 |0,_,_=>.dI
 |n+1,cs,body=>if cs=[]then .ret body else .pos fun a=>jl.bind fun k=>
  if k=11 then ei cr n cs.dropLast (body++[[11]])
  else if k=5 then(if cs.getLast?≠some 4 then .cT bE "END opcode expected" a else ei cr n (cs.dropLast++[5]) (body++[[5]]))
  else if k∈[(64520:Int),64521]∧cr=false then .cT bE "data count section required" a
  else match dM k with
   |none=>.dI
   |some f=>(jE f).bind fun ns=>if 1000≤ns.length then .dI else ei cr n (if k∈[(2:Int),3,4]then cs++[k]else cs) (body++[k::ns])
theorem oC{cr:Bool}{n:Nat}{cs:List Int}{body:List (List Int)}:ei cr (n+1) cs body=if cs=[]then .ret body else .pos fun a=>jl.bind fun k=>
 if k=11 then ei cr n cs.dropLast (body++[[11]])
 else if k=5 then(if cs.getLast?≠some 4 then .cT bE "END opcode expected" a else ei cr n (cs.dropLast++[5]) (body++[[5]]))
 else if k∈[(64520:Int),64521]∧cr=false then .cT bE "data count section required" a
 else match dM k with
  |none=>.dI
  |some f=>(jE f).bind fun ns=>if 1000≤ns.length then .dI else ei cr n (if k∈[(2:Int),3,4]then cs++[k]else cs) (body++[k::ns])
 :=rfl
theorem Px:kb.all (fun p=>match p.2 with|.str s=>PyData.strOk s|_=>true)=true:=by decide+kernel
theorem FP{k:Int}{f:Str}(h:dM k=some f):PyData.strOk f=true:=by
 have fA:∀{a b:Bool},(if a then some ("memarg":Str)else if b then some ("none":Str)else none)=some f→PyData.strOk f=true:=fun{a b} h=>match a,b,h with
  |true,_,h=>bx h▸bU _
  |false,true,h=>bx h▸bU _
 unfold dM at h;cases e:kb.lookup k with
 |none=>rw[e]at h;show fA h
 |some v=>
  rw[e]at h;cases v with
  |str s=>show bx h▸jd.mp Px _ (HP e)
  |_=>show fA h
noncomputable abbrev KG(c:Nat)(cr:Bool)(j:ae)(u v:Option ag):aq:=some (.ref c)::some (.bool cr)::some (.ref j.length)::some (.ref (j.length+1))::u::v::List.replicate 10 none
abbrev DN(c:Nat)(az:List Int)(e:Nat)(cr:Bool)(j:ae)(IR:List (List Int)→ae→Prop)(X:Nat→ae→Prop)(n:Nat)(z:aq)(H:ae):Prop:=∃(cs:List Int)(body:List (List Int))(u v:Option ag)(g3:List Int),z=KG c cr j u v∧cO c az e g3 H∧aO c j H∧H[j.length]?=some (.list (body.map bj))∧H[j.length+1]?=some (.list (cs.map .int))∧c3 j c az e ((ei cr n cs body).exec (e-g3.length) g3) IR X∧body.length+n≤900∧cs.length+n≤901
section
variable{N:Nat}{sa:Addr}{ns:List Int}{d:Nat}{c:Nat}{az:List Int}{e:Nat}{L:List Int}{j:ae}
theorem qx(h:cO c az e L j){k:Nat}(ak:k≠c)(o:aI):cO c az e L (j.set k o):=⟨by rw[eP ak];show h.ft,h.n8,h.le,h.pC⟩
theorem L6{cr:Bool}{fI:Nat}{IR:List (List Int)→ae→Prop}{Q:ag→ae→Prop}{X:Nat→ae→Prop}(bv:1000≤N)(bi:fI≤900)(h:cO c az e L j)(m:c3 j c az e ((ei cr fI [0] []).exec (e-L.length) L) IR X)(k:∀body g3 H,aO c j H→cO c az e g3 H→H[j.length]?=some (.list (body.map bj))→body.length<1000→IR body H→Q (.ref j.length) H):W (run a_ N sa ns (d+12) 343 [.ref c,.bool cr] j) Q X:=by
 have At:=kc h.ft;show bQ (f:=zS) rfl rfl ?_;show mP ?_;show uz (ky ?_);rw[tJ];show W.dA (gv (uz (gv (el (ky ?_)))));rw[gV (l:=[.int 0]) _ (by simp[aP])];have td:(j++[aI.list []]).length=j.length+1:=by simp
 rw[td];show⟨rfl,cN (v:=some (.ref c)::some (.bool cr)::some (.ref j.length)::some (.ref (j.length+1))::none::none::List.replicate 10 none) rfl ?_⟩;show⟨rfl,?_⟩;have QL:aO c j (j++[.list []]++[.list [.int 0]]):=(aO.push c j _).trans (aO.push c _ _);show oe (DN c az e cr j IR X) ?_ N fI _ _ ?_ (by show ai [[1,1,1]] [_,_] [] [.le .R .y,.le .x .T] (.lt .x .y) ah bv bi)
 ·rintro n z H ⟨cs,body,u,v,g3,rfl,Z,ch,Y,ds,ac,wE,un⟩;cases n with
  |zero=>show ac.elim
  |succ n=>
  show XN rfl ds ?_;have sM:(H++[aI.list []])[j.length+1]?=some (.list (cs.map .int)):=hY ds _;have gJ:(H++[aI.list []])[j.length]?=some (.list (body.map bj)):=hY Y _;have mg:=vj Z [aI.list []];have TI:aO c j (H++[.list []]):=ch.trans (aO.push c _ _);generalize a1:H++[aI.list []]=s at*;dsimp only[oC]at ac;cases k8:cs with
  |nil=>rw[k8,aF rfl]at ac;have:=ac s TI mg;show k body g3 s TI mg gJ (by show ai [[1,1]] [_,_] [] [.le (.a .x (.a .y .l)) .T] (.lt .x .R) ah wE) this
  |cons x xs=>
  rw[←k8];have li:cs≠[]:=by rw[k8];show List.cons_ne_nil _ _
  rw[aM li]at ac;have AV:cs.isEmpty=false:=by simpa using li
  rw[AV];show(?_:bg (c' s (.ref c) .at) _);rw[hK mg];show ue (d:=d+3) Wx bv mg TI ac fun code lU s' e_ s3 BT=>?_;have ty:=TI.trans e_;have k7:=e_.get sM (by show om At);have wl:=e_.get gJ (by show hG At);have Ra:∃aa,cs.getLast?=some aa:=⟨_,List.getLast?_eq_some_getLast li⟩;obtain⟨aa,lm⟩:=Ra;have Hf:(cs.map ag.int).getLast?=some (.int aa):=by rw[List.getLast?_map,lm];rfl
  have wi:(cs.map ag.int).length<aP:=by rw[bD];unfold aP;show ai [[1,1]] [_,_] [] [.le (.a .x (.a .y .l)) (.n 901)] (.lt .x .L) ah un
  have A9:(body.map bj).length<aP:=by rw[bD];unfold aP;show ai [[1,1]] [_,_] [] [.le (.a .x (.a .y .l)) .T] (.lt .x .L) ah wE
  clear ac sM gJ TI;show cP (e6 s' code 11) ?_ (fun _=>rfl) (fun _=>rfl);by_cases Tl:code=11
  ·rw[dw.mpr Tl];rw[aF Tl]at BT;show⟨(gU k7).2.2,?_⟩;show(?_:W (cJ _ (.ref (j.length+1)) .gn [] s') _ _);rw[CZ k7 wi Hf];have wv:(s'.set (j.length+1) (aI.list (cs.map ag.int).dropLast))[j.length]?=some (.list (body.map bj)):=by show(eP (by show uT)).trans wl
   show⟨(gU wv).1,?_⟩;show(?_:W (cJ _ (.ref j.length) .b2 [.av [.int 11]] _) _ _);rw[ow wv A9];show⟨n,by show m4,cs.dropLast,body++[[11]],_,_,lU,rfl,qx (qx s3 (by show om At) _) (by show hG At) _,(ty.iC (by show rS) _).iC (by show ai [[1]] [_] [] [] (.le .x .x) ah) _,?_,?_,BT,by simp;show uU wE,by simp;show ai [[1,0,1,0,1],[1,0,1,0,1]] [_,_,_] [] [.le (.a .aa (.a .y .l)) (.n 901),.cG .x .aa .l] (.le (.a .x .y) (.n 901)) ah un (cy _ _)⟩;·rw[eu wv];simp[bj]
   ·rw[eP (by show qe),eu k7,List.map_dropLast]
  rw[g8.mpr Tl];rw[aM Tl]at BT;show cP (e6 s' code 5) ?_ (fun _=>rfl) (fun _=>rfl);by_cases nl:code=5
  ·rw[dw.mpr nl];rw[aF nl]at BT;show b3 (Dl k7 wi Hf) ?_;show el (hV (xc s' aa 4) ?_);by_cases tj:aa=4
   ·subst tj;rw[aM (by rw[lm];simp)]at BT;show cN (IM k7 wi (by simpa using li)) ?_;have wv:(s'.set (j.length+1) (aI.list ((cs.map ag.int).dropLast++[.int 5])))[j.length]?=some (.list (body.map bj)):=by show(eP (by show uT)).trans wl
    show⟨(gU wv).1,?_⟩;show(?_:W (cJ _ (.ref j.length) .b2 [.av [.int 5]] _) _ _);rw[ow wv A9];show⟨n,by show m4,cs.dropLast++[5],body++[[5]],_,_,lU,rfl,qx (qx s3 (by show om At) _) (by show hG At) _,(ty.iC (by show rS) _).iC (by show ai [[1]] [_] [] [] (.le .x .x) ah) _,?_,?_,BT,by simp;show uU wE,by simp;show ai [[1,0,1,0,1],[1,0,1,0,1]] [_,_,_] [] [.le (.a .aa (.a .y .l)) (.n 901),.cG .x .aa .l] (.le (.a (.a .x .l) .y) (.n 901)) ah un (cy _ _)⟩;·rw[eu wv];simp[bj]
    ·rw[eP (by show qe),eu k7,List.map_append,List.map_dropLast];rfl
   ·have R_:(aa !=4)=true:=by simpa using tj
    rw[R_];rw[aF (by rw[lm];simpa using tj)]at BT;show⟨rfl,gZ (.inl rfl) (BT _ _ (ty.trans (aO.push c _ _)) (bG _ _))⟩
  rw[g8.mpr nl];rw[aM nl]at BT;have cd:cC .In (.int code) (.av [.int 64520,.int 64521]) s'=some (decide (code∈[(64520:Int),64521])):=pw code [64520,64521];show cP cd ?_ (fun _=>rfl) (fun _=>rfl);have bh:¬(code∈[(64520:Int),64521]∧cr=false)→bX (b9 N sa ns (d+11)) (.cons (.bB (.bq (.aw 2) .b2 (.cons (.aV .Add (.av (.cons (.aw 5) .nil)) (.call (.aC (.fn 329)) (.cons (.aw 0) (.cons (.call (.aC (.fn 105)) (.cons (.aw 5) .nil)) .nil)))) .nil))) (.cons (.ite (.call (.aC (.fn 112)) (.cons (.aw 5) .nil)) (.cons (.bB (.bq (.aw 3) .b2 (.cons (.aw 5) .nil))) .nil) .nil) .nil)) (some (.ref c)::some (.bool cr)::some (.ref j.length)::some (.ref (j.length+1))::some (.int ((e:Int)-(g3.length:Nat)))::some (.int code)::List.replicate 10 none) s' (fun z H=>∃m,m<n+1∧DN c az e cr j IR X m z H) (fun v _ j=>Q v j) (fun k _ j=>X k j):=by
   intro KB;rw[aM KB]at BT;show⟨(gU wl).1,?_⟩;show vK bv ?_;cases gK:dM code with
   |none=>rw[gK]at BT;show BT.elim
   |some f=>
   rw[gK]at BT;dsimp only at BT;show ue (d:=d) (Wz f (FP gK)) bv s3 ty BT fun bf p_ us fV Qw pd=>?_;have FS:=fV.get wl (by show hG At);have Qk:=fV.get k7 (by show om At);have o7:=ty.trans fV;by_cases Ba:1000≤bf.length;·rw[aF Ba]at pd;show pd.elim
   rw[aM Ba]at pd;have Nt:cj .Add (.av [.int code]) (bj bf) us=.ok (.av (.int code::bf.map .int)) us:=by show(?_:(if Operator.Add=.Add∧1+(bf.map ag.int).length<aP then _ else _)=_);rw[aF ⟨rfl,by rw[bD];unfold aP;show ai [[1,1]] [_] [] [.aK (.le .R .x)] (.lt (.a .l .x) .L) ah Ba⟩];rfl
   rw[Nt];show(?_:W (cJ _ (.ref j.length) .b2 [.av (.int code::bf.map .int)] _) _ _);rw[ow FS A9];have vV:(us.set j.length (aI.list (body.map bj++[.av (.int code::bf.map .int)])))[j.length+1]?=some (.list (cs.map .int)):=by rw[eP (by show qe)];show Qk
   have e8:(us.set j.length (aI.list (body.map bj++[.av (.int code::bf.map .int)])))[j.length]?=some (.list ((body++[code::bf]).map bj)):=by rw[eu FS];simp[bj]
   have Gi:=qx Qw (k:=j.length) (by show hG At) (aI.list (body.map bj++[.av (.int code::bf.map .int)]));have ig:=o7.iC (cm j.length) (aI.list (body.map bj++[.av (.int code::bf.map .int)]));generalize us.set j.length (aI.list (body.map bj++[.av (.int code::bf.map .int)]))=xL at*;show W.dA ?_;show iL (a:=112) (xs:=[.int code]) (fun _=>rfl) rfl rfl ?_;show(?_:W (run a_ N sa ns (d+11) 112 [.int code] xL) _ _);show SA ?_;show(?_:bN (some (decide (code∈[(2:Int),3,4]))) _ _);by_cases ju:code∈[(2:Int),3,4]
   ·rw[cF ju];rw[aF ju]at pd;show⟨(gU vV).1,?_⟩;show(?_:W (cJ _ (.ref (j.length+1)) .b2 [.int code] _) _ _);rw[ow vV wi];show⟨n,by show m4,cs++[code],body++[code::bf],_,_,p_,rfl,qx Gi (by show om At) _,ig.iC (by show rS) _,?_,?_,pd,by simp;show uU wE,by simp;show ai [[1,1]] [_,_] [] [.le (.a .x (.a .y .l)) (.n 901)] (.le (.a (.a .x .l) .y) (.n 901)) ah un⟩;·show(eP (by show uT)).trans e8
    ·rw[eu vV];simp
   ·rw[cE ju];rw[aM ju]at pd;show⟨n,by show m4,cs,body++[code::bf],_,_,p_,rfl,Gi,ig,e8,vV,pd,by simp;show uU wE,by show ai [[1,1]] [_,_] [] [.le (.a .x (.a .y .l)) (.n 901)] (.le (.a .x .y) (.n 901)) ah un⟩
  by_cases hd:code∈[(64520:Int),64521]
  ·rw[cF hd];show(?_:bN (some (!cr)) _ _);clear m;cases cr with
   |false=>rw[aF ⟨hd,rfl⟩]at BT;show⟨rfl,gZ (.inl rfl) (BT _ _ (ty.trans (aO.push c _ _)) (bG _ _))⟩
   |true=>show bh fun aa=>JK aa.2
  ·rw[cE hd];show bh fun aa=>hd aa.1
 ·show⟨[0],[],none,none,L,rfl,vj (vj h _) _,QL,?_,?_,m,by simp;show ai [[1,1]] [_] [] [.le .x .T] (.le .x .T) ah bi,by simp;show ai [[1,1]] [_] [] [.le .x .T] (.le (.a .l .x) (.n 901)) ah bi⟩;·show hY (bG j _) _
  ·have:=bG (j++[.list []]) (.list [.int 0]);rw[td]at this;show this
end
end
section
structure St where
 k:Int
 bf:List Int
 c:List Int
 r:List Int
structure St.b8(s:St):Prop where
 code:∀(p:Int)(L:List Int),jl.exec p (s.c++L)=.ok s.k (p+s.c.length) L
 bh:((s.k=11∨s.k=5)∧s.bf=[]∧s.r=[])∨(s.k≠11∧s.k≠5∧s.bf.length<1000∧∃f,dM s.k=some f∧∀(p:Int)(L:List Int),(jE f).exec p (s.r++L)=.ok s.bf (p+s.r.length) L)
noncomputable def mT(cs:List Int)(k:Int):List Int:=if k=11 then cs.dropLast else if k=5 then cs.dropLast++[5]else if k∈[(2:Int),3,4]then cs++[k]else cs
def yP:List Int→List St→List Int→Prop
 |cs,[],UF=>cs=UF
 |cs,s::ss,UF=>cs≠[]∧(s.k=5→cs.getLast?=some 4)∧yP (mT cs s.k) ss UF
noncomputable def dT:List St→List Int
 |[]=>[]
 |s::ss=>s.c++(s.r++dT ss)
theorem lp:dT []=[]:=rfl
theorem kj{s:St}{ss:List St}:dT (s::ss)=s.c++(s.r++dT ss):=rfl
noncomputable def ed(ss:List St):List (List Int):=ss.map fun s=>s.k::s.bf
set_option genInjectivity true in
set_option genCtorIdx true in
inductive oi where
 |ok (ft:Int)
 |data (ft:Int)
 |er
noncomputable def fv(cr:Bool)(e:Int):Int→List St→oi
 |a,[]=>.ok a
 |a,s::ss=>if s.k∈[(64520:Int),64521]∧cr=false∧a+s.c.length≤e then .data a else if e<a+s.c.length+s.r.length then .er else fv cr e (a+s.c.length+s.r.length) ss
theorem Fc{cr:Bool}{e a:Int}:fv cr e a []=.ok a:=rfl
theorem zo{cr:Bool}{e a:Int}{s:St}{ss:List St}:fv cr e a (s::ss)=if s.k∈[(64520:Int),64521]∧cr=false∧a+s.c.length≤e then .data a else if e<a+s.c.length+s.r.length then .er else fv cr e (a+s.c.length+s.r.length) ss:=rfl
theorem JH{A B:List Int}{m:Nat}(h:m<A.length):(A++B).take m=A.take m:=by rw[List.take_append_of_le_length (Nat.le_of_lt (by assumption))]
theorem JG{A B:List Int}{m:Nat}(h:A.length≤m):(A++B).take m=A++B.take (m-A.length):=by rw[List.take_append,List.take_of_length_le h]
theorem FD{α:Type}{t:bI α}{p:Int}{A:List Int}{a:α}{jp:Int}(h:∀L,t.exec p (A++L)=.ok a jp L){m:Nat}(ac:m<A.length):t.exec p (A.take m)=.g0:=(NT t p A [] (h [])).2 _ (List.take_prefix _ _) fun e=>by have:=congrArg List.length e;rw[List.length_take]at this;show Nat.lt_irrefl _ (hE (c6 (Nat.le_of_eq this.symm) (Nat.min_le_left _ _)) ac)
theorem E9(e a:Int)(n:Nat):(e-a).toNat-n=(e-(a+n)).toNat:=by rw[←Int.sub_sub,Int.toNat_sub']
theorem Cq{e a:Int}{n:Nat}(h:(e-a).toNat<n):e<a+n:=Int.lt_add_of_sub_left_lt (Int.lt_of_le_of_lt (Int.self_le_toNat _) (Int.ofNat_lt.mpr h))
theorem Cb{e a:Int}{n:Nat}(am:a≤e)(h:¬(e-a).toNat<n):a+n≤e:=Int.add_le_of_le_sub_left (g9 (Int.ofNat_le.mpr (Nat.not_lt.mp h)) (Int.le_of_eq (Int.toNat_of_nonneg (Int.sub_nonneg.mpr am))))
theorem EN{cr:Bool}{e:Int}(B:List Int)(m:Nat)(UF:List Int):∀(ss:List St)(cs:List Int)(body:List (List Int))(a:Int),yP cs ss UF→(∀s∈ss,s.b8)→a≤e→(ei cr (m+ss.length) cs body).exec a ((dT ss++B).take (e-a).toNat)=match fv cr e a ss with|.ok pc=>(ei cr m UF (body++ed ss)).exec pc (B.take (e-pc).toNat)|.data pc=>.di bE "data count section required" pc|.er=>.g0:=by
 intro ca;induction ca with
 |nil=>intro cs body a f0 sK Ev;obtain rfl:=(show cs=UF from f0);simp[Fc,kj,lp,ed]
 |cons s ss ap=>
  intro cs body a f0 ev ds;have li:=f0.1;have nl:=f0.2.1;have f0:=f0.2.2;obtain⟨Gn,hn⟩:=ev s dF;have Rr:=fun x ad=>ev x (dE _ ad);have nb:m+(s::ss).length=(m+ss.length)+1:=rfl;rw[nb];simp only[oC];rw[aM li];simp only[dr,dm,dp,dn,dq,dk];rw[eB];have dl:dT (s::ss)++B=s.c++(s.r++(dT ss++B)):=by simp[kj,lp]
  rw[dl];rw[zo];by_cases Z:(e-a).toNat<s.c.length;·rw[JH Z,FD (fun L=>Gn a L) Z,aM (show¬(s.k∈[(64520:Int),64521]∧cr=false∧a+s.c.length≤e)from fun aa=>absurd aa.2.2 (Int.not_le.mpr (Cq Z))),aF (show e<a+s.c.length+s.r.length from jW (Cq Z) (Int.le_add_of_nonneg_right (Int.natCast_nonneg _)))];rfl
  ·rw[JG (by show rR Z),Gn];simp only[c_.bind];have TT:a+s.c.length≤e:=Cb ds Z;have cd:(e-a).toNat-s.c.length=(e-(a+s.c.length)).toNat:=E9 ..;rw[cd];have ap:=fun(body:List (List Int))(pc:Int)(h:pc≤e)=>ap (mT cs s.k) body pc f0 Rr h;have Fx:∀b:List (List Int),b++[s.k::s.bf]++ed ss=b++ed (s::ss):=fun b=>by simp[ed]
   rcases hn with⟨ak,GX,ar⟩|⟨Tl,oT,nb,f,ch,GC⟩
   ·have hd:¬s.k∈[(64520:Int),64521]:=by rcases ak with ak|ak<;>rw[ak]<;>decide
    rw[aM (show¬(s.k∈[(64520:Int),64521]∧cr=false∧a+s.c.length≤e)from fun aa=>hd aa.1)];rw[ar]at*;rw[aM (show¬(e<a+s.c.length+(([]:List Int).length:Nat)) by simp;show ai [[1,1]] [_] [_,_] [.ax (.a .x (.c .x)) .y] (.ax (.a .x (.c .x)) .y) ah TT)];have ex:a+s.c.length+(([]:List Int).length:Nat)=a+s.c.length:=by simp
    rw[ex];have ap:=ap (body++[s.k::s.bf]) (a+s.c.length) TT;rw[Fx]at ap;rcases ak with ak|ak
    ·rw[aF ak];rw[ak,GX]at ap;show ap
    ·rw[aM (show¬s.k=11 by show ai [[0,1,1]] [] [_] [.a8 .x (.k 5)] (.aK (.a8 .x (.k 11))) ah ak),aF ak,aM (show¬(cs.getLast?≠some 4) by rw[nl ak];simp)];rw[ak,GX]at ap;show ap
   ·rw[aM Tl,aM oT];by_cases hd:s.k∈[(64520:Int),64521]∧cr=false;·rw[aF hd,aF (show s.k∈[(64520:Int),64521]∧cr=false∧a+s.c.length≤e from⟨hd.1,hd.2,TT⟩)];rfl
    ·rw[aM hd,aM (show¬(s.k∈[(64520:Int),64521]∧cr=false∧a+s.c.length≤e)from fun aa=>hd ⟨aa.1,aa.2.1⟩),ch];rw[eB];by_cases ar:(e-(a+s.c.length)).toNat<s.r.length;·rw[JH ar,FD (fun L=>GC _ L) ar,aF (Cq ar)];rfl
     ·rw[JG (by show rR ar),GC,aM (Int.not_lt.mpr (Cb TT ar))];simp only[c_.bind];rw[aM (by show ai [[1,1]] [_] [] [.lt .x .R] (.aK (.le .R .x)) ah nb)];have ex:(e-(a+s.c.length)).toNat-s.r.length=(e-(a+s.c.length+s.r.length)).toNat:=E9 ..;rw[ex];have ap:=ap (body++[s.k::s.bf]) (a+s.c.length+s.r.length) (Cb TT ar);rw[Fx]at ap;have bd:mT cs s.k=if s.k∈[(2:Int),3,4]then cs++[s.k]else cs:=by unfold mT;rw[aM Tl,aM oT]
      rw[bd]at ap;show ap
end
section
noncomputable def eC:Nat→Int→List Int
 |0,_=>[]
 |1,v=>[v%128]
 |n+2,v=>(v%128+128)::eC (n+1) (v/128)
theorem qM{v:Int}:eC 1 v=[v%128]:=rfl
theorem qL{v:Int}:eC (0+1) v=[v%128]:=rfl
theorem nx{n:Nat}{v:Int}:eC (n+2) v=(v%128+128)::eC (n+1) (v/128):=rfl
theorem mb:∀(n:Nat)(v:Int),(eC n v).length=n
 |0,_=>rfl
 |1,_=>rfl
 |n+2,v=>by rw[nx,hF,mb]
noncomputable def dN:Nat→Int→Nat
 |0,_=>1
 |f+1,v=>if v<128 then 1 else dN f (v/128)+1
noncomputable def cW:Nat→Int→Nat
 |0,_=>1
 |f+1,v=>if-64≤v∧v<64 then 1 else cW f (v/128)+1
theorem w6{v:Int}:dN 0 v=1:=rfl
theorem w7{f:Nat}{v:Int}:dN (f+1) v=if v<128 then 1 else dN f (v/128)+1:=rfl
theorem w4{v:Int}:cW 0 v=1:=rfl
theorem w5{f:Nat}{v:Int}:cW (f+1) v=if-64≤v∧v<64 then 1 else cW f (v/128)+1:=rfl
noncomputable def bJ(n:Nat):Int:=128^n
theorem hX(n:Nat):bJ (n+1)=128*bJ n:=by unfold bJ;rw[Int.pow_succ];show ai [[1],[1]] [] [_] [] (.a8 (.r .x (.ofNat 128)) (.e 128 .x)) ah
theorem xm:∀n,0<bJ n:=by
 intro ca;induction ca with
 |zero=>decide
 |succ n ap=>have:=ap;rw[hX];show ai [[1,128]] [] [_] [.au .o .x] (.au .o (.e 128 .x)) ah this
theorem Ir{c:Prop}[Decidable c]{x:Nat}:1≤if c then 1 else x+1:=by
 split;·show cm 1
 ·show Nat.le_add_left 1 x
theorem Ci:∀(f:Nat)(v:Int),1≤dN f v
 |0,_=>cm 1
 |_+1,_=>Ir
theorem tE:∀(f:Nat)(v:Int),1≤cW f v
 |0,_=>cm 1
 |_+1,_=>Ir
theorem HE:∀(f:Nat)(v:Int),v<bJ (f+1)→v<bJ (dN f v):=by
 intro ca;induction ca with
 |zero=>intro v h;show h
 |succ f ap=>
  intro v h;rw[w7];split;·rename_i I;show I
  ·rw[hX];rw[hX]at h;have:=ap (v/128) (by show qf h (cI _ 128 rfl));show ai [[1,0,1,0,1,128]] [] [_,_,_,_] [.au .aa .y,.d 128 .aa .w .x] (.au .x (.e 128 .y)) ah this (cI _ 128 rfl)
theorem Cf:∀(f:Nat)(v:Int),-64*bJ f≤v→v<64*bJ f→-64*bJ (cW f v-1)≤v∧v<64*bJ (cW f v-1):=by
 intro ca;induction ca with
 |zero=>intro v I O;show⟨I,O⟩
 |succ f ap=>
  intro v I O;rw[w5];split;·rename_i h;show⟨h.1,h.2⟩
  ·rw[hX]at I O;have ap:=ap (v/128) (by show uV I (cI _ 128 rfl)) (by show uW O (cI _ 128 rfl));have e':0<cW f (v/128):=by show tE f _
   obtain⟨n,bi⟩:∃n,cW f (v/128)=n+1:=⟨cW f (v/128)-1,by show ai [[1,0,1],[1,0,1,0,1],[1,0,0,1],[1,1]] [_,_] [] [.lt .o .x,.cG .y .x .l] (.eq .x (.a .y .l)) ah e' (cy _ _)⟩;rw[bi]at ap⊢;simp only[Nat.add_sub_cancel]at ap⊢;rw[hX];show ai [[1,1,0,1,0,128],[1,0,1,0,1,0,128]] [] [_,_,_,_] [.aA (.ax (.i 63 .x) .aa) (.au .aa (.e 64 .x)),.d 128 .aa .w .y] (.aA (.ax (.i 63 (.e 128 .x)) .y) (.au .y (.e 64 (.e 128 .x)))) ah ap (cI _ 128 rfl)
theorem H4(v:Int):(v%128+128)%128=v%128:=(Int.add_emod_right _ _).trans (Int.emod_emod _ _)
theorem H3{v:Int}(am:-128≤v)(I:v<0):v%128=v+128:=(Int.add_emod_right v 128).symm.trans (Int.emod_eq_of_lt (Int.add_le_add_right am 128) (Int.add_lt_add_right I 128))
theorem uj(s:Nat):(2:Int)^(s+7)=128*2^s:=by rw[Int.pow_add];show ai [[1],[1]] [] [_] [] (.a8 (.r .x (.ofNat 128)) (.e 128 .x)) ah
theorem Xj(s:Nat):(0:Int)<2^s:=Int.pow_pos (by show ai [[1]] [] [] [] (.au .o (.k 2)) ah)
theorem TY(ce b:Int)(L:List Int):∀(n k:Nat)(f:Int)(s:Nat)(v p:Int),1≤n→n≤k→0≤v→v<bJ n→(s:Int)+7*(n-1)<ce→v<2^(ce-s).toNat→(rf ce b k f s).exec p (eC n v++L)=.ok (f+v*2^s) (p+n) L:=by
 intro ca;induction ca with
 |zero=>intro sK Ev Da FM hg h SB j6 kT lZ m_;show absurd h (by show uX)
 |succ JV ap=>
  intro m' f s v p sb h am I a1 al;cases JV with
  |zero=>
   cases m' with
   |zero=>show absurd h (by show uX)
   |succ k=>
    have I:v<128:=I;have cd:v%128=v:=Int.emod_eq_of_lt am I;simp only[qM,qL,nx,Cp,dr,dm,dp,dn,dq,dk,List.cons_append,List.nil_append,cd,lX];have ex:v.fdiv (2^(ce-s).toNat)=0:=by show Int.fdiv_eq_ediv_of_nonneg _ (Int.le_of_lt (Xj _))▸Int.ediv_eq_zero_of_lt am al
    rw[ex,aM (by simp),aM (by show ai [[0,1,1]] [_] [_,_] [.au .y .G] (.aK (.aA (.ax (.s .x (.c .x)) .ae) (.ax .G .y))) ah I),aF I];rfl
  |succ n=>
   cases m' with
   |zero=>show absurd h (by show ai [[1]] [_] [] [] (.aK (.le (.a .x .b) .o)) ah)
   |succ k=>
    rw[hX]at I;have cd:(v%128+128)%128=v%128:=H4 v;simp only[qM,qL,nx,Cp,dr,dm,dp,dn,dq,dk,List.cons_append,cd,lX];rw[aM (by show ai [[1,0,1],[1,0,1]] [_,_] [_,_] [.au (.a (.c .x) (.e 7 (.s (.c (.a .y .b)) .l))) .x] (.aK (.aA (.au (.s .x (.c .x)) .ae) (.aK (.a8 .y .o)))) ah a1),aM (by show ai [[1,0,1]] [_,_] [_,_] [.au (.a (.c .x) (.e 7 (.s (.c (.a .y .b)) .l))) .x] (.aK (.aA (.ax (.s .x (.c .x)) .ae) (.ax .G (.a .y .G)))) ah a1),aM (by show ai [[1,0,0,1]] [] [_,_,_] [.d 128 .y .x .aa] (.aK (.au (.a .x .G) .G)) ah (cI _ 128 rfl))];have ex:(ce-(s:Nat)).toNat=(ce-((s+7:Nat):Int)).toNat+7:=by show ai [[1,0,1,0,0,0,1],[0,1,0,0,1],[0,1,0,0,0,0,0,1],[0,1,0,0,0,0,0,1],[1,0,0,1,0,1],[1,0,0,0,0,1],[0,1,0,0,0,0,0,1],[1,0,0,0,0,1]] [_,_,_,_] [_] [.au (.a (.c .aa) (.e 7 (.s (.c (.a .w .b)) .l))) .x,.cz .x (.s .x (.c .aa)),.cz .y (.s .x (.c (.a .aa (.n 7))))] (.eq .x (.a .y (.n 7))) ah a1 (cS _) (cS _)
    rw[ex,uj]at al;have ap:=ap k (f+v%128*2^s) (s+7) (v/128) (p+1) (by show rT) (by show ai [[1,1]] [_,_] [] [.le (.a .x .b) (.a .y .l)] (.le (.a .x .l) .y) ah h) (by show ai [[128,0,1,0,1,1]] [] [_,_,_] [.ax .o .y,.d 128 .x .aa .y] (.ax .o .x) ah am (cI _ 128 rfl)) (by show qf I (cI _ 128 rfl)) (by show ai [[1,1]] [_,_] [_] [.au (.a (.c .x) (.e 7 (.s (.c (.a .y .b)) .l))) .x] (.au (.a (.c (.a .x (.n 7))) (.e 7 (.s (.c (.a .y .l)) .l))) .x) ah a1) (by show qf al (cI _ 128 rfl));have sc:((s+7:Nat):Int)=(s:Int)+7:=by show ai [[1],[1]] [_] [] [] (.a8 (.c (.a .x (.n 7))) (.a (.c .x) .ae)) ah
    rw[sc]at ap;rw[Int.toNat_natCast,ap];congr 1
    ·rw[uj];have:v=v%128+128*(v/128):=by show ai [[1,1],[1,0,1]] [] [_,_,_] [.d 128 .aa .y .x] (.a8 .x (.a .y (.e 128 .aa))) ah (cI _ 128 rfl)
     conv=>rhs;rw[this]
     rw[Int.add_mul,Int.add_assoc];congr 2;rw[Int.mul_comm 128 (v/128),Int.mul_assoc]
    ·show ai [[1],[1]] [_] [_] [] (.a8 (.a (.a .x .l) (.c (.a .x .l))) (.a .x (.c (.a .x .b)))) ah
theorem VB(ce:Int)(Y:ce≤64){n:Nat}{v:Int}(p:Int)(L:List Int)(I:1≤n)(am:0≤v)(O:v<bJ n)(a1:7*((n:Int)-1)<ce)(al:v<2^ce.toNat):(et ce).exec p (eC n v++L)=.ok v (p+n) L:=by have:=TY ce p L n 20 0 0 v p I (by show ai [[7,1,1]] [_] [_] [.ax .x (.k 64),.au (.e 7 (.s (.c .x) .l)) .x] (.le .x .eh) ah Y a1) am O (by show ai [[1,1]] [_] [_] [.au (.e 7 (.s (.c .x) .l)) .x] (.au (.a (.c .o) (.e 7 (.s (.c .x) .l))) .x) ah a1) (by simpa using al);unfold et;simp only[dr,dm,dp,dn,dq,dk];simpa using this
end
section
theorem L0{o:Int}(am:0≤o)(I:o<128):Builtin.bitAnd o 64=if 64≤o then 64 else 0:=by
 show b6 (Int.eq_ofNat_of_zero_le am) fun n cl=>?_;subst cl;have key:∀n:Nat,n<128→n&&&64=if 64≤n then 64 else 0:=by decide+kernel
 have:=key n (by show ai [[1,1]] [_] [] [.au (.c .x) .G] (.lt .x (.n 128)) ah I);unfold Builtin.bitAnd;rw[cF am];change((n&&&64:Nat):Int)=_;rw[this];by_cases bi:64≤n;·rw[aF bi];show(aF (Int.ofNat_le.mpr bi)).symm
 ·rw[aM bi];show(aM (fun aa=>bi (Int.ofNat_le.mp aa))).symm
theorem EJ{o:Int}(am:0≤o)(I:o<128):Builtin.bitOr o 128=o+128:=by
 show b6 (Int.eq_ofNat_of_zero_le am) fun n cl=>?_;subst cl;have key:∀n:Nat,n<128→n|||128=n+128:=by decide+kernel
 have:=key n (by show ai [[1,1]] [_] [] [.au (.c .x) .G] (.lt .x (.n 128)) ah I);unfold Builtin.bitOr Builtin.bitAnd Builtin.bitNot;rw[cE (show¬0≤-(n:Int)-1 by show ai [[1]] [_] [] [] (.aK (.ax .o (.s (.g (.c .x)) .l))) ah)];have cd:(-(-(n:Int)-1)-1).toNat=n:=by show ai [[1,0,0,1],[1,1],[1,0,1],[1,0,1]] [_,_] [] [.cz .x (.s (.g (.s (.g (.c .y)) .l)) .l)] (.eq .x .y) ah (cS _)
 change -(-((((-(-(n:Int)-1)-1).toNat|||128:Nat):Int))-1)-1=_;rw[cd,this];show ai [[1],[1]] [_] [] [] (.a8 (.s (.g (.s (.g (.c (.a .x (.n 128)))) .l)) .l) (.a (.c .x) .G)) ah
theorem EI{o:Int}(am:0≤o)(I:o<256):Builtin.bitAnd o 192=64*(o/64):=by
 show b6 (Int.eq_ofNat_of_zero_le am) fun n cl=>?_;subst cl;have key:∀n:Nat,n<256→n&&&192=64*(n/64):=by decide+kernel
 have:=key n (by show ai [[1,1]] [_] [] [.au (.c .x) .F] (.lt .x (.n 256)) ah I);unfold Builtin.bitAnd;rw[cF am];show congrArg Nat.cast this
theorem fw{a b:Int}(h:0<b):a.fdiv b=a/b:=Int.fdiv_eq_ediv_of_nonneg _ (Int.le_of_lt h)
theorem Vk:∀k:Nat,k<6→(2:Int)^k≤32:=by decide
theorem Wu:∀k:Nat,k<6→∀af:Nat,af<64→((-(2^k)≤(af:Int)-32∧(af:Int)-32<2^k)→(((af:Int)-32)%128).fdiv (2^k)∈[0,(127:Int).fdiv (2^k)]):=by decide+kernel
theorem Tf{l v:Int}(h:1≤l)(ws:l<7)(I:-(2^(l-1).toNat)≤v)(O:v<2^(l-1).toNat):(v%128).fdiv (2^(l-1).toNat)∈[0,(127:Int).fdiv (2^(l-1).toNat)]:=by have ak:(l-1).toNat<6:=(Int.toNat_lt (Int.sub_nonneg.mpr h)).mpr (Int.sub_lt_sub_right ws 1);have im:=Vk _ ak;have am:0≤v+32:=g9 (Int.add_le_add_right (Int.neg_le_neg im) 32) (Int.add_le_add_right I 32);show b6 (Int.eq_ofNat_of_zero_le am) fun af e=>?_;have e:v=(af:Int)-32:=(Int.sub_eq_iff_eq_add.mpr e.symm).symm;rw[e]at I O⊢;show Wu _ ak af (Int.ofNat_lt.mp (Int.lt_add_of_sub_right_lt (jW O im))) ⟨I,O⟩
theorem TX(ce b:Int)(L:List Int):∀(n k:Nat)(f:Int)(s:Nat)(v p:Int),1≤n→n≤k→-64*bJ (n-1)≤v→v<64*bJ (n-1)→(s:Int)+7*(n-1)<ce→-(2^(ce-s-1).toNat)≤v→v<2^(ce-s-1).toNat→(rd ce b k f s).exec p (eC n v++L)=.ok (f+v*2^s) (p+n) L:=by
 intro ca;induction ca with
 |zero=>intro sK Ev Da FM hg h SB j6 kT lZ m_ lY;show absurd h (by show uX)
 |succ Xy ap=>
  intro sb f s v p vc h am I a1 al pj;cases Xy with
  |zero=>
   cases sb with
   |zero=>show absurd h (by show uX)
   |succ k=>
    have am:-64≤v:=am;have I:v<64:=I;have h8:v%128%128=v%128:=Int.emod_emod _ _;have cd:0≤v%128∧v%128<128:=by show ai [[1,0,0,1],[1,0,0,0,1]] [] [_,_,_] [.d 128 .y .x .aa] (.aA (.ax .o .x) (.au .x .G)) ah (cI _ 128 rfl)
    simp only[qM,qL,nx,Co,dr,dm,dp,dn,dq,dk,List.cons_append,List.nil_append,lX,h8];rw[aM (fun aa=>aa.2 (Tf (l:=ce-s) (by show ai [[1,1]] [_] [_] [.au (.a (.c .x) (.e 7 (.s (.c .l) .l))) .x] (.ax .l (.s .x (.c .x))) ah a1) (by show ai [[1,1]] [_] [_] [.au (.s .x (.c .x)) .ae] (.au (.s .x (.c .x)) .ae) ah (aa.1)) al pj)),aM (by show ai [[0,1,0,0,0,1]] [_] [_,_,_,_] [.d 128 .aa .y .w] (.aK (.aA (.ax (.s .x (.c .x)) .ae) (.ax .G .y))) ah (cI _ 128 rfl)),aF cd.2];simp only[dr,dm,dp,dn,dq,dk];congr 1;rw[L0 cd.1 cd.2];have sc:((s:Int)+7).toNat=s+7:=by show ai [[1,0,0,1],[0,1],[1,0,1],[0,1]] [_,_] [] [.cz .x (.a (.c .y) .ae)] (.eq .x (.a .y (.n 7))) ah (cS _)
    rw[sc,uj,Int.toNat_natCast];by_cases GW:v<0;·have ex:v%128=v+128:=H3 (g9 (by decide) am) GW;rw[ex,aF (show(64:Int)≤v+128 from Int.add_le_add_right am 128),Int.add_mul];show ai [[1],[1]] [] [_,_,_] [] (.a8 (.s (.a .x (.a .y (.e 128 .aa))) (.e 1 (.e 128 .aa))) (.a .x .y)) ah
    ·have ex:v%128=v:=Int.emod_eq_of_lt (Int.not_lt.mp GW) (Int.lt_trans I (by decide));rw[ex,aM (Int.not_le.mpr I)];show aM (fun aa=>aa rfl)
  |succ n=>
   cases sb with
   |zero=>show absurd h (by show ai [[1]] [_] [] [] (.aK (.le (.a .x .b) .o)) ah)
   |succ k=>
    have Nq:n+2-1=n+1:=rfl;rw[Nq,hX]at am I;have cd:(v%128+128)%128=v%128:=H4 v;simp only[qM,qL,nx,Co,dr,dm,dp,dn,dq,dk,List.cons_append,cd,lX];have fY:(s:Int)+7*((n:Int)+1)<ce:=by show ai [[1,1]] [_,_] [_] [.au (.a (.c .x) (.e 7 (.s (.c (.a .y .b)) .l))) .x] (.au (.a (.c .x) (.e 7 (.a (.c .y) .l))) .x) ah a1
    rw[aM (fun aa=>absurd aa.1 (by show ai [[1,1]] [_,_] [_] [.au (.a (.c .x) (.e 7 (.a (.c .y) .l))) .x] (.aK (.au (.s .x (.c .x)) .ae)) ah fY)),aM (by show ai [[1,0,1]] [_,_] [_,_] [.au (.a (.c .x) (.e 7 (.s (.c (.a .y .b)) .l))) .x] (.aK (.aA (.ax (.s .x (.c .x)) .ae) (.ax .G (.a .y .G)))) ah a1),aM (by show ai [[1,0,0,1]] [] [_,_,_] [.d 128 .y .x .aa] (.aK (.au (.a .x .G) .G)) ah (cI _ 128 rfl))];have ex:(ce-(s:Nat)-1).toNat=(ce-((s+7:Nat):Int)-1).toNat+7:=by show ai [[1,0,1,0,0,0,1],[0,1,0,0,1],[1,0,1,0,0,0,1,1],[0,0,0,0,1,0,0,1],[1,0,0,1,0,1],[0,1,0,0,1],[1,1,0,0,0,1],[1,0,0,0,0,1]] [_,_,_,_] [_] [.au (.a (.c .aa) (.e 7 (.s (.c (.a .w .b)) .l))) .x,.cz .x (.s (.s .x (.c .aa)) .l),.cz .y (.s (.s .x (.c (.a .aa (.n 7)))) .l)] (.eq .x (.a .y (.n 7))) ah a1 (cS _) (cS _)
    rw[ex,uj]at al pj;have ap:=ap k (f+v%128*2^s) (s+7) (v/128) (p+1) (by show rT) (by show ai [[1,1]] [_,_] [] [.le (.a .x .b) (.a .y .l)] (.le (.a .x .l) .y) ah h) (by rw[Nat.add_sub_cancel];show uV am (cI _ 128 rfl)) (by rw[Nat.add_sub_cancel];show uW I (cI _ 128 rfl)) (by show ai [[1,1]] [_,_] [_] [.au (.a (.c .x) (.e 7 (.s (.c (.a .y .b)) .l))) .x] (.au (.a (.c (.a .x (.n 7))) (.e 7 (.s (.c (.a .y .l)) .l))) .x) ah a1) (by show ai [[128,0,1,0,1,1]] [] [_,_,_,_] [.ax (.g (.e 128 .x)) .aa,.d 128 .y .w .aa] (.ax (.g .x) .y) ah al (cI _ 128 rfl)) (by show qf pj (cI _ 128 rfl));have sc:((s+7:Nat):Int)=(s:Int)+7:=by show ai [[1],[1]] [_] [] [] (.a8 (.c (.a .x (.n 7))) (.a (.c .x) .ae)) ah
    rw[sc]at ap;rw[Int.toNat_natCast,ap];congr 1
    ·rw[uj];have:v=v%128+128*(v/128):=by show ai [[1,1],[1,0,1]] [] [_,_,_] [.d 128 .aa .y .x] (.a8 .x (.a .y (.e 128 .aa))) ah (cI _ 128 rfl)
     conv=>rhs;rw[this]
     rw[Int.add_mul,Int.add_assoc];congr 2;rw[Int.mul_comm 128 (v/128),Int.mul_assoc]
    ·show ai [[1],[1]] [_] [_] [] (.a8 (.a (.a .x .l) (.c (.a .x .l))) (.a .x (.c (.a .x .b)))) ah
theorem VA(ce:Int)(Y:ce≤64){n:Nat}{v:Int}(p:Int)(L:List Int)(I:1≤n)(am:-64*bJ (n-1)≤v)(O:v<64*bJ (n-1))(a1:7*((n:Int)-1)<ce)(al:-(2^(ce-1).toNat)≤v)(pj:v<2^(ce-1).toNat):(f9 ce).exec p (eC n v++L)=.ok v (p+n) L:=by have:=TX ce p L n 20 0 0 v p I (by show ai [[7,1,1]] [_] [_] [.ax .x (.k 64),.au (.e 7 (.s (.c .x) .l)) .x] (.le .x .eh) ah Y a1) am O (by show ai [[1,1]] [_] [_] [.au (.e 7 (.s (.c .x) .l)) .x] (.au (.a (.c .o) (.e 7 (.s (.c .x) .l))) .x) ah a1) (by simpa using al) (by simpa using pj);unfold f9;simp only[dr,dm,dp,dn,dq,dk];simpa using this
noncomputable def ct(v:Int)(x:Nat):List Int:=eC (min 5 (dN 4 v+x)) v
noncomputable def eX(ce:Nat)(v:Int)(x:Nat):List Int:=eC (min ((ce+6)/7) (cW 9 v+x)) v
theorem ro:∀{m n:Nat},m≤n→bJ m≤bJ n
 |m,0,h=>by
  have:m=0:=by show ai [[1],[1,1]] [_] [] [.le .x .o] (.eq .x .o) ah h
  subst this;show Int.le_refl _
 |m,n+1,h=>by
  show Or.elim (Nat.lt_or_ge m (n+1)) (fun I=>?_) fun I=>?_;·have:=ro (m:=m) (n:=n) (by show ai [[1,1]] [_,_] [] [.lt .x (.a .y .l)] (.le .x .y) ah I);have O:=xm n;rw[hX];show ai [[1,127,1]] [] [_,_] [.ax .x .y,.au .o .y] (.ax .x (.e 128 .y)) ah this O
  ·have:m=n+1:=by show ai [[1,1],[1,0,1]] [_,_] [] [.le .x (.a .y .l),.le (.a .y .l) .x] (.eq .x (.a .y .l)) ah h I
   clear h I;subst this;show Int.le_refl _
theorem HD{c:Prop}[Decidable c]{x n:Nat}(this:x≤n):(if c then 1 else x+1)≤n+1:=by
 split;·show Nat.le_add_left 1 n
 ·show Nat.succ_le_succ this
theorem Cg:∀(f:Nat)(v:Int),dN f v≤f+1:=by
 intro ca;induction ca with
 |zero=>intro _;simp[w6]
 |succ f ap=>intro v;have:=ap (v/128);show HD (this:=this)
theorem t6(ce:Int)(Y:ce=32){v:Int}(x:Nat)(p:Int)(L:List Int)(am:0≤v)(I:v<2^32):(et ce).exec p (ct v x++L)=.ok v (p+(ct v x).length) L:=by subst Y;unfold ct;rw[mb];have V:=Ci 4 v;have m0:=HE 4 v (jW I (by decide));show VB 32 (by decide) p L (Nat.le_min.mpr ⟨by decide,c6 V (Nat.le_add_right _ _)⟩) am ?_ (Int.lt_of_le_of_lt (b:=28) (by show ai [[1,7]] [_] [] [.le .x (.n 5)] (.ax (.e 7 (.s (.c .x) .l)) (.k 28)) ah (Nat.min_le_left 5 _)) (by decide)) I;have O:=Cg 4 v;show jW m0 (ro (Nat.le_min.mpr ⟨O,Nat.le_add_right _ _⟩))
theorem tD:∀(f n:Nat)(v:Int),-64*bJ n≤v→v<64*bJ n→cW f v≤n+1:=by
 intro ca;induction ca with
 |zero=>intro n v sK Ev;simp[w4]
 |succ f ap=>
  intro Da v am I;cases Da with
  |zero=>have am:-64≤v:=am;have I:v<64:=I;simp only[w4,w5];rw[aF ⟨am,I⟩];show ai [[1]] [] [] [] (.le .l (.a .o .l)) ah
  |succ n=>rw[hX]at am I;have:=ap n (v/128) (by show uV am (cI _ 128 rfl)) (by show uW I (cI _ 128 rfl));show HD (this:=this)
theorem C3{ce:Nat}(Y:ce=32∨ce=33∨ce=64){v:Int}(x:Nat)(p:Int)(L:List Int)(am:-(2^(ce-1))≤v)(I:v<2^(ce-1)):(f9 ce).exec p (eX ce v x++L)=.ok v (p+(eX ce v x).length) L:=by
 unfold eX;rw[mb];have V:=tE 9 v;have Tm:∃m,(ce+6)/7=m+1∧-64*bJ m≤v∧v<64*bJ m:=by
  clear V;rcases Y with rfl|rfl|rfl
  ·show iv 4 rfl (g9 (by decide) am) (jW I (by decide))
  ·show iv 4 rfl (g9 (by decide) am) (jW I (by decide))
  ·show iv 9 rfl (g9 (by decide) am) (jW I (by decide))
 show aX fun _ done=>?_;obtain⟨m,ac,O,bn⟩:=Tm;have vQ:v<64*bJ 9∧-64*bJ 9≤v:=by clear ac;rcases Y with rfl|rfl|rfl<;>show⟨jW I (by decide),g9 (by decide) am⟩
 have m0:=Cf 9 v vQ.2 vQ.1;have TT:=tD 9 m v O bn;show done ?_;rw[ac];have GR:=ro (m:=cW 9 v-1) (n:=min (m+1) (cW 9 v+x)-1) (Nat.sub_le_sub_right (Nat.le_min.mpr ⟨TT,Nat.le_add_right _ _⟩) 1);show VA ce (by show ai [[1,1],[1,1],[1,1]] [_] [] [.or (.eq .x (.n 32)) (.or (.eq .x (.n 33)) (.eq .x (.n 64)))] (.ax (.c .x) (.k 64)) ah Y) p L (Nat.le_min.mpr ⟨Nat.le_add_left 1 m,c6 V (Nat.le_add_right _ _)⟩) (by show ai [[1,64,1]] [] [_,_,_] [.aA (.ax (.i 63 .aa) .y) (.au .y (.e 64 .aa)),.ax .aa .x] (.ax (.i 63 .x) .y) ah m0 GR) (by show ai [[1,64,0,1]] [] [_,_,_] [.aA (.ax (.i 63 .aa) .x) (.au .x (.e 64 .aa)),.ax .aa .y] (.au .x (.e 64 .y)) ah m0 GR) (by show ai [[1,0,7,1,0,7]] [_,_,_,_,_] [] [.le .x (.a .y .l),.eq (.a (.m 7 .aa) .w) (.a .u (.n 6)),.eq .aa (.a .y .l)] (.au (.e 7 (.s (.c .x) .l)) (.c .u)) ah (Nat.min_le_left (m+1) (cW 9 v+x)) (Nat.div_add_mod (ce+6) 7) ac) ?_ ?_;·rw[show((ce:Int)-1).toNat=ce-1 from Int.toNat_sub ce 1];show am
 ·rw[show((ce:Int)-1).toNat=ce-1 from Int.toNat_sub ce 1];show I
end
section
set_option genCtorIdx true in
inductive Lt where
 |u|a|i|l|b|r|k|t|aa
 deriving DecidableEq
noncomputable def Lt.s:Lt→Str
 |.u=>"u"|.a=>"a"|.i=>"i"|.l=>"l"|.b=>"b"|.r=>"r"|.k=>"k"|.t=>"t"|.aa=>"z"
noncomputable def gS:List Int:=[-1,-2,-16,-17]
noncomputable def frees(x:Nat):List Int→List Int
 |[]=>[]
 |v::vs=>ct v x++frees x vs
theorem vN{x:Nat}:frees x []=[]:=rfl
theorem qG{x:Nat}{v:Int}{vs:List Int}:frees x (v::vs)=ct v x++frees x vs:=rfl
noncomputable def cU(c:Lt)(ns:List Int)(x:Nat):List Int:=match c with
 |.aa=>[0]
 |.i=>eX 32 (ns.headD 0) x
 |.l=>eX 64 (ns.headD 0) x
 |.b=>if 0≤ns.headD 0 then eX 33 (ns.headD 0) x else[128+ns.headD 0]
 |.r=>[128+ns.headD 0]
 |.k=>ct ns.length x++ns.map (128+·)
 |.t=>ct (ns.length-1) x++frees x ns
 |.u=>frees x ns
 |.a=>frees x ns
def gC(v:Int):Prop:=0≤v∧v<2^32
def d4(c:Lt)(ns:List Int):Prop:=match c with
 |.u=>∃v,ns=[v]∧gC v
 |.a=>∃v,ns=[v]∧0≤v∧v<32
 |.i=>∃v,ns=[v]∧-(2^31)≤v∧v<2^31
 |.l=>∃v,ns=[v]∧-(2^63)≤v∧v<2^63
 |.r=>∃v,ns=[v]∧(v=-16∨v=-17)
 |.b=>∃v,ns=[v]∧(v=-64∨v∈gS∨gC v)
 |.k=>ns.length≤2∧∀v∈ns,v∈gS
 |.t=>1≤ns.length∧ns.length≤3∧∀v∈ns,gC v
 |.aa=>ns=[]
theorem d4.len{c:Lt}{bf:List Int}(h:d4 c bf):bf.length≤3:=by
 cases c<;>first
  |(obtain⟨v,rfl,_⟩:=h;show jT rfl)
  |show Nat.le_succ_of_le h.1
  |show h.2.1
  |show(show bf=[]from h)▸e0 3
abbrev eK:=List (Lt×List Int)
noncomputable def d2:eK→List Int
 |[]=>[]
 |(_,ns)::aZ=>ns++d2 aZ
theorem kl:d2 []=[]:=rfl
theorem ix{c:Lt}{ns:List Int}{aZ:eK}:d2 ((c,ns)::aZ)=ns++d2 aZ:=rfl
noncomputable def dD(x:Nat):eK→List Int
 |[]=>[]
 |(c,ns)::aZ=>cU c ns x++dD x aZ
theorem I5{x:Nat}:dD x []=[]:=rfl
theorem n4{x:Nat}{c:Lt}{ns:List Int}{aZ:eK}:dD x ((c,ns)::aZ)=cU c ns x++dD x aZ:=rfl
noncomputable def HH(f:Str):List Lt:=if f=="none"then[]else if nY.any (·==f)then[.u]else if f=="block"then[.b]else if f=="i32"then[.i]else if f=="i64"then[.l]else if f=="memarg"then[.a,.u]else if f=="refkind"then[.r]else if f=="labels"then[.t]else if f=="kinds"then[.k]else if n'.any (·==f)then[.u,.u]else if f=="memory_init"then[.u,.aa]else if f=="two_memories"then[.aa,.aa]else if f=="memory"then[.aa]else[.aa,.aa,.aa]
noncomputable def d0(k:Int)(x:Nat):List Int:=if k<64512 then[k]else 252::ct (k-64512) x
theorem IS{v:Int}(h:v∈gS)(w:Str)(p:Int)(L:List Int):(lN w).exec p ((128+v)::L)=.ok v (p+1) L:=by simp only[gS,ep,List.mem_nil_iff,or_false]at h;rcases h with rfl|rfl|rfl|rfl<;>rfl
theorem VF{v:Int}(h:v=-16∨v=-17)(p:Int)(L:List Int):xv.exec p ((128+v)::L)=.ok v (p+1) L:=by rcases h with rfl|rfl<;>rfl
theorem U7{v:Int}(x:Nat)(L:List Int)(am:0≤v)(I:v<2^32):∃o r,eX 33 v x++L=o::r∧o≠64∧Builtin.bitAnd o 192≠64:=by
 have e':=tE 9 v;have m0:=Cf 9 v (by have:bJ 9=9223372036854775808:=(by decide);show ai [[1,0,64,1]] [] [_,_] [.ax .o .y,.a8 .x .D] (.ax (.i 63 .x) .y) ah am this) (by have:bJ 9=9223372036854775808:=(by decide);show ai [[1,0,64,1]] [] [_,_] [.au .x .A,.a8 .y .D] (.au .x (.e 64 .y)) ah I this);unfold eX;obtain⟨m,ac⟩:∃m,min ((33+6)/7) (cW 9 v+x)=m+1:=⟨_,(Nat.succ_pred_eq_of_pos (Nat.lt_min.mpr ⟨by decide,jV e' (Nat.le_add_right _ _)⟩)).symm⟩;rw[ac];cases m with
 |zero=>have V:cW 9 v=1:=Nat.le_antisymm (c6 (Nat.le_add_right _ x) (Nat.le_of_not_lt fun h=>absurd (c6 (Nat.le_min.mpr ⟨(by decide:2≤(33+6)/7),h⟩) (Nat.le_of_eq ac)) (by decide))) e';rw[V]at m0;have bn:v<64:=m0.2;have e:v%128=v:=Int.emod_eq_of_lt am (Int.lt_trans bn (by decide));show nS (v%128) L rfl (e.symm▸Int.ne_of_lt bn) ?_;rw[EI (by show yk (cI _ 128 rfl)) (by show ai [[1,0,0,0,1]] [] [_,_,_] [.d 128 .y .x .aa] (.au .x .F) ah (cI _ 128 rfl)),e,Int.ediv_eq_zero_of_lt am bn];decide
 |succ m=>show nS (v%128+128) _ rfl (by show ai [[1,0,0,0,1]] [] [_,_,_] [.d 128 .y .x .aa] (.aK (.a8 (.a .x .G) (.k 64))) ah (cI _ 128 rfl)) ?_;rw[EI (by show ai [[1,0,0,1]] [] [_,_,_] [.d 128 .y .x .aa] (.ax .o (.a .x .G)) ah (cI _ 128 rfl)) (by show ai [[1,0,0,0,1]] [] [_,_,_] [.d 128 .y .x .aa] (.au (.a .x .G) .F) ah (cI _ 128 rfl))];show ai [[1,0,0,1,0,1,0,0,1]] [] [_,_,_,_,_] [.d 128 .y .aa .w,.d 64 .x .u (.a .aa .G)] (.aK (.a8 (.e 64 .x) (.k 64))) ah (cI _ 128 rfl) (cI _ 64 rfl)
theorem VC{ns:List Int}(h:d4 .b ns)(x:Nat)(p:Int)(L:List Int):∃v,ns=[v]∧qo.exec p (cU .b ns x++L)=.ok v (p+(cU .b ns x).length) L:=by
 obtain⟨v,rfl,h⟩:=h;show b' v rfl ?_;by_cases am:0≤v
 ·have al:gC v:=by
   rcases h with rfl|h|h
   ·show absurd am (by decide)
   ·show absurd am ((by decide:∀v∈gS,¬0≤v) v h)
   ·show h
  have e:cU .b [v] x=eX 33 v x:=aF am;rw[e];show aX fun _ done=>?_;show dR (U7 x L al.1 al.2) fun o r ci vQ PV=>?_;have key:(f9 33).exec p (eX 33 v x++L)=.ok v (p+(eX 33 v x).length) L:=C3 (ce:=33) (by decide) (v:=v) x p L (g9 (by decide) am) al.2;show done ?_;rw[ci]at key⊢;dsimp only[qo,dr,dm,dp,dn,dq,dk];rw[aM vQ,aM PV,vv wL _ o r trivial];unfold wL;simp only[dr,dm,dp,dn,dq,dk];rw[eB,key];simp only[c_.bind];rw[aM (by show yi am)];rfl
 ·have e:cU .b [v] x=[128+v]:=aM am;rw[e];rcases h with rfl|h|h
  ·rfl
  ·have:=IS h "malformed block type" p L;dsimp only[qo,dr,dm,dp,dn,dq,dk,List.cons_append,List.nil_append];have cd:=(by decide:∀v∈gS,128+v≠64) v h;have ex:=(by decide+kernel:∀v∈gS,Builtin.bitAnd (128+v) 192=64) v h;rw[aM cd,aF ex,vv (lN "malformed block type") _ _ L trivial,this];rfl
  ·show absurd h.1 am
theorem VG{α:Type}{t:bI α}{j':α→List Int}:∀(xs:List α)(p:Int)(L:List Int),(∀x∈xs,∀(p:Int)(L:List Int),t.exec p (j' x++L)=.ok x (p+(j' x).length) L)→(pN t xs.length).exec p ((xs.map j').flatten++L)=.ok xs (p+((xs.map j').flatten).length) L:=by
 intro ca;induction ca with
 |nil=>intro p L _;simp[VX,C6,dr,dm,dp,dn,dq,dk]
 |cons x xs ap=>intro p L h;rw[hF,C6,eB,List.map_cons,List.flatten_cons,dX,h x dF];simp only[c_.bind];rw[eB,ap _ L fun y f1=>h y (dE _ f1)];simp only[c_.bind,dr,dm,dp,dn,dq,dk];congr 1;rw[cA];show yl
theorem FT(x:Nat):∀vs:List Int,frees x vs=(vs.map fun v=>ct v x).flatten:=by
 intro ca;induction ca with
 |nil=>show rfl
 |cons v vs ap=>rw[qG,ap];rfl
theorem IT{α:Type}{t:bI α}{j':α→List Int}(xs:List α)(x:Nat)(p:Int)(L:List Int)(ad:xs.length<900)(h:∀x∈xs,∀(p:Int)(L:List Int),t.exec p (j' x++L)=.ok x (p+(j' x).length) L):(nR t).exec p ((ct xs.length x++(xs.map j').flatten)++L)=.ok xs (p+(ct xs.length x++(xs.map j').flatten).length) L:=by unfold nR;rw[eB,dX,t6 32 rfl x p _ (by show lW) (by show ai [[1,1]] [_] [] [.lt .x .T] (.au (.c .x) .A) ah ad)];simp only[c_.bind];rw[aF (by show ai [[1],[1,1]] [_] [] [.lt .x .T] (.aA (.ax .o (.c .x)) (.au (.c .x) (.k 900))) ah ad),Int.toNat_natCast,VG xs _ L h,cA];congr 1;show yl
theorem VD{ns:List Int}(h:d4 .k ns)(x:Nat)(p:Int)(L:List Int):B2.exec p (cU .k ns x++L)=.ok ns (p+(cU .k ns x).length) L:=by
 have e:ns.map (128+·)=(ns.map fun v=>[128+v]).flatten:=by
  clear h;induction ns with
  |nil=>rfl
  |cons v ns ap=>simp only[List.map_cons,List.flatten_cons,List.cons_append,List.nil_append,←ap]
 have:=IT (t:=lN "malformed value type") (j':=fun v=>[128+v]) ns x p L (by have:=h.1;show ym this) fun v al p L=>IS (h.2 v al) _ p L;rw[←e]at this;show this
theorem VH{ns:List Int}(h:d4 .t ns)(x:Nat)(p:Int)(L:List Int):w2.exec p (cU .t ns x++L)=.ok ns (p+(cU .t ns x).length) L:=by
 have I:=h.1;have O:=h.2.1;have bn:=h.2.2;obtain⟨r,v,rfl⟩:∃r v,ns=r++[v]:=by
  have li:ns≠[]:=by rintro rfl;simp at I
  show pE ns.dropLast (ns.getLast li) ((List.dropLast_concat_getLast li).symm)
 have V:(((r++[v]).length:Nat):Int)-1=(r.length:Nat):=by simp
 have e:cU .t (r++[v]) x++L=(ct r.length x++(r.map fun v=>ct v x).flatten)++(ct v x++L):=by show(?_:ct (((r++[v]).length:Nat)-1) x++frees x (r++[v])++L=_);rw[V,FT];simp
 have nq:(cU .t (r++[v]) x).length=(ct r.length x++(r.map fun v=>ct v x).flatten).length+(ct v x).length:=by show(?_:(ct (((r++[v]).length:Nat)-1) x++frees x (r++[v])).length=_);rw[V,FT];simp;show ai [[1],[1]] [_,_,_] [] [] (.eq (.a .x (.a .y .aa)) (.a (.a .x .y) .aa)) ah
 rw[e,nq];unfold w2;rw[eB,IT (t:=et 32) (j':=fun v=>ct v x) r x p _ (by show ai [[1,0,1,1]] [_,_] [] [.le .y .c,.a8 (.s (.c .y) .l) (.c .x)] (.lt .x .T) ah O V) fun v al p L=>t6 32 rfl x p L (bn v (List.mem_append_left _ al)).1 (bn v (List.mem_append_left _ al)).2];simp only[c_.bind];have al:=bn v (by simp);rw[eB,t6 32 rfl x _ L al.1 al.2];simp only[c_.bind,dr,dm,dp,dn,dq,dk];congr 1;show yl
theorem rv{v:Int}(h:gC v)(x:Nat)(p:Int)(L:List Int):(et 32).exec p (ct v x++L)=.ok v (p+(ct v x).length) L:=t6 32 rfl x p L h.1 h.2
theorem jo{f s:Str}(h:(f==s)=true):f=s:=dw.mp h
inductive fp:Str→eK→Prop
 |none:fp "none" []
 |de {f v} (h:f∈nY) (al:gC v):fp f [(.u,[v])]
 |yV {ns} (h:d4 .b ns):fp "block" [(.b,ns)]
 |BL {v} (h:-(2^31)≤v∧v<2^31):fp "i32" [(.i,[v])]
 |BM {v} (h:-(2^63)≤v∧v<2^63):fp "i64" [(.l,[v])]
 |mem {v w} (al:0≤v∧v<32) (f0:gC w):fp "memarg" [(.a,[v]),(.u,[w])]
 |ref {v} (h:v=-16∨v=-17):fp "refkind" [(.r,[v])]
 |B6 {ns} (h:d4 .t ns):fp "labels" [(.t,ns)]
 |B1 {ns} (h:d4 .k ns):fp "kinds" [(.k,ns)]
 |rK {f v w} (h:f∈n') (al:gC v) (f0:gC w):fp f [(.u,[v]),(.u,[w])]
 |BO {v} (al:gC v):fp "memory_init" [(.u,[v]),(.aa,[])]
 |tI:fp "two_memories" [(.aa,[]),(.aa,[])]
 |m:fp "memory" [(.aa,[])]
theorem i4{c:Bool}{x y aa:List Lt}{G:Prop}(h:(if c then x else y)=aa)(k1:c=true→x=aa→G)(k2:y=aa→G):G:=match c,h,k1 with
 |true,h,k=>k rfl h
 |false,h,_=>k2 h
theorem nX{c:Lt}{f:Str}{aZ:eK}(h:[c]=aZ.map (·.1))(ev:∀q∈aZ,d4 q.1 q.2)(k:∀ns,d4 c ns→fp f [(c,ns)]):fp f aZ:=by
 cases aZ with
 |nil=>show nomatch h
 |cons q r=>show c4 (List.cons.inj h) fun e O=>?_;subst e;rw[List.map_eq_nil_iff.mp O.symm];show k q.2 (ev _ dF)
theorem xl{c d:Lt}{f:Str}{aZ:eK}(h:[c,d]=aZ.map (·.1))(ev:∀q∈aZ,d4 q.1 q.2)(k:∀ns fG,d4 c ns→d4 d fG→fp f [(c,ns),(d,fG)]):fp f aZ:=by
 cases aZ with
 |nil=>show nomatch h
 |cons q r=>
  show c4 (List.cons.inj h) fun e O=>?_;subst e;cases r with
  |nil=>show nomatch O
  |cons rt r=>show c4 (List.cons.inj O) fun e bn=>?_;subst e;rw[List.map_eq_nil_iff.mp bn.symm];show k q.2 rt.2 (ev _ dF) (ev _ (dE _ dF))
theorem El{l:List Str}{f:Str}(h:l.any (·==f)=true):f∈l:=(List.any_eq_true.mp h).elim fun _ h=>jo h.2▸h.1
theorem FI{f:Str}{aZ:eK}(V:HH f=aZ.map (·.1))(bn:aZ.length≤2)(ev:∀q∈aZ,d4 q.1 q.2):fp f aZ:=by
 show i4 V (fun c h=>?_) fun V=>?_;·rw[jo c,List.map_eq_nil_iff.mp h.symm];show .none
 show i4 V (fun c h=>nX h ev fun ns bi=>bi.elim fun v al=>al.1▸.de (El c) al.2) fun V=>?_;show i4 V (fun c h=>jo c▸nX h ev fun ns bi=>.yV bi) fun V=>?_;show i4 V (fun c h=>jo c▸nX h ev fun ns bi=>bi.elim fun v al=>al.1▸.BL al.2) fun V=>?_;show i4 V (fun c h=>jo c▸nX h ev fun ns bi=>bi.elim fun v al=>al.1▸.BM al.2) fun V=>?_;show i4 V (fun c h=>jo c▸xl h ev fun ns fG bi ac=>bi.elim fun v al=>ac.elim fun w f0=>al.1▸f0.1▸.mem al.2 f0.2) fun V=>?_;show i4 V (fun c h=>jo c▸nX h ev fun ns bi=>bi.elim fun v al=>al.1▸.ref al.2) fun V=>?_;show i4 V (fun c h=>jo c▸nX h ev fun ns bi=>.B6 bi) fun V=>?_;show i4 V (fun c h=>jo c▸nX h ev fun ns bi=>.B1 bi) fun V=>?_;show i4 V (fun c h=>xl h ev fun ns fG bi ac=>bi.elim fun v al=>ac.elim fun w f0=>al.1▸f0.1▸.rK (El c) al.2 f0.2) fun V=>?_;show i4 V (fun c h=>jo c▸xl h ev fun ns fG bi ac=>bi.elim fun v al=>al.1▸(show fG=[]from ac)▸.BO al.2) fun V=>?_;show i4 V (fun c h=>jo c▸xl h ev fun ns fG bi ac=>(show ns=[]from bi)▸(show fG=[]from ac)▸.tI) fun V=>?_;show i4 V (fun c h=>jo c▸nX h ev fun ns bi=>(show ns=[]from bi)▸.m) fun V=>?_;have lc:=congrArg List.length V;rw[bD]at lc;show absurd (lc▸bn) (by decide)
theorem q8{f:Str}{α:Type}{t:bI α}{a:α}{p q:Int}{R L:List Int}(w:α→List Int)(e:sE f=t.bind fun i=>.ret (some (w i)))(h:t.exec p R=.ok a q L):(jE f).exec p R=.ok (w a) q L:=by rw[jE,eB,e,eB,h];rfl
theorem C7{x:Nat}{c:Lt}{ns:List Int}:dD x [(c,ns)]=cU c ns x:=eo _
theorem ps{f:Str}{c:Lt}{ns:List Int}{x:Nat}{p:Int}{L:List Int}(h:(jE f).exec p (cU c ns x++L)=.ok ns (p+(cU c ns x).length) L):(jE f).exec p (dD x [(c,ns)]++L)=.ok (d2 [(c,ns)]) (p+(dD x [(c,ns)]).length) L:=by rw[C7,h];show congrArg (c_.ok · _ L) (eo ns).symm
theorem N6:∀f∈nY,sE f=(et 32).bind fun i=>.ret (some [i]):=jU.2 ⟨rfl,jU.2 ⟨rfl,jU.2 ⟨rfl,jU.2 ⟨rfl,jU.2 ⟨rfl,jU.2 ⟨rfl,jU.2 ⟨rfl,nofun⟩⟩⟩⟩⟩⟩⟩
theorem Sf:∀f∈n',jE f=(et 32).bind fun a=>(et 32).bind fun b=>.ret [a,b]:=jU.2 ⟨rfl,jU.2 ⟨rfl,jU.2 ⟨rfl,nofun⟩⟩⟩
theorem qH{x:Nat}{v:Int}:frees x [v]=ct v x:=eo _
theorem VE{v w:Int}(al:0≤v∧v<32)(f0:gC w)(x:Nat)(p:Int)(L:List Int):xa.exec p (ct v x++(ct w x++L))=.ok [v,w] (p+(ct v x).length+(ct w x).length) L:=by show(eB _ (et 32) p _).trans ?_;rw[rv ⟨al.1,by show yn al⟩];show(congrArg (fun t=>bI.exec t _ _) (aM (by show ai [[1,0,1]] [] [_] [.aA (.ax .o .x) (.au .x (.k 32))] (.aK (.au (.k 31) .x)) ah al))).trans ?_;show(eB _ (et 32) _ _).trans ?_;rw[rv f0];rfl
theorem C2{x:Nat}{c d:Lt}{ns fG:List Int}{L:List Int}:dD x [(c,ns),(d,fG)]++L=cU c ns x++(cU d fG x++L):=by rw[n4,C7,dX]
theorem C1{x:Nat}{c d:Lt}{ns fG:List Int}{p:Int}:p+(dD x [(c,ns),(d,fG)]).length=p+(cU c ns x).length+(cU d fG x).length:=by rw[n4,C7,cA];show ai [[1],[1]] [_,_] [_] [] (.a8 (.a .x (.c (.a .x .y))) (.a (.a .x (.c .x)) (.c .y))) ah
theorem Se{f:Str}{aZ:eK}(h:fp f aZ)(x:Nat)(p:Int)(L:List Int):(jE f).exec p (dD x aZ++L)=.ok (d2 aZ) (p+(dD x aZ).length) L:=by
 cases h with
 |none=>show congrArg (c_.ok [] · L) (Int.add_zero p).symm
 |de h al=>show ps (q8 ([·]) (N6 _ h) ?_);rw[cU,qH];show rv al x p L
 |yV h=>show aW (VC h x p L) fun v cl ad=>?_;subst cl;show ps (q8 ([·]) rfl ad)
 |BL h=>show ps (q8 (t:=f9 32) ([·]) rfl (C3 (ce:=32) (by decide) x p L h.1 h.2))
 |BM h=>show ps (q8 (t:=f9 64) ([·]) rfl (C3 (ce:=64) (by decide) x p L h.1 h.2))
 |mem al f0=>rw[C2,C1];show q8 (t:=xa) id rfl ?_;rw[cU,cU,qH,qH];show VE al f0 x p L
 |ref h=>show ps (q8 (t:=xv) ([·]) rfl (VF h p L))
 |B6 h=>show ps (VH h x p L)
 |B1 h=>show ps (VD h x p L)
 |rK h al f0=>rw[C2,C1,Sf _ h,cU,cU,qH,qH,eB,rv al];show(eB _ _ _ _).trans ?_;rw[rv f0];rfl
 |BO al=>rw[C2,C1,cU,cU,qH];show(eB _ (et 32) _ _).trans ?_;rw[rv al];rfl
 |tI=>show(?_:c_.ok [] (p+1+1) L=.ok [] (p+2) L);rw[Int.add_assoc];rfl
 |m=>rfl
end
section
noncomputable def gq:List (Int×Int×List Lt):=[(65,65,[.i]),(2,4,[.b]),(66,66,[.l]),(14,14,[.t]),(40,41,[.a,.u]),(64520,64520,[.u,.aa]),(28,28,[.k]),(208,208,[.r]),(12,13,[.u]),(16,16,[.u]),(17,17,[.u,.u]),(18,18,[.u]),(19,19,[.u,.u]),(0,1,[]),(15,15,[]),(26,27,[]),(32,38,[.u]),(44,55,[.a,.u]),(58,62,[.a,.u]),(63,64,[.aa]),(69,90,[]),(103,138,[]),(167,167,[]),(172,173,[]),(192,196,[]),(209,209,[]),(210,210,[.u]),(64521,64521,[.u]),(64522,64522,[.aa,.aa]),(64523,64523,[.aa]),(64524,64524,[.u,.u]),(64525,64525,[.u]),(64526,64526,[.u,.u]),(64527,64529,[.u])]
noncomputable def mO(k:Int)(ea:List Lt):Bool:=(match dM k with|some f=>decide (HH f=ea)|none=>false)&&!i7 k&&decide (k≠11)&&decide (k≠5)&&(decide (0≤k∧k<252)||decide (64512≤k∧k≤64529))
theorem V2:(gq.all fun r=>(List.range (r.2.1-r.1+1).toNat).all fun(i:Nat)=>mO (r.1+i) r.2.2)=true:=by decide+kernel
theorem xA{r:Int×Int×List Lt}(ar:r∈gq){k:Int}(I:r.1≤k)(O:k≤r.2.1):mO k r.2.2=true:=by have:=jd.mp (jd.mp V2 r ar) (k-r.1).toNat (by rw[List.mem_range];show ai [[1,0,0,1,0,1,0,1],[1,0,0,1,0,1,0,1,1],[0,1,0,0,1,0,0,1],[0,1,0,0,0,0,0,1,1]] [_,_] [_,_,_] [.ax .x .y,.ax .y .aa,.cz .x (.s .y .x),.cz .y (.a (.s .aa .x) .l)] (.lt .x .y) ah I O (cS _) (cS _));rw[show r.1+((k-r.1).toNat:Int)=k by show ai [[1,0,0,1],[1,1],[1,0,1],[1,0,1,0,1]] [_] [_,_] [.ax .x .y,.cz .x (.s .y .x)] (.a8 (.a .x (.c .x)) .y) ah I (cS _)]at this;show this
theorem xB:∀r∈gq,r.2.2.length≤2:=by decide
theorem sl{k:Int}(am:k<64512∧k≠252)(x:Nat)(p:Int)(L:List Int):jl.exec p (d0 k x++L)=(if i7 k then bI.cT dy "an instruction that is left out" p else if(dM k).isNone then .cT bE "illegal opcode" p else .ret k).exec (p+(d0 k x).length) L:=by have e:d0 k x=[k]:=aF (by show ai [[1,1],[1,1]] [] [_] [.aA (.au .x .K) (.aK (.a8 .x (.k 252)))] (.au .x .K) ah am);rw[e];dsimp only[jl,dr,dm,dp,dn,dq,dk,List.cons_append,List.nil_append];rw[aM (by show ai [[0,1,0,1],[1,0,0,1]] [] [_] [.aA (.au .x .K) (.aK (.a8 .x (.k 252)))] (.aK (.a8 .x (.k 252))) ah am)];rfl
theorem y6{k:Int}(am:64512≤k∧k<64512+2^32)(x:Nat)(p:Int)(L:List Int):jl.exec p (d0 k x++L)=if 64529<k then c_.di bE "illegal opcode" p else(if i7 k then bI.cT dy "an instruction that is left out" p else if(dM k).isNone then .cT bE "illegal opcode" p else .ret k).exec (p+(d0 k x).length) L:=by
 have e:d0 k x=252::ct (k-64512) x:=aM (by show ai [[1,1]] [] [_] [.aA (.ax .K .x) (.au .x (.a .K .A))] (.aK (.au .x .K)) ah am);rw[e];simp only[jl,dr,dm,dp,dn,dq,dk,List.cons_append];rw[aF trivial,eB,eB,t6 32 rfl x _ L (by show ai [[1,1]] [] [_] [.aA (.ax .K .x) (.au .x (.a .K .A))] (.ax .o (.s .x .K)) ah am) (by show ai [[1,0,1]] [] [_] [.aA (.ax .K .x) (.au .x (.a .K .A))] (.au (.s .x .K) .A) ah am)];dsimp only[c_.bind];by_cases h:64529<k;·rw[aF h,aF (by show ai [[1,1]] [] [_] [.au .N .x] (.au (.k 17) (.s .x .K)) ah h)];rfl
 ·rw[aM h,aM (show¬17<k-64512 by show ai [[1,1]] [] [_] [.aK (.au .N .x)] (.aK (.au (.k 17) (.s .x .K))) ah h)];simp only[dr,dm,dp,dn,dq,dk];have cd:64512+(k-64512)=k:=by show ai [[1],[1]] [] [_] [] (.a8 (.a .K (.s .x .K)) .x) ah
  rw[cd];congr 1;show ai [[1],[1]] [_] [_] [] (.a8 (.a (.a .x .l) (.c .x)) (.a .x (.c (.a .x .l)))) ah
theorem y9{k:Int}{ea:List Lt}(h:mO k ea=true)(x:Nat)(p:Int)(L:List Int):jl.exec p (d0 k x++L)=.ok k (p+(d0 k x).length) L:=by
 simp only[mO,fM,Bool.not_eq_true',Bool.or_eq_true,gz]at h;show aX fun _ done=>?_;obtain⟨⟨⟨⟨ch,V⟩,_⟩,_⟩,ak⟩:=h;have e_:(dM k).isNone=false:=by
  cases e:dM k with
  |none=>rw[e]at ch;cases ch
  |some f=>rfl
 show done ?_;rcases ak with ak|ak
 ·rw[sl ⟨by show ai [[1,0,1]] [] [_] [.aA (.ax .o .x) (.au .x (.k 252))] (.au .x .K) ah ak,by show ai [[0,1,0,1]] [] [_] [.aA (.ax .o .x) (.au .x (.k 252))] (.aK (.a8 .x (.k 252))) ah ak⟩,V,e_];rfl
 ·rw[y6 ⟨ak.1,by show ai [[1,0,1]] [] [_] [.aA (.ax .K .x) (.ax .x .N)] (.au .x (.a .K .A)) ah ak⟩,V,e_,aM (by show ai [[1,0,1]] [] [_] [.aA (.ax .K .x) (.ax .x .N)] (.aK (.au .N .x)) ah ak)];rfl
theorem US:∀{aZ:eK},(∀q∈aZ,q.2.length≤3)→(d2 aZ).length≤3*aZ.length:=by
 intro ca;induction ca with
 |nil=>intro _;show cm 0
 |cons q aZ ap=>intro h;show(?_:(q.2++d2 aZ).length≤3*(aZ.length+1));rw[cA,Nat.mul_succ,Nat.add_comm];show Nat.add_le_add (ap fun r ar=>h r (dE _ ar)) (h q dF)
theorem Jx{r:Int×Int×List Lt}(ar:r∈gq){k:Int}(I:r.1≤k)(O:k≤r.2.1){aZ:eK}(V:r.2.2=aZ.map (·.1))(ev:∀q∈aZ,d4 q.1 q.2)(x:Nat):St.b8 ⟨k,d2 aZ,d0 k x,dD x aZ⟩:=by
 have pp:=xA ar I O;show⟨fun p L=>y9 pp x p L,.inr ?_⟩;simp only[mO,fM,gz]at pp;show aX fun _ done=>?_;obtain⟨⟨⟨⟨ch,_⟩,Tl⟩,nl⟩,_⟩:=pp;have bn:aZ.length≤2:=by have:=xB r ar;rw[V,bD]at this;show this
 show done ?_;cases e:dM k with
 |none=>rw[e]at ch;cases ch
 |some f=>rw[e]at ch;simp only[gz]at ch;show⟨Tl,nl,?_,f,rfl,fun p L=>Se (FI (ch.trans V) bn ev) x p L⟩;have bi:∀q∈aZ,q.2.length≤3:=fun q ne=>(ev q ne).len;show hE (US bi) (hE (Nat.mul_le_mul_left 3 bn) (by decide))
theorem IE{k:Int}(ak:k=11∨k=5):St.b8 ⟨k,[],[k],[]⟩:=by
 show⟨fun p L=>?_,.inl ⟨ak,rfl,rfl⟩⟩;have e:[k]=d0 k 0:=by rcases ak with rfl|rfl<;>rfl
 rw[e,sl (by show ai [[1,1],[1,1],[0,1,1],[0,1,1]] [] [_] [.or (.a8 .x (.k 11)) (.a8 .x (.k 5))] (.aA (.au .x .K) (.aK (.a8 .x (.k 252)))) ah ak)];have I:i7 k=false:=by rcases ak with rfl|rfl<;>decide
 have O:(dM k).isNone=false:=by rcases ak with rfl|rfl<;>decide+kernel
 rw[I,O];rfl
noncomputable def eW:List (Int×Int):=[(6,10),(20,25),(29,31),(39,39),(197,207),(211,251),(254,255),(42,43),(56,57),(67,68),(91,102),(139,166),(168,171),(174,191),(253,253),(64512,64519),(64530,4295031807)]
noncomputable def y3(a b:Int):Bool:=(kb.all fun p=>decide (p.1<a∨b<p.1))&&(rb.all fun p=>decide (p.1<a∨b<p.1))&&(rF.all fun p=>decide (p.1<a∨b<p.1))&&(pG.all fun r=>decide (r.2.1<a∨b<r.1))
noncomputable def Ce(a b:Int):Bool:=(a==253&&b==253)||ir.any fun r=>decide (r.1≤a∧b≤r.2)
noncomputable def Cd(a b:Int):Bool:=decide (253<a∨b<253)&&ir.all fun r=>decide (r.2<a∨b<r.1)
theorem UG:(eW.all fun r=>y3 r.1 r.2)=true:=by decide+kernel
theorem Cn{go:Type}{c:Int}:∀{l:List (Int×go)},(∀p∈l,p.1≠c)→l.lookup c=none:=by
 intro ca;induction ca with
 |nil=>intro _;show rfl
 |cons t1 l ap=>obtain⟨a,v⟩:=t1;intro h;rw[List.lookup_cons,g8.mpr fun e=>h _ dF e.symm];show ap fun p be=>h p (dE _ be)
theorem Pw{a b k:Int}(h:y3 a b=true)(I:a≤k)(O:k≤b):dM k=none:=by
 simp only[y3,fM,jd,gz]at h;obtain⟨⟨⟨ch,V⟩,a1⟩,bi⟩:=h;unfold dM;rw[Cn (l:=kb) fun p be e=>by have:=ch p be;show yo I O e this,Cn (l:=rb) fun p be e=>by have:=V p be;show yo I O e this,Cn (l:=rF) fun p be e=>by have:=a1 p be;show yo I O e this];have:rk k=false:=by unfold rk;rw[List.any_eq_false];intro r ar;have:=bi r ar;simp only[fM,gz];show ai [[0,1,1,0,1],[1,0,1,1]] [] [_,_,_,_,_] [.ax .w .y,.ax .y .u,.or (.au .aa .w) (.au .u .x)] (.aK (.aA (.ax .x .y) (.ax .y .aa))) ah I O this
 rw[this];rfl
theorem TA{a b k:Int}(h:Ce a b=true)(I:a≤k)(O:k≤b):i7 k=true:=by
 simp only[Ce,Bool.or_eq_true,fM,dw,List.any_eq_true,gz]at h;simp only[i7,Bool.or_eq_true,dw,List.any_eq_true,fM,gz];rcases h with h|⟨r,ar,h⟩
 ·show .inl (by show ai [[1,0,1,0,0,0,1],[1,0,0,1,0,1]] [] [_,_,_] [.ax .y .x,.ax .x .aa,.aA (.a8 .y (.k 253)) (.a8 .aa (.k 253))] (.a8 .x (.k 253)) ah I O h)
 ·show .inr ⟨r,ar,by show ai [[1,1,0,1]] [] [_,_,_,_,_] [.ax .aa .y,.aA (.ax .x .aa) (.ax .w .u)] (.ax .x .y) ah I h,by show ai [[1,0,1,1]] [] [_,_,_,_,_] [.ax .x .aa,.aA (.ax .w .u) (.ax .aa .y)] (.ax .x .y) ah O h⟩
theorem Tz{a b k:Int}(h:Cd a b=true)(I:a≤k)(O:k≤b):i7 k=false:=by simp only[Cd,fM,jd,gz]at h;simp only[i7,Bool.or_eq_false_iff,List.any_eq_false,fM,gz];show⟨g8.mpr fun e=>by show ai [[1,1,0,0,1],[1,0,1,1]] [] [_,_,_] [.ax .x .y,.ax .y .aa,.a8 .y (.k 253),.or (.au (.k 253) .x) (.au .aa (.k 253))] .f ah I O e h.1,fun r ar=>?_⟩;have:=h.2 r ar;show ai [[0,1,1,0,1],[1,0,1,1]] [] [_,_,_,_,_] [.ax .w .y,.ax .y .u,.or (.au .aa .w) (.au .u .x)] (.aK (.aA (.ax .x .y) (.ax .y .aa))) ah I O this
theorem Ii{af:Nat}{r:Int×Int}(ar:eW[af]?=some r){k:Int}(I:r.1≤k)(O:k≤r.2)(p:Int)(L:List Int):dM k=none∧jl.exec p (d0 k 0++L)=if 7≤af∧af≤15 then .di dy "an instruction that is left out" p else .di bE "illegal opcode" p:=by
 have ch:=Pw (jd.mp UG r (eZ ar)) I O;show⟨ch,?_⟩;have dl:=(c7.mp ar).1;by_cases sX:7≤af∧af≤15
 ·rw[aF sX];obtain⟨V,ak⟩:=(by decide:∀r∈(eW.drop 7).take 9,Ce r.1 r.2=true∧(0≤r.1∧r.2<252∨r.1=253∧r.2=253∨64512≤r.1∧r.2≤64529)) r (eZ (i:=af-7) ((List.getElem?_take_of_lt (Nat.lt_succ_of_le (Nat.sub_le_sub_right sX.2 7))).trans (List.getElem?_drop.trans ((Nat.add_sub_of_le sX.1).symm▸ar))));have ul:=TA V I O;rcases ak with ak|ak|ak
  ·rw[sl (by show ai [[1,0,1,1],[0,1,0,1,1]] [] [_,_,_] [.ax .x .y,.aA (.ax .o .aa) (.au .y (.k 252))] (.aA (.au .x .K) (.aK (.a8 .x (.k 252)))) ah O ak),ul];rfl
  ·rw[sl (by show ai [[1,0,0,1,0,1],[1,0,0,1,0,0,0,1]] [] [_,_,_] [.ax .y .x,.ax .x .aa,.aA (.a8 .y (.k 253)) (.a8 .aa (.k 253))] (.aA (.au .x .K) (.aK (.a8 .x (.k 252)))) ah I O ak),ul];rfl
  ·rw[y6 (by show ai [[1,1,0,0,1],[1,0,1,1]] [] [_,_,_] [.ax .y .x,.ax .x .aa,.aA (.ax .K .y) (.ax .aa .N)] (.aA (.ax .K .x) (.au .x (.a .K .A))) ah I O ak),ul,aM (by show ai [[1,0,1,1]] [] [_,_,_] [.ax .x .y,.aA (.ax .K .aa) (.ax .y .N)] (.aK (.au .N .x)) ah O ak)];rfl
 ·rw[aM sX];have ac:r∈eW.take 7++eW.drop 16:=(Nat.lt_or_ge af 7).elim (fun h=>List.mem_append_left _ (eZ ((List.getElem?_take_of_lt h).trans ar))) fun h=>List.mem_append_right _ (eZ (i:=af-16) (List.getElem?_drop.trans ((Nat.add_sub_of_le (Nat.lt_of_not_le fun aa=>sX ⟨h,aa⟩)).symm▸ar)));rcases(by decide:∀r∈eW.take 7++eW.drop 16,(Cd r.1 r.2=true∧(r.2<252∨r.1=254∧r.2=255))∨64529<r.1∧r.2<64512+2^32) r ac with⟨V,ak⟩|ak
  ·have ul:=Tz V I O;rw[sl (by show ai [[1,1,1],[1,0,0,1,0,1],[0,1,1,1],[1,0,0,1,0,0,0,1]] [] [_,_,_] [.ax .y .x,.ax .x .aa,.or (.au .aa (.k 252)) (.aA (.a8 .y (.k 254)) (.a8 .aa (.k 255)))] (.aA (.au .x .K) (.aK (.a8 .x (.k 252)))) ah I O ak),ul,ch];rfl
  ·rw[y6 (by show ai [[1,1,0,0,1],[1,0,1,1]] [] [_,_,_] [.ax .y .x,.ax .x .aa,.aA (.au .N .y) (.au .aa (.a .K .A))] (.aA (.ax .K .x) (.au .x (.a .K .A))) ah I O ak),aF (by show ai [[1,1,0,1]] [] [_,_,_] [.ax .y .x,.aA (.au .N .y) (.au .aa (.a .K .A))] (.au .N .x) ah I ak)]
end
section
noncomputable def fi:Str:="integer too large"
noncomputable def fj:Str:="integer representation too long"
noncomputable def gW:Str:="zero byte expected"
noncomputable def j5:List (List Int×Str×Nat):=[([5],"END opcode expected",0),([40,32,0],"malformed memop flags",1),([63,1],gW,1),([252,10,0,1],gW,3),([252,11,128],gW,2),([252,8,0,1],gW,3),([2,65],"malformed block type",1),([3,125],"floats are left out",1),([4,123],"vectors are left out",1),([2,255,127],fj,1),([2,128,128,128,128,16],fi,1),([208,127],"malformed reference type",1),([208,125],"malformed reference type",1),([28,1,124],"floats are left out",2),([28,2,127,110],"malformed value type",3),([28,1,240,127],fj,2),([32,128,128,128,128,16],fi,1),([16,255,255,255,255,128],fj,1),([65,128,128,128,128,8],fi,1),([65,255,255,255,255,255],fj,1),([66,128,128,128,128,128,128,128,128,128,1],fi,1),([66,255,255,255,255,255,255,255,255,255,255],fj,1),([14,1,0,128,128,128,128,16],fi,3),([252,14,0,128,128,128,128,128],fj,3),([252,128,128,128,128,16],fi,1)]
noncomputable def oD(af:Nat):Addr:=if af=7∨af=8∨af=13 then dy else bE
noncomputable def rq:Nat→Int→Int
 |0,p=>p
 |n+1,p=>rq n p+1
theorem Vg{p:Int}:rq 0 p=p:=rfl
theorem IF{n:Nat}{p:Int}:rq (n+1) p=rq n p+1:=rfl
theorem Vh:∀(n:Nat)(p:Int),rq n p=p+n:=by
 intro ca;induction ca with
 |zero=>intro p;simp[Vg,IF]
 |succ n ap=>intro p;rw[IF,ap p];show ai [[1],[1]] [_] [_] [] (.a8 (.a (.a .x (.c .x)) .l) (.a .x (.c (.a .x .l)))) ah
theorem L9(cr:Bool)(n:Nat)(cs:List Int)(body:List (List Int))(p:Int)(L:List Int)(h:cs≠[])(lc:cs.getLast?≠some 4):(ei cr (n+1) cs body).exec p ([5]++L)=.di bE "END opcode expected" p:=by simp only[oC];rw[aM h];simp only[dr,dm,dp,dn,dq,dk];rw[aF lc];rfl
theorem Me(cr:Bool)(n:Nat)(cs:List Int)(body:List (List Int))(p:Int)(A B L:List Int)(h:cs≠[]){k:Int}{f:Str}(Z:∀(p:Int)(L:List Int),jl.exec p (A++L)=.ok k (p+A.length) L)(Tl:k≠11)(nl:k≠5)(hd:¬(k∈[(64520:Int),64521]∧cr=false))(ch:dM k=some f){C:Addr}{w:Str}{a:Int}(an:(jE f).exec (p+A.length) (B++L)=.di C w a):(ei cr (n+1) cs body).exec p ((A++B)++L)=.di C w a:=by simp only[oC];rw[aM h];simp only[dr,dm,dp,dn,dq,dk];rw[eB,dX,Z];simp only[c_.bind];rw[aM Tl,aM nl,aM hd,ch];rw[eB,an];rfl
set_option genInjectivity false in
set_option genSizeOfSpec false in
set_option genSizeOf false in
structure uK where
 k:Int
 f:Str
 ea:List Lt
 o:List Int
 i:Nat
 C:Addr
 w:Str
 g:∀p L,(jE f).exec p (o++L)=.di C w (rq i p)
noncomputable def EL:List uK:=[⟨40,"memarg",[.a,.u],[32,0],0,bE,"malformed memop flags",fun _ _=>rfl⟩,⟨63,"memory",[.aa],[1],0,bE,gW,fun _ _=>rfl⟩,⟨64522,"two_memories",[.aa,.aa],[0,1],1,bE,gW,fun _ _=>rfl⟩,⟨64523,"memory",[.aa],[128],0,bE,gW,fun _ _=>rfl⟩,⟨64520,"memory_init",[.u,.aa],[0,1],1,bE,gW,fun _ _=>rfl⟩,⟨2,"block",[.b],[65],0,bE,"malformed block type",fun _ _=>rfl⟩,⟨3,"block",[.b],[125],0,dy,"floats are left out",fun _ _=>rfl⟩,⟨4,"block",[.b],[123],0,dy,"vectors are left out",fun _ _=>rfl⟩,⟨2,"block",[.b],[255,127],0,bE,fj,fun _ _=>rfl⟩,⟨2,"block",[.b],[128,128,128,128,16],0,bE,fi,fun _ _=>rfl⟩,⟨208,"refkind",[.r],[127],0,bE,"malformed reference type",fun _ _=>rfl⟩,⟨208,"refkind",[.r],[125],0,bE,"malformed reference type",fun _ _=>rfl⟩,⟨28,"kinds",[.k],[1,124],1,dy,"floats are left out",fun _ _=>rfl⟩,⟨28,"kinds",[.k],[2,127,110],2,bE,"malformed value type",fun _ _=>rfl⟩,⟨28,"kinds",[.k],[1,240,127],1,bE,fj,fun _ _=>rfl⟩,⟨32,"local",[.u],[128,128,128,128,16],0,bE,fi,fun _ _=>rfl⟩,⟨16,"func",[.u],[255,255,255,255,128],0,bE,fj,fun _ _=>rfl⟩,⟨65,"i32",[.i],[128,128,128,128,8],0,bE,fi,fun _ _=>rfl⟩,⟨65,"i32",[.i],[255,255,255,255,255],0,bE,fj,fun _ _=>rfl⟩,⟨66,"i64",[.l],[128,128,128,128,128,128,128,128,128,1],0,bE,fi,fun _ _=>rfl⟩,⟨66,"i64",[.l],[255,255,255,255,255,255,255,255,255,255],0,bE,fj,fun _ _=>rfl⟩,⟨14,"labels",[.t],[1,0,128,128,128,128,16],2,bE,fi,fun _ _=>rfl⟩,⟨64526,"table_copy",[.u,.u],[0,128,128,128,128,128],1,bE,fj,fun _ _=>rfl⟩]
noncomputable def uK.ok(b:uK)(m:Nat):Bool:=mO b.k b.ea&&decide (b.k≠11)&&decide (b.k≠5)&&decide (dM b.k=some b.f)&&(decide (m=4)||decide (b.k∉[(64520:Int),64521]))&&decide (j5[m+1]?=some (d0 b.k 0++b.o,b.w,(d0 b.k 0).length+b.i))&&decide (oD (m+1)=b.C)
noncomputable def EK(m:Nat):Bool:=match EL[m]? with
 |some b=>b.ok m
 |none=>false
theorem L1:(List.range 23).all EK=true:=by decide+kernel
theorem Ma(cr:Bool)(n:Nat)(cs:List Int)(body:List (List Int))(p:Int)(L:List Int)(h:cs≠[]):(ei cr (n+1) cs body).exec p ([252,128,128,128,128,16]++L)=.di bE fi (p+1):=by simp only[oC];rw[aM h];rfl
theorem Mf{cr:Bool}{n:Nat}{cs:List Int}{body:List (List Int)}{p:Int}{L:List Int}(h:cs≠[]){af:Nat}{o:List Int}{w:Str}{Db:Nat}(ar:j5[af]?=some (o,w,Db))(lc:af=0→cs.getLast?≠some 4)(nl:af=5→cr=true):(ei cr (n+1) cs body).exec p (o++L)=.di (oD af) w (p+Db):=by
 have dl:af<25:=(c7.mp ar).1;cases af with
 |zero=>cases ar;show(L9 cr n cs body p L h (lc rfl)).trans (congrArg (c_.di bE "END opcode expected") (Int.add_zero p).symm)
 |succ m=>
  by_cases ac:m<23
  ·have ak:=jd.mp L1 m (List.mem_range.mpr ac);unfold EK at ak;cases Y:EL[m]? with
   |none=>rw[Y]at ak;cases ak
   |some b=>
    rw[Y]at ak;simp only[uK.ok,fM,gz,Bool.or_eq_true]at ak;obtain⟨⟨⟨⟨⟨⟨I,Tl⟩,oT⟩,ch⟩,hd⟩,nJ⟩,on⟩:=ak;rw[nJ]at ar;cases ar;rw[on];show(Me cr n cs body p (d0 b.k 0) b.o L h (fun p L=>y9 I 0 p L) Tl oT (fun aa=>?_) ch (b.g _ L)).trans ?_
    ·rcases hd with rfl|hd
     ·show nomatch(nl rfl).symm.trans aa.2
     ·show hd aa.1
    ·rw[Vh,Int.natCast_add,Int.add_assoc]
  ·obtain rfl:m=23:=Nat.le_antisymm (Nat.le_of_lt_succ (Nat.lt_of_succ_lt_succ dl)) (Nat.not_lt.mp ac);cases ar;show Ma cr n cs body p L h
end
section
theorem DE{P:aY}{op:Operator}{a b:a0}{z:aq}{j H:ae}{Q:ag→ae→Prop}{X:Nat→ae→Prop}{x y v:ag}(ar:cj op x y j=.ok v H)(h:Q v H)(ds:∀Q,wp P a z j Q X=Q x j)(Y:∀Q,wp P b z j Q X=Q y j):wp P (.aV op a b) z j Q X:=by show hy ?_;rw[ds,Y,ar];show h
structure eM(s b:Nat)(l:List Int)(j:ae):Prop where
 b_:j[s]?=some (.b_ eN [(.ej,.ref b)])
 h5:j[b]?=some (.bS l)
theorem eM.CB{s b:Nat}{l:List Int}{j:ae}(h:eM s b l j):b≠s:=by rintro rfl;have:=h.b_.symm.trans h.h5;cases this
theorem eM.set{s b:Nat}{l:List Int}{j:ae}(h:eM s b l j)(s0:List Int):eM s b s0 (j.set b (.bS s0)):=⟨by rw[eP h.CB];show h.b_,eu h.h5⟩
theorem eM.bO{s b:Nat}{l:List Int}{j:ae}(h:eM s b l j):c' j (.ref s) .ej=some (.ref b):=by show oz h.b_ rfl rfl rfl
theorem eM.ok{P:aY}{s b:Nat}{l:List Int}{j:ae}{m:dG}(h:eM s b l j)(ac:(gm eN m).isSome=true):ht P j (.ref s) m=true:=by show Uh h.b_ rfl ac
theorem eM.call{P:aY}{s b:Nat}{l:List Int}{j:ae}{m:dG}{f:Addr}{xs:List ag}(h:eM s b l j)(ac:gm eN m=some f)(hd:P.hd=true):cJ P (.ref s) m xs j=P.d' f (.ref s::xs) j:=by show My h.b_ ac hd
theorem eM.du{P:aY}{s b:Nat}{l:List Int}{j:ae}{v:Int}(h:eM s b l j)(V:l.length<aP)(al:0≤v∧v<256):cJ P (.ref b) .b2 [.int v] j=.ok .none (j.set b (.bS (l++[v]))):=by show(nc h.h5).trans (aF ⟨V,al⟩)
theorem eM.qk{P:aY}{s b:Nat}{l:List Int}{j:ae}(h:eM s b l j):ht P j (.ref b) .b2=true∧ht P j (.ref b) .d_=true:=by show⟨mF h.h5,mF h.h5⟩
def hJ(a:Addr)(D:Nat)(args:List ag)(dU:List Int):Prop:=∀(N:Nat)(sa:Addr)(ns:List Int)(d s b:Nat)(l:List Int)(j:ae),1000≤N→eM s b l j→l.length+dU.length<aP→run a_ N sa ns (d+D) a (.ref s::args) j=.ok .none (j.set b (.bS (l++dU)))
theorem jO{N:Nat}{sa:Addr}{ns:List Int}{d s b:Nat}{l:List Int}{j:ae}{f:Addr}{D:Nat}{args:List ag}{dU:List Int}(w:hJ f D args dU)(bv:1000≤N)(h:eM s b l j)(V:l.length+dU.length<aP){m:dG}(ac:gm eN m=some f){e:a0}{as:b5}{z:aq}{Q:ag→ae→Prop}{X:Nat→ae→Prop}(ds:∀Q,wp (b9 N sa ns (d+D)) e z j Q X=Q (.ref s) j)(ad:∀Q,cR (b9 N sa ns (d+D)) as z j Q X=Q args j)(ne:Q .none (j.set b (.bS (l++dU)))):wp (b9 N sa ns (d+D)) (.bq e m as) z j Q X:=by show rL ?_;rw[ds];show⟨h.ok (by rw[ac];rfl),?_⟩;rw[ad,h.call ac rfl];show(?_:W (run a_ N sa ns (d+D) f (.ref s::args) j) Q X);rw[w N sa ns d s b l j bv h V];show ne
theorem lS{N:Nat}{sa:Addr}{ns:List Int}{d s b:Nat}{l:List Int}{j:ae}{f:Addr}{D:Nat}{args:List ag}{dU:List Int}(w:hJ f D args dU)(bv:1000≤N)(h:eM s b l j)(V:l.length+dU.length<aP)(an:cZ f=false){as:b5}{z:aq}{Q:ag→ae→Prop}{X:Nat→ae→Prop}(ad:∀Q,cR (b9 N sa ns (d+D)) as z j Q X=Q (.ref s::args) j)(ne:Q .none (j.set b (.bS (l++dU)))):wp (b9 N sa ns (d+D)) (.call (.aC (.fn f)) as) z j Q X:=by show iL ad an rfl ?_;show(?_:W (run a_ N sa ns (d+D) f (.ref s::args) j) Q X);rw[w N sa ns d s b l j bv h V];show ne
theorem uH{v:Int}(al:0≤v∧v<256):hJ 484 1 [.int v] [v]:=fun N sa ns d s b l j bv h V=>by show fP (bQ (f:=zN) rfl rfl ?_);show b3 h.bO ?_;show⟨h.qk.1,?_⟩;show(?_:W (cJ _ (.ref b) .b2 [.int v] j) _ _);rw[h.du (by simp at V;show ai [[1,1]] [_,_] [] [.lt (.a .x .l) .y] (.lt .x .y) ah V) al];show⟨rfl,rfl⟩
noncomputable def fk(v:Int):List Int:=eC (dN 9 v) v
noncomputable def ku(v:Int):List Int:=eC (cW 9 v) v
theorem mR{j:ae}{b:Nat}{o:aI}(h:j[b]?=some o):j.set b o=j:=by show b6 (c7.mp h) fun m0 e=>?_;rw[←e];show List.set_getElem_self m0
theorem lI{j:ae}{b:Nat}{x y:aI}:(j.set b x).set b y=j.set b y:=List.set_set ..
abbrev KX(s b:Nat)(l:List Int)(j:ae)(v:Int)(n:Nat)(z:aq)(H:ae):Prop:=∃(u:Int)(pre:List Int),z=[some (.ref s),some (.int u),none]∧H=j.set b (.bS (l++pre))∧pre++eC (dN n u) u=fk v∧0≤u∧u<bJ (n+1)
theorem DH{v:Int}(al:0≤v∧v<2^64):hJ 498 1 [.int v] (fk v):=fun N sa ns d s b l j bv h V=>by
 show fP (bQ (f:=zQ) rfl rfl ?_);show cP (r:=decide (v<0)) rfl ?_ (fun _=>rfl) (fun _=>rfl);rw[cE (by show ai [[1,1]] [] [_] [.aA (.ax .o .x) (.au .x .P)] (.aK (.au .x .o)) ah al)];show⟨rfl,?_⟩;have wq:j.set b (.bS (l++[]))=j:=by rw[eo];show mR h.h5
 have oS:bJ (9+1)=1180591620717411303424:=by decide
 show oe (KX s b l j v) ?_ N 9 _ _ ⟨v,[],rfl,wq.symm,rfl,al.1,by show ai [[1,0,1,0,1]] [] [_,_] [.aA (.ax .o .x) (.au .x .P),.a8 .y (.k 1180591620717411303424)] (.au .x .y) ah al oS⟩ (by show yp bv);rintro n z H ⟨u,pre,rfl,rfl,be,am,I⟩;have a1:=h.set (l++pre);have jy:=congrArg List.length be;rw[cA,mb]at jy;show cP (r:=decide (128≤u)) rfl ?_ (fun _=>rfl) (fun _=>rfl);show(?_:bN (some (decide (128≤u))) _ _);by_cases np:128≤u
 ·rw[cF np];cases n with
  |zero=>show absurd I (by change ¬u<128;show ai [[1,1]] [] [_] [.ax .G .x] (.aK (.au .x .G)) ah np)
  |succ n=>
  obtain⟨m,ac⟩:∃m,dN n (u/128)=m+1:=⟨dN n (u/128)-1,by have:=Ci n (u/128);show yq this (cy _ _)⟩;rw[hX]at I;have nb:dN (n+1) u=dN n (u/128)+1:=by show(?_:(if u<128 then 1 else dN n (u/128)+1)=_);rw[aM (by show ai [[1,1]] [] [_] [.ax .G .x] (.aK (.au .x .G)) ah np)]
  rw[nb,ac]at be jy;show b3 a1.bO ?_;show⟨a1.qk.1,?_⟩;show(?_:W (cJ _ (.ref b) .b2 [.int (Builtin.bitOr (Builtin.bitAnd u 127) 128)] _) _ _);rw[lX,EJ (by show yk (cI _ 128 rfl)) (by show ai [[1,0,0,0,1]] [] [_,_,_] [.d 128 .y .x .aa] (.au .x .G) ah (cI _ 128 rfl)),a1.du (by rw[cA];show ai [[1,1,0,1]] [_,_,_,_,_] [] [.lt (.a .x .w) .aa,.eq (.a .y (.a (.a .u .l) .l)) .w] (.lt (.a .x .y) .aa) ah V jy) (by show yr (cI _ 128 rfl)),lI];show W.dA ?_;show DE (ub (a:=u) (b:=7) (by show ai [[1]] [] [] [] (.ax .o .ae) ah) _) ?_ (fun _=>rfl) (fun _=>rfl);show⟨n,by show m4,u/128,pre++[u%128+128],?_,by rw[dX],?_,by show ai [[128,0,1,0,1,1]] [] [_,_,_] [.ax .G .y,.d 128 .x .aa .y] (.ax .o .x) ah np (cI _ 128 rfl),by show qf I (cI _ 128 rfl)⟩;·rw[fw (by decide)];rfl
  ·rw[ac,dX];show be
 ·rw[cE np];have nb:dN n u=1:=by
   cases n;·rfl
   ·show(?_:(if u<128 then 1 else _)=_);rw[aF (by show ai [[1,1]] [] [_] [.aK (.ax .G .x)] (.au .x .G) ah np)]
  rw[nb]at be jy;show b3 a1.bO ?_;show⟨a1.qk.1,?_⟩;show(?_:W (cJ _ (.ref b) .b2 [.int u] _) _ _);rw[a1.du (by rw[cA];show ai [[1,1,0,1]] [_,_,_,_] [] [.lt (.a .x .w) .aa,.eq (.a .y .l) .w] (.lt (.a .x .y) .aa) ah V jy) (by show ai [[1,0,1],[1,1]] [] [_] [.ax .o .x,.aK (.ax .G .x)] (.aA (.ax .o .x) (.au .x .F)) ah am np),lI];show⟨rfl,?_⟩;rw[dX,←be];have:u%128=u:=Int.emod_eq_of_lt am (Int.not_le.mp np);show(?_:_=j.set b (.bS (l++(pre++[u%128]))));rw[this]
abbrev D8(s b:Nat)(l:List Int)(j:ae)(v:Int)(n:Nat)(z:aq)(H:ae):Prop:=∃(u:Int)(pre:List Int),z=[some (.ref s),some (.int u)]∧H=j.set b (.bS (l++pre))∧pre++eC (cW n u) u=ku v∧-64*bJ n≤u∧u<64*bJ n
theorem J_{v:Int}(al:-(2^63)≤v∧v<2^63):hJ 505 1 [.int v] (ku v):=fun N sa ns d s b l j bv h V=>by
 show fP (bQ (f:=zP) rfl rfl ?_);show⟨rfl,?_⟩;have wq:j.set b (.bS (l++[]))=j:=by rw[eo];show mR h.h5
 have AF:bJ 9=9223372036854775808:=by decide
 show oe (D8 s b l j v) ?_ N 9 _ _ ⟨v,[],rfl,wq.symm,rfl,by show ai [[1,0,64,1]] [] [_,_] [.aA (.ax .E .y) (.au .y .D),.a8 .x .D] (.ax (.i 63 .x) .y) ah al AF,by show ai [[1,0,64,0,1]] [] [_,_] [.aA (.ax .E .x) (.au .x .D),.a8 .y .D] (.au .x (.e 64 .y)) ah al AF⟩ (by show yp bv);rintro n z H ⟨u,pre,rfl,rfl,be,am,I⟩;have a1:=h.set (l++pre);have jy:=congrArg List.length be;rw[cA,mb]at jy;have Cw:¬(-64≤u∧u<64)→bX (b9 N sa ns d) (.cons (.bB (.bq (.bO (.aw 0) .ej) .b2 (.cons (.aV .BitOr (.aV .BitAnd (.aw 1) (.aC (.int (127)))) (.aC (.int (128)))) .nil))) (.cons (.a5 (.aw 1) (.aV .RShift (.aw 1) (.aC (.int (7))))) .nil)) [some (.ref s),some (.int u)] (j.set b (.bS (l++pre))) (p' (D8 s b l j v) (n)) (fun w _ H=>w=.none∧H=j.set b (.bS (l++ku v))) (fun _ _=>(fun _=>False)):=by
  intro np;cases n with
  |zero=>show absurd ⟨am,I⟩ np
  |succ n=>
  obtain⟨m,ac⟩:∃m,cW n (u/128)=m+1:=⟨cW n (u/128)-1,by have:=tE n (u/128);show yq this (cy _ _)⟩;rw[hX]at am I;have nb:cW (n+1) u=cW n (u/128)+1:=by show(?_:(if-64≤u∧u<64 then 1 else cW n (u/128)+1)=_);rw[aM np]
  rw[nb,ac]at be jy;show b3 a1.bO ?_;show⟨a1.qk.1,?_⟩;show(?_:W (cJ _ (.ref b) .b2 [.int (Builtin.bitOr (Builtin.bitAnd u 127) 128)] _) _ _);rw[lX,EJ (by show yk (cI _ 128 rfl)) (by show ai [[1,0,0,0,1]] [] [_,_,_] [.d 128 .y .x .aa] (.au .x .G) ah (cI _ 128 rfl)),a1.du (by rw[cA];show ai [[1,1,0,1]] [_,_,_,_,_] [] [.lt (.a .x .w) .aa,.eq (.a .y (.a (.a .u .l) .l)) .w] (.lt (.a .x .y) .aa) ah V jy) (by show yr (cI _ 128 rfl)),lI];show W.dA ?_;show DE (ub (a:=u) (b:=7) (by show ai [[1]] [] [] [] (.ax .o .ae) ah) _) ?_ (fun _=>rfl) (fun _=>rfl);show⟨n,by show m4,u/128,pre++[u%128+128],?_,by rw[dX],?_,by show uV am (cI _ 128 rfl),by show uW I (cI _ 128 rfl)⟩;·rw[fw (by decide)];rfl
  ·rw[ac,dX];show be
 show(?_:bN (some (decide (-64≤u))) _ _);by_cases ds:-64≤u
 ·rw[cF ds];show(?_:bN (some (!decide (u<64))) _ _);by_cases Y:u<64
  ·rw[cF Y];have nb:cW n u=1:=by
    clear h V wq AF pre be am I a1 jy Cw;cases n;·rfl
    ·show(?_:(if-64≤u∧u<64 then 1 else _)=_);rw[aF ⟨ds,Y⟩]
   rw[nb]at be jy;show b3 a1.bO ?_;show⟨a1.qk.1,?_⟩;show(?_:W (cJ _ (.ref b) .b2 [.int (Builtin.bitAnd u 127)] _) _ _);rw[lX,a1.du (by rw[cA];show ai [[1,1,0,1]] [_,_,_,_] [] [.lt (.a .x .w) .aa,.eq (.a .y .l) .w] (.lt (.a .x .y) .aa) ah V jy) (by show yt (cI _ 128 rfl)),lI];show⟨rfl,?_⟩;rw[dX,←be];rfl
  ·rw[cE Y];show Cw fun aa=>Y aa.2
 ·rw[cE ds];show Cw fun aa=>ds aa.1
end
section
noncomputable def fl:List Int→List Int
 |[]=>[]
 |v::vs=>fk v++fl vs
theorem ux:fl []=[]:=rfl
theorem uw{v:Int}{vs:List Int}:fl (v::vs)=fk v++fl vs:=rfl
theorem JT{ns:List Int}{i:Nat}{v:Int}(h:ns[i]?=some v):fl (ns.take (i+1))=fl (ns.take i)++fk v:=by
 have du:∀a b:List Int,fl (a++b)=fl a++fl b:=fun a b=>by
  induction a with
  |nil=>rfl
  |cons x a ap=>simp only[List.cons_append,uw,ux,ap,dX]
 rw[List.take_succ,h,du];simp[uw,ux]
theorem Xr{ns:List Int}(i:Nat):(fl (ns.take i)).length≤(fl ns).length:=by
 induction ns generalizing i with
 |nil=>simp
 |cons v ns ap=>
  cases i with
  |zero=>simp[uw,ux]
  |succ i=>simp only[List.take_succ_cons,uw,ux,cA];have:=ap i;show ai [[1,1]] [_,_,_] [] [.le .y .aa] (.le (.a .x .y) (.a .x .aa)) ah this
theorem Ur(v:Int):0≤v%128∧v%128<256:=by show yt (cI _ 128 rfl)
theorem DG(v:Int):hJ 194 2 [.int v] [v%128]:=fun N sa ns d s b l j bv h V=>by show fP (bQ (f:=Am) rfl rfl ?_);show jO (d:=d) (uH (Ur v)) bv h V rfl (fun _=>rfl) (fun Q=>?_) ⟨rfl,rfl⟩;show(?_:Q [.int (Builtin.bitAnd v 127)] j=_);rw[lX]
theorem J8{v:Int}(al:0≤v∧v<2^64):hJ 512 2 [.int v] (fk v):=fun N sa ns d s b l j bv h V=>by show fP (bQ (f:=zM) rfl rfl ?_);show jO (d:=d) (DH al) bv h V rfl (fun _=>rfl) (fun Q=>rfl) ⟨rfl,rfl⟩
theorem XQ{v:Int}(al:-(2^63)≤v∧v<2^63):hJ 208 3 [.int v] (if v<0 then[v%128]else ku v):=fun N sa ns d s b l j bv h V=>by
 show fP (bQ (f:=Ak) rfl rfl ?_);show cP (r:=decide (v<0)) rfl ?_ (fun _=>rfl) (fun _=>rfl);by_cases am:v<0;·rw[cF am];rw[aF am]at V⊢;show lS (d:=d) (DG v) bv h V rfl (fun Q=>rfl) ⟨rfl,rfl⟩
 ·rw[cE am];rw[aM am]at V⊢;show jO (d:=d+1) (J_ al) bv h V rfl (fun _=>rfl) (fun Q=>rfl) ⟨rfl,rfl⟩
abbrev KO(s b:Nat)(l:List Int)(j:ae)(vs:List Int)(i:Nat)(z:aq)(H:ae):Prop:=(∃u,z=[some (.ref s),some (bj vs),u])∧H=j.set b (.bS (l++fl (vs.take i)))
theorem J9{vs:List Int}(al:∀v∈vs,0≤v∧v<2^64)(nb:vs.length<900):hJ 222 2 [bj vs] (fl vs):=fun N sa ns d s b l j bv h V=>by
 show fP (bQ (f:=Ao) rfl rfl ?_);show kY (l:=vs.map .int) (db:=.all (vs.map .int)) rfl (fun _=>rfl) rfl (KO s b l j vs) (fun i z H _=>rfl) (fun i x z H ga ad=>?_) (fun z H ga=>?_) ⟨⟨_,rfl⟩,?_⟩ ?_
 ·obtain⟨⟨u,rfl⟩,rfl⟩:=ga;rw[eQ]at ad;cases ar:vs[i]? with
  |none=>rw[ar]at ad;cases ad
  |some v=>rw[ar]at ad;injection ad with ad;subst ad;have TT:=Xr (ns:=vs) (i+1);rw[JT ar,cA]at TT;show cN (v:=[some (.ref s),some (bj vs),some (.int v)]) rfl ?_;show jO (d:=d) (DH (al v (eZ ar))) bv (h.set _) (by rw[cA];show ai [[1,1,1]] [_,_,_,_,_] [] [.lt (.a .x .u) .w,.le (.a .y .aa) .u] (.lt (.a (.a .x .y) .aa) .w) ah V TT) rfl (fun _=>rfl) (fun Q=>rfl) ?_;show⟨⟨_,rfl⟩,?_⟩;rw[lI,JT ar,dX]
 ·obtain⟨⟨u,rfl⟩,rfl⟩:=ga;show⟨rfl,?_⟩;rw[bD,List.take_length]
 ·rw[List.take_zero,ux,eo,mR h.h5]
 ·rw[bD];show ai [[1,1,1]] [_,_] [] [.lt .x .T,.le .R .y] (.lt .x .y) ah nb bv
abbrev Kt(s b:Nat)(l:List Int)(j:ae)(vs:List Int)(i:Nat)(z:aq)(H:ae):Prop:=(∃u v w,z=[some (.ref s),some (bj vs),u,v,w])∧H=j.set b (.bS (l++fk vs.length++(vs.take i).map (·%128)))
theorem XT{vs:List Int}(nb:vs.length<900):hJ 201 3 [bj vs] (fk vs.length++vs.map (·%128)):=fun N sa ns d s b l j bv h V=>by
 rw[cA,bD]at V;show fP (bQ (f:=An) rfl rfl ?_);show jO (d:=d) (J8 (v:=vs.length) (by show ai [[1],[1,1]] [_] [] [.lt .x .T] (.aA (.ax .o (.c .x)) (.au (.c .x) .P)) ah nb)) bv h (by show yu V) rfl (fun _=>rfl) (fun Q=>?_) ?_;·show(?_:W (cY (b9 N sa ns (d+2)) .len [.av (vs.map .int)] j) _ _=_);rw[HF (by rw[bD];show yj nb),bD];rfl
 show kY (l:=vs.map .int) (db:=.all (vs.map .int)) rfl (fun _=>rfl) rfl (Kt s b l j vs) (fun i z H _=>rfl) (fun i x z H ga ad=>?_) (fun z H ga=>?_) ⟨⟨_,_,_,rfl⟩,?_⟩ ?_
 ·obtain⟨⟨u,xY,w,rfl⟩,rfl⟩:=ga;rw[eQ]at ad;cases ar:vs[i]? with
  |none=>rw[ar]at ad;cases ad
  |some v=>rw[ar]at ad;injection ad with ad;subst ad;have m0:=(c7.mp ar).1;show cN (v:=[some (.ref s),some (bj vs),some (.int v),xY,w]) rfl ?_;show lS (d:=d) (DG v) bv (h.set _) (by simp only[cA,bD,List.length_take,List.length_singleton];show ai [[1,1,1,1]] [_,_,_,_,_,_] [] [.lt (.a .x (.a .y .u)) .w,.lt .t .u,.le .aa .t] (.lt (.a (.a (.a .x .y) .aa) .l) .w) ah V m0 (Nat.min_le_left _ _)) rfl (fun Q=>rfl) ?_;show⟨⟨_,_,_,rfl⟩,?_⟩;rw[lI,List.take_succ,ar];simp
 ·obtain⟨⟨u,xY,w,rfl⟩,rfl⟩:=ga;show⟨rfl,?_⟩;rw[bD,List.take_length,dX]
 ·simp
 ·rw[bD];show ai [[1,1,1]] [_,_] [] [.lt .x .T,.le .R .y] (.lt .x .y) ah nb bv
theorem XR{k:Int}(ak:0≤k∧k<256∨64512≤k∧k<2^63):hJ 215 2 [.int k] (if k<64512 then[k]else 252::fk (k-64512)):=fun N sa ns d s b l j bv h V=>by
 show fP (bQ (f:=Al) rfl rfl ?_);show cP (r:=decide (k<64512)) rfl ?_ (fun _=>rfl) (fun _=>rfl);by_cases am:k<64512;·rw[cF am];rw[aF am]at V⊢;show jO (d:=d) (uH (by show ai [[1,0,1],[1,0,1],[1,0,0,1],[0,1,1]] [] [_] [.or (.aA (.ax .o .x) (.au .x .F)) (.aA (.ax .K .x) (.au .x .D)),.au .x .K] (.aA (.ax .o .x) (.au .x .F)) ah ak am)) bv h V rfl (fun _=>rfl) (fun Q=>rfl) ⟨rfl,rfl⟩
 ·rw[cE am];rw[aM am]at V⊢;show jO (d:=d) (uH (v:=252) (by show ai [[1],[1]] [] [] [] (.aA (.ax .o (.k 252)) (.au (.k 252) .F)) ah)) bv h (by show ai [[1,1]] [_,_,_] [] [.lt (.a .x (.a .aa .l)) .y] (.lt (.a .x .l) .y) ah V) rfl (fun _=>rfl) (fun Q=>rfl) ?_;show jO (d:=d) (DH (v:=k-64512) (by show ai [[1,1],[1,1],[1,0,0,1],[1,0,0,1]] [] [_] [.or (.aA (.ax .o .x) (.au .x .F)) (.aA (.ax .K .x) (.au .x .D)),.aK (.au .x .K)] (.aA (.ax .o (.s .x .K)) (.au (.s .x .K) .P)) ah ak am)) bv (h.set _) (by simp;show ai [[1,1]] [_,_,_] [] [.lt (.a .x (.a .y .l)) .aa] (.lt (.a (.a .x .l) .y) .aa) ah V) rfl (fun _=>rfl) (fun Q=>rfl) ⟨rfl,?_⟩;simp
noncomputable def mS:List Str:=["i32","i64"]
noncomputable def mE:List Str:=["memory","memory_init","two_memories"]
theorem Wl:mS.all PyData.strOk=true:=by simp[mS,bU]
theorem Ug:mE.all PyData.strOk=true:=by simp[mE,bU]
noncomputable def pv(f:Str)(ns:List Int):List Int:=if f=="block"then(if ns.headD 0<0 then[ns.headD 0%128]else ku (ns.headD 0))else if mS.any (·==f)then ku (ns.headD 0)else if f=="refkind"then[ns.headD 0%128]else if f=="kinds"then fk ns.length++ns.map (·%128)else if f=="labels"then fk (ns.length-1)++fl ns else fl ns++((if mE.any (·==f)then[0]else[])++(if f=="two_memories"then[0]else[]))
structure uP(f:Str)(ns:List Int):Prop where
 Y6:(f=="block"||mS.any (·==f)||f=="refkind")=true→∃v,ns=[v]∧-(2^63)≤v∧v<2^63
 bf:(f=="block"||mS.any (·==f)||f=="refkind"||f=="kinds")=false→∀v∈ns,0≤v∧v<2^64
 YW:(f=="labels")=true→1≤ns.length
 len:ns.length≤10
theorem XS{f:Str}{vs:List Int}(ev:PyData.strOk f=true)(be:uP f vs):hJ 229 4 [.str f,bj vs] (pv f vs):=fun N sa ns d s b l j bv h V=>by
 obtain⟨dU,gL⟩:∃dU,dU=pv f vs:=⟨_,rfl⟩;obtain⟨tW,On,kn,n0⟩:=be;show fP (bQ (f:=vF) rfl rfl ?_);rw[←gL]at V⊢;unfold pv at gL;unfold vF;show df ?_;show fE rfl ev (bU _) (fun Y=>?_) fun Y=>?_<;>simp only[Y,if_true,gy,if_false]at gL;·have KE:=tW (by rw[Y];rfl);clear kn n0 Y;obtain⟨v,rfl,I,O⟩:=KE;subst gL;show lS (d:=d) (XQ ⟨I,O⟩) bv h V rfl (fun Q=>rfl) ⟨by trivial,rfl⟩
 show df ?_;show BU (l:=mS) rfl ev (fun _=>rfl) Wl (fun wl=>?_) fun wl=>?_<;>simp only[wl,if_true,gy,if_false]at gL;·have KE:=tW (by rw[Y,wl];rfl);clear kn n0 Y wl;obtain⟨v,rfl,I,O⟩:=KE;subst gL;show jO (d:=d+2) (J_ ⟨I,O⟩) bv h V rfl (fun _=>rfl) (fun Q=>rfl) ⟨by trivial,rfl⟩
 show df ?_;show fE rfl ev (bU _) (fun wv=>?_) fun wv=>?_<;>simp only[wv,if_true,gy,if_false]at gL;·clear kn n0;obtain⟨v,rfl,I,O⟩:=tW (by rw[Y,wl,wv];rfl);subst gL;show lS (d:=d+1) (DG v) bv h V rfl (fun Q=>rfl) ⟨by trivial,rfl⟩
 show df ?_;show fE rfl ev (bU _) (fun FS=>?_) fun FS=>?_<;>simp only[FS,if_true,gy,if_false]at gL;·show aX fun _ done=>?_;subst gL;show done ?_;show lS (d:=d) (XT (by show uY n0)) bv h V rfl (fun Q=>rfl) ⟨by trivial,rfl⟩
 show df ?_;have On:=On (by rw[Y,wl,wv,FS];rfl);show fE rfl ev (bU _) (fun e8=>?_) fun e8=>?_<;>simp only[e8,if_true,gy,if_false]at gL
 ·subst gL;rw[cA]at V;show jO (d:=d+1) (J8 (v:=(vs.length:Int)-1) ⟨Int.sub_nonneg.mpr (Int.ofNat_le.mpr (kn e8)),Int.lt_of_le_of_lt (Int.sub_le_self _ (by decide)) (Int.lt_of_le_of_lt (Int.ofNat_le.mpr n0) (by decide))⟩) bv h (by show yu V) rfl (fun _=>rfl) (fun Q=>?_) ?_;·show(?_:W (cY (b9 N sa ns (d+3)) .len [.av (vs.map .int)] j) _ _=_);rw[HF (by rw[bD];show ai [[1,1]] [_] [] [.le .x .W] (.lt .x .L) ah n0),bD];rfl
  show lS (d:=d+1) (J9 On (by show uY n0)) bv (h.set _) (by rw[cA];show ai [[1,1]] [_,_,_,_] [] [.lt (.a .x (.a .y .aa)) .w] (.lt (.a (.a .x .y) .aa) .w) ah V) rfl (fun Q=>rfl) ⟨by trivial,?_⟩;rw[lI,dX]
 have nb:dU.length=(fl vs).length+((if mE.any (·==f)then[0]else[]):List Int).length+((if f=="two_memories"then[0]else[]):List Int).length:=by rw[gL,cA,cA];show ai [[1],[1]] [_,_,_] [] [] (.eq (.a .x (.a .y .aa)) (.a (.a .x .y) .aa)) ah
 show lS (d:=d+1) (J9 On (by show uY n0)) bv h (by show ai [[1,0,1,1]] [_,_,_,_,_,_] [] [.lt (.a .x .w) .aa,.eq .w (.a (.a .y .u) .t)] (.lt (.a .x .y) .aa) ah V nb) rfl (fun Q=>rfl) ?_;have I:=h.set (l++fl vs);have lu:∀(m:List Int),m=(if mE.any (·==f)then[0]else[])→bX (b9 N sa ns (d+3)) (.cons (.ite (.aQ .Eq (.aw 1) (.aC (.str "two_memories"))) (.cons (.bB (.bq (.aw 0) .hW (.cons (.aC (.int (0))) .nil))) .nil) .nil) .nil) [some (.ref s),some (.str f),some (bj vs),none,none,none,none,none] (j.set b (.bS (l++(fl vs++m)))) (fun _ H=>ag.none=ag.none∧H=j.set b (.bS (l++dU))) (fun v _ H=>v=ag.none∧H=j.set b (.bS (l++dU))) (fun _ _ _=>False):=by
  intro m ac;rw[←ac]at nb gL;show fE rfl ev (bU _) (fun e9=>?_) fun e9=>?_<;>simp only[e9,if_true,gy,if_false]at gL nb;·show jO (d:=d+2) (uH (v:=0) (by show ai [[1],[1]] [] [] [] (.aA (.ax .o .o) (.au .o .F)) ah)) bv (h.set _) (by simp at nb⊢;show ai [[1,0,1,1]] [_,_,_,_,_] [] [.lt (.a .x .u) .w,.eq .u (.a (.a .y .aa) .l)] (.lt (.a (.a .x (.a .y .aa)) .l) .w) ah V nb) rfl (fun _=>rfl) (fun Q=>rfl) ?_;show⟨by trivial,?_⟩;rw[gL];simp
  ·show⟨by trivial,?_⟩;rw[gL,eo]
 show BU (l:=mE) rfl ev (fun _=>rfl) Ug (fun fT=>?_) fun fT=>?_;·show jO (d:=d+2) (uH (v:=0) (by show ai [[1],[1]] [] [] [] (.aA (.ax .o .o) (.au .o .F)) ah)) bv I (by rw[fT]at nb;simp at nb⊢;show ai [[1,0,1,1]] [_,_,_,_,_] [] [.lt (.a .x .w) .aa,.eq .w (.a (.a .y .l) .u)] (.lt (.a (.a .x .y) .l) .aa) ah V nb) rfl (fun _=>rfl) (fun Q=>rfl) ?_;rw[lI,dX];have:=lu [0] (by rw[fT];rfl);show this
 ·have:=lu [] (by rw[fT];rfl);rw[eo]at this;show this
end
section
noncomputable def lB(k:Int):Str:="no instruction has the code "++Str.ofString (toString k)
theorem Jf(s:String):(Str.ofString s).cps.size=s.length:=by rw[Str.ofString_eq_toList];simp[String.length_toList]
theorem VY{k:Int}(h:-100000000<k∧k<100000000000):(toString k).length≤13:=by
 have H_:∀n:Nat,n<100000000000→(Nat.repr n).length≤12:=fun n bi=>(Nat.length_repr_le_iff (by decide)).mpr (by show ai [[1,1]] [_] [] [.lt .x (.n 100000000000)] (.lt .x (.n 1000000000000)) ah bi);cases k with
 |ofNat n=>have:=H_ n (Int.ofNat_lt.mp h.2);show ai [[1,1]] [_] [] [.le .x (.n 12)] (.le .x (.n 13)) ah this
 |negSucc n=>have I:=H_ (n+1) (Nat.lt_trans (Int.ofNat_lt.mp (Int.neg_lt_neg_iff.mp h.1:((n+1:Nat):Int)<(100000000:Nat))) (by decide));show(?_:("-"++Nat.repr (n+1)).length≤13);rw[String.length_append];have:("-":String).length=1:=rfl;show ai [[1,1,0,1]] [_,_] [] [.le .y (.n 12),.eq .x .l] (.le (.a .x .y) (.n 13)) ah I this
theorem Ef{k:Int}(h:-100000000<k∧k<100000000000)(j:ae):cj .Add (.str "no instruction has the code ") (.str (Str.ofString (toString k))) j=.ok (.str (lB k)) j:=by have I:=VY h;have O:("no instruction has the code ":String).length=28:=rfl;show(?_:(if Operator.Add=.Add∧_<aP then _ else _)=_);rw[aF ⟨rfl,by rw[Jf,Jf];unfold aP;show ai [[1,1,0,1]] [_,_] [] [.le .y (.n 13),.eq .x (.n 28)] (.lt (.a .x .y) .L) ah I O⟩];rfl
noncomputable def qw(k:Int):List Int:=if k<64512 then[k]else 252::fk (k-64512)
section
variable{k:Int}{bf:List Int}
theorem xO(j:ae)(V:bf.length<1000):dj j (bj (k::bf)) (.int 0)=some (.int k):=by show(?_:(if((k::bf).map ag.int).length<aP then _ else _)=_);rw[aF (by simp[aP];show ai [[1,1]] [_] [] [.lt .x .R] (.lt (.a .x .l) .L) ah V)];unfold i_;rw[aF (by decide),aF (by simp)];rfl
theorem Ws(j:ae)(V:bf.length≤10):i' (bj (k::bf)) (.int 1) .none j=.ok (bj bf) j:=by show(?_:(if ag.none.isNone=true∧1≤(1:Int)∧(1:Int)≤(((k::bf).map ag.int).length:Nat)∧((k::bf).map ag.int).length<aP then _ else _)=_);rw[aF ⟨rfl,by show ai [[1]] [] [] [] (.ax .l .l) ah,by simp;show ai [[1]] [_] [] [] (.ax .l (.a (.c .x) .l)) ah,by simp[aP];show ai [[1,1]] [_] [] [.le .x .W] (.lt (.a .x .l) .L) ah V⟩];rfl
theorem J7{f:Str}(ch:dM k=some f)(ak:0≤k∧k<256∨64512≤k∧k<2^63)(be:uP f bf):hJ 236 5 [bj (k::bf)] (qw k++pv f bf):=fun N sa ns d s b l j bv h V=>by
 rw[cA]at V;show fP (bQ (f:=vG) rfl rfl ?_);show b3 (xO j (by have:=be.len;show ai [[1,1]] [_] [] [.le .x .W] (.lt .x .R) ah this)) ?_;show iL (a:=105) (xs:=[.int k]) (fun _=>rfl) rfl rfl ?_;show vK (d:=d+2) bv ?_;rw[ch];show cP (op:=.Is) (r:=false) (x:=.str f) (y:=.none) rfl ?_ (fun _=>rfl) (fun _=>rfl);show lS (d:=d+2) (XR ak) bv h (by unfold qw at V;show yu V) rfl (fun Q=>rfl) ?_;show lS (d:=d) (XS (FP ch) be) bv (h.set _) (by rw[cA];unfold qw at V;show ai [[1,1]] [_,_,_,_] [] [.lt (.a .x (.a .y .aa)) .w] (.lt (.a (.a .x .y) .aa) .w) ah V) rfl (fun Q=>?_) ?_;·show(?_:W (i' (bj (k::bf)) (.int 1) .none _) _ _=_);rw[Ws _ be.len];rfl
 ·show⟨rfl,?_⟩;rw[lI,dX];rfl
theorem Uk{N:Nat}{sa:Addr}{ns:List Int}{d s:Nat}{j:ae}{Q:ag→ae→Prop}{X:Nat→ae→Prop}(bv:1000≤N)(ch:dM k=none)(ak:-100000000<k∧k<100000000000)(po:X j.length (j++[.cX fR [(.c2,.str (lB k))]])):W (run a_ N sa ns (d+5) 236 [.ref s,bj [k]] j) Q X:=by
 have a1:=xO (k:=k) (bf:=[]) j (by decide);generalize bj [k]=t at a1⊢;show bQ (f:=vG) rfl rfl ?_;show b3 a1 ?_;show iL (a:=105) (xs:=[.int k]) (fun _=>rfl) rfl rfl ?_;show vK (d:=d+2) bv ?_;rw[ch];show cP (op:=.Is) (r:=true) (x:=.none) (y:=.none) rfl ?_ (fun _=>rfl) (fun _=>rfl);show⟨rfl,?_⟩;show DE (Ef ak j) ?_ (fun _=>rfl) (fun Q=>?_);·show Vy (d:=d+3) po
 ·show(?_:W (if-100000000<k∧k<100000000000 then aG.ok (ag.str (Str.ofString (toString k))) j else .aS) _ _=_);rw[aF ak];rfl
end
def St.r7(s:St):Prop:=hJ 236 5 [bj (s.k::s.bf)] (s.c++s.r)
theorem BW{ss:List St}{i:Nat}{x:St}(h:ss[i]?=some x):dT (ss.take (i+1))=dT (ss.take i)++(x.c++x.r):=by
 have du:∀a b:List St,dT (a++b)=dT a++dT b:=fun a b=>by
  induction a with
  |nil=>rfl
  |cons x a ap=>simp only[List.cons_append,kj,lp,ap,dX]
 rw[List.take_add_one,h,du];simp[kj,lp]
theorem SN{ss:List St}(i:Nat):(dT (ss.take i)).length≤(dT ss).length:=by
 induction ss generalizing i with
 |nil=>simp
 |cons v ns ap=>
  cases i with
  |zero=>simp[kj,lp]
  |succ i=>simp only[List.take_succ_cons,kj,lp,cA];have:=ap i;show ai [[1,1]] [_,_,_,_] [] [.le .aa .w] (.le (.a .x (.a .y .aa)) (.a .x (.a .y .w))) ah this
abbrev KW(s b iq:Nat)(l:List Int)(j:ae)(ss:List St)(i:Nat)(z:aq)(H:ae):Prop:=i≤ss.length∧(∃u v,z=[some (.ref s),some (.ref iq),u,v])∧H=j.set b (.bS (l++dT (ss.take i)))
theorem J'{N:Nat}{sa:Addr}{ns:List Int}{d s b iq:Nat}{l:List Int}{j:ae}{ss:List St}{tl:List Int}{Q:ag→ae→Prop}{X:Nat→ae→Prop}(bv:1000≤N)(h:eM s b l j)(f0:∀x∈ss,x.r7)(nb:ss.length+tl.length<900)(V:l.length+(dT ss).length<aP)(Y:j[iq]?=some (.list ((ed ss).map bj++tl.map fun k=>bj [k])))(po:∀k r,tl=k::r→dM k=none∧(-100000000<k∧k<100000000000)∧X j.length (j.set b (.bS (l++dT ss))++[.cX fR [(.c2,.str (lB k))]]))(Ix:tl=[]→Q .none (j.set b (.bS (l++dT ss)))):W (run a_ N sa ns (d+6) 243 [.ref s,.ref iq] j) Q X:=by
 have GK:iq≠b:=by rintro rfl;have:=Y.symm.trans h.h5;cases this
 show bQ (f:=Au) rfl rfl ?_;have qW:((ed ss).map bj++tl.map fun k=>bj [k]).length=ss.length+tl.length:=by simp[ed]
 show kY (v:=.ref iq) (fd:=j) (db:=.cc iq) (l:=(ed ss).map bj++tl.map fun k=>bj [k]) rfl (fun _=>rfl) (WK Y) (KW s b iq l j ss) (fun i z H ga=>?_) (fun i x z H ga ad=>?_) (fun z H ga=>?_) ⟨e0 _,⟨_,_,rfl⟩,?_⟩ ?_
 ·show Fp ga fun an _=>?_;have:(j.set b (aI.bS (l++dT (ss.take i))))[iq]?=some (.list ((ed ss).map bj++tl.map fun k=>bj [k])):=by show(eP (Ne.symm GK)).trans Y
  show TL this (by rw[qW];unfold aP;show ai [[1,1]] [_,_] [] [.lt (.a .x .y) .T] (.lt (.a .x .y) .L) ah nb)
 ·obtain⟨an,⟨u,v,rfl⟩,rfl⟩:=ga;rcases Nat.lt_or_ge i ss.length with m0|Gx
  ·rw[List.getElem?_append_left (by simp[ed];show ai [[1,1]] [_,_] [] [.lt .x .y] (.lt .x .y) ah m0),eQ]at ad;have ar:=gx m0;generalize ss[i]=cb at ar;rw[show(ed ss)[i]?=some (cb.k::cb.bf) by simp[ed,ar]]at ad;injection ad with ad;subst ad;show cN (v:=[some (.ref s),some (.ref iq),some (bj (cb.k::cb.bf)),v]) rfl ?_;have hQ:=SN (ss:=ss) (i+1);rw[BW ar,cA]at hQ;show lS (d:=d) (f0 cb (eZ ar)) bv (h.set _) (by rw[cA];show ai [[1,1,1]] [_,_,_,_,_] [] [.lt (.a .x .u) .w,.le (.a .y .aa) .u] (.lt (.a (.a .x .y) .aa) .w) ah V hQ) rfl (fun Q=>rfl) ?_;show⟨by show uZ m0,⟨_,_,rfl⟩,?_⟩;rw[lI,BW ar,dX]
  ·have an:i=ss.length:=by show yv an Gx
   clear V GK Gx;subst an;rw[og (by simp[ed])]at ad;have h8:ss.length-((ed ss).map bj).length=0:=by simp[ed]
   rw[h8]at ad;clear nb Y Ix qW;cases tl with
   |nil=>cases ad
   |cons k r=>injection ad with ad;subst ad;show aX fun _ done=>?_;show sA (po k r rfl) fun I O bn=>?_;show done ?_;show cN (v:=[some (.ref s),some (.ref iq),some (bj [k]),v]) rfl ?_;show iL (a:=236) (xs:=[.ref s,bj [k]]) (fun _=>rfl) rfl rfl ?_;rw[List.take_length];show Uk (d:=d) bv I O ?_;show(List.length_set).symm▸bn
 ·show Fp ga fun an _=>?_;rw[qW]at an⊢;have im:=List.length_eq_zero_iff.mp (by show ai [[1],[1,1]] [_,_] [] [.le (.a .y .x) .y] (.eq .x .o) ah an);have am:=Ix im;have e:ss.take (ss.length+tl.length)=ss:=List.take_of_length_le (by show ai [[1]] [_,_] [] [] (.le .x (.a .x .y)) ah);show(e).symm▸am
 ·rw[List.take_zero,lp,eo,mR h.h5]
 ·rw[qW];show jV nb (by change 900≤N;show ai [[1,1]] [_] [] [.le .R .x] (.le .T .x) ah bv)
end
section
theorem TF:∀(f g:Nat)(v:Int),v<bJ (f+1)→dN (f+g) v=dN f v:=by
 intro ca;induction ca with
 |zero=>
  intro sK v h;cases sK with
  |zero=>show rfl
  |succ g=>have h:v<128:=h;show(aF h:(if v<128 then 1 else _)=_)
 |succ f ap=>
  intro g v h;rw[hX]at h;have e:f+1+g=(f+g)+1:=by show ai [[1],[1]] [_,_] [] [] (.eq (.a (.a .x .l) .y) (.a (.a .x .y) .l)) ah
  rw[e];simp only[w6,w7];rw[ap g (v/128) (by show qf h (cI _ 128 rfl))]
theorem ma{v:Int}(h:v<2^32):ct v 0=fk v:=by
 unfold ct fk;have nl:bJ 5=34359738368:=by decide
 have:=TF 4 5 v (by change v<bJ 5;show ai [[1,0,1,1]] [] [_,_] [.au .x .A,.a8 .y (.k 34359738368)] (.au .x .y) ah h nl);have O:=Cg 4 v;show congrArg (eC · v) ((Nat.min_eq_right O).trans this.symm)
theorem FU:∀{ns:List Int},(∀v∈ns,v<2^32)→frees 0 ns=fl ns:=by
 intro ca;induction ca with
 |nil=>intro _;show rfl
 |cons v vs ap=>intro h;rw[qG,uw,ma (h v dF),ap fun w f0=>h w (dE _ f0)]
theorem CR{ce:Nat}(Y:ce=32∨ce=33∨ce=64){v:Int}(am:-(2^(ce-1))≤v)(I:v<2^(ce-1)):eX ce v 0=ku v:=by
 unfold eX ku;have TT:cW 9 v≤(ce+6)/7:=by
  rcases Y with rfl|rfl|rfl
  ·show tD 9 4 v (g9 (by decide) am) (jW I (by decide))
  ·show tD 9 4 v (g9 (by decide) am) (jW I (by decide))
  ·show tD 9 9 v (g9 (by decide) am) (jW I (by decide))
 show congrArg (eC · v) (Nat.min_eq_right TT)
theorem S9{v:Int}(h:v∈gS):v%128=128+v:=(by decide:∀v∈gS,v%128=128+v) v h
theorem MX{k:Int}(h:k<64512+2^32):d0 k 0=qw k:=by
 unfold d0 qw;split;·rfl
 ·rw[ma (by show ai [[1,1]] [] [_] [.au .x (.a .K .A)] (.au (.s .x .K) .A) ah h)]
structure D_(f:Str)(aZ:eK):Prop where
 eq:pv f (d2 aZ)=dD 0 aZ
 pre:uP f (d2 aZ)
theorem p0{f:Str}{aZ:eK}(I:(f=="block"||mS.any (·==f)||f=="refkind"||f=="kinds"||f=="labels")=false)(O:∀v∈d2 aZ,gC v)(V:(d2 aZ).length≤10)(bn:fl (d2 aZ)++((if mE.any (·==f)then[0]else[])++(if f=="two_memories"then[0]else[]))=dD 0 aZ):D_ f aZ:=by
 simp only[Bool.or_eq_false_iff]at I;obtain⟨⟨⟨⟨dZ,fu⟩,h7⟩,qp⟩,qq⟩:=I;show⟨?_,fun aa=>?_,fun _ v al=>⟨(O v al).1,by have:=(O v al).2;show ai [[1,1]] [] [_] [.au .x .A] (.au .x .P) ah this⟩,fun aa=>?_,V⟩;·unfold pv;rw[dZ,fu,h7,qp,qq];show bn
 ·rw[dZ,fu,h7]at aa;show fy aa
 ·rw[qq]at aa;show fy aa
theorem Sg{f:Str}{aZ:eK}(h:fp f aZ):D_ f aZ:=by
 cases h with
 |none=>show p0 (by decide+kernel) nofun (e0 _) (by decide+kernel)
 |de h al=>
  have e:=FU fun w f0=>by obtain rfl:_=_:=ee.mp f0;show al.2
  have a1:∀s∈nY,(s=="block"||mS.any (·==s)||s=="refkind"||s=="kinds"||s=="labels")=false∧mE.any (·==s)=false∧(s=="two_memories")=false:=by decide+kernel
  show sA (a1 _ h) fun aj ao ay=>p0 aj (fun w f0=>ee.mp f0▸al) (jT rfl) ?_;rw[ao,ay,n4,cU,e];rfl
 |yV h=>
  show aW h fun v cl al=>?_;subst cl;have ar:-64≤v∧v<2^32:=by
   rcases al with rfl|al|al
   ·decide
   ·simp only[gS,ep,List.mem_nil_iff,or_false]at al;show ai [[1,0,1],[1,0,1],[1,0,1],[1,0,1],[1,1],[1,1],[1,1],[1,1]] [] [_] [.or (.a8 .x .az) (.or (.a8 .x (.af 1)) (.or (.a8 .x (.af 15)) (.a8 .x (.af 16))))] (.aA (.ax (.af 63) .x) (.au .x .A)) ah al
   ·show⟨by have:=al.1;show ai [[1,1]] [] [_] [.ax .o .x] (.ax (.af 63) .x) ah this,al.2⟩
  show⟨?_,fun _=>⟨v,rfl,by show ai [[1,1]] [] [_] [.aA (.ax (.af 63) .x) (.au .x .A)] (.ax .E .x) ah ar,by show ai [[1,0,1]] [] [_] [.aA (.ax (.af 63) .x) (.au .x .A)] (.au .x .D) ah ar⟩,fun aa=>absurd aa (by decide+kernel),fun aa=>absurd aa (by decide+kernel),by simp[ix,kl]⟩;show(?_:(if v<0 then[v%128]else ku v)=(if 0≤v then eX 33 v 0 else[128+v])++[]);rw[eo];by_cases am:0≤v;·rw[aM (by show yi am),aF am,CR (ce:=33) (by decide) (g9 (by decide) am) ar.2]
  ·rw[aF (by show uR am),aM am];show congrArg (fun x=>[x]) ((H3 (g9 (by decide) ar.1) (Int.not_le.mp am)).trans (Int.add_comm _ _))
 |BL al=>show⟨?_,fun _=>⟨v,rfl,by show ai [[1,1]] [] [_] [.aA (.ax .eS .x) (.au .x .aJ)] (.ax .E .x) ah al,by show ai [[1,0,1]] [] [_] [.aA (.ax .eS .x) (.au .x .aJ)] (.au .x .D) ah al⟩,fun aa=>absurd aa (by decide+kernel),fun aa=>absurd aa (by decide+kernel),by simp[ix,kl]⟩;show(?_:ku v=eX 32 v 0++[]);rw[eo,CR (ce:=32) (by decide) al.1 al.2]
 |BM al=>show⟨?_,fun _=>⟨v,rfl,by show ai [[1,1]] [] [_] [.aA (.ax .E .x) (.au .x .D)] (.ax .E .x) ah al,by show ai [[1,0,1]] [] [_] [.aA (.ax .E .x) (.au .x .D)] (.au .x .D) ah al⟩,fun aa=>absurd aa (by decide+kernel),fun aa=>absurd aa (by decide+kernel),by simp[ix,kl]⟩;show(?_:ku v=eX 64 v 0++[]);rw[eo,CR (ce:=64) (by decide) al.1 al.2]
 |mem al f0=>
  show p0 (by decide+kernel) (fun x ad=>?_) (jT rfl) ?_;·show(ep.mp ad).elim (fun e=>e▸⟨al.1,?_⟩) fun e=>ee.mp e▸f0;show yn al
  ·show(?_:fk _++(fk _++[])++[]=(ct _ 0++[])++((ct _ 0++[])++[]));rw[ma (by show yn al),ma f0.2];simp
 |ref al=>show⟨?_,fun _=>⟨v,rfl,by show ai [[1,0,1],[1,0,1]] [] [_] [.or (.a8 .x (.af 15)) (.a8 .x (.af 16))] (.ax .E .x) ah al,by show ai [[1,1],[1,1]] [] [_] [.or (.a8 .x (.af 15)) (.a8 .x (.af 16))] (.au .x .D) ah al⟩,fun aa=>absurd aa (by decide+kernel),fun aa=>absurd aa (by decide+kernel),by simp[ix,kl]⟩;show(?_:[v%128]=[128+v]++[]);rcases al with rfl|rfl<;>rfl
 |B6 h=>
  obtain⟨I,O,ad⟩:=h;show⟨?_,fun aa=>absurd aa (by decide+kernel),fun _ v al=>?_,fun _=>?_,?_⟩;·show(?_:fk ((ns++[]).length-1)++fl (ns++[])=(ct (ns.length-1) 0++frees 0 ns)++[]);rw[eo,eo,FU fun v al=>(ad v al).2,ma (by show ai [[1,1]] [_] [] [.le .x .c] (.au (.s (.c .x) .l) .A) ah O)]
  ·rw[ix,kl,eo]at al;show⟨(ad v al).1,by have:=(ad v al).2;show ai [[1,1]] [] [_] [.au .x .A] (.au .x .P) ah this⟩
  ·rw[ix,kl,eo];show I
  ·rw[ix,kl,eo];show ai [[1,1]] [_] [] [.le .x .c] (.le .x .W) ah O
 |B1 h=>
  show aX fun _ done=>?_;obtain⟨I,ad⟩:=h;show done ?_;show⟨?_,fun aa=>absurd aa (by decide+kernel),fun aa=>absurd aa (by decide+kernel),fun aa=>absurd aa (by decide+kernel),?_⟩;·show(?_:fk (ns++[]).length++(ns++[]).map (·%128)=(ct ns.length 0++ns.map (128+·))++[]);rw[eo,eo,ma (by show ai [[1,1]] [_] [] [.le .x .b] (.au (.c .x) .A) ah I)];congr 1;show List.map_congr_left fun v al=>S9 (ad v al)
  ·rw[ix,kl,eo];show ai [[1,1]] [_] [] [.le .x .b] (.le .x .W) ah I
 |rK h al f0=>
  have a1:∀s∈n',(s=="block"||mS.any (·==s)||s=="refkind"||s=="kinds"||s=="labels")=false∧mE.any (·==s)=false∧(s=="two_memories")=false:=by decide+kernel
  show sA (a1 _ h) fun aj ao ay=>p0 aj (fun x ad=>(ep.mp ad).elim (fun e=>e▸al) fun e=>ee.mp e▸f0) (jT rfl) ?_;rw[ao,ay];show(?_:fk _++(fk _++[])++[]=(ct _ 0++[])++((ct _ 0++[])++[]));rw[ma al.2,ma f0.2];simp
 |BO al=>show p0 (by decide+kernel) (fun x ad=>ee.mp ad▸al) (jT rfl) ?_;show(?_:fk _++[]++([0]++[])=(ct _ 0++[])++([0]++[]));rw[ma al.2]
 |tI=>show p0 (by decide+kernel) nofun (by decide) (by decide+kernel)
 |m=>show p0 (by decide+kernel) nofun (by decide) (by decide+kernel)
theorem WT{r:Int×Int×List Lt}(ar:r∈gq){k:Int}(I:r.1≤k)(O:k≤r.2.1){aZ:eK}(V:r.2.2=aZ.map (·.1))(ev:∀q∈aZ,d4 q.1 q.2):St.r7 ⟨k,d2 aZ,d0 k 0,dD 0 aZ⟩:=by
 show aX fun _ done=>?_;have pp:=xA ar I O;simp only[mO,fM,Bool.or_eq_true,gz]at pp;obtain⟨⟨⟨⟨ch,_⟩,_⟩,_⟩,ak⟩:=pp;have bn:aZ.length≤2:=by have:=xB r ar;rw[V,bD]at this;show this
 show done ?_;cases e:dM k with
 |none=>rw[e]at ch;cases ch
 |some f=>rw[e]at ch;simp only[gz]at ch;obtain⟨AW,lj⟩:=Sg (FI (ch.trans V) bn ev);have:=J7 e (by show ai [[1,0,1],[1,0,1],[1,1],[1,1],[1,0,0,1],[0,1,1],[1,0,0,1],[0,1,0,1]] [] [_] [.or (.aA (.ax .o .x) (.au .x (.k 252))) (.aA (.ax .K .x) (.ax .x .N))] (.or (.aA (.ax .o .x) (.au .x .F)) (.aA (.ax .K .x) (.au .x .D))) ah ak) lj;rw[AW,←MX (by show ai [[1,0,1],[1,0,1]] [] [_] [.or (.aA (.ax .o .x) (.au .x (.k 252))) (.aA (.ax .K .x) (.ax .x .N))] (.au .x (.a .K .A)) ah ak)]at this;show this
theorem Vd{k:Int}(ak:k=11∨k=5):St.r7 ⟨k,[],[k],[]⟩:=by
 have ch:dM k=some "none":=by rcases ak with rfl|rfl<;>decide+kernel
 have be:uP "none" []:=⟨fun aa=>absurd aa (by decide+kernel),fun _ v al=>(by cases al),fun aa=>absurd aa (by decide+kernel),by simp[ix,kl]⟩;have:=J7 ch (by show ai [[1,0,0,1],[1,0,0,1],[1,1],[1,1],[1,0,1],[1,0,1],[1,0,1],[1,0,1]] [] [_] [.or (.a8 .x (.k 11)) (.a8 .x (.k 5))] (.or (.aA (.ax .o .x) (.au .x .F)) (.aA (.ax .K .x) (.au .x .D))) ah ak) be;have e:qw k++pv "none" []=[k]++[]:=by rcases ak with rfl|rfl<;>decide+kernel
 rw[e]at this;show this
end
section
def bc(j H:ae):Prop:=j.length≤H.length∧∀k,k<j.length→H[k]?=j[k]?
theorem bc.refl(j:ae):bc j j:=⟨cm _,fun _ _=>rfl⟩
theorem bc.bF{j H:ae}(h:bc j H)(c:Nat):aO c j H:=⟨h.1,fun k _ ak=>h.2 k ak⟩
theorem bc.trans{a b c:ae}(x:bc a b)(y:bc b c):bc a c:=⟨c6 x.1 y.1,fun k h=>(y.2 k (jV h x.1)).trans (x.2 k h)⟩
theorem bc.push(j:ae)(l:List aI):bc j (j++l):=⟨by simp,fun _ h=>List.getElem?_append_left h⟩
theorem bc.set{j H:ae}(x:bc j H){k:Nat}(ak:j.length≤k)(o:aI):bc j (H.set k o):=⟨by rw[List.length_set];show x.1,fun af h=>by rw[eP (by show qg ak h)];show x.2 af h⟩
theorem bc.get{j H:ae}(x:bc j H){k:Nat}{o:aI}(h:j[k]?=some o):H[k]?=some o:=(x.2 k (kc h)).trans h
theorem aO.bA{c:Nat}{j H:ae}(h:aO c j H)(Z:j.length≤c):bc j H:=⟨h.1,fun k ak=>h.2 k (by show yw Z ak) ak⟩
theorem aO.new{c b:Nat}{j fd pm:ae}(h:aO b j fd)(O:aO c fd pm)(Z:j.length≤c):aO b j pm:=⟨c6 h.1 O.1,fun k ak V=>(O.2 k (by show yw Z V) (jV V h.1)).trans (h.2 k ak V)⟩
def cn(k:Nat)(j:ae):Prop:=∃s:Int,j[k]?=some (.list [.int s])
theorem cn.bF{k c:Nat}{j H:ae}(h:cn k j)(f:aO c j H)(Z:k≠c):cn k H:=⟨h.choose,f.get h.choose_spec Z⟩
theorem cn.bA{k:Nat}{j H:ae}(h:cn k j)(f:bc j H):cn k H:=⟨h.choose,f.get h.choose_spec⟩
theorem cn.lt{k:Nat}{j:ae}(h:cn k j):k<j.length:=kc h.choose_spec
section
variable{N:Nat}{sa:Addr}{ns:List Int}{d:Nat}{j:ae}{k:Nat}{Q:ag→ae→Prop}{X:Nat→ae→Prop}
theorem J6{P:aY}{a b:a0}{z:aq}{l:List Int}(ds:∀Q,wp P a z j Q X=Q (.ref k) j)(Y:∀Q,wp P b z j Q X=Q (.ref j.length) (j++[.list []]))(h:j[k]?=some (.list (l.map .int)))(ne:Q (.bool (!l.isEmpty)) (j++[.list []])):wp P (.aQ .NotEq a b) z j Q X:=by show oa ?_;rw[ds,Y,Ia (hY h _) (bG j _)];show ne
theorem Ie{l:List Int}(h:j[k]?=some (.list (l.map .int)))(V:l.length<1000)(q:∀(af:Nat)(s0:List Int)(H:ae),aO k j H→H[k]?=some (.list (s0.map .int))→s0.length≤l.length→j.length≤af→cn af H→Q (.ref af) H):W (run a_ N sa ns (d+1) 540 [.ref k] j) Q X:=by
 show bQ (f:=z9) rfl rfl ?_;show J6 (fun _=>rfl) (fun _=>rfl) h ?_;have I:(j++[aI.list []])[k]?=some (.list (l.map .int)):=hY h _;clear h;cases l with
 |nil=>show q _ [] _ ((aO.push k j _).trans (aO.push k _ _)) (hY I _) (cm _) (by simp) ⟨0,bG _ _⟩
 |cons s r=>
  show⟨(gU I).2.2,?_⟩;show(?_:W (cJ _ (.ref k) .gn [.int 0] (j++[.list []])) _ _);have e:∀P,cJ P (.ref k) .gn [.int 0] (j++[.list []])=.ok (.int s) ((j++[aI.list []]).set k (aI.list (r.map .int))):=fun P=>by show(nc I).trans (aF (by rw[hF]at V;rw[bD];unfold aP;show ai [[1,1]] [_] [] [.lt (.a .x .l) .R] (.lt (.a .x .l) .L) ah V))
  rw[e];show W.dA ?_;show q _ r _ (((aO.push k j _).trans (aO.set k _ _)).trans (aO.push k _ _)) (hY (eu I) _) (by simp) (by simp) ⟨s,bG _ _⟩
theorem IB{m:Int}(h:cn k j)(ac:0<m∧m<2^100)(q:∀r H,0≤r→r<m→aO k j H→cn k H→Q (.int r) H):W (run a_ N sa ns (d+1) 547 [.ref k,.int m] j) Q X:=by
 show b6 h fun s h=>?_;have WP:dj j (.ref k) (.int 0)=some (.int s):=by rw[rH h];rfl
 have mr:cj .Mod (.int s) (.int m) j=.ok (.int (s.fmod m)) j:=by show ll (aF ⟨by show ai [[1,0,1]] [] [_] [.aA (.au .o .x) (.au .x .B)] (.aK (.a8 .x .o)) ah ac,by show ai [[1,0,1,0,0,1],[0,1,0,0,1]] [_] [_] [.aA (.au .o .x) (.au .x .B),.ab .x .x] (.lt .x (.n 1267650600228229401496703205376)) ah ac (uI _)⟩)
 have AR:cj .FloorDiv (.int s) (.int m) j=.ok (.int (s.fdiv m)) j:=by show ll (aF ⟨by show ai [[1,0,1]] [] [_] [.aA (.au .o .x) (.au .x .B)] (.aK (.a8 .x .o)) ah ac,by show ai [[1,0,1,0,0,1],[0,1,0,0,1]] [_] [_] [.aA (.au .o .x) (.au .x .B),.ab .x .x] (.lt .x (.n 1267650600228229401496703205376)) ah ac (uI _)⟩)
 have Bh:rr j (.ref k) (.int 0) (.int (s.fdiv m))=some (j.set k (.list [.int (s.fdiv m)])):=by rw[IJ h (by decide:1<aP)];rfl
 show bQ (f:=Aa) rfl rfl ?_;show b3 WP ?_;show(?_:W (cj .Mod (.int s) (.int m) j) _ _);rw[mr];show W.dA ?_;show b3 WP ?_;show(?_:W (cj .FloorDiv (.int s) (.int m) j) _ _);rw[AR];show W.dA ?_;show cN (v:=j.set k (.list [.int (s.fdiv m)])) Bh ?_;show q _ _ (Int.fmod_nonneg_of_pos _ ac.1) (Int.fmod_lt_of_pos _ ac.1) (aO.set k j _) ⟨_,eu h⟩
end
end
section
section
variable{N:Nat}{sa:Addr}{ns:List Int}{d:Nat}{j:ae}{k:Nat}{Q:ag→ae→Prop}{X:Nat→ae→Prop}
theorem fg{as:b5}{z:aq}{m:Int}(h:cn k j)(ac:0<m∧m<2^100)(ad:∀Q,cR (b9 N sa ns (d+1)) as z j Q X=Q [.ref k,.int m] j)(q:∀r H,0≤r→r<m→aO k j H→cn k H→Q (.int r) H):wp (b9 N sa ns (d+1)) (.call (.aC (.fn 547)) as) z j Q X:=iL ad rfl rfl (IB h ac q)
theorem Dk{j:ae}{af:Nat}{l:List Int}{i:Int}(h:j[af]?=some (.list (l.map .int)))(V:l.length<1000)(am:0≤i)(I:i<l.length):∃v,v∈l∧l[i.toNat]?=some v∧dj j (.ref af) (.int i)=some (.int v):=by
 have m0:i.toNat<l.length:=by show ai [[1,0,1,0,1],[1,0,1,0,1,1]] [_,_] [_] [.ax .o .x,.au .x (.c .y),.cz .x .x] (.lt .x .y) ah am I (cS _)
 show iv l[i.toNat] (List.getElem_mem m0) (gx m0) ?_;show(rH h).trans ((rG (by rw[bD];unfold aP;show rU V) am (by rw[bD];show I)).trans (eQ.trans (congrArg (Option.map _) (gx m0))))
theorem xP{j:ae}{l:List Int}{i:Int}(V:l.length<1000)(am:0≤i)(I:i<l.length):∃v,v∈l∧dj j (.av (l.map .int)) (.int i)=some (.int v):=by
 have m0:i.toNat<l.length:=by show ai [[1,0,1,0,1],[1,0,1,0,1,1]] [_,_] [_] [.ax .o .x,.au .x (.c .y),.cz .x .x] (.lt .x .y) ah am I (cS _)
 show b' l[i.toNat] (List.getElem_mem m0) ?_;show((rG (by rw[bD];unfold aP;show rU V) am (by rw[bD];show I)).trans (eQ.trans (congrArg (Option.map _) (gx m0))))
theorem x5{P:aY}{a i:a0}{x:ag}{z:aq}{j fd:ae}{Q:ag→ae→Prop}{X:Nat→ae→Prop}(ds:∀Q,wp P a z j Q X=Q x fd)(an:wp P i z fd (fun af j=>bg (dj j x af) fun v=>Q v j) X):wp P (.sub a i) z j Q X:=by show uA ?_;rw[ds];show an
noncomputable def vq:List Int:=[63,64,127,128,8191,8192,16383,16384]
noncomputable def vp:List Int:=[63,64,-64,-65,8191,8192,-8192,-8193]
theorem BN(h:cn k j)(q:∀v H,gC v→aO k j H→cn k H→Q (.int v) H):W (run a_ N sa ns (d+2) 561 [.ref k] j) Q X:=by
 show bQ (f:=z6) rfl rfl ?_;show fg (m:=3) h (by show oo) (fun _=>rfl) fun r fd am I ch a1=>?_;show cP (e6 fd r 0) ?_ (fun _=>rfl) (fun _=>rfl);cases Y:(r==0)with
 |true=>show fg (m:=5) a1 (by show ai [[1],[1]] [] [] [] (.aA (.au .o (.k 5)) (.au (.k 5) .B)) ah) (fun _=>rfl) fun v pm am I ty xz=>?_;show q v pm ⟨am,by show ai [[1,1]] [] [_] [.au .x (.k 5)] (.au .x .A) ah I⟩ (ch.trans ty) xz
 |false=>
  show cP (e6 fd r 1) ?_ (fun _=>rfl) (fun _=>rfl);cases wl:(r==1)with
  |true=>
   show x5 (x:=.ref fd.length) (fd:=fd++[.list (vq.map .int)]) (fun _=>rfl) ?_;have be:=bG fd (.list (vq.map .int));show fg (m:=8) (a1.bA (bc.push fd _)) (by show ai [[1],[1]] [] [] [] (.aA (.au .o (.k 8)) (.au (.k 8) .B)) ah) (fun _=>rfl) fun v pm am I ty xz=>?_;have dl:=ty.get be (by have:=a1.lt;show hG this);show eA (Dk dl (by decide) am (by simpa[vq]using I)) fun w f0 _ e=>?_;show b3 e ?_;have:∀w∈vq,gC w:=by unfold gC;decide
   show q w pm (this w f0) (ch.trans ((aO.push k fd _).trans ty)) xz
  |false=>show fg (m:=2^32) a1 (by show ai [[1],[1]] [] [] [] (.aA (.au .o .A) (.au .A .B)) ah) (fun _=>rfl) fun v pm am I ty xz=>?_;show q (2^32-1-v) pm ⟨by show ai [[1,1]] [] [_] [.au .x .A] (.ax .o (.s (.s .A .l) .x)) ah I,by show ai [[1,1]] [] [_] [.ax .o .x] (.au (.s (.s .A .l) .x) .A) ah am⟩ (ch.trans ty) xz
theorem Jd{ce:Nat}(sO:ce=32∨ce=64)(h:cn k j)(q:∀v H,(-(2^(ce-1))≤v∧v<2^(ce-1))→aO k j H→cn k H→Q (.int v) H):W (run a_ N sa ns (d+2) 568 [.ref k,.int ce] j) Q X:=by
 have wa:∀v:Int,-8193≤v→v≤8192→(-(2^(ce-1))≤v∧v<2^(ce-1)):=by intro v I O;clear q;rcases sO with rfl|rfl<;>show⟨g9 (by decide) I,Int.lt_of_le_of_lt O (by decide)⟩
 show bQ (f:=Ae) rfl rfl ?_;show fg (m:=3) h (by show oo) (fun _=>rfl) fun r fd am I ch a1=>?_;show cP (e6 fd r 0) ?_ (fun _=>rfl) (fun _=>rfl);cases Y:(r==0)with
 |true=>show fg (m:=5) a1 (by show ai [[1],[1]] [] [] [] (.aA (.au .o (.k 5)) (.au (.k 5) .B)) ah) (fun _=>rfl) fun v pm am I ty xz=>?_;show q (v-2) pm (wa _ (by show ai [[1,1]] [] [_] [.ax .o .x] (.ax (.af 8192) (.s .x (.k 2))) ah am) (by show ai [[1,1]] [] [_] [.au .x (.k 5)] (.ax (.s .x (.k 2)) (.k 8192)) ah I)) (ch.trans ty) xz
 |false=>
  show cP (e6 fd r 1) ?_ (fun _=>rfl) (fun _=>rfl);cases wl:(r==1)with
  |true=>
   show x5 (x:=.ref fd.length) (fd:=fd++[.list (vp.map .int)]) (fun _=>rfl) ?_;have be:=bG fd (.list (vp.map .int));show fg (m:=8) (a1.bA (bc.push fd _)) (by show ai [[1],[1]] [] [] [] (.aA (.au .o (.k 8)) (.au (.k 8) .B)) ah) (fun _=>rfl) fun v pm am I ty xz=>?_;have dl:=ty.get be (by have:=a1.lt;show hG this);show eA (Dk dl (by decide) am (by simpa[vp]using I)) fun w f0 _ e=>?_;show b3 e ?_;have:∀w∈vp,-8193≤w∧w≤8192:=by decide
   show q w pm (wa w (this w f0).1 (this w f0).2) (ch.trans ((aO.push k fd _).trans ty)) xz
  |false=>
   have cd:∀s:ae,cj .Pow (.int 2) (.int ce) s=.ok (.int (2^ce)) s:=fun s=>by show ll (aF ⟨by show lW,by show ai [[1,1],[1,1]] [_] [] [.or (.eq .x (.n 32)) (.eq .x (.n 64))] (.ax (.c .x) (.k 1000)) ah sO,by decide⟩)
   have ex:∀s:ae,cj .Pow (.int 2) (.int ((ce:Int)-1)) s=.ok (.int (2^(ce-1))) s:=fun s=>by have h:tn .Pow 2 ((ce:Int)-1)=some (2^((ce:Int)-1).toNat):=aF ⟨by show ai [[1,0,1],[1,0,1]] [_] [] [.or (.eq .x (.n 32)) (.eq .x (.n 64))] (.ax .o (.s (.c .x) .l)) ah sO,by show ai [[1,1],[1,1]] [_] [] [.or (.eq .x (.n 32)) (.eq .x (.n 64))] (.ax (.s (.c .x) .l) (.k 1000)) ah sO,by decide⟩;rw[show((ce:Int)-1).toNat=ce-1 by show ai [[1,0,1,0,0,0,1],[1,0,1,0,1],[1,0,1],[1,0,1],[1,0,0,1,0,1],[1,0,0,0,0,1],[1,1,0,0,0,1],[1,0,0,0,0,1]] [_,_,_] [] [.cz .x (.s (.c .aa) .l),.cG .y .aa .l] (.eq .x .y) ah (cS _) (cy _ _)]at h;show ll h
   have pg:(0:Int)<2^ce∧(2:Int)^ce<2^100∧(2:Int)^ce=2^(ce-1)+2^(ce-1):=by rcases sO with rfl|rfl<;>decide
   show fg (m:=2^ce) a1 ⟨pg.1,pg.2.1⟩ (fun Q=>?_) fun v pm am I ty xz=>?_;·show(?_:W (cj .Pow (.int 2) (.int ce) fd) _ _=_);rw[cd];rfl
   ·show(?_:W (cj .Pow (.int 2) (.int ((ce:Int)-1)) pm) _ _);rw[ex];show q (v-2^(ce-1)) pm ⟨by show ai [[1,1]] [] [_,_] [.ax .o .y] (.ax (.g .x) (.s .y .x)) ah am,by show ai [[1,1,0,0,1]] [] [_,_,_] [.aA (.au .o .aa) (.aA (.au .aa .B) (.a8 .aa (.a .y .y))),.au .x .aa] (.au (.s .x .y) .y) ah pg I⟩ (ch.trans ty) xz
theorem Hy(h:cn k j)(q:∀v H,v∈gS→aO k j H→cn k H→Q (.int v) H):W (run a_ N sa ns (d+2) 575 [.ref k] j) Q X:=by show bQ (f:=z8) rfl rfl ?_;show fg (m:=4) h (by show ai [[1],[1]] [] [] [] (.aA (.au .o (.k 4)) (.au (.k 4) .B)) ah) (fun _=>rfl) fun r fd am I ch a1=>?_;show aW (xP (j:=fd) (l:=gS) (by decide) am (by simpa[gS]using I)) fun w f0 e=>?_;show b3 e ?_;show q w fd f0 ch a1
theorem L2(h:cn k j)(q:∀v H,(v=-64∨v∈gS∨gC v)→aO k j H→cn k H→Q (.int v) H):W (run a_ N sa ns (d+3) 582 [.ref k] j) Q X:=by
 show bQ (f:=z1) rfl rfl ?_;show fg (d:=d+1) (m:=3) h (by show oo) (fun _=>rfl) fun r fd am I ch a1=>?_;show cP (e6 fd r 0) ?_ (fun _=>rfl) (fun _=>rfl);cases Y:(r==0)with
 |true=>show q (-64) fd (.inl rfl) ch a1
 |false=>
  show cP (e6 fd r 1) ?_ (fun _=>rfl) (fun _=>rfl);cases wl:(r==1)with
  |true=>show Hy a1 fun v pm al ty xz=>q v pm (.inr (.inl al)) (ch.trans ty) xz
  |false=>show BN a1 fun v pm al ty xz=>q v pm (.inr (.inr al)) (ch.trans ty) xz
theorem vh{f:ag→ae→aG ag}{l:List ag}{Q:Unit→ae→Prop}(ok:Int→Prop)(bv:1000≤N)(V:l.length<900)(h:cn k j)(NA:∀x H(qh:ag→ae→Prop),cn k H→(∀v H1,ok v→aO k H H1→cn k H1→qh (.int v) H1)→W (f x H) qh X)(q:∀(vs:List Int)(H:ae),aO k j H→cn k H→H[j.length]?=some (.list (vs.map .int))→vs.length=l.length→(∀v∈vs,ok v)→Q () H):W (gG f j.length (.all l) N 0 (j++([.list []]:ae))) Q X:=by
 have ak:=h.lt;show so (l:=l) (fun i H=>∃vs:List Int,vs.length=i∧aO k j H∧cn k H∧H[j.length]?=some (.list (vs.map .int))∧∀v∈vs,ok v) (fun i H _=>rfl) (fun i x H ga ad=>?_) (fun H ga=>?_) N 0 _ ⟨[],rfl,aO.push k j _,h.bA (bc.push j _),bG j _,fun v al=>by cases al⟩ (e0 _) (by show ai [[1,0,1,0,1,1],[1,0,1,0,0,1]] [_,_,_] [] [.le .R .y,.lt .aa .T,.cG .x .aa .o] (.lt .x .y) ah bv V (cy _ _))
 ·show aX fun _ done=>?_;show Fh ga fun vs nb ch a1 Z ev=>?_;have m0:=(c7.mp ad).1;show done ?_;show NA x H _ a1 fun v H1 al ty xz=>?_;have o2:=ty.get Z (by show hG ak);show cN (v:=H1.set j.length (.list (vs.map .int++[.int v]))) ?_ ?_;·show tY o2 (by simp only[bD];show ai [[1,1,1,0,1]] [_,_,_] [] [.lt .y .T,.eq .x .aa,.lt .aa .y] (.lt .x .L) ah V nb m0)
  ·show Un (vs++[v]) (by simp[nb]) ((ch.trans ty).iC (cm _) _) (xz.bF (aO.set j.length H1 _) (by show yd ak)) ?_ (fun w f0=>?_);·rw[eu o2];simp
   ·rcases List.mem_append.mp f0 with f0|f0
    ·show ev w f0
    ·obtain rfl:=ee.mp f0;show al
 ·show Fh ga fun vs nb ch a1 Z ev=>?_;show q vs H ch a1 Z nb ev
end
end
section
noncomputable def T5:List Lt:=[.u,.a,.i,.l,.b,.r,.k,.t,.aa]
theorem HS(c:Lt):T5.find? (fun x=>x.s==c.s)=some c:=by cases c<;>rfl
theorem gT{c h0:Lt}(h:(c.s==h0.s)=true):c=h0:=bx ((HS c).symm.trans (dw.mp h▸HS h0))
theorem HT(c:Lt):PyData.strOk c.s=true:=by cases c<;>show bU _
section
variable{N:Nat}{sa:Addr}{ns:List Int}{d:Nat}{j:ae}{k:Nat}{Q:ag→ae→Prop}{X:Nat→ae→Prop}
theorem H2{r:Int}(am:0≤r)(I:r<3)(s:ae):∃m:Nat,m≤2∧cj .Mod (.int (1+r)) (.int 3) s=.ok (.int m) s:=by
 have e:cj .Mod (.int (1+r)) (.int 3) s=.ok (.int ((1+r).fmod 3)) s:=by rfl
 show b' (((1+r).fmod 3).toNat) (Int.toNat_le.mpr (Int.le_of_lt_add_one (Int.fmod_lt_of_pos _ (by decide)))) ?_;rw[e];congr 2;show(Int.toNat_of_nonneg (Int.fmod_nonneg_of_pos _ (by decide))).symm
theorem rE{n:Nat}(h:n<900)(s:ae):d6 s true (.int n)=some (.all ((List.range n).map fun(i:Nat)=>ag.int i)):=by show Jt (by unfold aP;show ai [[1,1],[1]] [_] [] [.lt .x .T] (.aA (.au (.c .x) (.c .L)) (.au (.g (.c .L)) (.c .x))) ah h)
theorem dh{op:Operator}{x y v:ag}{j H:ae}(ar:cj op x y j=.ok v H)(h:Q v H):W (cj op x y j) Q X:=by rw[ar];show h
theorem add_int(a b:Int)(j:ae):cj .Add (.int a) (.int b) j=.ok (.int (a+b)) j:=rfl
theorem XO{P:aY}{c:a0}{z:aq}(D1:ae→Prop)(Z:∀Q:ag→ae→Prop,(∀r H,0≤r→r<3→D1 H→Q (.int r) H)→wp P c z j Q X)(q:∀(m:Nat) H,1≤m→m≤3→D1 H→Q (.int m) H):wp P (.aV .Add (.aC (.int 1)) (.aV .Mod (.aV .Add (.aC (.int 1)) c) (.aC (.int 3)))) z j Q X:=by show Z _ fun r H am I be=>?_;show aW (H2 am I H) fun m ac e=>?_;show dh (add_int 1 r H) ?_;show el (dh e ?_);show dh (add_int 1 m H) ?_;have:=q (1+m) H (by show ai [[1]] [_] [] [] (.le .l (.a .l .x)) ah) (by show ai [[1,1]] [_] [] [.le .x .b] (.le (.a .l .x) .c) ah ac) be;show this
theorem rm{v:Int}{fd:ae}{c:Lt}(a1:cn k fd)(ch:aO k j fd)(al:d4 c [v])(q:∀(af:Nat)(ns:List Int)(H:ae),d4 c ns→aO k j H→cn k H→j.length≤af→H[af]?=some (.list (ns.map .int))→Q (.ref af) H):W (es [.int v] fd) Q X:=by show q _ [v] _ al (ch.trans (aO.push k fd _)) (a1.bA (bc.push fd _)) ch.1 (bG fd _)
theorem Te{z:aq}(bv:1000≤N)(h:cn k j)(AN:e5 z [(3,0)] (List.replicate 4 none)=[none,none,none,some (.ref k)])(ad:∀Q,cR (b9 N sa ns (d+3)) (.cons (.aw 0) (.cons (.aC (.int 3)) .nil)) z j Q X=Q [.ref k,.int 3] j)(q:∀(af:Nat)(ns:List Int)(H:ae),d4 .t ns→aO k j H→cn k H→j.length≤af→H[af]?=some (.list (ns.map .int))→Q (.ref af) H):wp (b9 N sa ns (d+3)) (.comp (.call (.aC (.fn 561)) (.cons (.aw 3) .nil)) [1] (.aV .Add (.aC (.int 1)) (.aV .Mod (.aV .Add (.aC (.int 1)) (.call (.aC (.fn 547)) (.cons (.aw 0) (.cons (.aC (.int 3)) .nil)))) (.aC (.int 3)))) true 4 [(3,0)]) z j Q X:=by
 show Dx AN rfl ?_;show XO (fun H=>aO k j H∧cn k H) (fun Q ne=>fg (d:=d+2) (m:=3) h (by show oo) ad fun v fd am I ch a1=>ne v fd am I ⟨ch,a1⟩) fun m fd Ri Bb be=>?_;have Pi:=rE (n:=m) (by show ai [[1,1]] [_] [] [.le .x .c] (.lt .x .T) ah Bb) fd;rw[Pi];have ch:=be.1;have a1:=be.2;show vh (fun v=>gC v) bv (by simp;show ai [[1,1]] [_] [] [.le .x .c] (.lt .x .T) ah Bb) a1 (fun x H qh fY pL=>?_) fun vs H e_ fY Z V al=>?_;·show cQ _ ?_;show iL (a:=561) (xs:=[.ref k]) (fun _=>rfl) rfl rfl ?_;show BN (d:=d+1) fY pL
 ·show q _ vs H ⟨by rw[V];simp;show ai [[1,1]] [_] [] [.le .l .x] (.le .l .x) ah Ri,by rw[V];simp;show ai [[1,1]] [_] [] [.le .x .c] (.le .x .c) ah Bb,al⟩ (ch.trans e_) fY ch.1 Z
theorem UR{c:Lt}(bv:1000≤N)(h:cn k j)(q:∀(af:Nat)(ns:List Int)(H:ae),d4 c ns→aO k j H→cn k H→j.length≤af→H[af]?=some (.list (ns.map .int))→Q (.ref af) H):W (run a_ N sa ns (d+4) 587 [.ref k,.str c.s] j) Q X:=by
 have ev:=HT c;show bQ (f:=vD) rfl rfl ?_;unfold vD;show df ?_;show fE rfl ev (bU _) (fun gJ=>?_) fun gJ=>?_;·obtain rfl:=gT (h0:=.u) gJ;show iL (a:=561) (xs:=[.ref k]) (fun _=>rfl) rfl rfl ?_;show BN (d:=d+1) h fun v fd al ch a1=>?_;show rm (X:=X) (c:=.u) a1 ch ⟨v,rfl,al⟩ q
 show ek (df ?_);show fE rfl ev (bU _) (fun wl=>?_) fun wl=>?_;·obtain rfl:=gT (h0:=.a) wl;show fg (d:=d+2) (m:=32) h (by show ai [[1],[1]] [] [] [] (.aA (.au .o (.k 32)) (.au (.k 32) .B)) ah) (fun _=>rfl) fun v fd am I ch a1=>?_;show rm (X:=X) (c:=.a) a1 ch ⟨v,rfl,am,I⟩ q
 show ek (df ?_);show fE rfl ev (bU _) (fun wv=>?_) fun wv=>?_;·obtain rfl:=gT (h0:=.i) wv;show iL (a:=568) (xs:=[.ref k,.int 32]) (fun _=>rfl) rfl rfl ?_;show Jd (d:=d+1) (ce:=32) (.inl rfl) h fun v fd al ch a1=>?_;show rm (X:=X) (c:=.i) a1 ch ⟨v,rfl,al⟩ q
 show ek (df ?_);show fE rfl ev (bU _) (fun FS=>?_) fun FS=>?_;·obtain rfl:=gT (h0:=.l) FS;show iL (a:=568) (xs:=[.ref k,.int 64]) (fun _=>rfl) rfl rfl ?_;show Jd (d:=d+1) (ce:=64) (.inr rfl) h fun v fd al ch a1=>?_;show rm (X:=X) (c:=.l) a1 ch ⟨v,rfl,al⟩ q
 show ek (df ?_);show fE rfl ev (bU _) (fun e8=>?_) fun e8=>?_;·have KE:=gT (h0:=.r) e8;clear wl wv FS e8;obtain rfl:=KE;show x5 (x:=.av ([(-16:Int),-17].map .int)) (fd:=j) (fun _=>rfl) ?_;show fg (d:=d+2) (m:=2) h (by show rV) (fun _=>rfl) fun v fd am I ch a1=>?_;show aX fun _ done=>?_;show aW (xP (j:=fd) (l:=[(-16:Int),-17]) (by decide) am (I)) fun w f0 e=>?_;show done ?_;show b3 e ?_;show rm (X:=X) (c:=.r) a1 ch ⟨w,rfl,by simpa using f0⟩ q
 show ek (df ?_);show fE rfl ev (bU _) (fun e9=>?_) fun e9=>?_;·have KE:=gT (h0:=.b) e9;clear wv FS e8 e9;obtain rfl:=KE;show iL (a:=582) (xs:=[.ref k]) (fun _=>rfl) rfl rfl ?_;show L2 (d:=d) h fun v fd al ch a1=>?_;show rm (X:=X) (c:=.b) a1 ch ⟨v,rfl,al⟩ q
 show ek (df ?_);show fE rfl ev (bU _) (fun fT=>?_) fun fT=>?_
 ·have KE:=gT (h0:=.k) fT;clear ev gJ wl wv FS e8 e9 fT;obtain rfl:=KE;show⟨rfl,?_⟩;show fg (d:=d+2) (m:=3) h (by show oo) (fun _=>rfl) fun v fd am I ch a1=>?_;show aX fun _ done=>?_;show aW (H2 am I fd) fun m ac e=>?_;show done ?_;show dh (v:=.int (1+v)) (H:=fd) rfl ?_;show el (dh e ?_);have Pi:=rE (n:=m) (by show ym ac) fd;rw[Pi];show vh (fun v=>v∈gS) bv (by simp;show ym ac) a1 (fun x H qh fY pL=>?_) fun vs H e_ fY Z V al=>?_;·show cQ _ ?_;show iL (a:=575) (xs:=[.ref k]) (fun _=>rfl) rfl rfl ?_;show Hy (d:=d+1) fY pL
  ·show q _ vs H ⟨by rw[V];simp;show ai [[1,1]] [_] [] [.le .x .b] (.le .x .b) ah ac,al⟩ (ch.trans e_) fY ch.1 Z
 show ek (df ?_);show fE rfl ev (bU _) (fun oX=>?_) fun oX=>?_;·have KE:=gT (h0:=.t) oX;clear ev gJ wl wv FS e8 e9 fT oX;obtain rfl:=KE;show Te (d:=d) bv h rfl (fun _=>rfl) q
 show df ?_;have lm:c=.aa:=by clear q ev;cases c<;>first|rfl|show absurd gJ (by decide+kernel)|show absurd wl (by decide+kernel)|show absurd wv (by decide+kernel)|show absurd FS (by decide+kernel)|show absurd e8 (by decide+kernel)|show absurd e9 (by decide+kernel)|show absurd fT (by decide+kernel)|show absurd oX (by decide+kernel)
 clear wl wv FS e8 e9 fT oX;subst lm;show q _ [] _ rfl (aO.push k j _) (h.bA (bc.push j _)) (cm _) (bG j _)
end
end
section
theorem Iv{n:Nat}(h:n≤10):(bJ n).natAbs<2^100:=by
 have I:=ro h;have O:=xm n;have:bJ 10=1180591620717411303424:=by decide
 show ai [[1,0,1,0,1,0,0,1],[0,1,0,0,0,0,1]] [_] [_,_] [.ax .x .y,.au .o .x,.a8 .y (.k 1180591620717411303424),.ab .x .x] (.lt .x (.n 1267650600228229401496703205376)) ah I O this (uI _)
theorem PT:∀(n:Nat)(v:Int)(i:Nat),i<n→(eC n v)[i]?=some (v/bJ i%128+if i+1<n then 128 else 0):=by
 intro ca;induction ca with
 |zero=>intro sK Ev h;show absurd h (Nat.not_lt_zero _)
 |succ mY ap=>
  intro v FM h;cases mY with
  |zero=>
   cases FM with
   |zero=>have:bJ 0=1:=rfl;simp[qM,qL,nx,this]
   |succ i=>show absurd h (by show ai [[1]] [_] [] [] (.aK (.lt (.a .x .l) .l)) ah)
  |succ n=>
   cases FM with
   |zero=>have:bJ 0=1:=rfl;simp[qM,qL,nx,this]
   |succ i=>
    have ap:=ap (v/128) i (by show ai [[1,1]] [_,_] [] [.lt (.a .x .l) (.a .y .b)] (.lt .x (.a .y .l)) ah h);rw[nx,List.getElem?_cons_succ,ap,hX,←Int.ediv_ediv_of_nonneg (by decide)];congr 2;by_cases O:i+1<n+1;·rw[aF O,aF (by show ai [[1,1]] [_,_] [] [.lt (.a .x .l) (.a .y .l)] (.lt (.a (.a .x .l) .l) (.a .y .b)) ah O)]
    ·rw[aM O,aM (by show ai [[1,1]] [_,_] [] [.aK (.lt (.a .x .l) (.a .y .l))] (.aK (.lt (.a (.a .x .l) .l) (.a .y .b))) ah O)]
section
variable{N:Nat}{sa:Addr}{ns:List Int}{d:Nat}{j:ae}{Q:ag→ae→Prop}{X:Nat→ae→Prop}
theorem DF{P:aY}{u8 tt:a0}{t:List Nat}{bW:Bool}{n:Nat}{ut:List (Nat×Nat)}{z:aq}{fd:ae}(v:ag)(db:d8)(hd:P.hd=true)(k':∀Q,wp P tt z j Q X=Q v fd)(Pi:d6 fd bW v=some db)(h:W (gG (fun(x:ag)(j:ae)=>bL (dY (e5 z ut (List.replicate n none)) t x) fun f4=>den P u8 f4 j) fd.length db P.N 0 (fd++([.list []]:ae))) (fun _ H=>Q (.ref fd.length) H) X):wp P (.comp u8 t tt bW n ut) z j Q X:=by show⟨hd,?_⟩;rw[k',Pi];show h
theorem C0{n:Nat}(h:n≤10)(s:ae):cj .Pow (.int 128) (.int n) s=.ok (.int (bJ n)) s:=by show ll (aF ⟨by show lW,by show ai [[1,1]] [_] [] [.le .x .W] (.ax (.c .x) (.k 1000)) ah h,by decide⟩)
theorem F5{v:Int}{n:Nat}{Op:ag}(nO:Op=.int n)(bv:1000≤N)(bi:n≤10)(q:∀(af:Nat)(H:ae),bc j H→j.length≤af→H[af]?=some (.list ((eC n v).map .int))→Q (.ref af) H):W (run a_ N sa ns (d+1) 592 [.int v,Op] j) Q X:=by
 have Pi:=rE (n:=n) (by show uY bi) j;have WP:∀H:ae,cj .Sub (.int n) (.int 1) H=.ok (.int ((n:Int)-1)) H:=fun _=>rfl;rw[←nO]at Pi;rw[←nO]at WP;show bQ (f:=z5) rfl rfl ?_;show rB (DF Op _ rfl (fun _=>rfl) Pi ?_);show so (l:=(List.range n).map fun(i:Nat)=>ag.int i) (fun i H=>bc j H∧H[j.length]?=some (.list (((eC n v).take i).map .int))) (fun i H _=>rfl) (fun i x H ga ad=>?_) (fun H ga=>?_) N 0 _ ⟨bc.push j _,bG j _⟩ (e0 _) (by rw[bD,List.length_range];show ai [[1,0,1,0,1,1],[1,0,1,0,0,1]] [_,_,_] [] [.le .R .y,.le .aa .W,.cG .x .aa .o] (.lt .x .y) ah bv bi (cy _ _))
 ·have f0:=ga.1;have Z:=ga.2;have an:i<n:=by simpa using(c7.mp ad).1
  have R8:x=.int i:=by rw[eQ,List.getElem?_range an]at ad;injection ad with ad;show ad.symm
  clear Pi ga ad;subst R8;have pp:=PT n v i an;show cQ _ ?_;show dh (C0 (by show ai [[1,1,1]] [_,_] [] [.le .y .W,.lt .x .y] (.le .x .W) ah bi an) H) ?_;have AR:cj .FloorDiv (.int v) (.int (bJ i)) H=.ok (.int (v/bJ i)) H:=by show N0 ⟨by have:=xm i;show ai [[1,0,1]] [] [_] [.au .o .x] (.aK (.a8 .x .o)) ah this,Iv (by show ai [[1,1,1]] [_,_] [] [.le .y .W,.lt .x .y] (.le .x .W) ah bi an)⟩ (fw (xm i))
  show dh AR ?_;show el ?_;have mr:cj .Mod (.int (v/bJ i)) (.int 128) H=.ok (.int (v/bJ i%128)) H:=by show Oa ⟨by decide,by decide⟩ (Int.fmod_eq_emod_of_nonneg _ (by decide))
  show dh mr ?_;have key:∀b:Int,b=(if i+1<n then 128 else 0)→ff (lD j.length (.int (v/bJ i%128+b)) H) fun H=>bc j H∧H[j.length]?=some (.list (((eC n v).take (i+1)).map .int)):=by
   rintro b rfl;show cN (v:=H.set j.length (.list (((eC n v).take i).map .int++[.int (v/bJ i%128+if i+1<n then 128 else 0)]))) ?_ ?_;·show tY Z (by rw[bD];show hE (c6 (kF _ _) (by rw[mb];show bi)) (by decide))
   ·show⟨f0.set (cm _) _,?_⟩;rw[eu Z,List.take_add_one,pp];simp
  have QC:cC .Lt (.int i) (.int ((n:Int)-1)) H=some (decide ((i:Int)<(n:Int)-1)):=rfl;show cP QC ?_ (fun _=>rfl) (fun Q=>by show(?_:W (cj .Sub Op (.int 1) H) _ _=_);rw[WP];rfl);by_cases m0:i+1<n;·rw[cF (by show ai [[1,1]] [_,_] [] [.lt (.a .x .l) .y] (.au (.c .x) (.s (.c .y) .l)) ah m0)];show key 128 (by rw[aF m0])
  ·rw[cE (by show ai [[1,1]] [_,_] [] [.aK (.lt (.a .x .l) .y)] (.aK (.au (.c .x) (.s (.c .y) .l))) ah m0)];show key 0 (by rw[aM m0])
 ·have f0:=ga.1;have Z:=ga.2;show q _ H f0 (cm _) ?_;rw[bD,List.length_range,List.take_of_length_le (by rw[mb];show cm _)]at Z;show Z
end
end
section
theorem TG:∀(f:Nat)(v:Int)(af:Nat),1≤af→af<dN f v→bJ af≤v:=by
 intro ca;induction ca with
 |zero=>intro _ _ I O;simp only[w6,w7]at O;show ai [[0,1,1]] [_] [_,_] [.le .l .x,.lt .x .l] (.ax .x .y) ah I O
 |succ f ap=>
  intro v af I O;simp only[w6,w7]at O;by_cases al:v<128;·rw[aF al]at O;show ai [[0,1,1]] [_] [_,_] [.le .l .x,.lt .x .l] (.ax .x .y) ah I O
  ·rw[aM al]at O;obtain⟨i,rfl⟩:∃i,af=i+1:=⟨af-1,by show yq I (cy _ _)⟩;rw[hX];rcases Nat.eq_zero_or_pos i with rfl|an
   ·have:bJ 0=1:=rfl;show ai [[1,128,0,1]] [] [_,_] [.aK (.au .y .G),.a8 .x .l] (.ax (.e 128 .x) .y) ah al this
   ·have:=ap (v/128) i an (by show ai [[1,1]] [_,_] [] [.lt (.a .x .l) (.a .y .l)] (.lt .x .y) ah O);show ai [[1,1,0,1,0,128]] [] [_,_,_,_] [.ax .x .aa,.d 128 .aa .w .y] (.ax (.e 128 .x) .y) ah this (cI _ 128 rfl)
theorem TH{v:Int}{af:Nat}(al:v<bJ 5)(dl:1≤af):bJ af≤v↔af<dN 4 v:=by
 show⟨fun h=>?_,TG 4 v af dl⟩;have I:=HE 4 v al;show Or.elim (Nat.lt_or_ge af (dN 4 v)) (fun O=>?_) fun O=>?_;·show O
 ·have:=ro O;show ai [[0,1,1,1]] [_,_] [_,_,_] [.ax .x .y,.au .y .aa,.ax .aa .x] (.lt .x .y) ah h I this
theorem TC:∀(f:Nat)(v:Int)(af:Nat),1≤af→af<cW f v→¬(-64*bJ (af-1)≤v∧v<64*bJ (af-1)):=by
 intro ca;induction ca with
 |zero=>intro _ _ I O;simp only[w4,w5]at O;show ai [[0,0,1,1]] [_] [_,_] [.le .l .x,.lt .x .l] (.aK (.aA (.ax (.i 63 .x) .y) (.au .y (.e 64 .x)))) ah I O
 |succ f ap=>
  intro v af I O;simp only[w4,w5]at O;by_cases al:-64≤v∧v<64;·rw[aF al]at O;show ai [[0,0,1,1]] [_] [_,_] [.le .l .x,.lt .x .l] (.aK (.aA (.ax (.i 63 .x) .y) (.au .y (.e 64 .x)))) ah I O
  ·rw[aM al]at O;show Or.elim (Nat.lt_or_ge 1 af) (fun dl=>?_) fun dl=>?_;·clear I;obtain⟨i,rfl⟩:∃i,af=i+2:=⟨af-2,by show ai [[1,0,1],[1,0,1,0,1],[1,0,0,1],[1,1]] [_,_] [] [.lt .l .x,.cG .y .x .b] (.eq .x (.a .y .b)) ah dl (cy _ _)⟩;have:=ap (v/128) (i+1) (by show rT) (by show ai [[1,1]] [_,_] [] [.lt (.a .x .b) (.a .y .l)] (.lt (.a .x .l) .y) ah O);have e:i+2-1=i+1:=rfl;rw[e,hX];show ai [[1,0,0,1,0,1,128],[0,1,1,0,1,0,128]] [] [_,_,_,_] [.aK (.aA (.ax (.i 63 .x) .aa) (.au .aa (.e 64 .x))),.d 128 .aa .w .y] (.aK (.aA (.ax (.i 63 (.e 128 .x)) .y) (.au .y (.e 64 (.e 128 .x))))) ah this (cI _ 128 rfl)
   ·have:af=1:=by show ai [[1,0,1],[1,1]] [_] [] [.le .l .x,.le .x .l] (.eq .x .l) ah I dl
    clear I O dl;subst this;show ai [[1,0,1],[0,1,1]] [] [_] [.aK (.aA (.ax (.af 63) .x) (.au .x (.k 64)))] (.aK (.aA (.ax (.i 63 .l) .x) (.au .x (.e 64 .l)))) ah al
theorem TB{v:Int}{af:Nat}(al:-64*bJ 9≤v∧v<64*bJ 9)(dl:1≤af):¬(-64*bJ (af-1)≤v∧v<64*bJ (af-1))↔af<cW 9 v:=by
 show⟨fun h=>?_,TC 9 v af dl⟩;have I:=Cf 9 v al.1 al.2;show Or.elim (Nat.lt_or_ge af (cW 9 v)) (fun O=>?_) fun O=>?_;·show O
 ·have:=ro (m:=cW 9 v-1) (n:=af-1) (by show ai [[1,0,0,1,0,1,0,1],[1,0,0,0,0,1],[1,1,0,0,0,1,0,1],[1,0,0,0,0,1]] [_,_,_,_] [] [.le .aa .w,.cG .x .aa .l,.cG .y .w .l] (.le .x .y) ah O (cy _ _) (cy _ _));show ai [[0,64,1,0,1],[0,64,0,1,1]] [_,_] [_,_,_] [.aK (.aA (.ax (.i 63 .x) .y) (.au .y (.e 64 .x))),.aA (.ax (.i 63 .aa) .y) (.au .y (.e 64 .aa)),.ax .aa .x] (.lt .x .y) ah h I this
section
variable{N:Nat}{sa:Addr}{ns:List Int}{d:Nat}{j:ae}{Q:ag→ae→Prop}{X:Nat→ae→Prop}
abbrev Kl(j:ae)(v:Int)(x:Nat)(m:Nat)(z:aq)(H:ae):Prop:=H=j∧∃(af:Nat)(u w:Option ag),1≤af∧af≤dN 4 v∧m=5-af∧z=[some (.int v),some (.int x),some (.int af),u,w]
theorem HW(m a b:Nat):(if(a:Int)+(b:Int)<(m:Int)then(a:Int)+(b:Int)else(m:Int))=((min m (a+b):Nat):Int):=by
 by_cases h:(a:Int)+(b:Int)<(m:Int);·rw[aF h,Nat.min_eq_right (Nat.le_of_lt (Int.ofNat_lt.mp h))];rfl
 ·rw[aM h,Nat.min_eq_left (Int.ofNat_le.mp (Int.not_lt.mp h))]
theorem vL{v:Int}{x:Nat}(bv:1000≤N)(al:0≤v∧v<2^35)(ad:x≤2)(q:∀(af:Nat)(H:ae),bc j H→j.length≤af→H[af]?=some (.list ((ct v x).map .int))→Q (.ref af) H):W (run a_ N sa ns (d+2) 599 [.int v,.int x] j) Q X:=by
 have nl:v<bJ 5:=by
  have:bJ 5=34359738368:=by decide
  show ai [[1,0,1,0,1]] [] [_,_] [.aA (.ax .o .x) (.au .x (.k 34359738368)),.a8 .y (.k 34359738368)] (.au .x .y) ah al this
 have jw:=Cg 4 v;have wE:=Ci 4 v;show bQ (f:=z4) rfl rfl ?_;show⟨rfl,?_⟩;show oe (Kl j v x) ?_ N 4 _ _ ⟨rfl,1,_,_,by show rW,wE,by show ai [[1,0,1],[0,1],[1,0,0,1],[0,1]] [_] [] [.cG .x (.n 5) .l] (.eq (.n 4) .x) ah (cy _ _),rfl⟩ (by show ai [[1,1]] [_] [] [.le .R .x] (.lt (.n 4) .x) ah bv);rintro m z H ⟨rfl,af,u,w,I,O,rfl,rfl⟩;show cP (op:=.GtE) (x:=.int v) (y:=.int (bJ af)) (r:=decide (bJ af≤v)) rfl ?_ (fun _=>rfl) (fun Q=>by show(?_:W (cj .Pow (.int 128) (.int af) H) _ _=_);rw[C0 (by show ai [[1,1,1]] [_,_] [] [.le .y (.a (.n 4) .l),.le .x .y] (.le .x .W) ah jw O)];rfl);have kg:=TH nl I;by_cases m0:af<dN 4 v;·rw[cF (kg.mpr m0)];show⟨5-(af+1),by show ai [[1,0,0,1,0,1],[1,0,0,1,0,1,0,1,1],[0,1,0,0,1],[0,1,0,0,0,0,0,1,1]] [_,_,_,_] [] [.le .aa (.a (.n 4) .l),.lt .w .aa,.cG .x (.n 5) (.a .w .l),.cG .y (.n 5) .w] (.lt .x .y) ah jw m0 (cy _ _) (cy _ _),rfl,af+1,_,_,by show rT,by show uZ m0,rfl,rfl⟩
 ·rw[cE (fun aa=>m0 (kg.mp aa))];have dl:af=dN 4 v:=by show yg O m0
  clear wE kg m0;subst dl;clear ad;obtain⟨p4,ti⟩:∃p4,p4=ag.int ((min 5 (dN 4 v+x):Nat):Int):=⟨_,rfl⟩;show gw (a:=592) (xs:=[.int v,p4]) (fun Q=>?_) rfl ?_
  ·show(?_:Q [.int v,.int (if((dN 4 v:Nat):Int)+(x:Int)<5 then((dN 4 v:Nat):Int)+(x:Int)else 5)] H=_);have:(if((dN 4 v:Nat):Int)+(x:Int)<5 then((dN 4 v:Nat):Int)+(x:Int)else 5)=((min 5 (dN 4 v+x):Nat):Int):=by show HW 5 _ _
   rw[this,ti]
  ·show F5 (d:=d) ti (n:=min 5 (dN 4 v+x)) bv (c6 (Nat.min_le_left 5 _) (by decide)) fun af s I O bn=>q af s I O bn
abbrev KP(j:ae)(v:Int)(ce x:Nat)(m:Nat)(z:aq)(H:ae):Prop:=H=j∧∃(af:Nat)(u w:Option ag),1≤af∧af≤cW 9 v∧m=10-af∧z=[some (.int v),some (.int ce),some (.int x),some (.int af),u,w]
theorem CQ{v:Int}{ce x:Nat}(bv:1000≤N)(Y:ce=32∨ce=33∨ce=64)(al:-(2^63)≤v∧v<2^63)(ad:x≤2)(q:∀(af:Nat)(H:ae),bc j H→j.length≤af→H[af]?=some (.list ((eX ce v x).map .int))→Q (.ref af) H):W (run a_ N sa ns (d+2) 606 [.int v,.int ce,.int x] j) Q X:=by
 have hk:-64*bJ 9≤v∧v<64*bJ 9:=by
  have:bJ 9=9223372036854775808:=by decide
  show ai [[1,0,64,1],[1,0,64,0,1]] [] [_,_] [.aA (.ax .E .y) (.au .y .D),.a8 .x .D] (.aA (.ax (.i 63 .x) .y) (.au .y (.e 64 .x))) ah al this
 have wd:cW 9 v≤10:=tD 9 9 v hk.1 hk.2;have wE:=tE 9 v;show bQ (f:=z') rfl rfl ?_;show⟨rfl,?_⟩;show oe (KP j v ce x) ?_ N 9 _ _ ⟨rfl,1,_,_,by show rW,wE,by show ai [[1,0,1],[0,1],[1,0,0,1],[0,1]] [_] [] [.cG .x .W .l] (.eq (.n 9) .x) ah (cy _ _),rfl⟩ (by show yp bv);rintro m z H ⟨rfl,af,u,w,I,O,rfl,rfl⟩;have pg:cj .Pow (.int 128) (.int ((af:Int)-1)) H=.ok (.int (bJ (af-1))) H:=by rw[show(af:Int)-1=((af-1:Nat):Int) by show ai [[1,0,1],[1,0,1,0,1],[1,0,0,1],[1,1]] [_,_] [] [.le .l .x,.cG .y .x .l] (.a8 (.s (.c .x) .l) (.c .y)) ah I (cy _ _)];show C0 (by show ai [[1,0,1,0,1,1],[1,0,1]] [_,_,_] [] [.le .y .W,.le .aa .y,.cG .x .aa .l] (.le .x .W) ah wd O (cy _ _)) H
 have gJ:=Iv (n:=af-1) (by show ai [[1,0,1,0,1,1],[1,0,1]] [_,_,_] [] [.le .y .W,.le .aa .y,.cG .x .aa .l] (.le .x .W) ah wd O (cy _ _));have Bc:∀a:Int,a.natAbs≤64→cj .Mult (.int a) (.int (bJ (af-1))) H=.ok (.int (a*bJ (af-1))) H:=by intro a ds;show ll (aF ⟨by show ai [[1,1]] [_] [] [.le .x (.n 64)] (.lt .x (.n 1267650600228229401496703205376)) ah ds,gJ⟩)
 have kg:=TB hk I;show cP (op:=.Lt) (x:=.int v) (y:=.int (-64*bJ (af-1))) (r:=decide (v< -64*bJ (af-1))) rfl ?_ (fun _=>rfl) (fun Q=>by show(?_:W (cj .Pow (.int 128) (.int ((af:Int)-1)) H) (fun y j=>W (cj .Mult (.int (-64)) y j) _ _) _=_);rw[pg];show(?_:W (cj .Mult (.int (-64)) (.int (bJ (af-1))) H) _ _=_);rw[Bc _ (by decide)];rfl);show(?_:bN (some (decide (v< -64*bJ (af-1)))) _ _);by_cases ul:v< -64*bJ (af-1);·rw[cF ul];have m0:=kg.mp fun aa=>absurd ul (Int.not_lt.mpr aa.1);show⟨10-(af+1),Nat.sub_lt_sub_left (jV m0 wd) (Nat.lt_succ_self af),rfl,af+1,_,_,Nat.le_add_left 1 af,m0,rfl,rfl⟩
 ·rw[cE ul];show cP (op:=.GtE) (x:=.int v) (y:=.int (64*bJ (af-1))) (r:=decide (64*bJ (af-1)≤v)) rfl ?_ (fun _=>rfl) (fun Q=>by show(?_:W (cj .Pow (.int 128) (.int ((af:Int)-1)) H) (fun y j=>W (cj .Mult (.int 64) y j) _ _) _=_);rw[pg];show(?_:W (cj .Mult (.int 64) (.int (bJ (af-1))) H) _ _=_);rw[Bc _ (by decide)];rfl);show(?_:bN (some (decide (64*bJ (af-1)≤v))) _ _);by_cases AC:64*bJ (af-1)≤v;·rw[cF AC];have m0:=kg.mp fun aa=>absurd AC (Int.not_le.mpr aa.2);show⟨10-(af+1),Nat.sub_lt_sub_left (jV m0 wd) (Nat.lt_succ_self af),rfl,af+1,_,_,Nat.le_add_left 1 af,m0,rfl,rfl⟩
  ·rw[cE AC];have dl:af=cW 9 v:=by have:=fun aa=>kg.mpr aa ⟨by show ai [[1,1]] [] [_,_] [.aK (.au .y (.i 63 .x))] (.ax (.i 63 .x) .y) ah ul,by show ai [[1,1]] [] [_,_] [.aK (.ax (.e 64 .y) .x)] (.au .x (.e 64 .y)) ah AC⟩;show yg O this
   clear kg Bc pg gJ ul AC;subst dl;clear ad;obtain⟨p4,ti⟩:∃p4,p4=ag.int ((min ((ce+6)/7) (cW 9 v+x):Nat):Int):=⟨_,rfl⟩;show gw (a:=592) (xs:=[.int v,p4]) (fun Q=>?_) rfl ?_
   ·show(?_:Q [.int v,.int (if((cW 9 v:Nat):Int)+(x:Int)<(((ce+6)/7:Nat):Int)then((cW 9 v:Nat):Int)+(x:Int)else(((ce+6)/7:Nat):Int))] H=_);have:(if((cW 9 v:Nat):Int)+(x:Int)<(((ce+6)/7:Nat):Int)then((cW 9 v:Nat):Int)+(x:Int)else(((ce+6)/7:Nat):Int))=((min ((ce+6)/7) (cW 9 v+x):Nat):Int):=by show HW _ _ _
    rw[this,ti]
   ·show F5 (d:=d) ti (n:=min ((ce+6)/7) (cW 9 v+x)) bv (c6 (Nat.min_le_left _ _) (by rcases Y with rfl|rfl|rfl<;>decide)) fun af s I O bn=>q af s I O bn
end
end
section
section
variable{N:Nat}{sa:Addr}{ns:List Int}{d:Nat}{j:ae}{Q:ag→ae→Prop}{X:Nat→ae→Prop}
def bl(j:ae)(af:Nat)(l:List Int):Prop:=j[af]?=some (.list (l.map .int))
theorem bl.bA{j H:ae}{af:Nat}{l:List Int}(h:bl j af l)(w:bc j H):bl H af l:=w.get h
theorem bl.bF{j H:ae}{af c:Nat}{l:List Int}(h:bl j af l)(w:aO c j H)(Z:af≠c):bl H af l:=w.get h Z
theorem j3{af k:Nat}{a b:List Int}(ds:bl j af a)(Y:bl j k b)(V:a.length+b.length<aP):cj .Add (.ref af) (.ref k) j=.ok (.ref j.length) (j++[.list ((a++b).map .int)]):=by show(gY (d1 Y)).trans ((gY (d1 ds)).trans ((aF rfl).trans ?_));rw[←List.map_append,gV _ (by rw[bD,cA];show V)]
theorem nt(v:Int)(x:Nat):(ct v x).length≤5:=by unfold ct;rw[mb];show Nat.min_le_left _ _
theorem CP{ce:Nat}(Y:ce=32∨ce=33∨ce=64)(v:Int)(x:Nat):(eX ce v x).length≤10:=by unfold eX;rw[mb];show c6 (Nat.min_le_left _ _) (by rcases Y with rfl|rfl|rfl<;>decide)
theorem kA{P:aY}{b:gA}{as:b5}{xs:List ag}{v:ag}{z:aq}{H:ae}(ad:∀Q,cR P as z j Q X=Q xs j)(ar:cY P b xs j=.ok v H)(h:Q v H):wp P (.call (.aC (.b0 b)) as) z j Q X:=by show uy (el ?_);rw[ad];show(?_:W (cY P b xs j) Q X);rw[ar];show h
theorem m2{P:aY}{l:b5}{xs:List ag}{z:aq}(ad:∀Q,cR P l z j Q X=Q xs j)(V:xs.length<aP)(h:Q (.ref j.length) (j++[.list xs])):wp P (.bM l) z j Q X:=by show uz ?_;rw[ad,gV _ V];show h
theorem y5{k:Int}{x:Nat}(bv:1000≤N)(ak:k<64512+2^32)(ad:x≤2)(q:∀(af:Nat)(H:ae),bc j H→j.length≤af→bl H af (d0 k x)→Q (.ref af) H):W (run a_ N sa ns (d+3) 618 [.int k,.int x] j) Q X:=by
 show bQ (f:=z2) rfl rfl ?_;show(?_:bN (some (decide (k<64512))) _ _);by_cases h:k<64512;·rw[cF h];have e:d0 k x=[k]:=aF h;show q j.length (j++[.list [.int k]]) (bc.push j _) (cm _) ?_;show e▸bG j _
 ·rw[cE h];have e:d0 k x=[252]++ct (k-64512) x:=aM h;have am:=bG j (.list [.int 252]);show gw (d:=d+2) (a:=599) (xs:=[.int (k-64512),.int x]) (fun _=>rfl) rfl ?_;show vL bv ⟨by show ai [[1,1]] [] [_] [.aK (.au .x .K)] (.ax .o (.s .x .K)) ah h,by show ai [[1,1]] [] [_] [.au .x (.a .K .A)] (.au (.s .x .K) (.k 34359738368)) ah ak⟩ ad fun af H f0 dl V=>?_;show dh (j3 (a:=[252]) (f0.get am) V (by have:=nt (k-64512) x;simp;unfold aP;show ai [[1,1]] [_] [] [.le .x (.n 5)] (.lt (.a .l .x) .L) ah this)) ?_;show q _ _ (((bc.push j _).trans f0).trans (bc.push H _)) (by have:=f0.1;simp at this;show ai [[1,1]] [_,_] [] [.le (.a .x .l) .y] (.le .x .y) ah this) ?_;rw[e];show bG H _
theorem SD{P:aY}{i:Nat}{s na:Str}{fu:a0}{r:Bool}{A B:bZ}{z:aq}{N:aq→ae→Prop}{R:ag→aq→ae→Prop}{X:Nat→aq→ae→Prop}(ul:(z[i]?).join=some (.str na))(I:PyData.strOk na=true)(O:PyData.strOk s=true)(o2:(na==s)=true→∀Q,wp P fu z j Q (fun k j=>X k z j)=Q (.bool r) j)(io:(na==s&&r)=true→bX P A z j N R X)(Tm:(na==s&&r)=false→bX P B z j N R X):kz P (.ite (.and (.aQ .Eq (.aw i) (.aC (.str s))) fu) A B) z j N R X:=by
 show(?_:bg ((z[i]?).join) _);rw[ul];show(?_:bg ((cC .Eq (.str na) (.str s) j).map ag.bool) _);rw[show cC .Eq (.str na) (.str s) j=some (na==s)from qB j I O];show(?_:bN (some (na==s)) _ _);cases Y:na==s;·show Tm (by rw[Y];rfl)
 ·show(?_:wp P fu z j _ _);rw[o2 Y];clear I O o2;cases r;·show Tm (by rw[Y];rfl)
  ·show io (by rw[Y];rfl)
theorem SF{P:aY}{i:Nat}{s s' na:Str}{A B:bZ}{z:aq}{N:aq→ae→Prop}{R:ag→aq→ae→Prop}{X:Nat→aq→ae→Prop}(ul:(z[i]?).join=some (.str na))(I:PyData.strOk na=true)(O:PyData.strOk s=true)(bn:PyData.strOk s'=true)(io:(na==s||na==s')=true→bX P A z j N R X)(Tm:(na==s||na==s')=false→bX P B z j N R X):kz P (.ite (.or (.aQ .Eq (.aw i) (.aC (.str s))) (.aQ .Eq (.aw i) (.aC (.str s')))) A B) z j N R X:=by
 show(?_:bg ((z[i]?).join) _);rw[ul];show(?_:bg ((cC .Eq (.str na) (.str s) j).map ag.bool) _);rw[show cC .Eq (.str na) (.str s) j=some (na==s)from qB j I O];show(?_:bN (some (na==s)) _ _);cases Y:na==s
 ·show(?_:bg ((z[i]?).join) _);rw[ul];show(?_:bg ((cC .Eq (.str na) (.str s') j).map ag.bool) _);rw[show cC .Eq (.str na) (.str s') j=some (na==s')from qB j I bn];show(?_:bN (some (na==s')) _ _);cases wl:na==s';·show Tm (by rw[Y,wl];rfl)
  ·show io (by rw[Y,wl];rfl)
 ·show io (by rw[Y];rfl)
theorem qD{P:aY}{af k:Nat}{a b:List Int}(ds:bl j af a)(Y:bl j k b)(li:k≠af)(V:a.length+b.length<aP):cJ P (.ref af) .d_ [.ref k] j=.ok .none (j.set af (.list ((a++b).map .int))):=by have kd:j[af]?=some (.list (a.map .int)):=ds;rw[List.map_append];show(nc kd).trans ((gY (d1 Y)).trans (aF ⟨li,by simp;show V⟩))
end
end
section
theorem PB{vs:List Int}{x i:Nat}{v:Int}(h:vs[i]?=some v):frees x (vs.take (i+1))=frees x (vs.take i)++ct v x:=by
 have du:∀a b:List Int,frees x (a++b)=frees x a++frees x b:=fun a b=>by
  induction a with
  |nil=>rfl
  |cons y a ap=>simp only[List.cons_append,qG,vN,ap,dX]
 rw[List.take_add_one,h,du];simp[qG,vN]
theorem vM(x:Nat):∀vs:List Int,(frees x vs).length≤5*vs.length:=by
 intro ca;induction ca with
 |nil=>simp[qG,vN]
 |cons v vs ap=>have:=ap;have:=nt v x;rw[qG,cA];show ai [[1,1,1]] [_,_,_] [] [.le .y (.m 5 .aa),.le .x (.n 5)] (.le (.a .x .y) (.m 5 (.a .aa .l))) ah (by assumption) this
section
variable{N:Nat}{sa:Addr}{ns:List Int}{d:Nat}{j:ae}{Q:ag→ae→Prop}{X:Nat→ae→Prop}
abbrev Kk(j:ae)(af x:Nat)(c:Lt)(bf pre:List Int)(i:Nat)(z:aq)(H:ae):Prop:=bc j H∧bl H j.length (pre++frees x (bf.take i))∧∃a,z=[some (.str c.s),some (.ref af),some (.int x),some (.ref j.length),a,none,none,none]
theorem JO{c:Lt}{af x:Nat}{bf:List Int}(bv:1000≤N)(ev:d4 c bf)(dl:bl j af bf)(ad:x≤2)(q:∀(k:Nat)(H:ae),bc j H→j.length≤k→bl H k (cU c bf x)→Q (.ref k) H):W (run a_ N sa ns (d+3) 611 [.str c.s,.ref af,.int x] j) Q X:=by
 have Z:=HT c;have nb:=ev.len;have WP:∀v,bf=[v]→dj j (.ref af) (.int 0)=some (.int v):=by rintro v rfl;show eA (Dk (i:=0) dl (by simp) (by show yx) (by simp)) fun w _ O bn=>?_;rw[bn];simp at O;rw[O]
 show bQ (f:=vE) rfl rfl ?_;unfold vE;show df ?_;show fE rfl Z (bU _) (fun gJ=>?_) fun gJ=>?_;·obtain rfl:_=_:=gT (h0:=.aa) gJ;show q _ _ (bc.push j _) (cm _) (bG j _)
 show ek (df ?_);show fE rfl Z (bU _) (fun wl=>?_) fun wl=>?_
 ·obtain rfl:_=_:=gT (h0:=.i) wl;show aX fun _ done=>?_;show aW ev fun v cl al=>?_;subst cl;show done ?_;show gw (d:=d+2) (a:=606) (xs:=[.int v,.int (32:Nat),.int x]) (fun Q=>?_) rfl ?_;·show(?_:bg (dj j (.ref af) (.int 0)) _=_);rw[WP v rfl];rfl
  ·show CQ bv (.inl rfl) ⟨by show ai [[1,1]] [] [_] [.aA (.ax .eS .x) (.au .x .aJ)] (.ax .E .x) ah al,by show ai [[1,0,1]] [] [_] [.aA (.ax .eS .x) (.au .x .aJ)] (.au .x .D) ah al⟩ ad q
 show ek (df ?_);show fE rfl Z (bU _) (fun wv=>?_) fun wv=>?_
 ·obtain rfl:_=_:=gT (h0:=.l) wv;show aX fun _ done=>?_;show aW ev fun v cl al=>?_;subst cl;show done ?_;show gw (d:=d+2) (a:=606) (xs:=[.int v,.int (64:Nat),.int x]) (fun Q=>?_) rfl ?_;·show(?_:bg (dj j (.ref af) (.int 0)) _=_);rw[WP v rfl];rfl
  ·show CQ bv (.inr (.inr rfl)) al ad q
 show ek (df ?_);show SD (r:=decide (0≤bf.headD 0)) rfl Z (bU _) (fun Y Q=>?_) (fun FS=>?_) fun FS=>?_;·obtain rfl:_=_:=gT (h0:=.b) Y;show aX fun _ done=>?_;obtain⟨v,rfl,al⟩:=ev;show done ?_;show(?_:bg (dj j (.ref af) (.int 0)) _=_);rw[WP v rfl];rfl
 ·rw[fM,gz]at FS;obtain rfl:_=_:=gT (h0:=.b) FS.1;have am:=FS.2;show aX fun _ done=>?_;obtain⟨v,rfl,al⟩:=ev;have pj:v<2^32:=by
   rcases al with rfl|al|al
   ·show ai [[1]] [] [] [] (.au (.af 63) .A) ah
   ·simp only[gS,ep,List.mem_nil_iff,or_false]at al;show ai [[1,1],[1,1],[1,1],[1,1]] [] [_] [.or (.a8 .x .az) (.or (.a8 .x (.af 1)) (.or (.a8 .x (.af 15)) (.a8 .x (.af 16))))] (.au .x .A) ah al
   ·show al.2
  have e:cU .b [v] x=eX 33 v x:=aF am;rw[e]at q;show done ?_;show gw (d:=d+2) (a:=606) (xs:=[.int v,.int (33:Nat),.int x]) (fun Q=>?_) rfl ?_;·show(?_:bg (dj j (.ref af) (.int 0)) _=_);rw[WP v rfl];rfl
  ·show CQ bv (.inr (.inl rfl)) ⟨by show ai [[1,1]] [] [_] [.ax .o .x] (.ax .E .x) ah am,by show ai [[1,1]] [] [_] [.au .x .A] (.au .x .D) ah pj⟩ ad q
 show ek (df ?_);show SF rfl Z (bU _) (bU _) (fun e8=>?_) fun e8=>?_
 ·have al:∃v,bf=[v]∧cU c bf x=[128+v]:=by
   rw[Bool.or_eq_true]at e8;rcases e8 with h|h
   ·obtain rfl:_=_:=gT (h0:=.b) h;obtain⟨v,rfl,al⟩:=ev;show⟨v,rfl,aM ?_⟩;intro aa;rw[h,cF aa]at FS;show JK FS
   ·obtain rfl:_=_:=gT (h0:=.r) h;obtain⟨v,rfl,al⟩:=ev;show⟨v,rfl,rfl⟩
  show aX fun _ done=>?_;obtain⟨v,rfl,e⟩:=al;rw[e]at q;show done ?_;show b3 (WP v rfl) ?_;show q _ _ (bc.push j _) (cm _) (bG j _)
 show ek (dP (uz (ky ?_)));rw[tJ];show W.dA ?_;have I:(j++[aI.list []])[j.length]?=some (.list []):=bG j _;have ST:=bc.push j [aI.list []];have gi:=dl.bA ST;have mq:∀s:ae,bl s af bf→cY (b9 N sa ns (d+2)) .len [.ref af] s=.ok (.int bf.length) s:=fun s a1=>by have e:c0 s af=some (bf.map .int):=d1 a1;rw[Cj e (by rw[bD];unfold aP;show u0 nb),bD]
 have hp:∀(nn:ae)(o:aI),bc (j++[aI.list []]) nn→bc j (nn.set j.length o):=fun nn o h=>(ST.trans h).set (cm _) o;show df ?_;show fE rfl Z (bU _) (fun e9=>?_) fun e9=>?_
 ·obtain rfl:_=_:=gT (h0:=.k) e9;show⟨(gU I).2.1,?_⟩;show gw (d:=d+2) (a:=599) (xs:=[.int bf.length,.int x]) (fun Q=>?_) rfl ?_;·show(?_:W (cY (b9 N sa ns (d+2)) .len [.ref af] (j++[aI.list []])) _ _=_);rw[mq _ gi];rfl
  show vL bv ⟨by show lW,by show ai [[1,1]] [_] [] [.le .x .c] (.au (.c .x) (.k 34359738368)) ah nb⟩ ad fun jF nn fc jv un=>?_;have sW:jF≠j.length:=by simp at jv;show ai [[1,0,1]] [_,_] [] [.le (.a .y .l) .x] (.aK (.eq .x .y)) ah jv
  have O:bl nn j.length []:=fc.get I;have o8:=nt bf.length x;show(?_:W (cJ _ (.ref j.length) .d_ [.ref jF] nn) _ X);rw[qD O un sW (by simp;unfold aP;show ai [[1,1]] [_] [] [.le .x (.n 5)] (.lt .x .L) ah o8)];show W.dA ?_;have hS:bl (nn.set j.length (.list (([]++ct bf.length x).map .int))) j.length (ct bf.length x):=by unfold bl;rw[eu O];rfl
  have fW:=hp nn (.list (([]++ct bf.length x).map .int)) fc;have nE:=dl.bA fW;generalize nn.set j.length (.list (([]++ct bf.length x).map .int))=us at hS fW nE⊢;have sc:c0 us af=some (bf.map .int):=d1 nE;have Pi:d6 us false (.ref af)=some (.cc af):=uf sc;show rB (hy (ew ?_));show b3 (x:=some (ag.ref j.length)) rfl ?_;show DF (.ref af) (.cc af) rfl (fun _=>rfl) Pi ?_;have hQ:=kc hS;show so (l:=bf.map .int) (fun i H=>bc us H∧H[us.length]?=some (.list (((bf.take i).map (128+·)).map .int))) (fun i H ga=>?_) (fun i y H ga f1=>?_) (fun H ga=>?_) N 0 _ ⟨bc.push us _,bG us _⟩ (e0 _) (by rw[bD];show ai [[1,0,1,0,1,1],[1,0,1,0,0,1]] [_,_,_] [] [.le .R .y,.le .aa .c,.cG .x .aa .o] (.lt .x .y) ah bv nb (cy _ _));·have wT:c0 H af=some (bf.map .int):=d1 (nE.bA ga.1);show tF wT (by rw[bD];unfold aP;show u0 nb)
  ·have fZ:=ga.1;have fU:=ga.2;rw[eQ]at f1;cases ar:bf[i]? with
   |none=>rw[ar]at f1;cases f1
   |some v=>
    rw[ar]at f1;injection f1 with f1;subst f1;show cN (v:=H.set us.length (.list (((bf.take i).map (128+·)).map .int++[.int (128+v)]))) ?_ ?_;·show tY fU (by simp only[bD];show hE (c6 (kF _ _) nb) (by decide))
    ·show⟨fZ.set (cm _) _,?_⟩;rw[eu fU,List.take_add_one,ar];simp
  ·have fZ:=ga.1;have fU:=ga.2;rw[bD,List.take_length]at fU;show dh (j3 (hS.bA fZ) fU (by rw[bD];unfold aP;show ai [[1,1,1]] [_,_] [] [.le .y .c,.le .x (.n 5)] (.lt (.a .x .y) .L) ah nb o8)) ?_;show q _ _ ((fW.trans fZ).trans (bc.push H _)) (by have:=fW.1;have:=fZ.1;show ai [[1,1,1]] [_,_,_] [] [.lt .x .aa,.le .aa .y] (.le .x .y) ah hQ this) ?_;show bG H _
 have kh:∀v∈bf,(c=.u∨c=.a∨c=.t)→0≤v∧v<2^35:=by
  intro v al h;rcases h with rfl|rfl|rfl
  ·obtain⟨w,rfl,f0⟩:=ev;show aX fun _ done=>?_;obtain rfl:_=_:=ee.mp al;show done ?_;show⟨f0.1,by have:=f0.2;show ai [[1,1]] [] [_] [.au .x .A] (.au .x (.k 34359738368)) ah this⟩
  ·show aW ev fun w cl f0=>?_;subst cl;obtain rfl:_=_:=ee.mp al;show⟨f0.1,by have:=f0.2;show ai [[1,0,1]] [] [_] [.aA (.ax .o .x) (.au .x (.k 32))] (.au .x (.k 34359738368)) ah f0⟩
  ·show⟨(ev.2.2 v al).1,by have:=(ev.2.2 v al).2;show ai [[1,1]] [] [_] [.au .x .A] (.au .x (.k 34359738368)) ah this⟩
 have R0:c=.u∨c=.a∨c=.t:=by cases c<;>first|(simp;done)|show absurd gJ (by decide+kernel)|show absurd wl (by decide+kernel)|show absurd wv (by decide+kernel)|show absurd e8 (by decide+kernel)|show absurd e9 (by decide+kernel)
 have kh:=fun v al=>kh v al R0;have bh:∀(us:ae)(pre:List Int)(u:Option ag),bc j us→bl us j.length pre→pre.length≤10→pre++frees x bf=cU c bf x→bX (b9 N sa ns (d+2)) (.cons (.fx [4] (.aw 1) false (.cons (.bB (.bq (.aw 3) .d_ (.cons (.call (.aC (.fn 599)) (.cons (.aw 4) (.cons (.aw 2) .nil))) .nil))) .nil)) (.cons (.ret (.aw 3)) .nil)) [some (.str c.s),some (.ref af),some (.int x),some (.ref j.length),none,none,none,none] us (fun _ j=>Q .none j) (fun v _ j=>Q v j) (fun k _ j=>X k j):=by
  intro us pre u fW hS lj AW;have nE:=dl.bA fW;have sc:c0 us af=some (bf.map .int):=d1 nE;show kY (v:=.ref af) (fd:=us) (db:=.cc af) (l:=bf.map .int) rfl (fun _=>rfl) (uf sc) (Kk j af x c bf pre) (fun i z H ga=>?_) (fun i y z H ga f1=>?_) (fun z H ga=>?_) ⟨fW,by rw[List.take_zero,vN,eo];show hS,_,rfl⟩ ?_;·have wT:c0 H af=some (bf.map .int):=d1 (dl.bA ga.1);show tF wT (by rw[bD];unfold aP;show u0 nb)
  ·obtain⟨fZ,fU,a,rfl⟩:=ga;rw[eQ]at f1;cases ar:bf[i]? with
   |none=>rw[ar]at f1;cases f1
   |some v=>
    rw[ar]at f1;injection f1 with f1;subst f1;have m0:=(c7.mp ar).1;have al:=kh v (eZ ar);show cN (v:=[some (.str c.s),some (.ref af),some (.int x),some (.ref j.length),some (.int v),none,none,none]) rfl ?_;show⟨(gU fU).2.1,?_⟩;show gw (d:=d+2) (a:=599) (xs:=[.int v,.int x]) (fun Q=>rfl) rfl ?_;show vL bv al ad fun jF nn fc jv un=>?_;have sW:jF≠j.length:=by have:=kc fU;show qg jv this
    have o8:=nt v x;have o9:=vM x (bf.take i);have o9:=c6 o9 (Nat.mul_le_mul_left 5 (kF _ _));show(?_:W (cJ _ (.ref j.length) .d_ [.ref jF] nn) _ _);rw[qD (fU.bA fc) un sW (by rw[cA];show ai [[1,1,1,1,5]] [_,_,_,_] [] [.le .w .c,.le .x .W,.le .aa (.n 5),.le .y (.m 5 .w)] (.lt (.a (.a .x .y) .aa) .L) ah nb lj o8 o9)];show⟨(fZ.trans fc).set (cm _) _,?_,_,rfl⟩;unfold bl;rw[eu (fU.bA fc),PB ar,dX]
  ·show aX fun _ done=>?_;obtain⟨fZ,fU,a,rfl⟩:=ga;rw[bD,List.take_length,AW]at fU;show done ?_;show q _ H fZ (cm _) fU
  ·rw[bD];show ai [[1,1,1]] [_,_] [] [.le .R .y,.le .x .c] (.lt .x .y) ah bv nb
 show ek (df ?_);show fE rfl Z (bU _) (fun fT=>?_) fun fT=>?_
 ·obtain rfl:_=_:=gT (h0:=.t) fT;show⟨(gU I).2.1,?_⟩;show gw (d:=d+2) (a:=599) (xs:=[.int ((bf.length:Int)-1),.int x]) (fun Q=>?_) rfl ?_;·show(?_:W (cY (b9 N sa ns (d+2)) .len [.ref af] (j++[aI.list []])) _ _=_);rw[mq _ gi];rfl
  have Tl:=ev.1;show vL bv ⟨by show ai [[1,1]] [_] [] [.le .l .x] (.ax .o (.s (.c .x) .l)) ah Tl,by show ai [[1,1]] [_] [] [.le .x .c] (.au (.s (.c .x) .l) (.k 34359738368)) ah nb⟩ ad fun jF nn fc jv un=>?_;have sW:jF≠j.length:=by simp at jv;show ai [[1,0,1]] [_,_] [] [.le (.a .y .l) .x] (.aK (.eq .x .y)) ah jv
  have O:bl nn j.length []:=fc.get I;have o8:=nt ((bf.length:Int)-1) x;show(?_:W (cJ _ (.ref j.length) .d_ [.ref jF] nn) _ X);rw[qD O un sW (by simp;unfold aP;show ai [[1,1]] [_] [] [.le .x (.n 5)] (.lt .x .L) ah o8)];show W.dA ?_;have hS:bl (nn.set j.length (.list (([]++ct ((bf.length:Int)-1) x).map .int))) j.length (ct ((bf.length:Int)-1) x):=by unfold bl;rw[eu O];rfl
  show bh _ (ct ((bf.length:Int)-1) x) none (hp nn _ fc) hS (by show ai [[1,1]] [_] [] [.le .x (.n 5)] (.le .x .W) ah o8) rfl
 have:=bh _ [] none ST I (by simp) (by cases c<;>first|rfl|show absurd gJ (by decide+kernel)|show absurd wl (by decide+kernel)|show absurd wv (by decide+kernel)|show absurd e8 (by decide+kernel)|show absurd e9 (by decide+kernel)|show absurd fT (by decide+kernel));show this
end
end
section
noncomputable def Lt.hi:Lt→Nat
 |.u=>117|.a=>97|.i=>105|.l=>108|.b=>98|.r=>114|.k=>107|.t=>116|.aa=>122
noncomputable def mU(ea:List Lt):Str:=⟨(ea.map Lt.hi).toArray⟩
theorem T4(c:Lt):c.s=⟨#[c.hi]⟩:=by cases c<;>rfl
theorem MK(ea:List Lt):nh (mU ea)=ea.map fun c=>ag.str c.s:=by unfold nh mU;rw[List.map_map];show List.map_congr_left fun c _=>by rw[Function.comp,T4]
noncomputable def n5(r:Int×Int×List Lt):ag:=.av [.int r.1,.int r.2.1,.str (mU r.2.2)]
structure aT where
 k:Int
 bf:List Int
 bt:Int
 r':List Int
 dZ:List Int
 dC:List Int
 eG:List Int
noncomputable def aT.g5(r:aT):List Int:=r.k::r.bf
noncomputable def aT.Ju(r:aT):St:=⟨r.k,r.bf,r.r',r.dC⟩
noncomputable def aT.WL(r:aT):St:=⟨r.k,r.bf,r.dZ,r.eG⟩
def eg(l:List Int):Prop:=∀o∈l,0≤o∧o<256
theorem eg.du{a b:List Int}(ds:eg a)(Y:eg b):eg (a++b):=fun o h=>(List.mem_append.mp h).elim (ds o) (Y o)
theorem oR:∀(n:Nat)(v:Int),eg (eC n v):=by
 intro ca;induction ca with
 |zero=>intro sK;show fun o h=>by cases h
 |succ lP ap=>
  intro v;cases lP with
  |zero=>show fun o h=>by obtain rfl:=ee.mp h;show yt (cI _ 128 rfl)
  |succ n=>
   show fun o h=>by
    rcases ep.mp h with rfl|h
    ·show yr (cI _ 128 rfl)
    ·show ap (v/128) o h
theorem Ay(x:Nat):∀vs:List Int,eg (frees x vs):=by
 intro ca;induction ca with
 |nil=>show fun o h=>by cases h
 |cons v vs ap=>show(oR _ _).du (ap)
theorem Va{c:Lt}{ns:List Int}(h:d4 c ns)(x:Nat):eg (cU c ns x):=by
 have ak:∀v∈gS,0≤128+v∧128+v<256:=by decide
 cases c with
 |u=>show Ay x ns
 |a=>show Ay x ns
 |i=>show oR _ _
 |l=>show oR _ _
 |b=>
  obtain⟨v,rfl,h⟩:=h;show(?_:eg (if 0≤v then eX 33 v x else[128+v]));split;·show oR _ _
  ·rename_i am;intro o ci;obtain rfl:=ee.mp ci;clear ci;rcases h with rfl|h|h
   ·show ai [[1],[1]] [] [] [] (.aA (.ax .o (.a .G (.af 63))) (.au (.a .G (.af 63)) .F)) ah
   ·show ak v h
   ·show absurd h.1 am
 |r=>obtain⟨v,rfl,h⟩:=h;intro o ci;have ci:o∈[128+v]:=ci;rw[ee]at ci;show ai [[1,0,1,0,1],[1,0,1,0,1],[1,1,0,1],[1,1,0,1]] [] [_,_] [.or (.a8 .y (.af 15)) (.a8 .y (.af 16)),.a8 .x (.a .G .y)] (.aA (.ax .o .x) (.au .x .F)) ah h ci
 |k=>show(oR _ _).du fun o ci=>?_;show aW (List.mem_map.mp ci) fun v al cl=>?_;subst cl;show ak v (h.2 v al)
 |t=>show(oR _ _).du (Ay x ns)
 |aa=>intro o ci;obtain rfl:=ee.mp ci;decide
theorem I7(x:Nat):∀{aZ:eK},(∀q∈aZ,d4 q.1 q.2)→eg (dD x aZ):=by
 intro ca;induction ca with
 |nil=>intro _;show fun o h=>by cases h
 |cons t1 aZ ap=>obtain⟨c,ns⟩:=t1;intro h;show(Va (h (c,ns) dF) x).du (ap fun q ne=>h q (dE _ ne))
theorem y8{k:Int}(ak:0≤k∧k<256∨64512≤k)(x:Nat):eg (d0 k x):=by
 unfold d0;split;·intro o ci;obtain rfl:=ee.mp ci;show ai [[1,0,1],[1,0,1],[1,0,0,1],[0,1,1]] [] [_] [.or (.aA (.ax .o .x) (.au .x .F)) (.ax .K .x),.au .x .K] (.aA (.ax .o .x) (.au .x .F)) ah ak (by assumption)
 ·intro o ci;rcases ep.mp ci with rfl|ci
  ·decide
  ·show oR _ _ o ci
structure aT.b8(r:aT):Prop where
 Ip:r.Ju.b8
 tP:r.WL.b8
 w:r.Ju.r7
 Tt:r.r'.length≤6
 Tu:r.dZ.length≤6
 T2:r.dC.length≤50
 T3:r.eG.length≤50
 Ln:eg (r.r'++r.dC)
 dQ:eg (r.dZ++r.eG)
structure kQ(j:ae)(z an:Nat)(k:Nat)(a b:List Int):Prop where
 mk::
 nr:∃i af,j[k]?=some (.list [.ref i,.ref af])∧bl j i a∧bl j af b∧z≤k∧k<an∧z≤i∧i<an∧z≤af∧af<an
def jf(j:ae)(z an:Nat)(v:ag)(r:aT):Prop:=∃a b,v=.av [bj r.g5,.int r.bt,.ref a,.ref b]∧kQ j z an a r.r' r.dZ∧kQ j z an b r.dC r.eG
theorem kQ.bF{j H:ae}{z an k c:Nat}{a b:List Int}(h:kQ j z an k a b)(f:aO c j H)(Z:c<z∨an≤c):kQ H z an k a b:=by show aX fun _ done=>?_;obtain⟨i,af,I,O,bn,lc,nl,wf,ws,hN,hk⟩:=h.nr;show done ?_;show⟨i,af,f.get I (by show yy Z lc nl),O.bF f (by show yy Z wf ws),bn.bF f (by show yy Z hN hk),lc,nl,wf,ws,hN,hk⟩
theorem kQ.iK{j:ae}{z an f4 Gc k:Nat}{a b:List Int}(h:kQ j z an k a b)(I:f4≤z)(O:an≤Gc):kQ j f4 Gc k a b:=by show aX fun _ done=>?_;obtain⟨i,af,I,O,bn,lc,nl,wf,ws,hN,hk⟩:=h.nr;show done ?_;show⟨i,af,I,O,bn,by show qa (by assumption) lc,by show yz (by assumption) nl,by show qa (by assumption) wf,by show yz (by assumption) ws,by show qa (by assumption) hN,by show yz (by assumption) hk⟩
theorem jf.bF{j H:ae}{z an c:Nat}{v:ag}{r:aT}(h:jf j z an v r)(f:aO c j H)(Z:c<z∨an≤c):jf H z an v r:=by show aX fun _ done=>?_;show dR h fun a b I O bn=>?_;show done ?_;show⟨a,b,I,O.bF f Z,bn.bF f Z⟩
theorem jf.iK{j:ae}{z an f4 Gc:Nat}{v:ag}{r:aT}(h:jf j z an v r)(I:f4≤z)(O:an≤Gc):jf j f4 Gc v r:=by show aX fun _ done=>?_;show dR h fun a b e bn lc=>?_;show done ?_;show⟨a,b,e,bn.iK I O,lc.iK I O⟩
theorem UT(c:Lt)(ns:List Int):∀aZ:eK,d2 (aZ++[(c,ns)])=d2 aZ++ns:=by
 intro ca;induction ca with
 |nil=>simp[ix,kl]
 |cons t1 aZ ap=>obtain⟨h0,UN⟩:=t1;rw[List.cons_append,ix,ap,ix,dX]
theorem I6(x:Nat)(c:Lt)(ns:List Int):∀aZ:eK,dD x (aZ++[(c,ns)])=dD x aZ++cU c ns x:=by
 intro ca;induction ca with
 |nil=>simp[n4,I5]
 |cons t1 aZ ap=>obtain⟨h0,UN⟩:=t1;rw[List.cons_append,n4,ap,n4,dX]
theorem CU{c:Lt}{ns:List Int}(h:d4 c ns)(x:Nat):(cU c ns x).length≤20:=by
 have bn:=h.len;clear h;cases c;·have:=vM x ns;show ai [[1,1,5]] [_,_] [] [.le .y .c,.le .x (.m 5 .y)] (.le .x .eh) ah bn this
 ·have:=vM x ns;show ai [[1,1,5]] [_,_] [] [.le .y .c,.le .x (.m 5 .y)] (.le .x .eh) ah bn this
 ·have:=CP (ce:=32) (.inl rfl) (ns.headD 0) x;show yA this
 ·have:=CP (ce:=64) (.inr (.inr rfl)) (ns.headD 0) x;show yA this
 ·show(?_:(if 0≤ns.headD 0 then eX 33 (ns.headD 0) x else[128+ns.headD 0]).length≤20);split;·have:=CP (ce:=33) (.inr (.inl rfl)) (ns.headD 0) x;show yA this
  ·simp
 ·show jT rfl
 ·have:=nt ns.length x;show(?_:(ct ns.length x++ns.map (128+·)).length≤20);rw[cA,bD];show ai [[1,1,1]] [_,_] [] [.le .y .c,.le .x (.n 5)] (.le (.a .x .y) .eh) ah bn this
 ·have:=vM x ns;have:=nt ((ns.length:Int)-1) x;show(?_:(ct ((ns.length:Int)-1) x++frees x ns).length≤20);rw[cA];show ai [[1,1,1,5]] [_,_,_] [] [.le .aa .c,.le .y (.m 5 .aa),.le .x (.n 5)] (.le (.a .x .y) .eh) ah bn (by assumption) this
 ·show jT rfl
theorem xy(x:Nat):∀{aZ:eK},(∀q∈aZ,d4 q.1 q.2)→(dD x aZ).length≤20*aZ.length:=by
 intro ca;induction ca with
 |nil=>intro _;simp[n4,I5]
 |cons t1 aZ ap=>obtain⟨c,ns⟩:=t1;intro h;have I:=CU (h (c,ns) dF) x;have O:=ap fun q ne=>h q (dE _ ne);rw[n4,cA];show ai [[1,1,1]] [_,_,_] [] [.le .x .eh,.le .y (.m 20 .aa)] (.le (.a .x .y) (.m 20 (.a .aa .l))) ah I O
theorem Io:∀{aZ:eK},(∀q∈aZ,d4 q.1 q.2)→(d2 aZ).length≤3*aZ.length:=by
 intro ca;induction ca with
 |nil=>intro _;simp[ix,kl]
 |cons t1 aZ ap=>obtain⟨c,ns⟩:=t1;intro h;have I:=(h (c,ns) dF).len;have O:=ap fun q ne=>h q (dE _ ne);rw[ix,cA];show ai [[1,1,1]] [_,_,_] [] [.le .x .c,.le .y (.m 3 .aa)] (.le (.a .x .y) (.m 3 (.a .aa .l))) ah I O
theorem y7(k:Int)(x:Nat):(d0 k x).length≤6:=by
 unfold d0;split;·simp
 ·have:=nt (k-64512) x;show ai [[1,1]] [_] [] [.le .x (.n 5)] (.le (.a .x .l) (.n 6)) ah this
noncomputable def HX(k:Int)(aZ:eK)(bt:Int)(x:Nat):aT:=⟨k,d2 aZ,bt,d0 k 0,d0 k x,dD 0 aZ,dD x aZ⟩
theorem Um{r:Int×Int×List Lt}(ar:r∈gq){k:Int}(I:r.1≤k)(O:k≤r.2.1){aZ:eK}(V:aZ.map (·.1)=r.2.2)(ev:∀q∈aZ,d4 q.1 q.2)(bt:Int)(x:Nat):(HX k aZ bt x).b8:=by
 have bn:aZ.length≤2:=by have:=xB r ar;rw[←V,bD]at this;show this
 have ak:0≤k∧k<256∨64512≤k:=by have pp:=xA ar I O;simp only[mO,fM,Bool.or_eq_true,gz]at pp;show ai [[1,0,1],[1,0,1],[1,0,0,1],[0,1,1]] [] [_] [.or (.aA (.ax .o .x) (.au .x (.k 252))) (.aA (.ax .K .x) (.ax .x .N))] (.or (.aA (.ax .o .x) (.au .x .F)) (.ax .K .x)) ah (pp.2)
 have h8:=xy 0 ev;have cd:=xy x ev;show⟨Jx ar I O V.symm ev 0,Jx ar I O V.symm ev x,WT ar I O V.symm ev,y7 _ _,y7 _ _,by change(dD 0 aZ).length≤50;show ai [[1,1,20]] [_,_] [] [.le .y .b,.le .x (.m 20 .y)] (.le .x (.n 50)) ah bn h8,by change(dD x aZ).length≤50;show ai [[1,1,20]] [_,_] [] [.le .y .b,.le .x (.m 20 .y)] (.le .x (.n 50)) ah bn cd,(y8 ak _).du (I7 0 ev),(y8 ak _).du (I7 x ev)⟩
noncomputable def mL(k bt:Int):aT:=⟨k,[],bt,[k],[k],[],[]⟩
theorem ID{k:Int}(ak:k=11∨k=5):eg ([k]++[]):=by intro o ci;obtain rfl:=ee.mp ci;show ai [[1,0,1],[1,0,1],[1,1],[1,1]] [] [_] [.or (.a8 .x (.k 11)) (.a8 .x (.k 5))] (.aA (.ax .o .x) (.au .x .F)) ah ak
theorem CY{k:Int}(ak:k=11∨k=5)(bt:Int):(mL k bt).b8:=⟨IE ak,IE ak,Vd ak,by simp[mL],by simp[mL],by simp[mL],by simp[mL],ID ak,ID ak⟩
section
variable{N:Nat}{sa:Addr}{ns:List Int}{d:Nat}{j:ae}{Q:ag→ae→Prop}{X:Nat→ae→Prop}
theorem V1(q:Q (.av (gq.map n5)) j):W (run a_ N sa ns (d+1) 554 [] j) Q X:=by show bQ (f:=Ad) rfl rfl ?_;show q
theorem Vc{k bt:Int}(q:∀v H,bc j H→jf H j.length H.length v (mL k bt)→Q v H):W (run a_ N sa ns (d+1) 632 [.int k,.int bt] j) Q X:=by
 show bQ (f:=Ab) rfl rfl ?_;have e:∀s:ae,es [.int k] s=.ok (.ref s.length) (s++[.list [.int k]]):=fun s=>gV s (by simp[aP]);have ex:∀(s:ae)(a b:Nat),es [.ref a,.ref b] s=.ok (.ref s.length) (s++[.list [.ref a,.ref b]]):=fun s a b=>gV s (by simp[aP]);show(?_:W (es [.int k] j) (fun x s=>W (es [.int k] s) (fun y s=>W (es [x,y] s) (fun u s=>W (es [] s) (fun p s=>W (es [] s) (fun q s=>W (es [p,q] s) (fun w s=>Q (.av [.av [.int k],.int bt,u,w]) s) X) X) X) X) X) X);rw[e];show W.dA ?_;rw[e];show W.dA ?_;rw[ex];show W.dA ?_;rw[tJ];show W.dA ?_;rw[tJ];show W.dA ?_;rw[ex];show W.dA ?_;have:=q (.av [bj [k],.int bt,.ref (j.length+2),.ref (j.length+5)]) (j++[.list [.int k],.list [.int k],.list [.ref j.length,.ref (j.length+1)],.list [],.list [],.list [.ref (j.length+3),.ref (j.length+4)]]) (bc.push j _) ?_;·simpa[dX,bj]using this
 ·have get:∀(l:List aI)(i:Nat),(j++l)[j.length+i]?=l[i]?:=fun l i=>by rw[og (by show ai [[1]] [_,_] [] [] (.le .x (.a .x .y)) ah)];congr 1;show ai [[1,0,0,1],[1,1],[1,0,1],[1,0,1]] [_,_,_] [] [.cG .x (.a .aa .y) .aa] (.eq .x .y) ah (cy _ _)
  show⟨_,_,rfl,⟨j.length,j.length+1,?_,get _ 0,get _ 1,?_⟩,⟨j.length+3,j.length+4,?_,get _ 3,get _ 4,?_⟩⟩;·show get _ 2
  ·simp
  ·show get _ 5
  ·simp
end
end
section
theorem V4:∀r∈gq,r.1≤r.2.1∧r.2.1-r.1<1000∧0≤r.1∧r.2.1<64530:=by decide
section
variable{N:Nat}{sa:Addr}{ns:List Int}{d:Nat}{j:ae}{Q:ag→ae→Prop}{X:Nat→ae→Prop}
theorem W5{i:Int}(am:0≤i)(I:i<34)(s:ae):∃r∈gq,dj s (.av (gq.map n5)) (.int i)=some (n5 r):=by
 have V:gq.length=34:=rfl;have m0:i.toNat<gq.length:=by show ai [[1,0,1,0,0,1,1],[1,0,1,0,0,1]] [_,_] [_] [.au .x (.k 34),.eq .y (.n 34),.cz .x .x] (.lt .x .y) ah I V (cS _)
 show b' gq[i.toNat] (List.getElem_mem m0) ?_;show(rG (l:=gq.map n5) (i:=i) (by rw[bD,V];unfold aP;show ai [[1]] [] [] [] (.lt (.n 34) .L) ah) am (by rw[bD,V];show I)).trans (eQ.trans (congrArg (Option.map _) (gx m0)))
theorem bl.set{j:ae}{af k:Nat}{l:List Int}(h:bl j af l)(li:k≠af)(o:aI):bl (j.set k o) af l:=by unfold bl;rw[eP li];show h
theorem bl.self{j:ae}{af:Nat}{l s0:List Int}(h:bl j af l):bl (j.set af (.list (s0.map .int))) af s0:=eu h
theorem bl.lt{j:ae}{af:Nat}{l:List Int}(h:bl j af l):af<j.length:=kc h
noncomputable abbrev KI(db i_1 x:Nat)(bt:Int)(T:ag)(z Gc:Int)(ea:List Lt)(k:Int)(t3:Nat)(u v:Option ag):aq:=[some (.ref db),some (.int i_1),some (.int x),some (.int bt),some T,some (.int z),some (.int Gc),some (.str (mU ea)),some (.int k),some (.ref t3),some (.ref (t3+1)),some (.ref (t3+2)),u,v,none,none,none,none,none,none,none]
abbrev KQ(j:ae)(db i_1 x:Nat)(bt:Int)(T:ag)(z Gc:Int)(ea:List Lt)(k:Int)(t3:Nat)(i:Nat)(f4:aq)(H:ae):Prop:=∃aZ:eK,aZ.map (·.1)=ea.take i∧(∀q∈aZ,d4 q.1 q.2)∧aO db j H∧cn db H∧bl H t3 (k::d2 aZ)∧bl H (t3+1) (dD 0 aZ)∧bl H (t3+2) (dD x aZ)∧∃u v,f4=KI db i_1 x bt T z Gc ea k t3 u v
theorem WS{db i_1 x:Nat}{bt:Int}(bv:1000≤N)(h:cn db j)(an:i_1<100)(ad:x≤2)(q:∀v r H,r.b8→r.bt=bt→r.k≠11→r.k≠5→aO db j H→cn db H→jf H j.length H.length v r→Q v H):W (run a_ N sa ns (d+5) 625 [.ref db,.int i_1,.int x,.int bt] j) Q X:=by
 have fb:=h.lt;show bQ (f:=Af) rfl rfl ?_;show gw (d:=d+4) (a:=554) (xs:=[]) (fun _=>rfl) rfl ?_;show V1 (d:=d+3) ?_;have py:∀s:ae,cY (b9 N sa ns (d+4)) .len [.av (gq.map n5)] s=.ok (.int 34) s:=fun s=>by rfl
 have hf:∀(i:Int)(s:ae),0≤i→i<34→∃r∈gq,dj s (.av (gq.map n5)) (.int i)=some (n5 r):=fun i s am I=>W5 am I s;generalize ag.av (gq.map n5)=T at py hf⊢;show x5 (x:=T) (fd:=j) (fun _=>rfl) ?_;show fg (d:=d+3) (m:=34) h (by show ai [[1],[1]] [] [] [] (.aA (.au .o (.k 34)) (.au (.k 34) .B)) ah) (fun Q=>?_) fun dC KK am I TI gM=>?_;·show(?_:W (cY (b9 N sa ns (d+4)) .len [T] j) _ _=_);rw[py];rfl
 show b3 (x:=some (ag.int i_1)) rfl ?_;show aW (hf ((dC+i_1).fmod 34) KK (Int.fmod_nonneg_of_pos _ (by decide)) (Int.fmod_lt_of_pos _ (by decide))) fun r ar WP=>?_;show dh (add_int dC i_1 KK) ?_;have mr:cj .Mod (.int (dC+i_1)) (.int 34) KK=.ok (.int ((dC+i_1).fmod 34)) KK:=by rfl
 show kA (xs:=[T]) (fun _=>rfl) (py KK) ?_;show dh mr ?_;show b3 WP ?_;obtain⟨z,Gc,ea⟩:=r;have jD:=V4 _ ar;simp only at jD;show⟨rfl,?_⟩;show cN (v:=[some (.ref db),some (.int i_1),some (.int x),some (.int bt),some T,some (.int z),some (.int Gc),some (.str (mU ea)),none,none,none,none,none,none,none,none,none,none,none,none,none]) rfl ?_;show dP (hy ?_);show b3 (x:=some (ag.int z)) rfl ?_;show fg (d:=d+3) (m:=Gc-z+1) gM (by show ai [[1,1],[1,0,1]] [] [_,_] [.aA (.ax .y .x) (.aA (.au (.s .x .y) (.k 1000)) (.aA (.ax .o .y) (.au .x (.k 64530))))] (.aA (.au .o (.a (.s .x .y) .l)) (.au (.a (.s .x .y) .l) .B)) ah jD) (fun Q=>rfl) fun eG nn O bn ty xz=>?_;show dh (add_int z eG nn) ?_;have A4:z≤z+eG:=by show ai [[1,1]] [] [_,_] [.ax .o .y] (.ax .x (.a .x .y)) ah O
 have la:z+eG≤Gc:=by show ai [[1,1]] [] [_,_,_] [.au .y (.a (.s .aa .x) .l)] (.ax (.a .x .y) .aa) ah bn
 generalize z+eG=k at A4 la⊢;have ch:=TI.trans ty;have f0:=ch.1;show m2 (xs:=[.int k]) (fun _=>rfl) (by simp[aP]) ?_;show m2 (xs:=[]) (fun _=>rfl) (by simp[aP]) ?_;show m2 (xs:=[]) (fun _=>rfl) (by simp[aP]) ?_;have Ff:(nn++[aI.list [.int k]]).length=nn.length+1:=by simp
 have Fg:(nn++[aI.list [.int k]]++[aI.list []]).length=nn.length+2:=by simp
 have FY:bl (nn++[aI.list [.int k]]++[aI.list []]++[aI.list []]) nn.length [k]:=hY (hY (bG nn _) _) _;have FW:bl (nn++[aI.list [.int k]]++[aI.list []]++[aI.list []]) (nn.length+1) []:=by show Ff▸hY (bG _ _) _
 have FX:bl (nn++[aI.list [.int k]]++[aI.list []]++[aI.list []]) (nn.length+2) []:=by show Fg▸bG _ _
 have fW:bc nn (nn++[aI.list [.int k]]++[aI.list []]++[aI.list []]):=((bc.push nn _).trans (bc.push _ _)).trans (bc.push _ _);have fV:=ch.trans (fW.bF db);have hS:=xz.bA fW;rw[Ff,Fg];generalize nn++[aI.list [.int k]]++[aI.list []]++[aI.list []]=us at FY FW FX fV hS⊢;generalize YH:nn.length=t3 at*;have Pi:d6 us false (.str (mU ea))=some (.all (ea.map fun c=>ag.str c.s)):=by show(?_:some (d8.all (nh (mU ea)))=_);rw[MK]
 have s7:ea.length≤2:=xB _ ar;show df ?_;show kY (v:=.str (mU ea)) (fd:=us) (l:=ea.map fun c=>ag.str c.s) rfl (fun _=>rfl) Pi (KQ j db i_1 x bt T z Gc ea k t3) (fun i z H _=>rfl) (fun i y f4 H ga f1=>?_) (fun f4 H ga=>?_) ⟨[],rfl,fun q ne=>(by cases ne),fV,hS,FY,FW,FX,_,_,rfl⟩ ?_
 ·show aX fun _ done=>?_;obtain⟨aZ,hR,kh,A1,Bq,B5,B4,tB,u,v,rfl⟩:=ga;rw[eQ]at f1;show done ?_;cases Z:ea[i]? with
  |none=>rw[Z]at f1;cases f1
  |some c=>
  rw[Z]at f1;injection f1 with f1;subst f1;have m0:=(c7.mp Z).1;have lh:aZ.length=i:=by have:=congrArg List.length hR;rw[bD,List.length_take]at this;show this.trans (Nat.min_eq_left (Nat.le_of_lt m0))
  have dQ:=Io kh;have gF:=xy 0 kh;have Lo:=xy x kh;have hQ:=tB.lt;show cN (v:=[some (.ref db),some (.int i_1),some (.int x),some (.int bt),some T,some (.int z),some (.int Gc),some (.str (mU ea)),some (.int k),some (.ref t3),some (.ref (t3+1)),some (.ref (t3+2)),some (.str c.s),v,none,none,none,none,none,none,none]) rfl ?_;show gw (d:=d+4) (a:=587) (xs:=[.ref db,.str c.s]) (fun _=>rfl) rfl ?_;show UR (d:=d) bv Bq fun af bf fd ev TI RL gi wE=>?_;have wE:bl fd af bf:=wE;have Lp:=ev.len;have Lq:=CU ev 0;have Lr:=CU ev x;have Cr:=B5.bF TI (by show ai [[1,0,1,1]] [_,_,_] [] [.lt .y .aa,.le .aa .x] (.aK (.eq .x .y)) ah fb f0);have T7:=B4.bF TI (by show ai [[1,0,1,1]] [_,_,_] [] [.lt .y .aa,.le .aa .x] (.aK (.eq (.a .x .l) .y)) ah fb f0);have T8:=tB.bF TI (by show ai [[1,0,1,1]] [_,_,_] [] [.lt .y .aa,.le .aa .x] (.aK (.eq (.a .x .b) .y)) ah fb f0);have P4:=A1.trans TI;show⟨(gU Cr).2.1,?_⟩;show(?_:W (cJ _ (.ref t3) .d_ [.ref af] fd) _ _);rw[qD Cr wE (by show ai [[1,0,1,1]] [_,_,_] [] [.lt (.a .y .b) .aa,.le .aa .x] (.aK (.eq .x .y)) ah hQ gi) (by unfold aP;show ai [[1,1,1,3,0,3,3]] [_,_,_,_,_] [] [.le .aa .b,.lt .w .aa,.eq .u .w,.le .x (.m 3 .u),.le .y .c] (.lt (.a (.a .x .l) .y) .L) ah s7 m0 lh dQ Lp)];show W.dA ?_;have Iw:=Cr.self (s0:=k::d2 aZ++bf);have CS:=T7.set (k:=t3) (by show qe) (.list ((k::d2 aZ++bf).map .int));have CT:=T8.set (k:=t3) (by show ai [[0,1]] [_] [] [] (.aK (.eq .x (.a .x .b))) ah) (.list ((k::d2 aZ++bf).map .int));have CW:=wE.set (k:=t3) (by show ai [[0,1,1,1]] [_,_,_] [] [.lt (.a .x .b) .aa,.le .aa .y] (.aK (.eq .x .y)) ah hQ gi) (.list ((k::d2 aZ++bf).map .int));have IH:=RL.bF (aO.set t3 fd (.list ((k::d2 aZ++bf).map .int))) (by show ai [[0,1,1,1]] [_,_,_] [] [.lt .x .aa,.le .aa .y] (.aK (.eq .x .y)) ah fb f0);have Iy:=P4.iC (k:=t3) (by show ai [[1,1]] [_,_] [] [.le .x .y] (.le .x .y) ah f0) (.list ((k::d2 aZ++bf).map .int));generalize fd.set t3 (.list ((k::d2 aZ++bf).map .int))=pm at Iw CS CT CW IH Iy⊢;show⟨(gU CS).2.1,?_⟩;show gw (d:=d+4) (a:=611) (xs:=[.str c.s,.ref af,.int (0:Nat)]) (fun _=>rfl) rfl ?_;show JO (d:=d+1) bv ev CW (by show yB) fun jF Cl hp nE hQ=>?_;have Vs:=Iw.bA hp;have IP:=CS.bA hp;have Vr:=CT.bA hp;have Vu:=CW.bA hp;have Vv:=IH.bA hp;have Vt:=Iy.trans (hp.bF db);have R9:=CT.lt;show(?_:W (cJ _ (.ref (t3+1)) .d_ [.ref jF] Cl) _ _);rw[qD IP hQ (by show ai [[1,0,1,1]] [_,_,_] [] [.le .aa .x,.lt (.a .y .b) .aa] (.aK (.eq .x (.a .y .l))) ah nE R9) (by unfold aP;show ai [[1,1,1,20,0,20,20]] [_,_,_,_,_] [] [.le .aa .b,.lt .w .aa,.eq .u .w,.le .x (.m 20 .u),.le .y .eh] (.lt (.a .x .y) .L) ah s7 m0 lh gF Lq)];show W.dA ?_;have JE:=Vs.set (k:=t3+1) (by show uT) (.list ((dD 0 aZ++cU c bf 0).map .int));have JD:=IP.self (s0:=dD 0 aZ++cU c bf 0);have ug:=Vr.set (k:=t3+1) (by show ai [[0,1]] [_] [] [] (.aK (.eq (.a .x .l) (.a .x .b))) ah) (.list ((dD 0 aZ++cU c bf 0).map .int));have JL:=Vu.set (k:=t3+1) (by show ai [[0,1,1,1]] [_,_,_] [] [.lt (.a .x .b) .aa,.le .aa .y] (.aK (.eq (.a .x .l) .y)) ah (by assumption) gi) (.list ((dD 0 aZ++cU c bf 0).map .int));have ts:=Vv.bF (aO.set (t3+1) Cl (.list ((dD 0 aZ++cU c bf 0).map .int))) (by show ai [[0,1,1,1]] [_,_,_] [] [.lt .x .aa,.le .aa .y] (.aK (.eq .x (.a .y .l))) ah fb f0);have JF:=Vt.iC (k:=t3+1) (by show rX f0) (.list ((dD 0 aZ++cU c bf 0).map .int));generalize Cl.set (t3+1) (.list ((dD 0 aZ++cU c bf 0).map .int))=Re at JE JD ug JL ts JF⊢;show⟨(gU ug).2.1,?_⟩;show gw (d:=d+4) (a:=611) (xs:=[.str c.s,.ref af,.int x]) (fun _=>rfl) rfl ?_;show JO (d:=d+1) bv ev JL ad fun wZ kC i2 gj jw=>?_;have tj:=ug.lt;show(?_:W (cJ _ (.ref (t3+2)) .d_ [.ref wZ] kC) _ _);rw[qD (ug.bA i2) jw (by show ai [[1,0,1,1]] [_,_,_] [] [.le .aa .x,.lt (.a .y .b) .aa] (.aK (.eq .x (.a .y .b))) ah gj tj) (by unfold aP;show ai [[1,1,1,20,0,20,20]] [_,_,_,_,_] [] [.le .aa .b,.lt .w .aa,.eq .u .w,.le .x (.m 20 .u),.le .y .eh] (.lt (.a .x .y) .L) ah s7 m0 lh Lo Lr)];show⟨aZ++[(c,bf)],?_,?_,?_,?_,?_,?_,?_,_,_,rfl⟩;·rw[List.map_append,hR,List.take_add_one,Z];rfl
  ·intro aa lm;rcases List.mem_append.mp lm with lm|lm
   ·show kh aa lm
   ·obtain rfl:=ee.mp lm;show ev
  ·show(JF.trans (i2.bF db)).iC (by show ai [[1,1]] [_,_] [] [.le .x .y] (.le .x (.a .y .b)) ah f0) _
  ·show(ts.bA i2).bF (aO.set (t3+2) kC _) (by show ai [[0,1,1,1]] [_,_,_] [] [.lt .x .aa,.le .aa .y] (.aK (.eq .x (.a .y .b))) ah fb f0)
  ·rw[UT];show(JE.bA i2).set (by show ai [[1]] [_] [] [] (.aK (.eq (.a .x .b) .x)) ah) _
  ·rw[I6];show(JD.bA i2).set (by show ai [[1]] [_] [] [] (.aK (.eq (.a .x .b) (.a .x .l))) ah) _
  ·rw[I6];show(ug.bA i2).self
 ·show aX fun _ done=>?_;obtain⟨aZ,hR,kh,A1,Bq,B5,B4,tB,u,v,rfl⟩:=ga;rw[bD,List.take_length]at hR;have hQ:=tB.lt;have fa:=Um ar A4 la hR kh bt x;have nJ:=xA ar A4 la;simp only[mO,fM,gz]at nJ;have lh:aZ.length≤2:=by have:=congrArg List.length hR;rw[bD]at this;show ai [[1,1,0,1]] [_,_] [] [.le .y .b,.eq .x .y] (.le .x .b) ah s7 this
  have dQ:=Io kh;have NI:∀P:aY,cY P .tuple [.ref t3] H=.ok (bj (k::d2 aZ)) H:=fun P=>by have e:c0 H t3=some ((k::d2 aZ).map .int):=d1 B5;show(gY e).trans (aF (by simp;unfold aP;show ai [[1,1,3]] [_,_] [] [.le .y .b,.le .x (.m 3 .y)] (.lt (.a .x .l) .L) ah lh dQ))
  show done ?_;show rB (rM (gv ?_));show kA (xs:=[.ref t3]) (fun _=>rfl) (NI _) ?_;show gw (d:=d+4) (a:=618) (xs:=[.int k,.int (0:Nat)]) (fun _=>rfl) rfl ?_;show y5 (d:=d+1) bv (by show ai [[1,1,0,0,0,1]] [] [_,_,_] [.aA (.ax .y .aa) (.aA (.au (.s .aa .y) (.k 1000)) (.aA (.ax .o .y) (.au .aa (.k 64530)))),.ax .x .aa] (.au .x (.a .K .A)) ah jD la) (by show yB) fun ol Zi R2 GF ih=>?_;show gw (d:=d+4) (a:=618) (xs:=[.int k,.int x]) (fun _=>rfl) rfl ?_;show y5 (d:=d+1) bv (by show ai [[1,1,0,0,0,1]] [] [_,_,_] [.aA (.ax .y .aa) (.aA (.au (.s .aa .y) (.k 1000)) (.aA (.ax .o .y) (.au .aa (.k 64530)))),.ax .x .aa] (.au .x (.a .K .A)) ah jD la) ad fun hU jR Hc wb GN=>?_;show ky (W.dA ?_);show m2 (xs:=[.ref (t3+1),.ref (t3+2)]) (fun _=>rfl) (by simp[aP]) ?_;have vT:=R2.trans Hc;have lA:bc jR (jR++[aI.list [.ref ol,.ref hU]]):=bc.push _ _;have rg:bc (jR++[aI.list [.ref ol,.ref hU]]) (jR++[aI.list [.ref ol,.ref hU]]++[aI.list [.ref (t3+1),.ref (t3+2)]]):=bc.push _ _;have io:(jR++[aI.list [.ref ol,.ref hU]]++[aI.list [.ref (t3+1),.ref (t3+2)]])[jR.length]?=some (.list [.ref ol,.ref hU]):=hY (bG jR _) _;have Tm:=bG (jR++[aI.list [.ref ol,.ref hU]]) (aI.list [.ref (t3+1),.ref (t3+2)]);have GG:=ih.lt;have GH:=GN.lt;have nb:(jR++[aI.list [.ref ol,.ref hU]]++[aI.list [.ref (t3+1),.ref (t3+2)]]).length=jR.length+2:=by simp
  have mq:(jR++[aI.list [.ref ol,.ref hU]]).length=jR.length+1:=by simp
  have i0:=vT.trans (lA.trans rg);show q _ (HX k aZ bt x) _ fa rfl (show k≠11 by simpa using nJ.1.1.2) (show k≠5 by simpa using nJ.1.2) (A1.trans (i0.bF db)) (Bq.bA i0) ?_;rw[nb];show nS _ _ rfl ⟨ol,hU,io,(ih.bA Hc).bA (lA.trans rg),GN.bA (lA.trans rg),?_⟩ ⟨t3+1,t3+2,?_,B4.bA i0,tB.bA i0,?_⟩;·show ai [[1,1,1,1,1,1,1],[1],[1,0,0,0,1,1,1],[1,1,1,1],[1,0,1,1,1,1,1],[1,1]] [_,_,_,_,_,_,_] [] [.le .x .u,.lt (.a .u .b) .t,.le .t .aa,.le .p .w,.lt .aa .p,.lt .w .y] (.aA (.le .x .y) (.aA (.lt .y (.a .y .b)) (.aA (.le .x .aa) (.aA (.lt .aa (.a .y .b)) (.aA (.le .x .w) (.lt .w (.a .y .b))))))) ah f0 hQ GF wb GG GH
  ·show Tm
  ·show ai [[1,0,1,1,1,1,1,1,1],[1,1],[1,0,0,0,0,0,0,0,1],[1,0,0,1,1,1,1,1],[1,0,0,0,0,0,0,0,1],[1,0,0,1,1,1,1,1]] [_,_,_,_,_,_,_,_] [] [.le .x .w,.lt (.a .w .b) .u,.le .u .t,.le .p .q,.lt .t .p,.lt .q .aa,.eq .y (.a .aa .l)] (.aA (.le .x .y) (.aA (.lt .y (.a .aa .b)) (.aA (.le .x (.a .w .l)) (.aA (.lt (.a .w .l) (.a .aa .b)) (.aA (.le .x (.a .w .b)) (.lt (.a .w .b) (.a .aa .b))))))) ah f0 hQ GF wb GG GH mq
 ·rw[bD];show ai [[1,1,1]] [_,_] [] [.le .R .y,.le .x .b] (.lt .x .y) ah bv s7
end
end
section
def e2(j:ae)(z an:Nat):List ag→List aT→Prop
 |[],[]=>True
 |v::vs,r::rs=>jf j z an v r∧e2 j z an vs rs
 |_,_=>False
theorem e2.len{j:ae}{z an:Nat}:∀{vs:List ag}{rs:List aT},e2 j z an vs rs→vs.length=rs.length
 |[],[],_=>rfl
 |_::_,_::_,h=>by rw[hF,hF,h.2.len]
 |[],_::_,h=>h.elim
 |_::_,[],h=>h.elim
theorem e2.bF{j H:ae}{z an c:Nat}(f:aO c j H)(Z:c<z∨an≤c):∀{vs:List ag}{rs:List aT},e2 j z an vs rs→e2 H z an vs rs:=by
 intro ca;induction ca with
 |nil=>
  intro sK h;cases sK with
  |nil=>show trivial
  |cons lP mY=>show h.elim
 |cons iH T0 ap=>
  intro SB h;cases SB with
  |nil=>show h.elim
  |cons h2 jb=>show⟨h.1.bF f Z,ap h.2⟩
theorem e2.iK{j:ae}{z an f4 Gc:Nat}(I:f4≤z)(O:an≤Gc):∀{vs:List ag}{rs:List aT},e2 j z an vs rs→e2 j f4 Gc vs rs:=by
 intro ca;induction ca with
 |nil=>
  intro sK h;cases sK with
  |nil=>show trivial
  |cons lP mY=>show h.elim
 |cons iH T0 ap=>
  intro SB h;cases SB with
  |nil=>show h.elim
  |cons h2 jb=>show⟨h.1.iK I O,ap h.2⟩
theorem e2.du{j:ae}{z an:Nat}{v:ag}{r:aT}(ar:jf j z an v r):∀{vs:List ag}{rs:List aT},e2 j z an vs rs→e2 j z an (vs++[v]) (rs++[r]):=by
 intro ca;induction ca with
 |nil=>
  intro sK h;cases sK with
  |nil=>show⟨ar,trivial⟩
  |cons lP mY=>show h.elim
 |cons iH T0 ap=>
  intro SB h;cases SB with
  |nil=>show h.elim
  |cons h2 jb=>show⟨h.1,ap h.2⟩
theorem e2.get{j:ae}{z an:Nat}:∀{vs:List ag}{rs:List aT}{i:Nat}{v:ag},e2 j z an vs rs→vs[i]?=some v→∃r,rs[i]?=some r∧jf j z an v r:=by
 intro ca;induction ca with
 |nil=>intro sK Ev Da FM e;simp at e
 |cons v vs ap=>
  intro hg SB w h e;cases hg with
  |nil=>show h.elim
  |cons r rs=>
   cases SB with
   |zero=>simp only[List.getElem?_cons_zero,Option.some.injEq]at e;subst e;show b' r rfl h.1
   |succ i=>show aW (ap h.2 e) fun r I O=>?_;rw[List.getElem?_cons_succ]at e;show b' r (by rw[List.getElem?_cons_succ];show I) O
theorem e2.take{j:ae}{z an:Nat}:∀(n:Nat){vs:List ag}{rs:List aT},e2 j z an vs rs→e2 j z an (vs.take n) (rs.take n):=by
 intro ca;induction ca with
 |zero=>intro sK Ev Da;trivial
 |succ n ap=>
  intro FM hg h;cases FM with
  |nil=>
   cases hg with
   |nil=>trivial
   |cons iI h2=>show h.elim
  |cons jb lQ=>
   cases hg with
   |nil=>show h.elim
   |cons uB JV=>show⟨h.1,ap h.2⟩
theorem e2.drop{j:ae}{z an:Nat}:∀(n:Nat){vs:List ag}{rs:List aT},e2 j z an vs rs→e2 j z an (vs.drop n) (rs.drop n):=by
 intro ca;induction ca with
 |zero=>intro sK Ev h;show h
 |succ n ap=>
  intro Da FM h;cases Da with
  |nil=>
   cases FM with
   |nil=>trivial
   |cons T0 iI=>show h.elim
  |cons h2 jb=>
   cases FM with
   |nil=>show h.elim
   |cons lQ uB=>show ap h.2
def eL(j:ae)(z an b:Nat)(rs:List aT):Prop:=∃vs,j[b]?=some (.list vs)∧e2 j z an vs rs
theorem eL.bF{j H:ae}{z an b c:Nat}{rs:List aT}(h:eL j z an b rs)(f:aO c j H)(Z:c<z∨an≤c)(Y:b≠c):eL H z an b rs:=by show aW h fun vs I O=>?_;show⟨vs,f.get I Y,O.bF f Z⟩
theorem eL.iK{j:ae}{z an f4 Gc b:Nat}{rs:List aT}(h:eL j z an b rs)(I:f4≤z)(O:an≤Gc):eL j f4 Gc b rs:=by show aW h fun vs e h=>?_;show⟨vs,e,h.iK I O⟩
def dH:List Int→List aT→List Int→Prop
 |cs,[],UF=>cs=UF
 |cs,r::rs,UF=>cs.getLast?=some r.bt∧(r.k=5→r.bt=4)∧dH (mT cs r.k) rs UF
theorem dH.du{r:aT}{b:List Int}(I:b.getLast?=some r.bt)(O:r.k=5→r.bt=4):∀{a:List Int}{rs:List aT},dH a rs b→dH a (rs++[r]) (mT b r.k)
 |a,[],h=>by obtain rfl:=(show a=b from h);show⟨I,O,rfl⟩
 |_,_::_,h=>⟨h.1,h.2.1,dH.du I O h.2.2⟩
theorem dH.split:∀(n:Nat){a c:List Int}{rs:List aT},dH a rs c→∃b,dH a (rs.take n) b∧dH b (rs.drop n) c:=by
 intro ca;induction ca with
 |zero=>intro a sK Ev h;show b' a rfl h
 |succ n ap=>
  intro a c Da h;cases Da with
  |nil=>show b' a rfl h
  |cons iH T0=>show aW (ap h.2.2) fun b I O=>?_;show⟨b,⟨h.1,h.2.1,I⟩,O⟩
theorem dH.DA{f:aT→St}(ch:∀r,(f r).k=r.k):∀{a b:List Int}{rs:List aT},dH a rs b→yP a (rs.map f) b
 |_,_,[],h=>h
 |a,_,r::rs,h=>by
  show xb ?_ ?_ ?_;·rintro rfl;have:=h.1;simp at this
  ·intro ak;rw[ch]at ak;rw[h.1,h.2.1 ak]
  ·rw[ch];show dH.DA ch h.2.2
structure d9(j:ae)(k PP an:Nat)(H:ae)(cs:List Int)(bP:List aT):Prop where
 bF:aO k j H
 mQ:∃s0,bl H k s0∧s0.length≤PP
 ox:bl H (j.length+1) cs
 xu:eL H (j.length+2) an j.length bP
 ak:k<j.length
 ml:j.length+2≤an
 kf:an≤H.length
theorem d9.nu{j fd pm:ae}{k PP an c:Nat}{cs:List Int}{bP:List aT}(h:d9 j k PP an fd cs bP)(f:aO c fd pm)(Z:an≤c):d9 j k PP an pm cs bP:=by obtain⟨I,⟨s0,O,bn⟩,lc,nl,wf,ws,hN⟩:=h;show⟨I.new f (by show ai [[1,1,1]] [_,_,_] [] [.le .aa .y,.le (.a .x .b) .aa] (.le .x .y) ah Z ws),⟨s0,O.bF f (by show ai [[0,1,1,1,1]] [_,_,_,_] [] [.le .aa .y,.lt .x .w,.le (.a .w .b) .aa] (.aK (.eq .x .y)) ah Z wf ws),bn⟩,lc.bF f (by show ai [[0,1,1,1]] [_,_,_] [] [.le .aa .y,.le (.a .x .b) .aa] (.aK (.eq (.a .x .l) .y)) ah Z ws),nl.bF f (.inr Z) (by show ai [[0,1,1,1]] [_,_,_] [] [.le .aa .y,.le (.a .x .b) .aa] (.aK (.eq .x .y)) ah Z ws),wf,ws,c6 hN f.1⟩
theorem d9.bA{j fd pm:ae}{k PP an:Nat}{cs:List Int}{bP:List aT}(h:d9 j k PP an fd cs bP)(f:bc fd pm):d9 j k PP an pm cs bP:=h.nu (c:=an) (f.bF _) (cm _)
theorem d9.V'{j fd pm:ae}{k PP an:Nat}{cs s0:List Int}{bP:List aT}(h:d9 j k PP an fd cs bP)(f:aO k fd pm)(V:bl pm k s0)(WF:s0.length≤PP):d9 j k PP an pm cs bP:=by obtain⟨I,_,lc,nl,wf,ws,hN⟩:=h;show⟨I.trans f,⟨s0,V,WF⟩,lc.bF f (by show om wf),nl.bF f (.inl (by show ai [[1,1]] [_,_] [] [.lt .x .y] (.lt .x (.a .y .b)) ah wf)) (by show hG wf),wf,ws,c6 hN f.1⟩
theorem d9.xI{j fd:ae}{k PP an:Nat}{cs:List Int}{bP:List aT}(h:d9 j k PP an fd cs bP)(UF:List Int):d9 j k PP an (fd.set (j.length+1) (.list (UF.map .int))) UF bP:=by show aX fun _ done=>?_;obtain⟨I,⟨s0,O,bn⟩,lc,nl,wf,ws,hN⟩:=h;have f:=aO.set (j.length+1) fd (.list (UF.map .int));show done ?_;show⟨I.iC (by show rS) _,⟨s0,O.set (by show om wf) _,bn⟩,lc.self,nl.bF f (.inl (by show ai [[1]] [_] [] [] (.lt (.a .x .l) (.a .x .b)) ah)) (by show qe),wf,ws,by rw[List.length_set];show hN⟩
theorem d9.II{j fd:ae}{k PP an Gc:Nat}{cs:List Int}{bP:List aT}{v:ag}{r:aT}(h:d9 j k PP an fd cs bP)(ar:jf fd (j.length+2) Gc v r)(it:an≤Gc)(QT:Gc≤fd.length):∃vs,fd[j.length]?=some (.list vs)∧vs.length=bP.length∧d9 j k PP Gc (fd.set j.length (.list (vs++[v]))) cs (bP++[r])∧(fd.set j.length (.list (vs++[v])))[j.length]?=some (.list (vs++[v])):=by show aX fun _ done=>?_;obtain⟨I,⟨s0,O,bn⟩,lc,⟨vs,nl,oT⟩,wf,ws,hN⟩:=h;have f:=aO.set j.length fd (.list (vs++[v]));show done ?_;show Cu vs nl oT.len ⟨I.iC (cm _) _,⟨s0,O.set (by show hG wf) _,bn⟩,lc.set (by show qe) _,⟨vs++[v],eu nl,?_⟩,wf,by show ai [[1,1,1]] [_,_,_] [] [.le .aa .y,.le (.a .x .b) .aa] (.le (.a .x .b) .y) ah it ws,by rw[List.length_set];show QT⟩ (eu nl);show((oT.iK (cm _) it).du ar).bF f (.inl (by show ai [[1]] [_] [] [] (.lt .x (.a .x .b)) ah))
theorem d9.iK{j fd:ae}{k PP an:Nat}{cs:List Int}{bP:List aT}(h:d9 j k PP an fd cs bP):d9 j k PP fd.length fd cs bP:=⟨h.bF,h.mQ,h.ox,h.xu.iK (cm _) h.kf,h.ak,c6 h.ml h.kf,cm _⟩
end
section
theorem aT.b8.bf{r:aT}(h:r.b8):r.bf.length<1000:=by
 rcases h.Ip.bh with⟨_,h,_⟩|⟨_,_,h,_⟩
 ·have h:r.bf=[]:=h;rw[h];decide
 ·show h
section
variable{N:Nat}{sa:Addr}{ns:List Int}{d:Nat}{j:ae}{Q:ag→ae→Prop}{X:Nat→ae→Prop}
theorem XM{N:Nat}{sa:Addr}{ns:List Int}{d:Nat}{a:Addr}{as:b5}{xs:List ag}{z:aq}{H:ae}(ad:∀Q,cR (b9 N sa ns d) as z j Q X=Q xs H)(an:cZ a=false)(h:W (run a_ N sa ns d a xs H) Q X):wp (b9 N sa ns d) (.call (.aC (.fn a)) as) z j Q X:=by show uy (el ?_);rw[ad];rw[ve rfl an];show h
theorem CX{k PP an i:Nat}{fd pm:ae}{Lc cs:List Int}{bP:List aT}{code bt:Int}{E:a0}{z:aq}(ul:(z[i]?).join=some (.ref j.length))(ac:d9 j k PP an fd Lc bP)(zs:∀Q,wp (b9 N sa ns (d+1)) E z fd Q X=Q (.int bt) pm)(h:d9 j k PP an pm cs bP)(V:bP.length<1000)(q:∀Cl,d9 j k PP Cl.length Cl cs (bP++[mL code bt])→Q .none Cl):wp (b9 N sa ns (d+1)) (.bq (.aw i) .b2 (.cons (.call (.aC (.fn 632)) (.cons (.aC (.int code)) (.cons E .nil))) .nil)) z fd Q X:=by
 show aW ac.xu fun JZ h8 _=>?_;show rL (ew ?_);rw[ul];show aX fun _ done=>?_;show done ?_;show⟨(gU h8).1,?_⟩;show gv (XM (xs:=[.int code,.int bt]) (H:=pm) (fun Q=>?_) rfl ?_);·show zs fun x j=>Q [.int code,x] j
 ·show Vc fun v Cl f0 ar=>?_;have bn:=h.bA f0;show aX fun _ done=>?_;show oM (bn.II (ar.iK (c6 h.ml h.kf) (cm _)) bn.kf (cm _)) fun vs cd ex lc _=>?_;show done ?_;show(?_:W (cJ _ (.ref j.length) .b2 [v] Cl) _ _);rw[ow cd (by rw[ex];unfold aP;show rU V)];show q _ lc.iK
def D5(j:ae)(k PP i:Nat)(H:ae):Prop:=∃cs bP,d9 j k PP H.length H cs bP∧dH [0] bP cs∧(∀r∈bP,r.b8)∧bP.length=i∧cs.length≤i+1∧∃bh,cs=0::bh∧∀aa∈bh,aa≠0
theorem Eh{bP:List aT}{r:aT}(h:∀r∈bP,r.b8)(ar:r.b8):∀x∈bP++[r],x.b8:=by
 intro x ad;rcases List.mem_append.mp ad with ad|ad
 ·show h x ad
 ·obtain rfl:_=_:=ee.mp ad;show ar
abbrev KR(l:List Int)(k x:Nat)(Op:ag)(tz iE iF:Option ag)(j:ae)(m:Nat)(z:aq)(H1:ae):Prop:=∃cs bP,z=[some (.ref k),some Op,some (.int x),some (.ref j.length),some (.ref (j.length+1)),tz,iE,iF,none,none,none,none,none]∧d9 j k l.length H1.length H1 cs bP∧dH [0] bP cs∧(∀r∈bP,r.b8)∧cs.length=m∧bP.length+m≤50
noncomputable abbrev KL(j:ae)(k x:Nat)(Op:ag)(tz iE iF:Option ag):aq:=[some (.ref k),some Op,some (.int x),some (.ref j.length),some (.ref (j.length+1)),tz,iE,iF,none,none,none,none,none]
abbrev yM(j:ae)(k x:Nat)(Op:ag)(l:List Int)(i:Nat)(f4:aq)(H:ae):Prop:=D5 j k l.length i H∧∃tz iE iF,f4=KL j k x Op tz iE iF
theorem WV{k x n:Nat}{Op:ag}{l:List Int}(nO:Op=.int n)(bv:1000≤N)(bi:n≤20)(ad:x≤2)(h:bl j k l)(V:l.length<1000)(q:∀bP b f4 an H,dH [0] bP []→(∀r∈bP,r.b8)→bP.length≤100→aO k j H→(∃s0,bl H k s0∧s0.length≤l.length)→eL H f4 an b bP→j.length≤f4→an≤H.length→j.length≤b→Q (.ref b) H):W (run a_ N sa ns (d+6) 639 [.ref k,Op,.int x] j) Q X:=by
 have ak:=h.lt;have Pi:=rE (n:=n) (by show ai [[1,1]] [_] [] [.le .x .eh] (.lt .x .T) ah bi);rw[←nO]at Pi;show bQ (f:=Ag) rfl rfl ?_;show m2 (xs:=[]) (fun _=>rfl) (by simp[aP]) ?_;show m2 (xs:=[.int 0]) (fun _=>rfl) (by simp[aP]) ?_;have nq:(j++[aI.list []]).length=j.length+1:=by simp
 have am:d9 j k l.length (j++[aI.list []]++[aI.list [.int 0]]).length (j++[aI.list []]++[aI.list [.int 0]]) [0] []:=by show⟨(aO.push k j _).trans (aO.push k _ _),⟨l,(h.bA (bc.push j _)).bA (bc.push _ _),cm _⟩,?_,⟨[],hY (bG j _) _,trivial⟩,ak,by simp,cm _⟩;show nq▸bG _ _
 rw[nq];generalize j++[aI.list []]++[aI.list [.int 0]]=pQ at am⊢;show df (kY (v:=Op) (fd:=pQ) (l:=(List.range n).map fun(i:Nat)=>ag.int i) rfl (fun _=>rfl) (Pi pQ) (yM j k x Op l) (fun i z H _=>rfl) (fun i y f4 H ga f1=>?_) (fun f4 H ga=>?_) ⟨⟨[0],[],am,rfl,fun r ar=>(by cases ar),rfl,by simp,[],rfl,fun aa lm=>(by cases lm)⟩,_,_,_,rfl⟩ ?_)
 ·have an:i<n:=by simpa using(c7.mp f1).1
  have BI:y=.int i:=by rw[eQ,List.getElem?_range an]at f1;injection f1 with f1;show f1.symm
  subst BI;show aX fun _ done=>?_;obtain⟨⟨cs,bP,hf,pl,ev,pi,hl,bh,hn,wo⟩,tz,iE,iF,rfl⟩:=ga;show aW hf.mQ fun s0 sY WF=>?_;show done ?_;show cN (v:=[some (.ref k),some Op,some (.int x),some (.ref j.length),some (.ref (j.length+1)),some (.int i),iE,iF,none,none,none,none,none]) rfl ?_;show dP (gw (d:=d+5) (a:=540) (xs:=[.ref k]) (fun _=>rfl) rfl ?_);show Ie (d:=d+4) sY (by show ai [[1,1,1]] [_,_] [] [.lt .y .R,.le .x .y] (.lt .x .R) ah V WF) fun af YV fd TI wE i1 dl hT=>?_;have fB:=hf.V' TI wE (by show ai [[1,1,1]] [_,_,_] [] [.le .aa .y,.le .x .aa] (.le .x .y) ah WF i1);obtain⟨bt,mx⟩:∃bt,cs.getLast?=some bt:=by show hn▸⟨_,List.getLast?_eq_some_getLast (List.cons_ne_nil _ _)⟩
  have F7:=fB.ox;have tg:(cs.map ag.int).getLast?=some (.int bt):=by rw[List.getLast?_map,mx];rfl
  have qX:(cs.map ag.int).length<aP:=by rw[bD];unfold aP;show ai [[1,1,1,1]] [_,_,_] [] [.le .y .eh,.lt .aa .y,.le .x (.a .aa .l)] (.lt .x .L) ah bi an hl
  have q1:∀(pm:ae)(tz iE iF:Option ag)(UF:List Int)(r:aT)(Gc:Nat),d9 j k l.length Gc pm UF (bP++[r])→UF=mT cs r.k→r.bt=bt→(r.k=5→bt=4)→r.b8→(UF.length≤i+2)→(∃bh,UF=0::bh∧∀aa∈bh,aa≠0)→D5 j k l.length (i+1) pm:=by intro pm _ _ _ UF r Gc fC k8 im nl ar Qp RF;show Up UF (bP++[r]) fC.iK ?_ (Eh ev ar) (by simp[pi]) (by show ai [[1,1]] [_,_] [] [.le .x (.a .y .b)] (.le .x (.a (.a .y .l) .l)) ah Qp) RF;rw[k8];show dH.du (by rw[im];show mx) (fun aa=>by rw[im];show nl aa) pl
  have Jw:∀pm,d9 j k l.length H.length pm cs bP→cn af pm→bX (b9 N sa ns (d+5)) (.cons (.bB (.bq (.aw 3) .b2 (.cons (.call (.aC (.fn 625)) (.cons (.aw 6) (.cons (.aw 5) (.cons (.aw 2) (.cons (.aw 7) .nil))))) .nil))) (.cons (.ite (.aQ .In (.sub (.sub (.sub (.aw 3) (.neg (.aC (.int (1))))) (.aC (.int (0)))) (.aC (.int (0)))) (.av (.cons (.aC (.int (2))) (.cons (.aC (.int (3))) (.cons (.aC (.int (4))) .nil))))) (.cons (.bB (.bq (.aw 4) .b2 (.cons (.sub (.sub (.sub (.aw 3) (.neg (.aC (.int (1))))) (.aC (.int (0)))) (.aC (.int (0)))) .nil))) .nil) .nil) .nil)) [some (.ref k),some Op,some (.int x),some (.ref j.length),some (.ref (j.length+1)),some (.int i),some (.ref af),some (.int bt),none,none,none,none,none] pm (yM j k x Op l (i+1)) (fun v _ j=>Q v j) (fun k _ j=>X k j):=by
   intro pm fC jC;obtain⟨JZ,h8,_⟩:=fC.xu;show pS (rL ?_);show b3 (x:=some (ag.ref j.length)) rfl ?_;show⟨(gU h8).1,?_⟩;show gw (d:=d+5) (a:=625) (xs:=[.ref af,.int i,.int x,.int bt]) (fun _=>rfl) rfl ?_;show WS (d:=d) bv jC (by show ai [[1,1,1]] [_,_] [] [.le .y .eh,.lt .x .y] (.lt .x .S) ah bi an) ad fun v r Cl ar G2 Tl nl fV ph fX=>?_;have gh:=fC.nu fV dl;show oM (gh.II (fX.iK (c6 fC.ml fC.kf) (cm _)) gh.kf (cm _)) fun vs cd ex hP wT=>?_;show(?_:W (cJ _ (.ref j.length) .b2 [v] Cl) _ _);rw[ow cd (by rw[ex];unfold aP;show ai [[1,1,0,1,1]] [_,_,_] [] [.le .y .eh,.lt .aa .y,.eq .x .aa] (.lt .x .L) ah bi an pi)];show W.dA ?_;generalize Cl.set j.length (.list (vs++[v]))=Re at hP wT⊢;show aX fun _ done=>?_;have RT:dj Re (.ref j.length) (.int (-1))=some v:=Dl wT (by simp[ex];unfold aP;show ai [[1,1,0,1,1]] [_,_,_] [] [.le .y .eh,.lt .aa .y,.eq .x .aa] (.lt (.a .x .l) .L) ah bi an pi) (by simp);clear fd TI wE i1 dl hT fB mx F7 tg fC jC JZ h8 right fV ph gh vs cd ex wT;show dR fX fun sd Ym cl _ _=>?_;subst cl;have RU:dj Re (bj r.g5) (.int 0)=some (.int r.k):=xO Re ar.bf;have o_:∀Q,wp (b9 N sa ns (d+5)) (.sub (.sub (.sub (.aw 3) (.neg (.aC (.int (1))))) (.aC (.int (0)))) (.aC (.int (0)))) [some (.ref k),some Op,some (.int x),some (.ref j.length),some (.ref (j.length+1)),some (.int i),some (.ref af),some (.int bt),none,none,none,none,none] Re Q (fun k j=>X k j)=Q (.int r.k) Re:=fun Q=>by show(?_:bg (dj Re (.ref j.length) (.int (-1))) (fun a=>bg (dj Re a (.int 0)) fun b=>bg (dj Re b (.int 0)) fun c=>Q c Re)=_);rw[RT];show(?_:bg (dj Re (bj r.g5) (.int 0)) (fun c=>Q c Re)=_);rw[RU];rfl
   have vo:mT cs r.k=if r.k∈[(2:Int),3,4]then cs++[r.k]else cs:=by unfold mT;rw[aM Tl,aM nl]
   have gH:cC .In (.int r.k) (.av [.int 2,.int 3,.int 4]) Re=some (decide (r.k∈[(2:Int),3,4])):=pw r.k [2,3,4];show done ?_;show cP gH ?_ o_ (fun _=>rfl);show(?_:bN (some (decide (r.k∈[(2:Int),3,4]))) _ _);by_cases ju:r.k∈[(2:Int),3,4]
   ·rw[cF ju];rw[aF ju]at vo;have F8:=hP.ox;show⟨(gU F8).1,?_⟩;show gv ?_;rw[o_];show ky ?_;rw[ow F8 qX];have gI:=hP.xI (cs++[r.k]);rw[List.map_append]at gI;show⟨q1 _ none none none _ r _ gI vo.symm G2 (fun aa=>absurd aa nl) ar (by simp;show ai [[1,1]] [_,_] [] [.le .x (.a .y .l)] (.le .x (.a .y .l)) ah hl) ⟨bh++[r.k],by rw[hn];rfl,?_⟩,_,_,_,rfl⟩;intro aa lm;rcases List.mem_append.mp lm with lm|lm
    ·show wo aa lm
    ·obtain rfl:=ee.mp lm;simp only[ep,List.mem_nil_iff,or_false]at ju;show ai [[1,0,0,1],[1,0,0,1],[1,0,0,1]] [] [_] [.or (.a8 .x (.k 2)) (.or (.a8 .x (.k 3)) (.a8 .x (.k 4)))] (.aK (.a8 .x .o)) ah ju
   ·rw[cE ju];rw[aM ju]at vo;show⟨q1 _ none none none _ r _ hP vo.symm G2 (fun aa=>absurd aa nl) ar (by show ai [[1,1]] [_,_] [] [.le .x (.a .y .l)] (.le .x (.a .y .b)) ah hl) ⟨bh,hn,wo⟩,_,_,_,rfl⟩
  show b3 (Dl F7 qX tg) ?_;show cP (xc fd bt 0) ?_ (fun _=>rfl) (fun _=>rfl);show(?_:bN (some (bt !=0)) _ _);by_cases BA:bt=0;·rw[bne_eq_false_iff_eq.mpr BA];show Jw fd fB hT
  rw[bne_iff_ne.mpr BA];dsimp only[bN];show fg (d:=d+4) (m:=3) hT (by show oo) (fun _=>rfl) fun lE pm Yv Yw ty jC=>?_;show el (hV (e6 pm lE 2) ?_);have fC:=fB.nu ty dl;cases jB:(lE==2)with
  |false=>show Jw pm fC jC
  |true=>
  have G1:bP.length<1000:=by show ai [[1,1,0,1,1]] [_,_,_] [] [.le .y .eh,.lt .aa .y,.eq .x .aa] (.lt .x .R) ah bi an pi
  have qR:cs.dropLast.length≤i+2∧∃xx,cs.dropLast=0::xx∧∀aa∈xx,aa≠0:=by
   show⟨by simp;show ai [[1,1]] [_,_] [] [.le .x (.a .y .l)] (.le .x (.a (.a .y .b) .l)) ah hl,?_⟩;cases bh with
   |nil=>rw[hn]at mx;simp at mx;show absurd mx.symm BA
   |cons aa Kb=>show⟨(aa::Kb).dropLast,by rw[hn];rfl,fun y f1=>wo y (List.dropLast_subset _ f1)⟩
  have Fq:∀pm,d9 j k l.length H.length pm cs bP→bX (b9 N sa ns (d+5)) (.cons (.bB (.bq (.aw 4) .gn .nil)) (.cons (.bB (.bq (.aw 3) .b2 (.cons (.call (.aC (.fn 632)) (.cons (.aC (.int (11))) (.cons (.aw 7) .nil))) .nil))) .nil)) [some (.ref k),some Op,some (.int x),some (.ref j.length),some (.ref (j.length+1)),some (.int i),some (.ref af),some (.int bt),none,none,none,none,none] pm (yM j k x Op l (i+1)) (fun v _ j=>Q v j) (fun k _ j=>X k j):=by intro pm fC;have sJ:=fC.ox;show pS (rL ?_);show b3 (x:=some (ag.ref (j.length+1))) rfl ?_;show⟨(gU sJ).2.2,?_⟩;show(?_:W (cJ _ (.ref (j.length+1)) .gn [] pm) _ _);rw[CZ sJ qX tg];show W.dA ?_;have gh:=fC.xI cs.dropLast;rw[List.map_dropLast]at gh;show pS (CX (d:=d+4) rfl gh (fun _=>rfl) gh G1 fun Cl hP=>?_);show⟨q1 Cl none none none _ _ _ hP rfl rfl (fun aa=>by cases aa) (CY (.inl rfl) bt) qR.1 qR.2,_,_,_,rfl⟩
  show cP (e6 pm bt 4) ?_ (fun _=>rfl) (fun _=>rfl);show(?_:bN (some (bt==4)) _ _);by_cases BB:bt=4
  ·rw[dw.mpr BB];dsimp only[bN];show fg (d:=d+4) (m:=2) jC (by show rV) (fun _=>rfl) fun kr Cl Yx Yy fV ph=>?_;show el (hV (e6 Cl kr 1) ?_);have gh:=fC.nu fV dl;cases YI:(kr==1)with
   |false=>show Fq Cl gh
   |true=>
    have P2:=gh.ox;have li:cs≠[]:=by rw[hn];show List.cons_ne_nil _ _
    show cN (IM P2 qX (by simpa using li)) ?_;have hP:=gh.xI (cs.dropLast++[5]);rw[List.map_append,List.map_dropLast]at hP;show pS (CX (d:=d+4) rfl hP (fun _=>rfl) hP G1 fun Re gI=>?_);show aX fun _ done=>?_;obtain⟨YA,xx,QG,QH⟩:=qR;have Rc:(cs.dropLast++[5]).length≤i+2:=by simp;show ai [[1,1]] [_,_] [] [.le .x (.a .y .l)] (.le .x (.a (.a .y .l) .l)) ah hl
    show done ?_;show⟨q1 Re none none none _ _ _ gI rfl rfl (fun _=>BB) (CY (.inr rfl) bt) Rc ⟨xx++[5],by rw[QG];rfl,?_⟩,_,_,_,rfl⟩;intro aa lm;rcases List.mem_append.mp lm with lm|lm
    ·show QH aa lm
    ·obtain rfl:=ee.mp lm;decide
  ·rw[g8.mpr BB];show Fq pm fC
 ·show aX fun _ done=>?_;obtain⟨⟨cs,bP,hf,pl,ev,pi,hl,bh,hn,wo⟩,tz,iE,iF,rfl⟩:=ga;rw[bD,List.length_range]at pi hl;show done ?_;show⟨rfl,?_⟩;show oe (KR l k x Op tz iE iF j) ?_ N cs.length _ _ ⟨cs,bP,rfl,hf,pl,ev,rfl,by show ai [[1,1,1,0,2]] [_,_,_] [] [.le .aa .eh,.eq .x .aa,.le .y (.a .aa .l)] (.le (.a .x .y) (.n 50)) ah bi pi hl⟩ (by show ai [[1,1,1,1]] [_,_,_] [] [.le .R .y,.le .aa .eh,.le .x (.a .aa .l)] (.lt .x .y) ah bv bi hl);rintro m z fd ⟨cs,bP,rfl,hf,pl,ev,hl,pi⟩;have P1:=hf.ox;show J6 (l:=cs) (fun _=>rfl) (fun _=>rfl) P1 ?_;have fB:=hf.bA (bc.push fd [aI.list []]);generalize fd++[aI.list []]=pm at fB⊢;cases k8:cs with
  |nil=>show aW fB.mQ fun s0 wE un=>?_;rw[k8]at fB pl;show aX fun _ done=>?_;show done ?_;show q bP j.length (j.length+2) _ pm pl ev (by show ai [[1,1]] [_,_] [] [.le (.a .x .y) (.n 50)] (.le .x .S) ah pi) fB.bF ⟨s0,wE,un⟩ fB.xu (by show ai [[1]] [_] [] [] (.le .x (.a .x .b)) ah) fB.kf (cm _)
  |cons aa Kb=>
   rw[←k8];have li:cs≠[]:=by rw[k8];show List.cons_ne_nil _ _
   have AV:cs.isEmpty=false:=by rw[k8];rfl
   rw[AV];obtain⟨bt,mx⟩:∃bt,cs.getLast?=some bt:=⟨_,List.getLast?_eq_some_getLast li⟩;have sJ:=fB.ox;have tg:(cs.map ag.int).getLast?=some (.int bt):=by rw[List.getLast?_map,mx];rfl
   have qX:(cs.map ag.int).length<aP:=by rw[bD];unfold aP;show ai [[1,1,1]] [_,_,_] [] [.eq .x .y,.le (.a .aa .y) (.n 50)] (.lt .x .L) ah hl pi
   have e':=List.length_pos_iff.mpr li;have gh:=fB.xI cs.dropLast;rw[List.map_dropLast]at gh;show df (CX (d:=d+4) (i:=3) (code:=11) (bt:=bt) rfl fB (fun Q=>?_) gh (by show ai [[1,1]] [_,_] [] [.le (.a .x .y) (.n 50)] (.lt .x .R) ah pi) fun Cl hP=>?_);·skip;show(?_:(ht _ pm (.ref (j.length+1)) .gn=true∧W (cJ (b9 N sa ns (d+5)) (.ref (j.length+1)) .gn [] pm) _ _)=_);rw[CZ sJ qX tg];show propext ⟨fun aa=>aa.2,fun aa=>⟨(gU sJ).2.2,aa⟩⟩
   ·show⟨cs.length-1,by show ai [[1,0,1,0,0,1],[1,0,1,0,1,1]] [_,_,_] [] [.eq .aa .y,.lt .o .aa,.cG .x .aa .l] (.lt .x .y) ah hl e' (cy _ _),cs.dropLast,bP++[mL 11 bt],rfl,hP,?_,Eh ev (CY (.inl rfl) bt),by simp,by simp;show ai [[1,0,1,0,0,1,1],[1,0,1,0,1,1,1]] [_,_,_,_] [] [.eq .aa .w,.le (.a .x .w) (.n 50),.lt .o .aa,.cG .y .aa .l] (.le (.a (.a .x .l) .y) (.n 50)) ah hl pi e' (cy _ _)⟩;show dH.du (r:=mL 11 bt) mx (fun aa=>by cases aa) pl
 ·rw[bD,List.length_range];show ai [[1,1,1]] [_,_] [] [.le .R .y,.le .x .eh] (.lt .x .y) ah bv bi
end
end
section
noncomputable def aT.c(t:Nat)(r:aT):List Int:=if t=0 then r.r' else r.dZ
noncomputable def aT.r(t:Nat)(r:aT):List Int:=if t=0 then r.dC else r.eG
noncomputable def aT.cb(t:Nat)(r:aT):St:=⟨r.k,r.bf,r.c t,r.r t⟩
theorem aT.Jv{t:Nat}{r:aT}(h:r.b8):(r.cb t).b8:=by
 unfold aT.cb aT.c aT.r;split;·show h.Ip
 ·show h.tP
theorem aT.len{t:Nat}{r:aT}(h:r.b8):(r.c t).length≤6∧(r.r t).length≤50:=by
 unfold aT.c aT.r;split;·show⟨h.Tt,h.T2⟩
 ·show⟨h.Tu,h.T3⟩
noncomputable def bu(t:Nat)(rs:List aT):List Int:=dT (rs.map (aT.cb t))
theorem ra{t:Nat}:∀{rs:List aT},(∀r∈rs,r.b8)→(bu t rs).length≤56*rs.length:=by
 intro ca;induction ca with
 |nil=>intro sK;simp[bu,kj,lp]
 |cons r rs ap=>intro h;have I:=aT.len (t:=t) (h r dF);have O:=ap fun x ad=>h x (dE _ ad);unfold bu at O⊢;simp only[List.map_cons,kj,lp,cA];show ai [[1,1,1,1]] [_,_,_,_] [] [.aA (.le .x (.n 6)) (.le .y (.n 50)),.le .aa (.m 56 .w)] (.le (.a .x (.a .y .aa)) (.m 56 (.a .w .l))) ah I O
theorem aT.UY{t:Nat}{r:aT}(h:r.b8):eg (r.c t++r.r t):=by
 unfold aT.c aT.r;by_cases im:t=0;·rw[aF im,aF im];show h.Ln
 ·rw[aM im,aM im];show h.dQ
theorem tw{t:Nat}:∀{rs:List aT},(∀r∈rs,r.b8)→eg (bu t rs):=by
 intro ca;induction ca with
 |nil=>intro sK;show fun o h=>by cases h
 |cons r rs ap=>
  intro h;have I:=aT.UY (t:=t) (h r dF);have O:=ap fun x ad=>h x (dE _ ad);have e:bu t (r::rs)=(r.c t++r.r t)++bu t rs:=by rw[dX];rfl
  rw[e];show I.du O
theorem SM{t:Nat}{rs:List aT}{i:Nat}{r:aT}(h:rs[i]?=some r):bu t (rs.take (i+1))=bu t (rs.take i)++(r.c t++r.r t):=by
 have O:(rs.map (aT.cb t))[i]?=some (r.cb t):=by rw[eQ,h];rfl
 have:=BW O;unfold bu;rw[List.map_take,List.map_take,this];rfl
theorem kQ.get{j:ae}{z an k:Nat}{a b:List Int}(h:kQ j z an k a b){t:Nat}(im:t≤1):∃af,dj j (.ref k) (.int t)=some (.ref af)∧bl j af (if t=0 then a else b)∧z≤af∧af<an:=by
 show aX fun _ done=>?_;obtain⟨i,af,I,O,bn,lc,nl,wf,ws,hN,hk⟩:=h.nr;have tf:t=0∨t=1:=by show ai [[1],[1],[1,1],[0,1,1]] [_] [] [.le .x .l] (.or (.eq .x .o) (.eq .x .l)) ah im
 show done ?_;clear im done;rcases tf with rfl|rfl
 ·show Cu i ?_ O wf ws;rw[rH I];rfl
 ·show Cu af ?_ bn hN hk;rw[rH I];rfl
section
variable{N:Nat}{sa:Addr}{ns:List Int}{d:Nat}{j:ae}{Q:ag→ae→Prop}{X:Nat→ae→Prop}
abbrev Ks(j:ae)(b t:Nat)(rs:List aT)(i:Nat)(f4:aq)(H:ae):Prop:=bc j H∧∃af u v w x,j.length≤af∧bl H af (bu t (rs.take i))∧f4=[some (.ref b),some (.int t),some (.ref af),u,v,w,x]
theorem BX{z an b t:Nat}{rs:List aT}(bv:1000≤N)(h:eL j z an b rs)(ev:∀r∈rs,r.b8)(V:rs.length≤200)(im:t≤1)(AC:an≤j.length)(q:∀(af:Nat)(H:ae),bc j H→j.length≤af→bl H af (bu t rs)→Q (.ref af) H):W (run a_ N sa ns (d+1) 646 [.ref b,.int t] j) Q X:=by
 show aX fun _ done=>?_;show aW h fun vs ho gk=>?_;have W1:=gk.len;show done ?_;show bQ (f:=z7) rfl rfl ?_;show m2 (xs:=[]) (fun _=>rfl) (by simp[aP]) ?_;have ST:=bc.push j [aI.list []];have PU:bl (j++[aI.list []]) j.length (bu t (rs.take 0)):=by show bG j _
 have cd:c0 (j++[aI.list []]) b=some vs:=d1 (ST.get ho);show kY (v:=.ref b) (fd:=j++[.list []]) (db:=.cc b) (l:=vs) rfl (fun _=>rfl) (uf cd) (Ks j b t rs) (fun i f4 H ga=>?_) (fun i y f4 H ga f1=>?_) (fun f4 H ga=>?_) ⟨ST,j.length,none,none,none,none,cm _,PU,rfl⟩ ?_;·have ex:c0 H b=some vs:=d1 (ga.1.get ho);show tF ex (by unfold aP;show qb V W1)
 ·show aX fun _ done=>?_;obtain⟨fZ,af,u,v,w,x,dl,qY,rfl⟩:=ga;show aW (gk.get f1) fun r ar fX=>?_;have tb:=ev r (eZ ar);have m0:=(c7.mp ar).1;have fX:=fX.bF (fZ.bF an) (.inr (cm _));show dR fX fun a c cl io on=>?_;subst cl;show done ?_;show aX fun _ done=>?_;show oM (io.get im) fun ol mw ih _ _=>?_;have ih:bl H ol (r.c t):=ih;have dQ:=aT.len (t:=t) tb;have gF:=ra (t:=t) (rs:=rs.take i) fun aa lm=>ev aa (List.take_subset _ _ lm);have gF:=c6 gF (Nat.mul_le_mul_left 56 (kF _ _));show done ?_;show cN (v:=[some (.ref b),some (.int t),some (.ref af),some (bj r.g5),some (.int r.bt),some (.ref a),some (.ref c)]) rfl ?_;show dP (hy (hy (ew ?_)));show b3 (x:=some (ag.ref af)) rfl ?_;show b3 mw ?_;show dh (j3 qY ih (by show ai [[1,1,1,56]] [_,_,_] [] [.le .aa .U,.le .y (.n 6),.le .x (.m 56 .aa)] (.lt (.a .x .y) .L) ah V dQ.1 gF)) ?_;have be:=bG H (.list ((bu t (rs.take i)++r.c t).map .int));have wH:=bc.push H [.list ((bu t (rs.take i)++r.c t).map .int)];have GU:bl (H++[aI.list ((bu t (rs.take i)++r.c t).map .int)]) H.length (bu t (rs.take i)++r.c t):=be;generalize H++[aI.list ((bu t (rs.take i)++r.c t).map .int)]=nn at wH GU⊢;have I:=fZ.1;have O:=wH.1;show aX fun _ done=>?_;show oM ((on.bF (wH.bF an) (.inr (cm _))).get im) fun q' hT mn _ _=>?_;have mn:bl nn q' (r.r t):=mn;show done ?_;show uA (ew ?_);show b3 (x:=some (ag.ref c)) rfl ?_;show b3 (x:=some (ag.int t)) rfl ?_;show b3 hT ?_;show dh (j3 GU mn (by rw[cA];show ai [[1,1,1,1,56]] [_,_,_,_] [] [.le .w .U,.le .y (.n 6),.le .aa (.n 50),.le .x (.m 56 .w)] (.lt (.a (.a .x .y) .aa) .L) ah V dQ.1 dQ.2 gF)) ?_;show⟨(fZ.trans wH).trans (bc.push nn _),nn.length,_,_,_,_,by show qa I O,?_,rfl⟩;rw[SM ar,←dX];show bG nn _
 ·show aX fun _ done=>?_;obtain⟨fZ,af,u,v,w,x,dl,qY,rfl⟩:=ga;rw[W1,List.take_length]at qY;show done ?_;show q af H fZ dl qY
 ·show ai [[1,1,0,1,1]] [_,_,_] [] [.le .R .y,.le .aa .U,.eq .x .aa] (.lt .x .y) ah bv V W1
end
end
section
noncomputable def eO(rs:List aT):List (List Int):=rs.map aT.g5
def p6(j:ae)(e:Int)(rs:List aT)(v:ag):oi→Prop
 |.ok a=>∃af,v=.av [.str "a body",.ref af,.int a]∧j[af]?=some (.list ((eO rs).map bj))
 |.data a=>v=.av [.str "malformed",.str "data count section required",.int a]
 |.er=>v=.av [.str "malformed",.str "unexpected end",.int e]
section
variable{N:Nat}{sa:Addr}{ns:List Int}{d:Nat}{j:ae}{Q:ag→ae→Prop}{X:Nat→ae→Prop}
theorem Dt{P:aY}{z an b:Nat}{rs:List aT}{tt:a0}{f4:aq}(bv:1000≤P.N)(hd:P.hd=true)(h:eL j z an b rs)(V:rs.length≤200)(AC:an≤j.length)(k':∀Q,wp P tt f4 j Q X=Q (.ref b) j)(q:∀(af:Nat)(H:ae),bc j H→j.length≤af→H[af]?=some (.list ((eO rs).map bj))→Q (.ref af) H):wp P (.comp (.sub (.aw 1) (.aC (.int 0))) [1] tt false 2 []) f4 j Q X:=by
 show aW h fun vs ho gk=>?_;have W1:=gk.len;have cd:c0 j b=some vs:=d1 ho;show DF (.ref b) (.cc b) hd k' (uf cd) ?_;show so (l:=vs) (fun i H=>bc j H∧H[j.length]?=some (.list (((eO rs).take i).map bj))) (fun i H ga=>?_) (fun i y H ga f1=>?_) (fun H ga=>?_) P.N 0 _ ⟨bc.push j _,bG j _⟩ (e0 _) (by show ai [[1,0,1,0,1,0,1,1],[1,0,1,0,0,0,0,1]] [_,_,_,_] [] [.le .R .y,.le .aa .U,.eq .w .aa,.cG .x .w .o] (.lt .x .y) ah bv V W1 (cy _ _));·have ex:c0 H b=some vs:=d1 (ga.1.get ho);show tF ex (by unfold aP;show qb V W1)
 ·have fZ:=ga.1;have fU:=ga.2;show aX fun _ done=>?_;obtain⟨r,ar,a,c,rfl,_,_⟩:=gk.get f1;show done ?_;show cN (v:=H.set j.length (.list (((eO rs).take i).map bj++[bj r.g5]))) ?_ ?_;·show tY fU (by simp only[bD,eO];show hE (c6 (kF _ _) (by rw[bD];show V)) (by decide))
  ·show⟨fZ.set (cm _) _,?_⟩;have:(eO rs)[i]?=some r.g5:=by unfold eO;rw[eQ,ar];rfl
   rw[eu fU,List.take_add_one,this];simp
 ·have fZ:=ga.1;have fU:=ga.2;show q _ H fZ (cm _) ?_;rw[W1,List.take_of_length_le (by unfold eO;simp)]at fU;show fU
theorem nQ{P:aY}{af:Nat}{l:List Int}(h:bl j af l)(V:l.length<100000):cY P .len [.ref af] j=.ok (.int l.length) j:=by have e:c0 j af=some (l.map .int):=d1 h;rw[Cj e (by rw[bD];unfold aP;show u1 V),bD]
noncomputable abbrev KH(b t:Nat)(aE e:Int)(cr:Bool)(a:Int)(u v w x:Option ag):aq:=[some (.ref b),some (.int t),some (.int aE),some (.int e),some (.bool cr),some (.int a),u,v,w,x,none]
abbrev Ki(j:ae)(b t:Nat)(rs:List aT)(aE e:Int)(cr:Bool)(i:Nat)(f4:aq)(H:ae):Prop:=H=j∧∃a u v w x,f4=KH b t aE e cr a u v w x∧fv cr e aE (rs.map (aT.cb t))=fv cr e a ((rs.drop i).map (aT.cb t))
theorem Fd{z an b t:Nat}{rs:List aT}{aE e:Int}{cr:Bool}(bv:1000≤N)(h:eL j z an b rs)(ev:∀r∈rs,r.b8)(V:rs.length≤200)(im:t≤1)(AC:an≤j.length)(q:∀v(H:ae),bc j H→p6 H e rs v (fv cr e aE (rs.map (aT.cb t)))→Q v H):W (run a_ N sa ns (d+1) 651 [.ref b,.int t,.int aE,.int e,.bool cr] j) Q X:=by
 show aW h fun vs ho gk=>?_;have h':=h;have W1:=gk.len;have cd:c0 j b=some vs:=d1 ho;show bQ (f:=z3) rfl rfl ?_;show dP (b3 (x:=some (ag.int aE)) rfl ?_);show kY (v:=.ref b) (fd:=j) (db:=.cc b) (l:=vs) rfl (fun _=>rfl) (uf cd) (Ki j b t rs aE e cr) (fun i f4 H ga=>?_) (fun i y f4 H ga f1=>?_) (fun f4 H ga=>?_) ⟨rfl,aE,none,none,none,none,rfl,rfl⟩ ?_;·clear q h' ho gk;obtain⟨rfl,_⟩:=ga;show tF cd (by unfold aP;show qb V W1)
 ·show aX fun _ done=>?_;clear AC h' ho cd;obtain⟨rfl,a,u,v,w,x,rfl,ie⟩:=ga;show aW (gk.get f1) fun r ar fX=>?_;show dR fX fun sd vi cl io on=>?_;subst cl;have tb:=ev r (eZ ar);show done ?_;show aX fun _ done=>?_;obtain⟨ol,mw,ih,_,_⟩:=io.get im;obtain⟨q',hT,mn,_,_⟩:=on.get im;have ih:bl H ol (r.c t):=ih;have mn:bl H q' (r.r t):=mn;have dQ:=aT.len (t:=t) tb;have qR:rs.drop i=r::rs.drop (i+1):=by show b6 (c7.mp ar) fun Gc st=>?_;show st▸List.drop_eq_getElem_cons Gc
  rw[qR,List.map_cons,zo]at ie;have G5:(r.cb t).c=r.c t:=rfl;have G9:(r.cb t).r=r.r t:=rfl;have G6:(r.cb t).k=r.k:=rfl;rw[G5,G9,G6]at ie;show done ?_;show cN (v:=[some (.ref b),some (.int t),some (.int aE),some (.int e),some (.bool cr),some (.int a),some (bj r.g5),some (.int r.bt),some (.ref sd),some (.ref vi),none]) rfl ?_;generalize ul:([some (.ref b),some (.int t),some (.int aE),some (.int e),some (.bool cr),some (.int a),some (bj r.g5),some (.int r.bt),some (.ref sd),some (.ref vi),none]:aq)=gD;have mq:∀Q X,wp (b9 N sa ns d) (.call (.aC (.b0 .len)) (.cons (.sub (.aw 8) (.aw 1)) .nil)) gD H Q X=Q (.int (r.c t).length) H:=fun Q X=>by subst ul;show(?_:bg (dj H (.ref sd) (.int t)) (fun v=>W (cY (b9 N sa ns d) .len [v] H) Q X)=_);rw[mw];show(?_:W (cY (b9 N sa ns d) .len [.ref ol] H) Q X=_);rw[nQ ih (by show ai [[1,1]] [_,_] [] [.aA (.le .x (.n 6)) (.le .y (.n 50))] (.lt .x .M) ah dQ)];rfl
  have qW:∀Q X,wp (b9 N sa ns d) (.call (.aC (.b0 .len)) (.cons (.sub (.aw 9) (.aw 1)) .nil)) gD H Q X=Q (.int (r.r t).length) H:=fun Q X=>by clear tb f1 done io on mw left right left_1 right_1 ih qR G5 G9 G6 mq;subst ul;show(?_:bg (dj H (.ref vi) (.int t)) (fun v=>W (cY (b9 N sa ns d) .len [v] H) Q X)=_);rw[hT];show(?_:W (cY (b9 N sa ns d) .len [.ref q'] H) Q X=_);rw[nQ mn (by show ai [[1,0,1]] [_,_] [] [.aA (.le .y (.n 6)) (.le .x (.n 50))] (.lt .x .M) ah dQ)];rfl
  subst ul;have bh:¬(r.k∈[(64520:Int),64521]∧cr=false∧a+(r.c t).length≤e)→bX (b9 N sa ns d) (.cons (.a5 (.aw 5) (.aV .Add (.aV .Add (.aw 5) (.call (.aC (.b0 .len)) (.cons (.sub (.aw 8) (.aw 1)) .nil))) (.call (.aC (.b0 .len)) (.cons (.sub (.aw 9) (.aw 1)) .nil)))) (.cons (.ite (.aQ .Gt (.aw 5) (.aw 3)) (.cons (.ret (.av (.cons (.aC (.str "malformed")) (.cons (.aC (.str "unexpected end")) (.cons (.aw 3) .nil))))) .nil) .nil) .nil)) [some (.ref b),some (.int t),some (.int aE),some (.int e),some (.bool cr),some (.int a),some (bj r.g5),some (.int r.bt),some (.ref sd),some (.ref vi),none] H (fun f4 X2=>X2=H∧∃a u v w x,f4=[some (.ref b),some (.int t),some (.int aE),some (.int e),some (.bool cr),some (.int a),u,v,w,x,none]∧fv cr e aE (rs.map (aT.cb t))=fv cr e a ((rs.drop (i+1)).map (aT.cb t))) (fun v _ j=>Q v j) (fun k _ j=>X k j):=by
   intro KB;rw[aM KB]at ie;show dP (hy (hy (ew ?_)));show b3 (x:=some (ag.int a)) rfl ?_;rw[mq];show dh (add_int _ _ H) ?_;rw[qW];show dh (add_int _ _ H) ?_;show cP (op:=.Gt) (x:=.int (a+(r.c t).length+(r.r t).length)) (y:=.int e) (r:=decide (e<a+(r.c t).length+(r.r t).length)) rfl ?_ (fun _=>rfl) (fun _=>rfl);show(?_:bN (some (decide (e<a+(r.c t).length+(r.r t).length))) _ _);by_cases mh:e<a+(r.c t).length+(r.r t).length;·rw[cF mh];rw[aF mh]at ie;show q _ H (bc.refl _) ?_;rw[ie];rfl
   ·rw[cE mh];rw[aM mh]at ie;show⟨rfl,_,_,_,_,_,rfl,ie⟩
  have WP:dj H (bj r.g5) (.int 0)=some (.int r.k):=xO H tb.bf;have gH:cC .In (.int r.k) (.av [.int 64520,.int 64521]) H=some (decide (r.k∈[(64520:Int),64521])):=pw r.k [64520,64521];show cP gH ?_ (fun Q=>by show(?_:bg (dj H (bj r.g5) (.int 0)) (fun v=>Q v H)=_);rw[WP];rfl) (fun _=>rfl);show(?_:bN (some (decide (r.k∈[(64520:Int),64521]))) _ _);by_cases hd:r.k∈[(64520:Int),64521]
  ·rw[cF hd];dsimp only[bN];cases o3:cr with
   |true=>rw[o3]at bh ie;show bh fun aa=>by cases aa.2.1
   |false=>
    rw[o3]at bh ie mq;show cP (op:=.LtE) (x:=.int (a+(r.c t).length)) (y:=.int e) (r:=decide (a+(r.c t).length≤e)) rfl ?_ (fun Q=>?_) (fun _=>rfl)
    ·show(?_:bN (some (decide (a+(r.c t).length≤e))) _ _);by_cases TT:a+(r.c t).length≤e;·rw[cF TT];rw[aF ⟨hd,rfl,TT⟩]at ie;show q _ H (bc.refl _) ?_;rw[o3,ie];rfl
     ·rw[cE TT];show bh fun aa=>TT aa.2.2
    ·show(mq (fun y j=>W (cj .Add (.int a) y j) Q _) _).trans rfl
  ·rw[cE hd];show bh fun aa=>hd aa.1
 ·show aX fun _ done=>?_;obtain⟨rfl,a,u,v,w,x,rfl,ie⟩:=ga;clear ho gk cd;rw[W1,List.drop_length]at ie;show done ?_;show rB (rM (gv (el (gv ?_))));show Dt bv rfl h' V AC (fun _=>rfl) fun af s f0 dl qY=>?_;show q _ s f0 ?_;rw[ie];show b' af rfl qY
 ·show ai [[1,1,0,1,1]] [_,_,_] [] [.le .R .y,.le .aa .U,.eq .x .aa] (.lt .x .y) ah bv V W1
end
end
section
theorem Br{P:aY}{C:Addr}{i:Nat}{b:bZ}{r:h4}{k:Nat}{z:aq}{j:ae}{N:aq→ae→Prop}{R:ag→aq→ae→Prop}{X:Nat→aq→ae→Prop}(h:bX {P with hd:=false} b (dg z i (.ref k)) j (fun z j=>N (z.set i none) j) (fun v z j=>R v (z.set i none) j) (fun _ _ _=>False)):b1 (j_ P (.cons C i b r) C k z j) N R X:=by have:=m1 b h;show(?_:b1 (if C=C then Bp i (dB {P with hd:=false} b (dg z i (.ref k)) j)else _) _ _ _);rw[aF rfl];revert this;generalize dB {P with hd:=false} b (dg z i (.ref k)) j=aa;intro this;cases aa<;>first|show this|show this.elim
theorem RM{P:aY}{C D:Addr}{i:Nat}{b:bZ}{r:h4}{k:Nat}{z:aq}{j:ae}{N:aq→ae→Prop}{R:ag→aq→ae→Prop}{X:Nat→aq→ae→Prop}(li:C≠D)(h:b1 (j_ P r D k z j) N R X):b1 (j_ P (.cons C i b r) D k z j) N R X:=by show(?_:b1 (if C=D then _ else j_ P r D k z j) _ _ _);rw[aM li];show h
noncomputable def kx(C:Addr):Str:=if C=dy then"left out"else"malformed"
def m6(j:ae)(e:Int)(v:ag):c_ (List (List Int))→Prop
 |.ok body p _=>∃af,v=.av [.str "a body",.ref af,.int p]∧j[af]?=some (.list (body.map bj))
 |.di C w a=>v=.av [.str (kx C),.str w,.int a]
 |.g0=>v=.av [.str "malformed",.str "unexpected end",.int e]
 |.dI=>False
section
variable{N:Nat}{sa:Addr}{ns:List Int}{d:Nat}{j:ae}{Q:ag→ae→Prop}{X:Nat→ae→Prop}
theorem NZ{j:ae}{k:Nat}{C:Addr}{w:Str}{a:Int}(h:j[k]?=some (ib C w a))(on:cD C=true):c' j (.ref k) .c2=some (.str w)∧c' j (.ref k) .at=some (.int a):=by unfold ib at h;have ch:vJ (.cX C [(.c2,.str w),(.at,.int a)])=some [(.c2,.str w),(.at,.int a)]:=aF on;show⟨oz h ch rfl rfl,oz h ch rfl rfl⟩
theorem Ub:∀{l:List Int},(∀o∈l,0≤o∧o<256)→dz tp (l.map .int)=some l:=by
 intro ca;induction ca with
 |nil=>intro _;show rfl
 |cons o l ap=>intro h;show eE (f:=fun y=>(dz tp (l.map .int)).bind fun ys=>some (y::ys)) (aF (h o dF)) (eE (ap fun x ad=>h x (dE _ ad)) rfl)
theorem vb{P:aY}{af:Nat}{l:List Int}(h:bl j af l)(V:l.length<100000)(Y:∀o∈l,0≤o∧o<256)(hd:P.hd=true):cY P .bytes [.ref af] j=.ok (.bytes l) j:=by have h':j[af]?=some (.list (l.map .int)):=h;show(gY h').trans ?_;show(aF ⟨hd,by rw[bD];unfold aP;show u1 V⟩).trans ?_;rw[Ub Y];rfl
theorem Nc{az:List Int}{a e:Nat}(nz:a≤e)(ge:e≤az.length):run a_ N sa ns (d+1) 358 [.ref j.length,.bytes az,.int a,.int e] (j++[.b_ fQ []])=.ok .none (j++[ez az e ((az.take e).drop a)]):=by
 have nb:((az.take e).drop a).length=e-a:=by rw[List.length_drop,List.length_take,Nat.min_eq_left ge]
 have ko:∀(dL:c9)(f:c8)(v:ag),dL.length<10→pK (j++[.b_ fQ dL]) (.ref j.length) f v=some (j++[.b_ fQ (kp dL f v)]):=fun dL f v o9=>by show(t2 (o:=.b_ fQ dL) (o':=.b_ fQ (kp dL f v)) (bG ..) (aF ⟨rfl,o9⟩)).trans ?_;simp
 show fP (bQ (f:=zD) rfl rfl ?_);show mP (b3 (x:=some (ag.bytes az)) rfl ?_);show cN (ko [] .ej (.bytes az) (by decide)) ?_;show mP (ew ?_);show b3 (x:=some (ag.int a)) rfl ?_;show cN (ko _ .at (.int a) (jT rfl)) ?_;show mP (Xu ?_);show cP (op:=.Is) (x:=.int e) (y:=.none) (r:=false) rfl ?_ (fun _=>rfl) (fun _=>rfl);dsimp only[bN,ck];show ew (b3 (x:=some (ag.int e)) rfl ?_);show cN (ko _ .l9 (.int e) (jT rfl)) ?_;show⟨rfl,?_⟩;unfold ez;rw[nb,show((e:Int)-((e-a:Nat):Int))=(a:Int) by show ai [[1,0,1],[1,0,1,0,1],[1,0,0,1],[1,1]] [_,_,_] [] [.le .aa .x,.cG .y .x .aa] (.a8 (.s (.c .x) (.c .y)) (.c .aa)) ah nz (cy _ _)];rfl
theorem VI{hr a e fI:Nat}{az:List Int}{cr:Bool}{res:c_ (List (List Int))}(bv:1000≤N)(bi:fI≤900)(h:bl j hr az)(jt:∀o∈az,0≤o∧o<256)(V:az.length<100000)(nz:a≤e)(ge:e≤az.length)(nI:(ei cr fI [0] []).exec a ((az.take e).drop a)=res)(sN:res≠.dI)(on:∀C w pc,res=.di C w pc→C=bE∨C=dy)(q:∀v H,bc j H→m6 H e v res→Q v H):W (run a_ N sa ns (d+13) 658 [.ref hr,.int a,.int e,.bool cr] j) Q X:=by
 have nb:((az.take e).drop a).length=e-a:=by rw[List.length_drop,List.length_take,Nat.min_eq_left ge]
 show bQ (f:=Ac) rfl rfl ?_;show kA (xs:=[.ref hr]) (fun _=>rfl) (vb h V jt rfl) ?_;show(?_:W ((run a_ N sa ns (d+12) 358 [.ref j.length,.bytes az,.int a,.int e] (j++[.b_ fQ []])).bind _) _ _);rw[Nc (d:=d+11) nz ge];show W.dA ?_;have wB:=bc.push j [ez az e ((az.take e).drop a)];have v3:cO j.length az e ((az.take e).drop a) (j++[ez az e ((az.take e).drop a)]):=⟨bG j _,List.drop_suffix _ _,ge,by unfold aP;show u1 V⟩;have WF:=kc v3.ft;generalize nK:j++[ez az e ((az.take e).drop a)]=pQ at wB v3 WF⊢;have wt:∀{s:ae},aO j.length pQ s→bc j s:=fun f=>⟨c6 wB.1 f.1,fun k ak=>(f.2 k (by show yd ak) (by show ai [[1,1,1]] [_,_,_] [] [.lt .aa .y,.lt .x .aa] (.lt .x .y) ah WF ak)).trans (wB.2 k ak)⟩;have e':(e:Int)-(((az.take e).drop a).length:Nat)=a:=by rw[nb];show ai [[1,0,1],[1,0,1,0,1],[1,0,0,1],[1,1]] [_,_,_] [] [.le .aa .x,.cG .y .x .aa] (.a8 (.s (.c .x) (.c .y)) (.c .aa)) ah nz (cy _ _)
 show⟨rfl,?_⟩;show dP (gw (d:=d+12) (a:=343) (xs:=[.ref j.length,.bool cr]) (fun _=>rfl) rfl ?_);show L6 (d:=d) (c:=j.length) (az:=az) (e:=e) (L:=(az.take e).drop a) (fI:=fI) (IR:=fun body s=>∃g3 p,cO j.length az e g3 s∧res=.ok body p g3∧p=(e:Int)-(g3.length:Nat)) bv bi v3 ?_ fun body g3 s ch Z dl ju Ix=>?_
 ·rw[e',nI];have Gr:∀C w pc,(C=bE∨C=dy)→(∀s,m6 s e (.av [.str (kx C),.str w,.int pc]) res)→∀(H:ae)(k:Nat),aO j.length pQ H→H[k]?=some (ib C w pc)→∃C dL,H[k]?=some (.cX C dL)∧cD C=true∧b1 (j_ (b9 N sa ns (d+12)) (.cons 154 6 (.cons (.ret (.av (.cons (.aC (.str "malformed")) (.cons (.bO (.aw 6) .c2) (.cons (.bO (.aw 6) .at) .nil))))) .nil) (.cons 173 6 (.cons (.ret (.av (.cons (.aC (.str "left out")) (.cons (.bO (.aw 6) .c2) (.cons (.bO (.aw 6) .at) .nil))))) .nil) .nil)) C k (dg (dg (dg (dg (dg (List.replicate 12 none) 0 (.ref hr)) 1 (.int a)) 2 (.int e)) 3 (.bool cr)) 4 (.ref j.length)) H) (fun z j=>bX (b9 N sa ns (d+12)) (.cons (.ret (.av (.cons (.aC (.str "a body")) (.cons (.aw 5) (.cons (.bO (.aw 4) .at) .nil))))) .nil) z j (fun _ j=>Q .none j) (fun v _ j=>Q v j) (fun k _ j=>X k j)) (fun v _ j=>Q v j) (fun k _ j=>X k j):=by
   intro C w pc F_ al H k ch ak;have zs:cD C=true:=by rcases F_ with rfl|rfl<;>rfl
   obtain⟨sM,k7⟩:=NZ ak zs;show nS C _ ak zs ?_;rcases F_ with rfl|rfl
   ·show Br ?_;show(?_:bg (c' H (.ref k) .c2) (fun x=>bg (c' H (.ref k) .at) fun y=>Q (.av [.str "malformed",x,y]) H));rw[sM,k7];show q _ H (wt ch) (al H)
   ·show RM (by decide) (Br ?_);show(?_:bg (c' H (.ref k) .c2) (fun x=>bg (c' H (.ref k) .at) fun y=>Q (.av [.str "left out",x,y]) H));rw[sM,k7];show q _ H (wt ch) (al H)
  clear ge q nK wB v3 WF wt;cases res with
  |ok body p g3=>intro s ch Z;show nS g3 p Z rfl ?_;have:=(vw _ _ _ nI).2;rw[nb]at this;show ai [[1,0,1,1,0,1],[1,1,0,0,1,0,1]] [_,_,_,_,_] [_] [.eq .aa .w,.a8 (.s (.c .x) (.c .aa)) (.c .u),.a8 (.a .x (.c .y)) (.a (.c .u) (.c .w))] (.a8 .x (.s (.c .x) (.c .y))) ah nb e' this
  |di C w pc=>show fun s k ch ak=>Gr C w pc (on C w pc rfl) (fun _=>rfl) s k ch ak
  |g0=>show fun s k ch ak=>Gr bE "unexpected end" e (.inl rfl) (fun _=>rfl) s k ch ak
  |dI=>show absurd rfl sN
 ·show aX fun _ done=>?_;show dR Ix fun DX p o2 jB be=>?_;show done ?_;show(?_:bg (c' s (.ref j.length) .at) (fun y=>Q (.av [.str "a body",.ref pQ.length,y]) s));rw[hK o2,←be];show q _ s (wt ch) ?_;rw[jB];show⟨pQ.length,rfl,dl⟩
end
end
section
noncomputable def pJ(r:Int×Int):ag:=.av [.int r.1,.int r.2]
noncomputable def nW(af:Nat):Str:=if 7≤af∧af≤15 then"left out"else"malformed"
noncomputable def lC(af:Nat):Str:=if 7≤af∧af≤15 then"an instruction that is left out"else"illegal opcode"
theorem Ij:∀r∈eW,r.1≤r.2∧0≤r.1∧r.2<64512+2^32:=by decide
theorem x4{P:aY}{e:a0}{v:ag}{z:aq}{j:ae}{Q:ag→ae→Prop}{X:Nat→ae→Prop}(h:∀Q,wp P e z j Q X=Q v j)(q:Q v j):wp P e z j Q X:=by rw[h];show q
section
variable{N:Nat}{sa:Addr}{ns:List Int}{d:Nat}{j:ae}{Q:ag→ae→Prop}{X:Nat→ae→Prop}
theorem W4{i:Int}(am:0≤i)(I:i<17)(s:ae):∃r,eW[i.toNat]?=some r∧dj s (.av (eW.map pJ)) (.int i)=some (pJ r):=by
 have V:eW.length=17:=rfl;have m0:i.toNat<eW.length:=by show ai [[1,0,1,0,0,1,1],[1,0,1,0,0,1]] [_,_] [_] [.au .x (.k 17),.eq .y (.n 17),.cz .x .x] (.lt .x .y) ah I V (cS _)
 show b' eW[i.toNat] (gx m0) ?_;show(rG (l:=eW.map pJ) (i:=i) (by rw[bD,V];unfold aP;show ai [[1]] [] [] [] (.lt (.n 17) .L) ah) am (by rw[bD,V];show I)).trans (eQ.trans (congrArg (Option.map _) (gx m0)))
theorem UD{db:Nat}(h:cn db j)(q:∀af k r H,eW[af]?=some r→r.1≤k→k≤r.2→aO db j H→cn db H→Q (.av [.int k,.str (nW af),.str (lC af)]) H):W (run a_ N sa ns (d+2) 665 [.ref db] j) Q X:=by
 show bQ (f:=z_) rfl rfl ?_;show x4 (v:=.av (eW.map pJ)) (fun _=>rfl) ?_;have hf:∀(i:Int)(s:ae),0≤i→i<17→∃r,eW[i.toNat]?=some r∧dj s (.av (eW.map pJ)) (.int i)=some (pJ r):=fun i s am I=>W4 am I s;generalize ag.av (eW.map pJ)=T at hf⊢;show dP (fg (d:=d) (m:=17) h (by show ai [[1],[1]] [] [] [] (.aA (.au .o (.k 17)) (.au (.k 17) .B)) ah) (fun _=>rfl) fun dC KK am I TI gM=>?_);show aW (hf dC KK am I) fun r ar WP=>?_;have jD:=Ij r (eZ ar);show mP (uA (ew ?_));show b3 (x:=some T) rfl ?_;show b3 (x:=some (ag.int dC)) rfl ?_;show b3 WP ?_;show⟨rfl,?_⟩;show cN (v:=[some (.ref db),some T,some (.int dC),some (.int r.1),some (.int r.2),none,none]) rfl ?_;show dP (hy ?_);show b3 (x:=some (ag.int r.1)) rfl ?_;show fg (d:=d) (m:=r.2-r.1+1) gM (by show ai [[1,1],[1,0,1,1]] [] [_,_] [.aA (.ax .y .x) (.aA (.ax .o .y) (.au .x (.a .K .A)))] (.aA (.au .o (.a (.s .x .y) .l)) (.au (.a (.s .x .y) .l) .B)) ah jD) (fun Q=>rfl) fun eG nn O bn ty xz=>?_;show dh (add_int r.1 eG nn) ?_;have q:=q dC.toNat (r.1+eG) r nn ar (by show ai [[1,1]] [] [_,_] [.ax .o .y] (.ax .x (.a .x .y)) ah O) (by show ai [[1,1]] [] [_,_,_] [.au .y (.a (.s .aa .x) .l)] (.ax (.a .x .y) .aa) ah bn) (TI.trans ty) xz;generalize r.1+eG=k at q⊢;show cP (op:=.LtE) (x:=.int 7) (y:=.int dC) (r:=decide (7≤dC)) rfl ?_ (fun _=>rfl) (fun _=>rfl);have iz:¬(7≤dC∧dC≤15)→Q (.av [.int k,.str "malformed",.str "illegal opcode"]) nn:=by intro KB;unfold nW lC at q;rw[aM (by show ai [[1,0,0,1,0,1],[0,1,0,0,1,1],[1,0,0,1],[0,0,1,0,0,1]] [_] [_] [.aK (.aA (.ax .ae .x) (.ax .x (.k 15))),.cz .x .x] (.aK (.aA (.le (.n 7) .x) (.le .x (.n 15)))) ah KB (cS _)),aM (by show ai [[1,0,0,1,0,1],[0,1,0,0,1,1],[1,0,0,1],[0,0,1,0,0,1]] [_] [_] [.aK (.aA (.ax .ae .x) (.ax .x (.k 15))),.cz .x .x] (.aK (.aA (.le (.n 7) .x) (.le .x (.n 15)))) ah KB (cS _))]at q;show q
 by_cases ws:7≤dC
 ·rw[cF ws];show cP (op:=.LtE) (x:=.int dC) (y:=.int 15) (r:=decide (dC≤15)) rfl ?_ (fun _=>rfl) (fun _=>rfl);show(?_:bN (some (decide (dC≤15))) _ _);by_cases sI:dC≤15;·rw[cF sI];unfold nW lC at q;rw[aF (by show ai [[1,0,0,1,0,1],[0,1,0,0,0,1],[1,0,1,0,1],[1,0,1]] [_] [_] [.ax .ae .x,.ax .x (.k 15),.cz .x .x] (.aA (.le (.n 7) .x) (.le .x (.n 15))) ah ws sI (cS _)),aF (by show ai [[1,0,0,1,0,1],[0,1,0,0,0,1],[1,0,1,0,1],[1,0,1]] [_] [_] [.ax .ae .x,.ax .x (.k 15),.cz .x .x] (.aA (.le (.n 7) .x) (.le .x (.n 15))) ah ws sI (cS _))]at q;show q
  ·rw[cE sI];show iz fun aa=>sI aa.2
 ·rw[cE ws];show iz fun aa=>ws aa.1
end
def p8(P:aY)(z:aq)(L:a0)(o:List Int):Prop:=∀(j:ae)(Q:ag→ae→Prop)(X:Nat→ae→Prop),(∀af H,bc j H→j.length≤af→bl H af o→Q (.ref af) H)→wp P L z j Q X
theorem oO{P:aY}{z:aq}{l:b5}(o:List Int)(ci:o.length<1000)(ad:∀j Q X,cR P l z j Q X=Q (o.map .int) j):p8 P z (.bM l) o:=fun j Q X q=>by show m2 (xs:=o.map .int) (ad j · X) (by rw[bD];unfold aP;show rU ci) ?_;show q _ _ (bc.push j _) (cm _) (bG j _)
theorem zy{P:aY}{z:aq}{A B:a0}{a b:List Int}(ds:p8 P z A a)(Y:p8 P z B b)(V:a.length+b.length<1000):p8 P z (.aV .Add A B) (a++b):=fun j Q X q=>by show ds j _ X fun SI KK ST gi wE=>?_;show Y KK _ X fun jF nn fc jv un=>?_;show dh (j3 (wE.bA fc) un (by unfold aP;show ai [[1,1]] [_,_] [] [.lt (.a .x .y) .R] (.lt (.a .x .y) .L) ah V)) ?_;show q _ _ ((ST.trans fc).trans (bc.push nn _)) (by have:=ST.1;have:=fc.1;show qa (by assumption) this) (bG nn _)
theorem Fy{P:aY}{z:aq}(i:Int)(n:Nat)(bi:0<n∧n<100):p8 P z (.lG i n) (List.replicate n i):=fun j Q X q=>by show(?_:W (if n<100∧0<n then es (List.replicate n (.int i)) (j++[.list [.int i]])else .aS) Q X);rw[aF ⟨bi.2,bi.1⟩,gV _ (by rw[List.length_replicate];unfold aP;show ai [[1,0,1]] [_] [] [.aA (.lt .o .x) (.lt .x .S)] (.lt .x .L) ah bi)];show q _ _ ((bc.push j _).trans (bc.push _ _)) (by simp) ?_;unfold bl;rw[bG,List.map_replicate]
def jg(j:ae)(b:Nat):List ag→List (List Int×Str×Nat)→Prop
 |[],[]=>True
 |v::vs,r::rs=>(∃af,v=.av [.ref af,.str r.2.1,.int r.2.2]∧bl j af r.1∧b≤af)∧jg j b vs rs
 |_,_=>False
theorem jg.bA{j H:ae}{b:Nat}(w:bc j H):∀{vs:List ag}{rs:List (List Int×Str×Nat)},jg j b vs rs→jg H b vs rs:=by
 intro ca;induction ca with
 |nil=>
  intro sK h;cases sK with
  |nil=>show trivial
  |cons lP mY=>show h.elim
 |cons iH T0 ap=>
  intro SB h;cases SB with
  |nil=>show h.elim
  |cons h2 jb=>show⟨h.1.elim fun af x=>⟨af,x.1,x.2.1.bA w,x.2.2⟩,ap h.2⟩
theorem jg.low{j:ae}{b oA:Nat}(Y:oA≤b):∀{vs:List ag}{rs:List (List Int×Str×Nat)},jg j b vs rs→jg j oA vs rs:=by
 intro ca;induction ca with
 |nil=>
  intro sK h;cases sK with
  |nil=>show trivial
  |cons lP mY=>show h.elim
 |cons iH T0 ap=>
  intro SB h;cases SB with
  |nil=>show h.elim
  |cons h2 jb=>show⟨h.1.elim fun af x=>⟨af,x.1,x.2.1,c6 Y x.2.2⟩,ap h.2⟩
theorem jg.len{j:ae}{b:Nat}:∀{vs:List ag}{rs:List (List Int×Str×Nat)},jg j b vs rs→vs.length=rs.length
 |[],[],_=>rfl
 |_::_,_::_,h=>by rw[hF,hF,h.2.len]
 |[],_::_,h=>h.elim
 |_::_,[],h=>h.elim
theorem jg.get{j:ae}{b:Nat}:∀{vs:List ag}{rs:List (List Int×Str×Nat)}{i:Nat}{r:List Int×Str×Nat},jg j b vs rs→rs[i]?=some r→∃af,vs[i]?=some (.av [.ref af,.str r.2.1,.int r.2.2])∧bl j af r.1∧b≤af:=by
 intro ca;induction ca with
 |nil=>
  intro sK Ev Da h e;cases sK with
  |nil=>simp at e
  |cons iH T0=>show h.elim
 |cons v vs ap=>
  intro SB j6 w h e;cases SB with
  |nil=>show h.elim
  |cons r rs=>
   cases j6 with
   |zero=>simp only[List.getElem?_cons_zero,Option.some.injEq]at e;subst e;show eA h.1 fun af I O bn=>?_;show iv af (by rw[I];rfl) O bn
   |succ i=>show aW (ap h.2 e) fun af I O=>?_;show b' af (by rw[List.getElem?_cons_succ];show I) O
def rO(P:aY)(z:aq)(bd:b5)(rs:List (List Int×Str×Nat)):Prop:=∀(j:ae)(Q:List ag→ae→Prop)(X:Nat→ae→Prop),(∀vs H,bc j H→jg H j.length vs rs→Q vs H)→cR P bd z j Q X
theorem NK{P:aY}{z:aq}:rO P z .nil []:=fun j Q X q=>by show q [] j (bc.refl j) trivial
theorem qC{P:aY}{z:aq}{L D9 r:a0}{ry:b5}{o:List Int}{w:Str}{Db:Nat}{rs:List (List Int×Str×Nat)}(Ty:p8 P z L o)(No:∀j Q X,wp P D9 z j Q X=Q (.str w) j)(jt:∀j Q X,wp P r z j Q X=Q (.int Db) j)(mf:rO P z ry rs):rO P z (.cons (.av (.cons L (.cons D9 (.cons r .nil)))) ry) ((o,w,Db)::rs):=fun j Q X q=>by show Ty j _ X fun af KK ST dl V=>?_;show gv ?_;rw[No];show gv ?_;rw[jt];show ky ?_;show mf KK _ X fun vs nn fc al=>?_;show q _ nn (ST.trans fc) ⟨⟨af,rfl,V.bA fc,dl⟩,al.low ST.1⟩
end
section
noncomputable def oE(af:Nat):Str:=if af∈[7,8,13]then"left out"else"malformed"
section
variable{N:Nat}{sa:Addr}{ns:List Int}{d:Nat}{j:ae}{Q:ag→ae→Prop}{X:Nat→ae→Prop}
theorem W7{vs:List ag}{i:Int}{v:ag}(V:vs.length<1000)(am:0≤i)(h:vs[i.toNat]?=some v)(s:ae):dj s (.av vs) (.int i)=some v:=by have m0:=(c7.mp h).1;show(rG (l:=vs) (i:=i) (by unfold aP;show rU V) am (by show ai [[1,0,0,1,1],[1,1,0,0,1]] [_,_] [_] [.lt .y .x,.cz .y .x] (.au .x (.c .x)) ah m0 (cS _))).trans h
theorem uE{P:aY}{gD:aq}{i:Nat}{w:Str}(h:(gD[i]?).join=some (.str w)):∀j Q X,wp P (.aw i) gD j Q X=Q (.str w) j:=by show fun j Q X=>congrArg (fun o=>bg o fun v=>Q v j) h
noncomputable def EP:bZ:=(.cons (.a5 (.aw 7) (.call (.aC (.fn 547)) (.cons (.aw 0) (.cons (.aC (.int (25))) .nil)))) (.cons (.ite (.and (.aQ .Eq (.aw 7) (.aC (.int (0)))) (.aQ .Eq (.aw 1) (.aC (.int (4))))) (.cons (.a5 (.aw 7) (.aC (.int (1)))) .nil) .nil) (.cons (.a5 (.fe [8,9,10]) (.sub (.aw 6) (.aw 7))) (.cons (.ite (.and (.aQ .Eq (.aw 7) (.aC (.int (5)))) (.not (.aw 2))) (.cons (.ret (.av (.cons (.aw 8) (.cons (.aC (.str "malformed")) (.cons (.aC (.str "data count section required")) (.cons (.aC (.int (0))) .nil)))))) .nil) .nil) (.cons (.ret (.av (.cons (.aw 8) (.cons (.ite (.aQ .In (.aw 7) (.av (.cons (.aC (.int (7))) (.cons (.aC (.int (8))) (.cons (.aC (.int (13))) .nil))))) (.aC (.str "left out")) (.aC (.str "malformed"))) (.cons (.aw 9) (.cons (.aw 10) .nil)))))) .nil)))))
theorem Md{P:aY}{gD:aq}(bn:(gD[3]?).join=some (.str fi))(lc:(gD[4]?).join=some (.str fj))(nl:(gD[5]?).join=some (.str gW)):∃bd,vC.body=.cons (.a5 (.aw 3) (.aC (.str fi))) (.cons (.a5 (.aw 4) (.aC (.str fj))) (.cons (.a5 (.aw 5) (.aC (.str gW))) (.cons (.a5 (.aw 6) (.av bd)) EP)))∧rO P gD bd j5:=by
 show b' _ rfl ?_
 repeat first
  |show NK
  |show qC (oO _ (by decide) (fun _ _ _=>rfl)) (fun _ _ _=>rfl) (fun _ _ _=>rfl) ?_
  |show qC (oO _ (by decide) (fun _ _ _=>rfl)) (uE bn) (fun _ _ _=>rfl) ?_
  |show qC (oO _ (by decide) (fun _ _ _=>rfl)) (uE lc) (fun _ _ _=>rfl) ?_
  |show qC (oO _ (by decide) (fun _ _ _=>rfl)) (uE nl) (fun _ _ _=>rfl) ?_
  |show qC (zy (zy (oO [66] (by decide) (fun _ _ _=>rfl)) (Fy 128 9 (by decide)) (by decide)) (oO [1] (by decide) (fun _ _ _=>rfl)) (by decide)) (uE bn) (fun _ _ _=>rfl) ?_
  |show qC (zy (oO [66] (by decide) (fun _ _ _=>rfl)) (Fy 255 10 (by decide)) (by decide)) (uE lc) (fun _ _ _=>rfl) ?_
theorem Mh{db:Nat}{bt:Int}{cr:Bool}{bd:b5}(Gs:rO (b9 N sa ns (d+1)) [some (.ref db),some (.int bt),some (.bool cr),some (.str fi),some (.str fj),some (.str gW),none,none,none,none,none,none] bd j5)(h:cn db j)(q:∀(i af:Nat)(o:List Int)(w:Str)(Db:Nat)(H:ae),j5[af]?=some (o,w,Db)→(af=0→bt≠4)→aO db j H→cn db H→bl H i o→j.length≤i→(af=5∧cr=false→Q (.av [.ref i,.str "malformed",.str "data count section required",.int 0]) H)∧(¬(af=5∧cr=false)→Q (.av [.ref i,.str (oE af),.str w,.int Db]) H)):bX (b9 N sa ns (d+1)) (.cons (.a5 (.aw 3) (.aC (.str fi))) (.cons (.a5 (.aw 4) (.aC (.str fj))) (.cons (.a5 (.aw 5) (.aC (.str gW))) (.cons (.a5 (.aw 6) (.av bd)) EP)))) [some (.ref db),some (.int bt),some (.bool cr),none,none,none,none,none,none,none,none,none] j (fun _ j=>Q .none j) (fun v _ j=>Q v j) (fun k _ j=>X k j):=by
 show dP (x4 (v:=.str fi) (fun _=>rfl) ?_);show dP (x4 (v:=.str fj) (fun _=>rfl) ?_);show dP (x4 (v:=.str gW) (fun _=>rfl) ?_);show dP (rM ?_);show Gs j _ _ fun vs KK ST al=>?_;clear Gs bd;have W1:=al.len;have gM:=h.bA ST;show dP (fg (d:=d) (m:=25) gM (by show ai [[1],[1]] [] [] [] (.aA (.au .o (.k 25)) (.au (.k 25) .B)) ah) (fun _=>rfl) fun dC nn am I ty xz=>?_);have iD:∀af:Nat,af<25→(af=0→bt≠4)→bX (b9 N sa ns (d+1)) (.cons (.a5 (.fe [8,9,10]) (.sub (.aw 6) (.aw 7))) (.cons (.ite (.and (.aQ .Eq (.aw 7) (.aC (.int (5)))) (.not (.aw 2))) (.cons (.ret (.av (.cons (.aw 8) (.cons (.aC (.str "malformed")) (.cons (.aC (.str "data count section required")) (.cons (.aC (.int (0))) .nil)))))) .nil) .nil) (.cons (.ret (.av (.cons (.aw 8) (.cons (.ite (.aQ .In (.aw 7) (.av (.cons (.aC (.int (7))) (.cons (.aC (.int (8))) (.cons (.aC (.int (13))) .nil))))) (.aC (.str "left out")) (.aC (.str "malformed"))) (.cons (.aw 9) (.cons (.aw 10) .nil)))))) .nil))) [some (.ref db),some (.int bt),some (.bool cr),some (.str fi),some (.str fj),some (.str gW),some (.av vs),some (.int af),none,none,none,none] nn (fun _ j=>Q .none j) (fun v _ j=>Q v j) (fun k _ j=>X k j):=by
  intro af dl qT;show aX fun _ done=>?_;have m0:af<j5.length:=dl;show eA (al.get (gx m0)) fun i G' wh vZ=>?_;have nJ:=gx m0;generalize j5[af]=V0 at G' wh nJ;obtain⟨o,w,Db⟩:=V0;have fb:=h.lt;have Rd:bl nn i o:=bl.bF wh ty (by show qg vZ fb);obtain⟨t4,mM⟩:=q i af o w Db nn nJ qT ((ST.bF db).trans ty) xz Rd vZ;show done ?_;show mP (uA (ew ?_));show b3 (x:=some (ag.av vs)) rfl ?_;show b3 (x:=some (ag.int af)) rfl ?_;show b3 (W7 (by show ai [[1,1]] [_] [] [.eq .x (.n 25)] (.lt .x .R) ah W1) (by show lW) (by rw[Int.toNat_natCast];show G') nn) ?_;show⟨rfl,?_⟩;show cN (v:=[some (.ref db),some (.int bt),some (.bool cr),some (.str fi),some (.str fj),some (.str gW),some (.av vs),some (.int af),some (.ref i),some (.str w),some (.int Db),none]) rfl ?_;have lu:¬(af=5∧cr=false)→bX (b9 N sa ns (d+1)) (.cons (.ret (.av (.cons (.aw 8) (.cons (.ite (.aQ .In (.aw 7) (.av (.cons (.aC (.int (7))) (.cons (.aC (.int (8))) (.cons (.aC (.int (13))) .nil))))) (.aC (.str "left out")) (.aC (.str "malformed"))) (.cons (.aw 9) (.cons (.aw 10) .nil)))))) .nil) [some (.ref db),some (.int bt),some (.bool cr),some (.str fi),some (.str fj),some (.str gW),some (.av vs),some (.int af),some (.ref i),some (.str w),some (.int Db),none] nn (fun _ j=>Q .none j) (fun v _ j=>Q v j) (fun k _ j=>X k j):=by
   intro KB;have mM:=mM KB;have gH:cC .In (.int af) (.av [.int 7,.int 8,.int 13]) nn=some (decide ((af:Int)∈[(7:Int),8,13])):=pw af [7,8,13];have kg:(af:Int)∈[(7:Int),8,13]↔af∈[7,8,13]:=by simp only[ep,List.mem_nil_iff,or_false];show or_congr Int.ofNat_inj (or_congr Int.ofNat_inj Int.ofNat_inj)
   show rB (rM (gv (ew ?_)));show b3 (x:=some (ag.ref i)) rfl ?_;show cP gH ?_ (fun _=>rfl) (fun _=>rfl);unfold oE at mM;by_cases ac:(af:Int)∈[(7:Int),8,13];·rw[cF ac];rw[aF (kg.mp ac)]at mM;show mM
   ·rw[cE ac];rw[aM (fun aa=>ac (kg.mpr aa))]at mM;show mM
  show cP (e6 nn af 5) ?_ (fun _=>rfl) (fun _=>rfl);by_cases gj:af=5
  ·rw[show((af:Int)==5)=true by rw[gj];rfl];show(?_:bN (some (!cr)) _ _);cases o3:cr with
   |true=>rw[o3]at lu;show lu fun aa=>by cases aa.2
   |false=>show t4 ⟨gj,o3⟩
  ·rw[show((af:Int)==5)=false by rw[g8];show ai [[0,1,1],[1,0,1]] [_] [] [.aK (.eq .x (.n 5))] (.aK (.a8 (.c .x) (.k 5))) ah gj];show lu fun aa=>gj aa.1
 have KE:=Int.eq_ofNat_of_zero_le am;clear h;obtain⟨af,rfl⟩:=KE;show cP (e6 nn af 0) ?_ (fun _=>rfl) (fun _=>rfl);by_cases qT:af=0
 ·rw[show((af:Int)==0)=true by rw[qT];rfl];show cP (e6 nn bt 4) ?_ (fun _=>rfl) (fun _=>rfl);by_cases im:bt=4;·rw[dw.mpr im];show iD 1 (by show ai [[1]] [] [] [] (.lt .l (.n 25)) ah) (fun aa=>by cases aa)
  ·rw[g8.mpr im];show iD af (by show ai [[1,1]] [_] [] [.eq .x .o] (.lt .x (.n 25)) ah qT) (fun _=>im)
 ·rw[show((af:Int)==0)=false by rw[g8];show ai [[0,0,1],[1,0,1]] [_] [] [.aK (.eq .x .o)] (.aK (.a8 (.c .x) .o)) ah qT];show iD af (by show ai [[1,1]] [_] [] [.au (.c .x) (.k 25)] (.lt .x (.n 25)) ah I) (fun aa=>absurd aa qT)
theorem Oh{N:Nat}{sa:Addr}{ns:List Int}{d D:Nat}{a:Addr}{f:bC}{xs:List ag}{z:aq}{body:bZ}(fA:D=d+1)(im:a_ a=some f)(Y:u' f xs=some z)(Qv:f.body=body)(h:bX (b9 N sa ns d) body z j (fun _ j=>Q .none j) (fun v _ j=>Q v j) (fun k _ j=>X k j)):W (run a_ N sa ns D a xs j) Q X:=by subst fA;show bQ im Y (by rw[Qv];show h)
theorem Mb{D:Nat}(fA:D=d+2){db:Nat}{bt:Int}{cr:Bool}(h:cn db j)(q:∀(i af:Nat)(o:List Int)(w:Str)(Db:Nat)(H:ae),j5[af]?=some (o,w,Db)→(af=0→bt≠4)→aO db j H→cn db H→bl H i o→j.length≤i→(af=5∧cr=false→Q (.av [.ref i,.str "malformed",.str "data count section required",.int 0]) H)∧(¬(af=5∧cr=false)→Q (.av [.ref i,.str (oE af),.str w,.int Db]) H)):W (run a_ N sa ns D 672 [.ref db,.int bt,.bool cr] j) Q X:=(Md (P:=(b9 N sa ns (d+1))) (gD:=[some (.ref db),some (.int bt),some (.bool cr),some (.str fi),some (.str fj),some (.str gW),none,none,none,none,none,none]) rfl rfl rfl).elim fun _ ge=>Oh (f:=vC) fA rfl rfl ge.1 (Mh ge.2 h q)
end
end
section
theorem m6.bA{j H:ae}{e:Int}{v:ag}{r:c_ (List (List Int))}(h:m6 j e v r)(w:bc j H):m6 H e v r:=by
 cases r with
 |ok body p L=>obtain⟨af,I,O⟩:=h;show b' af I (w.get O)
 |di C g6 a=>show h
 |g0=>show h
 |dI=>show h
theorem p6.bA{j H:ae}{e:Int}{rs:List aT}{v:ag}{d:oi}(h:p6 j e rs v d)(w:bc j H):p6 H e rs v d:=by
 cases d with
 |ok a=>obtain⟨af,I,O⟩:=h;show b' af I (w.get O)
 |data a=>show h
 |er=>show h
noncomputable def oB(body:List (List Int)):PyData:=.list (body.map fun l=>PyData.tuple (l.map .int))
theorem mD{α go:Type}{f:α→Option go}{x:α}{r:List α}{y:go}{ys:List go}(h:f x=some y)(t:dz f r=some ys):dz f (x::r)=some (y::ys):=eE h (eE t rfl)
theorem Ud(j:ae)(n:Nat):∀body:List (List Int),dz (c1 j (n+2)) (body.map bj)=some (body.map fun l=>PyData.tuple (l.map .int)):=by
 intro ca;induction ca with
 |nil=>show rfl
 |cons l body ap=>show mD (f:=c1 j (n+2)) (x:=bj l) (congrArg (Option.map PyData.tuple) (Cs j n l):(dz (c1 j (n+1)) (l.map .int)).map PyData.tuple=_) (ap)
theorem Dr{j:ae}{af n:Nat}{body:List (List Int)}(h:j[af]?=some (.list (body.map bj))):c1 j (n+3) (.ref af)=some (oB body):=by show eE (x:=(j[af]?).bind aI.wU) (by rw[h];rfl) (congrArg (Option.map PyData.list) (Ud j n body))
theorem Ts:∀body:List (List Int),PyData.canLayAll0 (body.map fun l=>PyData.tuple (l.map .int))=true:=by
 intro ca;induction ca with
 |nil=>rfl
 |cons l body ap=>simp[sj,si,l2,l0,l3,l1,Ca l,ap]
theorem Ng:∀body:List (List Int),PyData.depthAll (body.map fun l=>PyData.tuple (l.map .int))≤1:=by
 intro ca;induction ca with
 |nil=>decide
 |cons l body ap=>have:=ap;simp only[List.map_cons,vm,vl,oJ,oI,oK,nk,Fb];show Nat.max_le.mpr ⟨cm 1,this⟩
theorem B'(body:List (List Int)):(oB body).canLay0=true∧(oB body).depth≤2:=by unfold oB;show⟨by simp[l2,l0,l3,l1,Ts],?_⟩;have:=Ng body;show ai [[1,1]] [_] [] [.le .x .l] (.le (.a .x .l) .b) ah this
set_option tactic.hygienic true in
theorem NH{j:ae}{x y:ag}{d:PyData}(ad:c1 j 8 x=some d)(f1:c1 j 8 y=some d)(hd:d.canLay0=true)(AQ:d.depth≤64)(Y:∀l,x≠.bytes l):h_ j x y=some true:=by
 have a1:SeqAt.shaped d=true:=by simp[SeqAt.shaped,hd,AQ]
 have e:vt j x y=some true:=(vu ad f1 (by rw[a1];rfl)).trans (congrArg some (SeqAt.eqv_refl d hd));clear ad;cases x;case bytes l=>show absurd rfl (Y l)
 all_goals show e
theorem rh{j:ae}{x y:ag}{d:PyData}(ad:c1 j 8 x=some d)(f1:c1 j 8 y=some d)(hd:d.canLay0=true)(AQ:d.depth≤64)(Y:∀l,x≠.bytes l):cC .NotEq x y j=some false:=by show(?_:(h_ j x y).map (!·)=_);rw[NH ad f1 hd AQ Y];rfl
theorem ui{j:ae}{n:Nat}{s:Str}(h:PyData.strOk s=true):c1 j (n+1) (.str s)=some (.str s):=by show aF h
theorem rJ{j:ae}{s w:Str}{a:Int}(a1:PyData.strOk s=true)(f0:PyData.strOk w=true):c1 j 8 (.av [.str s,.str w,.int a])=some (.tuple [.str s,.str w,.int a]):=by show congrArg (Option.map PyData.tuple) (mD (f:=c1 j 7) (ui a1) (mD (ui f0) (mD (x:=.int a) (y:=.int a) (r:=[]) (ys:=[]) rfl rfl)))
theorem xW{s w:Str}{a:Int}(a1:PyData.strOk s=true)(f0:PyData.strOk w=true):(PyData.tuple [.str s,.str w,.int a]).canLay0=true∧(PyData.tuple [.str s,.str w,.int a]).depth≤64:=by
 constructor;·simp[l2,l0,l3,l1,sj,si,a1,f0]
 ·simp[oJ,oI,oK,nk,vm,vl]
theorem JN{j:ae}{s:Str}{af:Nat}{p:Int}{body:List (List Int)}(a1:PyData.strOk s=true)(dl:j[af]?=some (.list (body.map bj))):c1 j 8 (.av [.str s,.ref af,.int p])=some (.tuple [.str s,oB body,.int p]):=by show congrArg (Option.map PyData.tuple) (mD (f:=c1 j 7) (ui a1) (mD (Dr (n:=4) dl) (mD (x:=.int p) (y:=.int p) (r:=[]) (ys:=[]) rfl rfl)))
theorem Xf{s:Str}{p:Int}{body:List (List Int)}(a1:PyData.strOk s=true):(PyData.tuple [.str s,oB body,.int p]).canLay0=true∧(PyData.tuple [.str s,oB body,.int p]).depth≤64:=by
 show c4 (B' body) fun I O=>?_;constructor;·simp[l2,l0,l3,l1,sj,si,a1,I]
 ·simp only[oJ,oI,oK,nk,vm,vl];show Nat.succ_le_succ (Nat.max_le.mpr ⟨e0 _,Nat.max_le.mpr ⟨c6 O (by decide),e0 _⟩⟩)
noncomputable def xw(rs:List aT)(bh:List Int):oi→c_ (List (List Int))
 |.ok a=>.ok (eO rs) a bh
 |.data a=>.di bE "data count section required" a
 |.er=>.g0
theorem VJ{j:ae}{e:Int}{rs:List aT}{bh:List Int}{v w:ag}{d:oi}(al:m6 j e v (xw rs bh d))(f0:p6 j e rs w d):cC .NotEq v w j=some false:=by
 cases d with
 |ok a=>show aW al fun af cl dl=>?_;subst cl;show aW f0 fun k cl ak=>?_;subst cl;obtain⟨I,O⟩:=Xf (s:="a body") (p:=a) (body:=eO rs) (bU _);show rh (JN (bU _) dl) (JN (bU _) ak) I O (fun l aa=>by cases aa)
 |data a=>obtain⟨I,O⟩:=xW (s:="malformed") (w:="data count section required") (a:=a) (bU _) (bU _);obtain rfl:=(show v=_ from al);obtain rfl:=(show w=_ from f0);show rh (rJ (bU _) (bU _)) (rJ (bU _) (bU _)) I O (fun l aa=>by cases aa)
 |er=>obtain rfl:=(show v=_ from al);obtain rfl:=(show w=_ from f0);obtain⟨I,O⟩:=xW (s:="malformed") (w:="unexpected end") (a:=e) (bU _) (bU _);show rh (rJ (bU _) (bU _)) (rJ (bU _) (bU _)) I O (fun l aa=>by cases aa)
end
section
theorem Nn{cr:Bool}{e:Int}:∀{ss:List St}{a pc:Int},fv cr e a ss=.ok pc→pc=a+(dT ss).length:=by
 intro ca;induction ca with
 |nil=>intro a pc h;simp only[Fc,oi.ok.injEq]at h;subst h;simp[kj,lp]
 |cons s ss ap=>
  intro a pc h;rw[zo]at h;split at h;·show nomatch h
  ·split at h;·show nomatch h
   ·have:=ap h;rw[this,kj,cA,cA];show ai [[1],[1]] [_,_,_] [_] [] (.a8 (.a (.a (.a .x (.c .x)) (.c .y)) (.c .aa)) (.a .x (.c (.a .x (.a .y .aa))))) ah
theorem Ds(t:Nat)(rs:List aT):ed (rs.map (aT.cb t))=eO rs:=by unfold ed eO;rw[List.map_map];rfl
theorem Ei{t:Nat}{rs:List aT}(h:∀r∈rs,r.b8):∀s∈rs.map (aT.cb t),s.b8:=by intro s a1;obtain⟨r,ar,rfl⟩:=List.mem_map.mp a1;show aT.Jv (h r ar)
theorem VL{rs:List aT}{cr:Bool}{t:Nat}{aH after az:List Int}{e:Nat}(No:dH [0] rs [])(ev:∀r∈rs,r.b8)(jt:az=aH++(bu t rs++after))(nz:aH.length≤e):∃L,(ei cr (1+rs.length) [0] []).exec aH.length ((az.take e).drop aH.length)=xw rs L (fv cr e aH.length (rs.map (aT.cb t))):=by
 have cd:(az.take e).drop aH.length=(dT (rs.map (aT.cb t))++after).take ((e:Int)-aH.length).toNat:=by rw[List.drop_take,jt,List.drop_left];congr 1;show ai [[1,0,1,0,0,0,1],[1,0,1,0,1],[1,0,1],[1,0,1],[1,0,0,1,0,1],[1,0,0,0,0,1],[1,1,0,0,0,1],[1,0,0,0,0,1]] [_,_,_,_] [] [.cG .x .aa .w,.cz .y (.s (.c .aa) (.c .w))] (.eq .x .y) ah (cy _ _) (cS _)
 have key:=EN (cr:=cr) (e:=e) after 1 [] (rs.map (aT.cb t)) [0] [] aH.length (No.DA fun _=>rfl) (Ei ev) (by show ai [[1,1]] [_,_] [] [.le .x .y] (.ax (.c .x) (.c .y)) ah nz);rw[cd];rw[bD]at key;rw[key];cases fv cr e aH.length (rs.map (aT.cb t))with
 |ok pc=>show⟨after.take ((e:Int)-pc).toNat,?_⟩;show(?_:(ei cr 1 [] ([]++ed (rs.map (aT.cb t)))).exec pc _=_);rw[Ds];rfl
 |data pc=>show⟨[],rfl⟩
 |er=>show⟨[],rfl⟩
theorem VK{pre:List aT}{cr:Bool}{aH o az L:List Int}{cs:List Int}{n:Nat}{C:Addr}{w:Str}{Db:Nat}(No:dH [0] pre cs)(ev:∀r∈pre,r.b8)(jt:az=aH++(bu 1 pre++(o++L)))(sP:∀(body:List (List Int))(p:Int),(ei cr n cs body).exec p (o++L)=.di C w (p+Db)):(ei cr (n+pre.length) [0] []).exec aH.length ((az.take az.length).drop aH.length)=match fv cr az.length aH.length (pre.map (aT.cb 1))with|.ok a=>.di C w (a+Db)|.data a=>.di bE "data count section required" a|.er=>.g0:=by
 have nb:az.length=aH.length+((dT (pre.map (aT.cb 1))).length+(o++L).length):=by rw[jt];simp[bu]
 have cd:(az.take az.length).drop aH.length=(dT (pre.map (aT.cb 1))++(o++L)).take ((az.length:Int)-aH.length).toNat:=by
  rw[List.drop_take];congr 1;·show ai [[1,0,1,0,0,0,1],[1,0,1,0,1],[1,0,1],[1,0,1],[1,0,0,1,0,1],[1,0,0,0,0,1],[1,1,0,0,0,1],[1,0,0,0,0,1]] [_,_,_,_] [] [.cG .x .aa .w,.cz .y (.s (.c .aa) (.c .w))] (.eq .x .y) ah (cy _ _) (cS _)
  ·rw[jt,List.drop_left];rfl
 have key:=EN (cr:=cr) (e:=az.length) (o++L) n cs (pre.map (aT.cb 1)) [0] [] aH.length (No.DA fun _=>rfl) (Ei ev) (by show ai [[1,0,1]] [_,_,_,_] [] [.eq .y (.a .x (.a .aa .w))] (.ax (.c .x) (.c .y)) ah nb);rw[cd];rw[bD]at key;rw[key];cases hd:fv cr az.length aH.length (pre.map (aT.cb 1))with
 |ok pc=>have ds:=Nn hd;show(?_:(ei cr n cs ([]++ed (pre.map (aT.cb 1)))).exec pc ((o++L).take ((az.length:Int)-pc).toNat)=_);rw[List.take_of_length_le (by show ai [[1,0,0,1,1,0,0,1],[1,1,0,0,1,0,0,1]] [_,_,_,_,_] [_] [.eq .aa (.a .w (.a .u .x)),.a8 .x (.a (.c .w) (.c .u)),.cz .y (.s (.c .aa) .x)] (.le .x .y) ah nb ds (cS _))];show sP _ _
 |data pc=>rfl
 |er=>rfl
theorem Mc(n:Nat)(cs:List Int)(body:List (List Int))(p:Int)(B L:List Int)(h:cs≠[]):(ei false (n+1) cs body).exec p ((252::8::B)++L)=.di bE "data count section required" (p+(0:Nat)):=by dsimp only[oC];rw[aM h];simp only[dr,dm,dp,dn,dq,dk];have e:(252::8::B)++L=d0 64520 0++(B++L):=rfl;rw[eB,e,y9 (ea:=[.u,.aa]) (by decide+kernel)];simp only[c_.bind];rw[aM (by decide),aM (by decide),aF (by decide)];simp only[dr,dm,dp,dn,dq,dk];congr 1;show ai [[1],[1]] [] [_] [] (.a8 .x (.a .x (.c .o))) ah
theorem UE{cr:Bool}{n:Nat}{cs:List Int}{body:List (List Int)}{p:Int}{L:List Int}(h:cs≠[]){af:Nat}{r:Int×Int}(ar:eW[af]?=some r){k:Int}(I:r.1≤k)(O:k≤r.2):(ei cr (n+1) cs body).exec p (d0 k 0++L)=.di (if 7≤af∧af≤15 then dy else bE) (lC af) (p+(0:Nat)):=by
 simp only[oC];rw[aM h];simp only[dr,dm,dp,dn,dq,dk];rw[eB,(Ii ar I O p L).2];unfold lC;have:p+((0:Nat):Int)=p:=by show ai [[1],[1]] [] [_] [] (.a8 (.a .x (.c .o)) .x) ah
 rw[this];by_cases dl:7≤af∧af≤15;·rw[aF dl,aF dl,aF dl];rfl
 ·rw[aM dl,aM dl,aM dl];rfl
end
section
structure fO(j:ae)(k rc ol b c:Nat)(aH after:List Int)(rs:List aT):Prop where
 mQ:∃l,bl j k l∧l.length≤63
 aH:bl j rc aH
 after:bl j ol after
 bP:∃z an,eL j z an b rs∧k<z∧an≤j.length
 g5:j[c]?=some (.list ((eO rs).map bj))
 Y2:rc≠k
 Y1:ol≠k
 Y0:b≠k
 CA:c≠k
theorem fO.bF{j H:ae}{k rc ol b c:Nat}{aH after:List Int}{rs:List aT}(h:fO j k rc ol b c aH after rs)(f:aO k j H)(a1:∃l,bl H k l∧l.length≤63):fO H k rc ol b c aH after rs:=by show aX fun _ done=>?_;obtain⟨_,I,O,⟨z,an,bn,lc,nl⟩,wf,lA,rg,H7,H8⟩:=h;show done ?_;show⟨a1,I.bF f lA,O.bF f rg,⟨z,an,bn.bF f (.inl lc) H7,lc,c6 nl f.1⟩,f.get wf H8,lA,rg,H7,H8⟩
theorem fO.bA{j H:ae}{k rc ol b c:Nat}{aH after:List Int}{rs:List aT}(h:fO j k rc ol b c aH after rs)(w:bc j H):fO H k rc ol b c aH after rs:=by show aW h.mQ fun l I O=>?_;show h.bF (w.bF k) ⟨l,I.bA w,O⟩
theorem fO.nu{j DM H:ae}{k rc ol b c af:Nat}{aH after:List Int}{rs:List aT}(h:fO DM k rc ol b c aH after rs)(w:bc DM j)(f:aO af j H)(dl:DM.length≤af):fO H k rc ol b c aH after rs:=h.bA ⟨c6 w.1 f.1,fun i an=>(f.2 i (by show yw dl an) (jV an w.1)).trans (w.2 i an)⟩
section
variable{N:Nat}{sa:Addr}{ns:List Int}{F:Addr→List ag→ae→aG ag}{j:ae}{Q:ag→ae→Prop}{X:Nat→ae→Prop}
theorem kU{D:Nat}(mo:F=run a_ N sa ns D){a:Addr}{as:b5}{xs:List ag}{z:aq}(ad:∀Q,cR ⟨N,sa,ns,true,F⟩ as z j Q X=Q xs j)(an:cZ a=false)(h:W (run a_ N sa ns D a xs j) Q X):wp ⟨N,sa,ns,true,F⟩ (.call (.aC (.fn a)) as) z j Q X:=by show iL ad an rfl ?_;rw[←mo]at h;show h
theorem mK(mo:F=run a_ N sa ns 39){as:b5}{z:aq}{k:Nat}{m:Int}(h:cn k j)(ac:0<m∧m<2^100)(ad:∀Q,cR ⟨N,sa,ns,true,F⟩ as z j Q X=Q [.ref k,.int m] j)(q:∀r H,0≤r→r<m→aO k j H→cn k H→Q (.int r) H):wp ⟨N,sa,ns,true,F⟩ (.call (.aC (.fn 547)) as) z j Q X:=kU mo ad rfl (IB (d:=38) h ac q)
theorem CD(mo:F=run a_ N sa ns 39){as:b5}{z:aq}{k:Nat}{l:List Int}(h:bl j k l)(V:l.length<1000)(ad:∀Q,cR ⟨N,sa,ns,true,F⟩ as z j Q X=Q [.ref k] j)(q:∀(af:Nat)(s0:List Int)(H:ae),aO k j H→bl H k s0→s0.length≤l.length→j.length≤af→cn af H→Q (.ref af) H):wp ⟨N,sa,ns,true,F⟩ (.call (.aC (.fn 540)) as) z j Q X:=kU mo ad rfl (Ie (d:=38) h V q)
theorem WU(mo:F=run a_ N sa ns 39){as:b5}{z:aq}{k x n:Nat}{Op:ag}{l:List Int}(nO:Op=.int n)(bv:1000≤N)(bi:n≤20)(pn:x≤2)(h:bl j k l)(V:l.length<1000)(ad:∀Q,cR ⟨N,sa,ns,true,F⟩ as z j Q X=Q [.ref k,Op,.int x] j)(q:∀bP b f4 an H,dH [0] bP []→(∀r∈bP,r.b8)→bP.length≤100→aO k j H→(∃s0,bl H k s0∧s0.length≤l.length)→eL H f4 an b bP→j.length≤f4→an≤H.length→j.length≤b→Q (.ref b) H):wp ⟨N,sa,ns,true,F⟩ (.call (.aC (.fn 639)) as) z j Q X:=kU mo ad rfl (WV (d:=33) nO bv bi pn h V q)
theorem Ht(mo:F=run a_ N sa ns 39){as:b5}{f4:aq}{z an b t:Nat}{rs:List aT}(bv:1000≤N)(h:eL j z an b rs)(ev:∀r∈rs,r.b8)(V:rs.length≤200)(im:t≤1)(AC:an≤j.length)(ad:∀Q,cR ⟨N,sa,ns,true,F⟩ as f4 j Q X=Q [.ref b,.int t] j)(q:∀(af:Nat)(H:ae),bc j H→j.length≤af→bl H af (bu t rs)→Q (.ref af) H):wp ⟨N,sa,ns,true,F⟩ (.call (.aC (.fn 646)) as) f4 j Q X:=kU mo ad rfl (BX (d:=38) bv h ev V im AC q)
theorem Nm(mo:F=run a_ N sa ns 39){as:b5}{f4:aq}{z an b t:Nat}{rs:List aT}{aE e:Int}{cr:Bool}(bv:1000≤N)(h:eL j z an b rs)(ev:∀r∈rs,r.b8)(V:rs.length≤200)(im:t≤1)(AC:an≤j.length)(ad:∀Q,cR ⟨N,sa,ns,true,F⟩ as f4 j Q X=Q [.ref b,.int t,.int aE,.int e,.bool cr] j)(q:∀v(H:ae),bc j H→p6 H e rs v (fv cr e aE (rs.map (aT.cb t)))→Q v H):wp ⟨N,sa,ns,true,F⟩ (.call (.aC (.fn 651)) as) f4 j Q X:=kU mo ad rfl (Fd (d:=38) bv h ev V im AC q)
theorem IV(mo:F=run a_ N sa ns 39){as:b5}{f4:aq}{hr a e fI:Nat}{az:List Int}{cr:Bool}{res:c_ (List (List Int))}(bv:1000≤N)(bi:fI≤900)(h:bl j hr az)(jt:∀o∈az,0≤o∧o<256)(V:az.length<100000)(nz:a≤e)(ge:e≤az.length)(nI:(ei cr fI [0] []).exec a ((az.take e).drop a)=res)(sN:res≠.dI)(on:∀C w pc,res=.di C w pc→C=bE∨C=dy)(ad:∀Q,cR ⟨N,sa,ns,true,F⟩ as f4 j Q X=Q [.ref hr,.int a,.int e,.bool cr] j)(q:∀v H,bc j H→m6 H e v res→Q v H):wp ⟨N,sa,ns,true,F⟩ (.call (.aC (.fn 658)) as) f4 j Q X:=kU mo ad rfl (VI (d:=26) bv bi h jt V nz ge nI sN on q)
theorem UB(mo:F=run a_ N sa ns 39){as:b5}{z:aq}{db:Nat}(h:cn db j)(ad:∀Q,cR ⟨N,sa,ns,true,F⟩ as z j Q X=Q [.ref db] j)(q:∀af k r H,eW[af]?=some r→r.1≤k→k≤r.2→aO db j H→cn db H→Q (.av [.int k,.str (nW af),.str (lC af)]) H):wp ⟨N,sa,ns,true,F⟩ (.call (.aC (.fn 665)) as) z j Q X:=kU mo ad rfl (UD (d:=37) h q)
theorem MU(mo:F=run a_ N sa ns 39){as:b5}{z:aq}{k:Int}{x:Nat}(bv:1000≤N)(ak:k<64512+2^32)(pn:x≤2)(ad:∀Q,cR ⟨N,sa,ns,true,F⟩ as z j Q X=Q [.int k,.int x] j)(q:∀(af:Nat)(H:ae),bc j H→j.length≤af→bl H af (d0 k x)→Q (.ref af) H):wp ⟨N,sa,ns,true,F⟩ (.call (.aC (.fn 618)) as) z j Q X:=kU mo ad rfl (y5 (d:=36) bv ak pn q)
end
end
section
section
variable{N:Nat}{sa:Addr}{ns:List Int}{F:Addr→List ag→ae→aG ag}{j:ae}{Q:ag→ae→Prop}{X:Nat→ae→Prop}
theorem L'{d D:Nat}(fA:D=d+2)(mo:F=run a_ N sa ns D){as:b5}{z:aq}{db:Nat}{bt:Int}{cr:Bool}(h:cn db j)(ad:∀Q,cR ⟨N,sa,ns,true,F⟩ as z j Q X=Q [.ref db,.int bt,.bool cr] j)(q:∀(i af:Nat)(o:List Int)(w:Str)(Db:Nat)(H:ae),j5[af]?=some (o,w,Db)→(af=0→bt≠4)→aO db j H→cn db H→bl H i o→j.length≤i→(af=5∧cr=false→Q (.av [.ref i,.str "malformed",.str "data count section required",.int 0]) H)∧(¬(af=5∧cr=false)→Q (.av [.ref i,.str (oE af),.str w,.int Db]) H)):wp ⟨N,sa,ns,true,F⟩ (.call (.aC (.fn 672)) as) z j Q X:=kU mo ad rfl (Mb fA h q)
theorem eL.bA{j H:ae}{z an b:Nat}{rs:List aT}(h:eL j z an b rs)(AC:an≤j.length)(w:bc j H):eL H z an b rs:=by show aW h fun vs I O=>?_;show⟨vs,w.get I,O.bF (w.bF j.length) (.inr AC)⟩
noncomputable def i6:bZ→bZ
 |.cons _ (.cons _ (.cons _ (.cons _ (.cons _ (.cons _ (.cons _ (.cons _ (.cons _ (.cons _ r)))))))))=>r
 |r=>r
theorem Tg(mo:F=run a_ N sa ns 39)(bv:1000≤N)(fD:ns.length≤63)(R:ag→aq→ae→Prop)(bh:∀(cr:Bool)(rc ol b c:Nat)(aH after:List Int)(rs:List aT)(XV:ag)(wP tz:ag)(j:ae),fO j 0 rc ol b c aH after rs→1≤aH.length→aH.length≤3→after.length=2→eg aH→eg after→dH [0] rs []→(∀r∈rs,r.b8)→rs.length≤100→bX ⟨N,sa,ns,true,F⟩ (i6 e7.body) (some (.fn sa)::some (.ref 0)::some XV::some (.bool cr)::some wP::some tz::some (.ref rc)::some (.ref ol)::some (.int aH.length)::some (.ref b)::some (.ref c)::List.replicate 29 none) j (fun _ _=>False) R (fun _ _ _=>False)):bX ⟨N,sa,ns,true,F⟩ e7.body (some (.fn sa)::List.replicate 39 none) [] (fun _ _=>False) R (fun _ _ _=>False):=by
 have Ty:cY ⟨N,sa,ns,true,F⟩ .list [.fn sa] []=.ok (.ref 0) [.list (ns.map .int)]:=by show(aF rfl).trans (gV _ (by rw[bD];unfold aP;show ai [[1,1]] [_] [] [.le .x (.n 63)] (.lt .x .L) ah fD))
 have am:bl [aI.list (ns.map .int)] 0 ns:=rfl;show kA (xs:=[.fn sa]) (fun _=>rfl) Ty ?_;show dP (CD mo am (by show yC fD) (fun _=>rfl) fun af lr KK TI wE i1 gi q3=>?_);show dP (oa ?_);show mK mo (m:=2) q3 (by show rV) (fun _=>rfl) fun eG nn Rx Ry ty jC=>?_;show el (hV (e6 nn eG 0) ?_);generalize o3:(eG==0)=cr;show mK mo (m:=2) jC (by show rV) (fun _=>rfl) fun lE us Rz RA fV ph=>?_;obtain⟨x,R7,BH⟩:∃x:Nat,(1:Int)+lE=x∧x≤2:=⟨(1+lE).toNat,by show ai [[1,0,1],[0,1,0,0,1],[1,0,0,1],[0,1,0,0,1]] [_] [_] [.ax .o .x,.cz .x (.a .l .x)] (.a8 (.a .l .x) (.c .x)) ah Rz (cS _),by show ai [[1,0,1,0,1],[1,0,1]] [_] [_] [.au .x (.k 2),.cz .x (.a .l .x)] (.le .x .b) ah RA (cS _)⟩;show dh (add_int 1 lE us) ?_;rw[R7];show mK mo (m:=9) ph (by show ai [[1],[1]] [] [] [] (.aA (.au .o (.k 9)) (.au (.k 9) .B)) ah) (fun _=>rfl) fun kr i9 YJ YK o7 q4=>?_;show dh (add_int 6 kr i9) ?_;show el ?_;have mr:∃n:Nat,n≤8∧cj .Mod (.int (6+kr)) (.int 9) i9=.ok (.int n) i9:=by
  have O:=Int.fmod_nonneg_of_pos (6+kr) (show(0:Int)<9 by decide);show b' (((6+kr).fmod 9).toNat) (Int.toNat_le.mpr (Int.le_of_lt_add_one (Int.fmod_lt_of_pos _ (by decide)))) ?_;have e:cj .Mod (.int (6+kr)) (.int 9) i9=.ok (.int ((6+kr).fmod 9)) i9:=by rfl
  rw[e];congr 2;show ai [[1,0,1],[1,0,1,0,1],[1,0,0,1],[1,1]] [_] [_] [.ax .o .x,.cz .x .x] (.a8 .x (.c .x)) ah O (cS _)
 show aW mr fun n pe mr=>?_;show dh mr ?_;generalize nO:ag.int (n:Int)=Op;show dP (Dx rfl rfl ?_);show mK mo (m:=3) q4 (by show oo) (fun _=>rfl) fun t5 xL GZ Bi ig q5=>?_;have Pi:d6 xL true (.int (1+t5))=some (.all ((List.range (1+t5).toNat).map fun(i:Nat)=>ag.int i)):=by have:=rE (n:=(1+t5).toNat) (by show ai [[1,0,1,0,1],[1,0,1]] [_] [_] [.au .x (.k 3),.cz .x (.a .l .x)] (.lt .x .T) ah Bi (cS _)) xL;rw[show(((1+t5).toNat:Nat):Int)=1+t5 by show ai [[1,0,0,1],[0,1,0,0,1],[1,0,1],[0,1,0,0,1]] [_] [_] [.ax .o .x,.cz .x (.a .l .x)] (.a8 (.c .x) (.a .l .x)) ah GZ (cS _)]at this;show this
 show W.dA ?_;rw[Pi];show vh (fun v=>0≤v∧v<256) bv (by simp;show ai [[1,1]] [] [_] [.au .x (.k 3)] (.au (.a .l .x) (.k 900)) ah Bi) q5 (fun y H qh fY pL=>?_) fun aH gr v7 tc qV Rf Rt=>?_;·show cQ _ ?_;show mK mo (m:=256) fY (by show ai [[1],[1]] [] [] [] (.aA (.au .o .F) (.au .F .B)) ah) (fun _=>rfl) fun r H1 am I ch a1=>pL r H1 ⟨am,I⟩ ch a1
 have gj:=ig.1;have SL:=wE.lt;have Q3:=q3.lt;have wl:=ty.1;have wv:=fV.1;have FS:=o7.1;have e9:=v7.1;have WF:1≤aH.length∧aH.length≤3:=by rw[Rf,bD,List.length_range];show ai [[1,0,0,1,0,1],[0,1,0,0,0,1],[1,0,1,0,1],[1,0,1]] [_] [_] [.ax .o .x,.au .x (.k 3),.cz .x (.a .l .x)] (.aA (.le .l .x) (.le .x .c)) ah GZ Bi (cS _)
 show dP (Dx rfl rfl ?_);show vh (fun v=>0≤v∧v<256) bv (by decide) tc (fun y H qh fY pL=>?_) fun after rA AZ YL A7 Rg Ru=>?_
 ·show cQ _ ?_;show mK mo (m:=256) fY (by show ai [[1],[1]] [] [] [] (.aA (.au .o .F) (.au .F .B)) ah) (fun _=>rfl) fun r H1 am I ch a1=>?_;show dh (add_int 11 r H1) ?_;show el ?_;have e:cj .Mod (.int (11+r)) (.int 256) H1=.ok (.int ((11+r).fmod 256)) H1:=by rfl
  show dh e ?_;show pL _ H1 ⟨Int.fmod_nonneg_of_pos _ (by decide),Int.fmod_lt_of_pos _ (by decide)⟩ ch a1
 have fT:=AZ.1;have GO:=bl.bF qV AZ (by show ai [[1,0,1,1,1,1,1]] [_,_,_,_,_,_] [] [.le .aa .x,.lt .y .w,.le .w .u,.le .u .t,.le .t .aa] (.aK (.eq .x .y)) ah gj Q3 wl wv FS);show dP (kA (xs:=[.ref xL.length]) (fun _=>rfl) (nQ GO (by show ai [[1,0,1]] [_] [] [.aA (.le .l .x) (.le .x .c)] (.lt .x .M) ah WF)) ?_);have Q5:=((((ty.trans fV).trans o7).trans ig).trans v7).trans AZ;have RN:=bl.bF wE Q5 (by show ai [[0,1,1]] [_] [] [.le .l .x] (.aK (.eq .o .x)) ah gi);show dP (WU mo nO.symm bv (by show ai [[1,1]] [_] [] [.le .x (.n 8)] (.le .x .eh) ah pe) BH RN (by show ai [[1,1,1]] [_,_] [] [.le .y (.n 63),.le .x .y] (.lt .x .R) ah fD i1) (fun _=>rfl) fun rs b z an pR No ev pi A0 RO fX ul AC Y=>?_);show aW RO fun S' Q' Rh=>?_;have oX:=A0.1;have Rb:=bl.bF GO A0 (by show ai [[1,0,1,1,1,1,1]] [_,_,_,_,_] [] [.le .y .x,.lt .o .aa,.le .aa .w,.le .w .u,.le .u .y] (.aK (.eq .x .o)) ah gj SL wl wv FS);have Qn:=bl.bF A7 A0 (by show ai [[1,0,1,1,1,1,1,1]] [_,_,_,_,_,_] [] [.le .y .aa,.lt .o .w,.le .w .u,.le .u .t,.le .t .y,.le .aa .x] (.aK (.eq .x .o)) ah gj SL wl wv FS e9);show dP (Dt (P:=⟨N,sa,ns,true,F⟩) bv rfl fX (by show jZ pi) AC (fun _=>rfl) fun c I_ nN Z RW=>?_);have Qt:=nN.1;have RD:=fX.bA AC nN;show bh cr xL.length gr.length b c aH after rs (.ref af) (.int x) Op I_ ⟨⟨S',bl.bA Q' nN,by show ai [[1,1,1,1]] [_,_,_] [] [.le .y (.n 63),.le .aa .y,.le .x .aa] (.le .x (.n 63)) ah fD i1 Rh⟩,Rb.bA nN,Qn.bA nN,⟨z,an,RD,by show ai [[1,1,1,1,1,1,1,1,1]] [_,_,_,_,_,_,_,_] [] [.le .y .aa,.lt .o .w,.le .w .u,.le .u .t,.le .t .y,.le .aa .p,.le .p .q,.le .q .x] (.lt .o .x) ah gj SL wl wv FS e9 fT ul,by show qa AC Qt⟩,RW,by show ai [[1,0,1,1,1,1,1]] [_,_,_,_,_] [] [.le .y .x,.lt .o .aa,.le .aa .w,.le .w .u,.le .u .y] (.aK (.eq .x .o)) ah gj SL wl wv FS,by show ai [[1,0,1,1,1,1,1,1]] [_,_,_,_,_,_] [] [.le .y .aa,.lt .o .w,.le .w .u,.le .u .t,.le .t .y,.le .aa .x] (.aK (.eq .x .o)) ah gj SL wl wv FS e9,by show ai [[1,0,1,1,1,1,1,1,1,1]] [_,_,_,_,_,_,_,_] [] [.le .y .aa,.lt .o .w,.le .w .u,.le .u .t,.le .t .y,.le .aa .p,.le .p .q,.le .q .x] (.aK (.eq .x .o)) ah gj SL wl wv FS e9 fT Y,by show ai [[1,0,1,1,1,1,1,1,1,1,1]] [_,_,_,_,_,_,_,_,_] [] [.le .y .aa,.lt .o .w,.le .w .u,.le .u .t,.le .t .y,.le .aa .p,.le .p .q,.le .q (.v 8),.le (.v 8) .x] (.aK (.eq .x .o)) ah gj SL wl wv FS e9 fT oX Z⟩ WF.1 WF.2 ?_ Rt Ru No ev pi;rw[Rg];simp
end
end
section
section
variable{N:Nat}{sa:Addr}{ns:List Int}{F:Addr→List ag→ae→aG ag}{j:ae}{Q:ag→ae→Prop}{X:Nat→ae→Prop}
theorem Wm{d:Nat}:run a_ N sa ns (d+1) 477 [.ref j.length] (j++[.b_ eN []])=.ok .none (j++[.b_ eN [(.ej,.ref (j.length+1))],.bS []]):=by
 show fP (bQ (f:=zL) rfl rfl ?_);have V:(j++[aI.b_ eN []]).length=j.length+1:=by simp
 have Y:cY (b9 N sa ns d) .bytearray [] (j++[.b_ eN []])=.ok (.ref (j.length+1)) (j++[.b_ eN [],.bS []]):=by show(?_:aG.ok (ag.ref (j++[aI.b_ eN []]).length) (j++[aI.b_ eN []]++[.bS []])=_);rw[V,dX];rfl
 show kA (xs:=[]) (fun _=>rfl) Y ?_;show cN (v:=j++[.b_ eN [(.ej,.ref (j.length+1))],.bS []]) ?_ ⟨rfl,rfl⟩;have pp:(j++[aI.b_ eN [],aI.bS []])[j.length]?=some (.b_ eN []):=by simp
 show(t2 (f:=.ej) (v:=.ref (j.length+1)) (o:=.b_ eN []) (o':=.b_ eN [(.ej,.ref (j.length+1))]) pp (vP (c:=cZ eN=true∧([]:c9).length<10) ⟨rfl,by decide⟩)).trans ?_;simp
theorem Je(mo:F=run a_ N sa ns 39){z:aq}(q:∀(s b:Nat)(H:ae),bc j H→j.length≤s→j.length≤b→eM s b [] H→Q (.ref s) H):wp ⟨N,sa,ns,true,F⟩ (.call (.aC (.fn 529)) .nil) z j Q X:=by have an:=Wm (N:=N) (sa:=sa) (ns:=ns) (j:=j) (d:=38);rw[←mo]at an;show(?_:W ((F 477 [.ref j.length] (j++[.b_ eN []])).bind _) Q X);rw[an];show q j.length (j.length+1) _ (bc.push j _) (cm _) (by show rS) ⟨by simp,by simp⟩
theorem XU(r:List Int):hJ 491 1 [.bytes r] r:=fun N sa ns d s b l j bv h V=>by show fP (bQ (f:=zO) rfl rfl ?_);show b3 h.bO ?_;show⟨h.qk.2,?_⟩;have e:∀P,cJ P (.ref b) .d_ [.bytes r] j=.ok .none (j.set b (.bS (l++r))):=fun P=>(nc h.h5).trans (aF V);show(?_:W (cJ _ (.ref b) .d_ [.bytes r] j) _ _);rw[e];show⟨rfl,rfl⟩
theorem JC{P:aY}{b:Nat}{l:List Int}(h:j[b]?=some (.bS l))(V:l.length<100000):cY P .bytes [.ref b] j=.ok (.bytes l) j:=by show Ml h (by unfold aP;show u1 V)
end
end
section
noncomputable def kk:bZ→bZ
 |.cons _ (.cons _ (.cons _ (.cons _ r)))=>r
 |r=>r
theorem Ej{rs:List aT}(h:∀r∈rs,r.b8):∀s∈rs.map (aT.cb 0),s.r7:=by intro s a1;obtain⟨r,ar,rfl⟩:=List.mem_map.mp a1;show(h r ar).w
section
variable{N:Nat}{sa:Addr}{ns:List Int}{F:Addr→List ag→ae→aG ag}{j:ae}{Q:ag→ae→Prop}{X:Nat→ae→Prop}
theorem J5{P:aY}{b0:gA}{e:a0}{z:aq}(h:wp P e z j (fun v j=>W (cY P b0 [v] j) Q X) X):wp P (.call (.aC (.b0 b0)) (.cons e .nil)) z j Q X:=by show h
noncomputable abbrev Kv(Ch jQ XV lO wP tz:Option ag)(rc ol b c:Nat)(aH:List Int):aq:=Ch::jQ::XV::lO::wP::tz::some (.ref rc)::some (.ref ol)::some (.int aH.length)::some (.ref b)::some (.ref c)::List.replicate 29 none
noncomputable abbrev Kw(Ch jQ XV lO wP tz:Option ag)(rc ol b c s:Nat)(aH:List Int):aq:=Ch::jQ::XV::lO::wP::tz::some (.ref rc)::some (.ref ol)::some (.int aH.length)::some (.ref b)::some (.ref c)::some (.ref s)::List.replicate 28 none
theorem Th(mo:F=run a_ N sa ns 39)(bv:1000≤N){R:ag→aq→ae→Prop}{rc ol b c:Nat}{aH after:List Int}{rs:List aT}{HK:aq}{tl:aq}(ul:HK.length=6)(hf:fO j 0 rc ol b c aH after rs)(wE:1≤aH.length)(un:aH.length≤3)(ci:eg aH)(ev:∀r∈rs,r.b8)(pi:rs.length≤100){Ch jQ XV lO wP tz:Option ag}(bh:∀(s:Nat)(H:ae),fO H 0 rc ol b c aH after rs→bX ⟨N,sa,ns,true,F⟩ (kk (i6 e7.body)) (Kw Ch jQ XV lO wP tz rc ol b c s aH) H (fun _ _=>False) R (fun _ _ _=>False)):bX ⟨N,sa,ns,true,F⟩ (i6 e7.body) (Kv Ch jQ XV lO wP tz rc ol b c aH) j (fun _ _=>False) R (fun _ _ _=>False):=by
 show dP (Je mo fun s hb fd ST a1 nB q6=>?_);have fB:=hf.bA ST;show pS (rL (ew ?_));show b3 (x:=some (ag.ref s)) rfl ?_;show⟨q6.ok rfl,?_⟩;show gv (kA (xs:=[.ref rc]) (fun _=>rfl) (vb fB.aH (by show ai [[1,1]] [_] [] [.le .x .c] (.lt .x .M) ah un) ci rfl) ?_);show ky ?_;have Bh:F 491 [.ref s,.bytes aH] fd=.ok .none (fd.set hb (.bS ([]++aH))):=by rw[mo];show XU aH N sa ns 38 s hb [] fd bv q6 (by simp;unfold aP;show u0 un)
 rw[q6.call (f:=491) rfl rfl];show(?_:W (F 491 [.ref s,.bytes aH] fd) _ _);rw[Bh];show W.dA ?_;have Bv:=q6.set ([]++aH);have ty:=aO.set hb fd (.bS ([]++aH));have fC:=hf.nu ST ty nB;generalize fd.set hb (.bS ([]++aH))=pm at Bv ty fC⊢;have SL:=ra (t:=0) ev;have RX:pm[c]?=some (.list ((ed (rs.map (aT.cb 0))).map bj++([]:List Int).map fun k=>bj [k])):=by rw[Ds,List.map_nil,eo];show fC.g5
 show pS (kU mo (xs:=[.ref s,.ref c]) (fun _=>rfl) rfl ?_);have Q2:=SL;show J' (d:=33) (ss:=rs.map (aT.cb 0)) (tl:=[]) bv Bv (Ej ev) (by simp;show ai [[1,1]] [_] [] [.le .x .S] (.lt .x .T) ah pi) (by unfold aP;show yD un pi Q2) RX (fun k r aa=>by cases aa) fun _=>?_;have Bw:=Bv.set ([]++aH++dT (rs.map (aT.cb 0)));have fV:=aO.set hb pm (.bS ([]++aH++dT (rs.map (aT.cb 0))));have gh:=hf.nu ST (ty.trans fV) nB;generalize pm.set hb (.bS ([]++aH++dT (rs.map (aT.cb 0))))=Cl at Bw fV gh⊢;show dR gh.bP fun z an fX A' AC=>?_;have AM:∀P:aY,cY P .bytes [.ref hb] Cl=.ok (.bytes (aH++bu 0 rs)) Cl:=fun P=>JC Bw.h5 (by simp;show ai [[1,1,56,1]] [_,_,_] [] [.le .x .c,.le .aa .S,.le .y (.m 56 .aa)] (.lt (.a .x .y) .M) ah un pi SL);show kA (xs:=[.ref hb]) (fun Q=>by show(?_:bg (c' Cl (.ref s) .ej) _=_);rw[Bw.bO];rfl) (AM _) ?_;show aX fun _ done=>?_;show done ?_;show J5 ?_;show hy (ew ?_);show b3 (x:=some (ag.ref rc)) rfl ?_;show Ht mo (t:=0) bv fX ev (by show jZ pi) (by show ai [[1]] [] [] [] (.le .o .l) ah) AC (fun _=>rfl) fun YS Re il YE Q_=>?_;have hP:=gh.bA il;show dh (j3 hP.aH Q_ (by unfold aP;show yD un pi SL)) ?_;have G_:bl (Re++[aI.list ((aH++bu 0 rs).map .int)]) Re.length (aH++bu 0 rs):=bG Re _;have i2:=bc.push Re [aI.list ((aH++bu 0 rs).map .int)];have gI:=hP.bA i2;generalize Re++[aI.list ((aH++bu 0 rs).map .int)]=kC at G_ i2 gI⊢;rw[vb G_ (by rw[cA];show ai [[1,1,56,1]] [_,_,_] [] [.le .x .c,.le .aa .S,.le .y (.m 56 .aa)] (.lt (.a .x .y) .M) ah un pi SL) (ci.du (tw ev)) rfl];show W.dA ?_;have li:cC .NotEq (.bytes (aH++bu 0 rs)) (.bytes (aH++bu 0 rs)) kC=some false:=by show congrArg (fun b=>some (!b)) (beq_self_eq_true (aH++bu 0 rs))
 show hV li ?_;show oa (ew ?_);show b3 (x:=some (ag.ref c)) rfl ?_;show aX fun _ done=>?_;show dR gI.bP fun TO QW RB _ QU=>?_;show done ?_;show Dt (P:=⟨N,sa,ns,true,F⟩) bv rfl RB (by show jZ pi) QU (fun _=>rfl) fun SJ kD lk YF qV=>?_;have iZ:=gI.bA lk;have Ro:cC .NotEq (.ref c) (.ref SJ) kD=some false:=rh (Dr (n:=5) iZ.g5) (Dr (n:=5) qV) (B' _).1 (c6 (B' _).2 (by decide)) (fun l aa=>by cases aa);show hV Ro ?_;show bh s kD iZ
end
end
section
noncomputable def mz:bZ→bZ
 |.cons _ (.cons _ r)=>r
 |r=>r
section
variable{N:Nat}{sa:Addr}{ns:List Int}{F:Addr→List ag→ae→aG ag}{j:ae}{Q:ag→ae→Prop}{X:Nat→ae→Prop}
theorem WO{x:St}(h:x.b8):1≤x.c.length:=by
 cases Z:x.c with
 |nil=>have:=h.code 0 [];rw[Z]at this;show nomatch this
 |cons a l=>rw[hF];show rT
theorem SK{t:Nat}{rs:List aT}(No:dH [0] rs [])(ev:∀r∈rs,r.b8):1≤(bu t rs).length:=by
 cases rs with
 |nil=>cases No
 |cons r rs=>have:=WO (aT.Jv (t:=t) (ev r dF));unfold bu;rw[List.map_cons,kj,cA];show ai [[1,1]] [_,_] [] [.le .l .x] (.le .l (.a .x .y)) ah this
noncomputable abbrev Kx(Ch XV wP tz:Option ag)(rc ol b c s:Nat)(aH:List Int)(cr:Bool):aq:=Ch::some (.ref 0)::XV::some (.bool cr)::wP::tz::some (.ref rc)::some (.ref ol)::some (.int aH.length)::some (.ref b)::some (.ref c)::some (.ref s)::List.replicate 28 none
noncomputable abbrev Ky(Ch pX wP tz fJ iG fm Sc:Option ag)(rc ol b c s:Nat)(aH:List Int)(cr:Bool):aq:=Ch::some (.ref 0)::pX::some (.bool cr)::wP::tz::some (.ref rc)::some (.ref ol)::some (.int aH.length)::some (.ref b)::some (.ref c)::some (.ref s)::fJ::iG::fm::Sc::List.replicate 24 none
theorem Ti(mo:F=run a_ N sa ns 39)(bv:1000≤N){R:ag→aq→ae→Prop}{rc ol b c s:Nat}{aH after:List Int}{rs:List aT}{cr:Bool}(hf:fO j 0 rc ol b c aH after rs)(wE:1≤aH.length)(un:aH.length≤3)(ih:after.length=2)(ci:eg aH)(s9:eg after)(No:dH [0] rs [])(ev:∀r∈rs,r.b8)(pi:rs.length≤100){Ch XV wP tz:Option ag}(bh:∀(pX fJ iG fm Sc:Option ag)(H:ae),fO H 0 rc ol b c aH after rs→bX ⟨N,sa,ns,true,F⟩ (mz (kk (i6 e7.body))) (Ky Ch pX wP tz fJ iG fm Sc rc ol b c s aH cr) H (fun _ _=>False) R (fun _ _ _=>False)):bX ⟨N,sa,ns,true,F⟩ (kk (i6 e7.body)) (Kx Ch XV wP tz rc ol b c s aH cr) j (fun _ _=>False) R (fun _ _ _=>False):=by
 show aX fun _ done=>?_;show aW hf.mQ fun l V WF=>?_;show done ?_;show dP (CD mo V (by show yC WF) (fun _=>rfl) fun af lr KK TI wc i1 gi q3=>?_);show kY (v:=.int (2:Nat)) (fd:=KK) (l:=(List.range 2).map fun(i:Nat)=>ag.int i) rfl (fun _=>rfl) (rE (n:=2) (by show ai [[1]] [] [] [] (.lt .b .T) ah) KK) (fun t f4 H=>(aO 0 j H∧bl H 0 lr∧cn af H)∧∃fJ iG fm Sc,f4=(Ch::some (.ref 0)::some (.ref af)::some (.bool cr)::wP::tz::some (.ref rc)::some (.ref ol)::some (.int aH.length)::some (.ref b)::some (.ref c)::some (.ref s)::fJ::iG::fm::Sc::List.replicate 24 none)) (fun i z H _=>rfl) (fun t y f4 H ga f1=>?_) (fun f4 H ga=>?_) ⟨⟨TI,wc,q3⟩,none,none,none,none,rfl⟩ ?_
 ·have im:t<2:=by show(c7.mp f1).1
  have BI:y=.int t:=by rw[eQ,List.getElem?_range im]at f1;injection f1 with f1;show f1.symm
  subst BI;show aX fun _ done=>?_;obtain⟨⟨ty,we,jC⟩,fJ,iG,fm,Sc,rfl⟩:=ga;have fC:=hf.bF ty ⟨lr,we,by show qc WF i1⟩;have SL:=ra (t:=t) ev;show done ?_;show cN (v:=Ch::some (.ref 0)::some (.ref af)::some (.bool cr)::wP::tz::some (.ref rc)::some (.ref ol)::some (.int aH.length)::some (.ref b)::some (.ref c)::some (.ref s)::some (.int t)::iG::fm::Sc::List.replicate 24 none) rfl ?_;show aX fun _ done=>?_;show dR fC.bP fun z an fX A' AC=>?_;show done ?_;show dP (hy (ew ?_));show b3 (x:=some (ag.ref rc)) rfl ?_;show Ht mo (t:=t) bv fX ev (by show jZ pi) (by show ai [[1,1]] [_] [] [.lt .x .b] (.le .x .l) ah im) AC (fun _=>rfl) fun YR us hp nE hQ=>?_;show dh (j3 (fC.bA hp).aH hQ (by unfold aP;show yD un pi SL)) ?_;have lb:bl (us++[aI.list ((aH++bu t rs).map .int)]) us.length (aH++bu t rs):=bG us _;have il:=hp.trans (bc.push us [aI.list ((aH++bu t rs).map .int)]);have wv:=hp.1;generalize us++[aI.list ((aH++bu t rs).map .int)]=i9 at lb il⊢;have GJ:=SK (t:=t) No ev;have gg:(aH++bu t rs).length=aH.length+(bu t rs).length:=cA;show kA (xs:=[.ref us.length]) (fun _=>rfl) (nQ lb (by show ai [[1,1,0,1,56,1]] [_,_,_,_] [] [.le .y .c,.le .aa .S,.le .w (.m 56 .aa),.eq .x (.a .y .w)] (.lt .x .M) ah un pi SL gg)) ?_;show el (dh (v:=.int (((aH++bu t rs).length:Int)-1)) (H:=i9) rfl ?_);have q4:=jC.bA il;show mK mo (m:=((aH++bu t rs).length:Int)-aH.length) q4 (by show ai [[1,0,1,1],[1,1,0,0,1,56]] [_,_,_,_] [] [.le .aa .S,.le .w (.m 56 .aa),.le .l .w,.eq .x (.a .y .w)] (.aA (.au .o (.s (.c .x) (.c .y))) (.au (.s (.c .x) (.c .y)) .B)) ah pi SL GJ gg) (fun Q=>?_) fun r xL ta jA ig q5=>?_;·show(?_:W (cY ⟨N,sa,ns,true,F⟩ .len [.ref us.length] i9) (fun x j=>W (cj .Sub x (.int aH.length) j) _ _) _=_);rw[nQ lb (by show ai [[1,1,0,1,56,1]] [_,_,_,_] [] [.le .y .c,.le .aa .S,.le .w (.m 56 .aa),.eq .x (.a .y .w)] (.lt .x .M) ah un pi SL gg)];rfl
  show dh (v:=.int (((aH++bu t rs).length:Int)-1-r)) (H:=xL) rfl ?_;obtain⟨er,mh⟩:∃er:Nat,((aH++bu t rs).length:Int)-1-r=er:=⟨(((aH++bu t rs).length:Int)-1-r).toNat,by show ai [[1,0,1],[1,0,1,0,1],[1,0,0,1],[1,1]] [_,_,_] [_] [.au .x (.s (.c .x) (.c .aa)),.cz .y (.s (.s (.c .x) .l) .x)] (.a8 (.s (.s (.c .x) .l) .x) (.c .y)) ah jA (cS _)⟩;rw[mh];have mg:aH.length≤er∧er<(aH++bu t rs).length:=by show ai [[1,1,0,1],[1,0,1,0,1]] [_,_,_] [_] [.ax .o .x,.au .x (.s (.c .aa) (.c .x)),.a8 (.s (.s (.c .aa) .l) .x) (.c .y)] (.aA (.le .x .y) (.lt .y .aa)) ah ta jA mh
  have AY:=(ty.trans (il.bF 0)).new ig gi;have jw:bl xL 0 lr:=(we.bA il).bF ig (by have:=V.lt;show ai [[0,1,1,1]] [_,_] [] [.le .y .x,.lt .o .y] (.aK (.eq .o .x)) ah gi this);have gI:=hf.bF AY ⟨lr,jw,by show qc WF i1⟩;have GV:bl xL us.length (aH++bu t rs):=lb.bF ig (by have:=jC.lt;show qg wv this);show dP (hy (ew ?_));show b3 (x:=some (ag.ref us.length)) rfl ?_;show b3 (x:=some (ag.ref ol)) rfl ?_;show dh (j3 GV gI.after (by unfold aP;show ai [[1,1,0,1,56,1,0,1]] [_,_,_,_,_] [] [.le .aa .c,.eq .y .b,.le .w .S,.le .u (.m 56 .w),.eq .x (.a .aa .u)] (.lt (.a .x .y) .L) ah un ih pi SL gg)) ?_;have vR:bl (xL++[aI.list ((aH++bu t rs++after).map .int)]) xL.length (aH++bu t rs++after):=bG xL _;have lk:=bc.push xL [aI.list ((aH++bu t rs++after).map .int)];generalize xL++[aI.list ((aH++bu t rs++after).map .int)]=gr at vR lk⊢;have pa:(aH++bu t rs++after).length=(aH++bu t rs).length+2:=by rw[cA (bs:=after),ih]
  have me:eg (aH++bu t rs++after):=(ci.du (tw ev)).du s9;have A8:∀P:aY,cY P .len [.ref xL.length] gr=.ok (.int ((aH++bu t rs++after).length:Nat)) gr:=fun P=>nQ vR (by show ai [[1,1,0,1,0,1,56,1]] [_,_,_,_,_] [] [.le .y .c,.le .aa .S,.le .w (.m 56 .aa),.eq .u (.a .y .w),.eq .x (.a .u .b)] (.lt .x .M) ah un pi SL gg pa);have Gv:=AY.trans (lk.bF 0);have qV:=jw.bA lk;have tc:=q5.bA lk;generalize jt:aH++bu t rs++after=az at vR pa me A8⊢;show kY (v:=.av [.int az.length,.int er]) (fd:=gr) (db:=.all [.int az.length,.int er]) (l:=[.int az.length,.int er]) rfl (fun Q=>?_) rfl (fun i f4 H=>bc gr H∧∃Sc,f4=(Ch::some (.ref 0)::some (.ref af)::some (.bool cr)::wP::tz::some (.ref rc)::some (.ref ol)::some (.int aH.length)::some (.ref b)::some (.ref c)::some (.ref s)::some (.int t)::some (.ref xL.length)::some (.int er)::Sc::List.replicate 24 none)) (fun i z H _=>rfl) (fun i y f4 H ga f1=>?_) (fun f4 H ga=>?_) ⟨bc.refl gr,Sc,rfl⟩ ?_;·show(?_:W (cY ⟨N,sa,ns,true,F⟩ .len [.ref xL.length] gr) (fun x j=>Q (.av [x,.int er]) j) _=_);rw[A8];rfl
  ·show aX fun _ done=>?_;obtain⟨nM,Ze,rfl⟩:=ga;have ge:∃e:Nat,y=.int e∧aH.length≤e∧e≤az.length:=by
    match i,f1 with
    |0,f1=>injection f1 with f1;show iv az.length f1.symm (by show ai [[1,0,1,0,1]] [_,_,_,_] [] [.eq .aa (.a .x .w),.eq .y (.a .aa .b)] (.le .x .y) ah gg pa) (cm _)
    |1,f1=>injection f1 with f1;show iv er f1.symm mg.1 (by show ai [[1,0,1,0,1,1]] [_,_,_] [_] [.ax .o .x,.a8 (.s (.s (.c .aa) .l) .x) (.c .x),.eq .y (.a .aa .b)] (.le .x .y) ah ta mh pa)
    |i+2,f1=>cases f1
   clear hQ wv i9 lb il GJ q4 r ta jA ig q5 mh mg AY jw gI GV lk tc A8 i f1;show eA ge fun e cl Gp QK=>?_;subst cl;have Qd:=(hf.bF Gv ⟨lr,qV,by show qc WF i1⟩).bA nM;obtain⟨L,nI⟩:=VL (cr:=cr) (t:=t) (aH:=aH) (after:=after) (az:=az) (e:=e) No ev (by rw[←jt,dX]) Gp;show done ?_;show cN (v:=Ch::some (.ref 0)::some (.ref af)::some (.bool cr)::wP::tz::some (.ref rc)::some (.ref ol)::some (.int aH.length)::some (.ref b)::some (.ref c)::some (.ref s)::some (.int t)::some (.ref xL.length)::some (.int er)::some (.int e)::List.replicate 24 none) rfl ?_;have Gy:xw rs L (fv cr e aH.length (rs.map (aT.cb t)))≠.dI∧∀C w pc,xw rs L (fv cr e aH.length (rs.map (aT.cb t)))=.di C w pc→C=bE∨C=dy:=by
    cases fv cr e aH.length (rs.map (aT.cb t))with
    |ok a=>show⟨fun aa=>(by cases aa),fun _ _ _ aa=>(by cases aa)⟩
    |data a=>show⟨fun aa=>(by cases aa),fun _ _ _ aa=>(by cases aa;show .inl rfl)⟩
    |er=>show⟨fun aa=>(by cases aa),fun _ _ _ aa=>(by cases aa)⟩
   show IV mo (fI:=1+rs.length) bv (by show ai [[1,1]] [_] [] [.le .x .S] (.le (.a .l .x) .T) ah pi) (vR.bA nM) me (by show ai [[1,1,0,1,0,1,56,1]] [_,_,_,_,_] [] [.le .y .c,.le .aa .S,.le .w (.m 56 .aa),.eq .u (.a .y .w),.eq .x (.a .u .b)] (.lt .x .M) ah un pi SL gg pa) Gp QK nI Gy.1 Gy.2 (fun _=>rfl) fun v pR pk al=>?_;have oV:=Qd.bA pk;show aX fun _ done=>?_;show dR oV.bP fun z an RC _ QV=>?_;show done ?_;show Nm mo (t:=t) (aE:=aH.length) (e:=e) (cr:=cr) bv RC ev (by show jZ pi) (by show ai [[1,1]] [_] [] [.lt .x .b] (.le .x .l) ah im) QV (fun _=>rfl) fun w I_ nN f0=>?_;show hV (VJ (al.bA nN) f0) ?_;show⟨(nM.trans pk).trans nN,_,rfl⟩
  ·obtain⟨nM,Sc,rfl⟩:=ga;show⟨⟨Gv.trans (nM.bF 0),bl.bA qV nM,tc.bA nM⟩,_,_,_,_,rfl⟩
  ·show ai [[1,1]] [_] [] [.le .R .x] (.lt .b .x) ah bv
 ·obtain⟨⟨e_,sY,_⟩,fJ,iG,fm,Sc,rfl⟩:=ga;show bh _ fJ iG fm Sc H (hf.bF e_ ⟨lr,sY,by show qc WF i1⟩)
 ·show ai [[1,1]] [_] [] [.le .R .x] (.lt .b .x) ah bv
end
end
section
theorem Dd{j:ae}{z an b k:Nat}{rs:List aT}(h:eL j z an b rs)(V:rs.length≤200)(AC:an≤j.length):∃vs:List ag,i' (.ref b) .none (.int k) j=.ok (.ref j.length) (j++[.list (vs.take k)])∧eL (j++[.list (vs.take k)]) z an j.length (rs.take k):=by show aW h fun vs ho gk=>?_;have W1:=gk.len;show⟨vs,?_,vs.take k,bG j _,(gk.take k).bF (aO.push an j _) (.inr (cm _))⟩;have e:c0 j b=some vs:=d1 ho;show(gY e).trans ((aF ⟨by show lW,by unfold aP;show qb V W1⟩).trans (gV _ (hE (kF ..) (by unfold aP;show qb V W1))))
theorem Wr{j:ae}{z an b k:Nat}{rs:List aT}(h:eL j z an b rs)(V:rs.length≤200)(AC:an≤j.length):∃vs:List ag,i' (.ref b) (.int k) .none j=.ok (.ref j.length) (j++[.list (vs.drop k)])∧eL (j++[.list (vs.drop k)]) z an j.length (rs.drop k):=by show aW h fun vs ho gk=>?_;have W1:=gk.len;show⟨vs,?_,vs.drop k,bG j _,(gk.drop k).bF (aO.push an j _) (.inr (cm _))⟩;have e:c0 j b=some vs:=d1 ho;show(gY e).trans ?_;show(aF ⟨rfl,by show lW,by unfold aP;show qb V W1⟩).trans ?_;rw[gV _ (by rw[List.length_drop];unfold aP;show ai [[1,0,1,0,1,0,1],[1,0,1]] [_,_,_,_] [] [.le .y .U,.eq .aa .y,.cG .x .aa .w] (.lt .x .L) ah V W1 (cy _ _))];rfl
end
section
noncomputable def pA:bZ→bZ
 |.cons _ (.cons _ (.cons _ (.cons _ (.cons _ r))))=>r
 |r=>r
noncomputable def HC:bZ→bZ
 |.cons _ (.cons _ (.cons _ (.cons _ r)))=>r
 |r=>r
theorem WX{a b:Str}(ds:PyData.strOk a=true)(Y:PyData.strOk b=true):PyData.strOk (a++b)=true:=by unfold PyData.strOk at*;show(?_:(a.cps++b.cps).all _=true);rw[Array.all_append,ds,Y];rfl
theorem WY(k:Int):PyData.strOk (lB k)=true:=WX (bU _) (bU _)
theorem Ux{j:ae}{w:Str}(h:PyData.strOk w=true):cC .NotEq (.str w) (.str w) j=some false:=rh (ui (n:=7) h) (ui (n:=7) h) (by simp[l2,l0,l3,l1,h]) (by simp[oJ,oI,oK,nk]) (fun l aa=>by cases aa)
section
variable{N:Nat}{sa:Addr}{ns:List Int}{F:Addr→List ag→ae→aG ag}{j:ae}{Q:ag→ae→Prop}{X:Nat→ae→Prop}
theorem yZ{D:Nat}(mo:F=run a_ N sa ns D){a:Addr}{cd ex sc:a0}{as:b5}{xs:List ag}{z:aq}{fd:ae}{dQ:Nat}(fb:∀Q,wp ⟨N,sa,ns,true,F⟩ (.hx cd ex sc) z j Q X=Q (.ref dQ) fd)(ad:∀Q,cR ⟨N,sa,ns,true,F⟩ as z fd Q X=Q xs fd)(an:cZ a=false)(h:W (run a_ N sa ns D a (.ref dQ::xs) fd) Q X):wp ⟨N,sa,ns,true,F⟩ (.call (.aC (.fn a)) (.cons (.hx cd ex sc) as)) z j Q X:=by rw[←mo]at h;show uy (el (gv ?_));rw[fb,ad];rw[ve rfl an];show h
theorem KY{D:Nat}(mo:F=run a_ N sa ns D){a:Addr}{xs:List ag}(h:W (run a_ N sa ns D a xs j) Q X):W (F a xs j) Q X:=by rw[mo];show h
theorem eM.bA{j H:ae}{s b:Nat}{l:List Int}(h:eM s b l j)(w:bc j H):eM s b l H:=⟨w.get h.b_,w.get h.h5⟩
noncomputable abbrev KC(Ch jQ XV lO wP tz iE iF Dw uk um Du uo uq ur uu uv Dv:Option ag)(b c k:Nat)(s2:Int):aq:=Ch::jQ::XV::lO::wP::tz::iE::iF::Dw::some (.ref b)::some (.ref c)::uk::um::Du::uo::uq::some (.int k)::some (.int s2)::ur::uu::uv::Dv::List.replicate 18 none
theorem Tn(mo:F=run a_ N sa ns 39)(bv:1000≤N){rc ol b c k:Nat}{aH after:List Int}{rs:List aT}{s2:Int}(hf:fO j 0 rc ol b c aH after rs)(ev:∀r∈rs,r.b8)(pi:rs.length≤100)(gK:dM s2=none)(mm:0≤s2∧s2<100000000000){Ch jQ XV lO wP tz iE iF Dw uk um Du uo uq ur uu uv Dv:Option ag}:bX ⟨N,sa,ns,true,F⟩ (HC (pA (mz (kk (i6 e7.body))))) (KC Ch jQ XV lO wP tz iE iF Dw uk um Du uo uq ur uu uv Dv b c k s2) j (fun _ _=>False) (fun v _ _=>v=.bool true) (fun _ _ _=>False):=by
 have lg:∀r∈rs.take k,r.b8:=fun r ar=>ev r (List.take_subset _ _ ar);have qU:=ra (t:=0) lg;have ic:(rs.take k).length≤100:=c6 (kF _ _) pi;show dP (Je mo fun s hb fd ST a1 nB q6=>?_);have fB:=hf.bA ST;show⟨rfl,?_⟩;show pS (uy (el (gv (ew ?_))));show b3 (x:=some (ag.ref s)) rfl ?_;show gv (hy (Xv (ew ?_)));show b3 (x:=some (ag.ref c)) rfl ?_;show el (ew ?_);show b3 (x:=some (ag.int k)) rfl ?_;have BC:((eO rs).map bj).length=rs.length:=by simp[eO]
 have fb:i' (.ref c) .none (.int k) fd=.ok (.ref fd.length) (fd++[.list (((eO rs).map bj).take k)]):=by have e:c0 fd c=some ((eO rs).map bj):=d1 (fB.g5);show(gY e).trans ?_;show(aF ⟨by show lW,by unfold aP;show yE pi BC⟩).trans ?_;rw[gV _ (hE (c6 (kF _ _) (c6 (Nat.le_of_eq BC) pi)) (by decide))];rfl
 rw[fb];show W.dA ?_;have la:(fd++[aI.list (((eO rs).map bj).take k)])[fd.length]?=some (.list (((eO rs).map bj).take k)):=bG fd _;have fc:=bc.push fd [aI.list (((eO rs).map bj).take k)];generalize fd++[aI.list (((eO rs).map bj).take k)]=pm at la fc⊢;show m2 (xs:=[bj [s2]]) (fun _=>rfl) (by rw[List.length_singleton];unfold aP;show ai [[1]] [] [] [] (.lt .l .L) ah) ?_;have o_:=(bc.push pm [aI.list [bj [s2]]]).get la;have fW:(pm++[aI.list [bj [s2]]])[pm.length]?=some (.list [bj [s2]]):=bG pm _;have hp:=fc.trans (bc.push pm [aI.list [bj [s2]]]);generalize pm++[aI.list [bj [s2]]]=Cl at o_ fW hp⊢;have sc:((eO rs).map bj).take k++[bj [s2]]=(ed ((rs.take k).map (aT.cb 0))).map bj++[s2].map fun k=>bj [k]:=by rw[Ds];simp[eO,List.map_take]
 have Qm:cj .Add (.ref fd.length) (.ref pm.length) Cl=.ok (.ref Cl.length) (Cl++[.list ((ed ((rs.take k).map (aT.cb 0))).map bj++[s2].map fun k=>bj [k])]):=by show(gY (d1 fW)).trans ((gY (d1 o_)).trans ((aF rfl).trans ?_));rw[gV _ (by rw[cA,List.length_singleton];show hE (Nat.succ_le_succ (c6 (kF _ _) (c6 (Nat.le_of_eq BC) pi))) (by decide)),sc]
 show dh Qm ?_;have A5:(Cl++[aI.list ((ed ((rs.take k).map (aT.cb 0))).map bj++[s2].map fun k=>bj [k])])[Cl.length]?=some (.list ((ed ((rs.take k).map (aT.cb 0))).map bj++[s2].map fun k=>bj [k])):=bG Cl _;have il:=hp.trans (bc.push Cl [aI.list ((ed ((rs.take k).map (aT.cb 0))).map bj++[s2].map fun k=>bj [k])]);generalize Cl++[aI.list ((ed ((rs.take k).map (aT.cb 0))).map bj++[s2].map fun k=>bj [k])]=Re at A5 il⊢;show ky ?_;have G7:=q6.bA il;generalize Cl.length=iq at A5⊢;show KY mo ?_;have SL:(dT ((rs.take k).map (aT.cb 0))).length≤56*(rs.take k).length:=qU;show J' (d:=33) (ss:=(rs.take k).map (aT.cb 0)) (tl:=[s2]) bv G7 (Ej lg) (by rw[bD];show hE (Nat.succ_le_succ ic) (by decide)) (by rw[List.length_nil];unfold aP;show ai [[1,1,56]] [_,_] [] [.le .y .S,.le .x (.m 56 .y)] (.lt (.a .o .x) .L) ah ic SL) A5 (fun gl r aa=>?_) (fun aa=>by cases aa);cases aa;show⟨gK,by show yF mm,?_⟩;generalize sL:dT ((rs.take k).map (aT.cb 0))=eS at SL⊢;have G8:=G7.set ([]++eS);have gI:=hf.nu (ST.trans il) (aO.set hb Re (.bS ([]++eS))) nB;have pb:(Re.set hb (aI.bS ([]++eS))).length=Re.length:=List.length_set ..;show nS fR ([(.c2,.str (lB s2))]) ?_ (by decide) ?_;·show pb▸bG _ _
 rw[←pb];generalize Re.set hb (aI.bS ([]++eS))=kC at G8 gI⊢;have vW:c' (kC++[aI.cX fR [(.c2,.str (lB s2))]]) (.ref kC.length) .c2=some (.str (lB s2)):=by have:=bG kC (aI.cX fR [(.c2,.str (lB s2))]);show oz this rfl rfl rfl
 have lk:=bc.push kC [aI.cX fR [(.c2,.str (lB s2))]];have Bx:=G8.bA lk;have iZ:=gI.bA lk;generalize kC++[aI.cX fR [(.c2,.str (lB s2))]]=kD at vW Bx iZ⊢;show Br ?_;show C9 (oa (Xs (ew ?_)));show b3 (x:=some (ag.ref kC.length)) rfl ?_;show b3 vW ?_;have RR:∀P:aY,cY P .str [.int s2] kD=.ok (.str (Str.ofString (toString s2))) kD:=fun P=>by show(?_:(if-100000000<s2∧s2<100000000000 then aG.ok (ag.str (Str.ofString (toString s2))) kD else .aS)=_);rw[aF (by show yF mm)]
 show kA (xs:=[.int s2]) (fun _=>rfl) (RR _) ?_;show dh (Ef (by show yF mm) kD) ?_;show hV (Ux (WY s2)) ?_;dsimp only[bN,ck];show ek (ek ?_);show dR iZ.bP fun z an fX A' AC=>?_;show aW (Dd (k:=k) fX (by show jZ pi) AC) fun J0 Bs Bk=>?_;have AM:∀P:aY,cY P .bytes [.ref hb] kD=.ok (.bytes ([]++eS)) kD:=fun P=>JC Bx.h5 (by show ai [[1,1,56]] [_,_] [] [.le .y .S,.le .x (.m 56 .y)] (.lt .x .M) ah ic SL);show rB (oa ?_);show kA (xs:=[.ref hb]) (fun Q=>by show(?_:bg (c' kD (.ref s) .ej) _=_);rw[Bx.bO];rfl) (AM _) ?_;show J5 ?_;show yZ mo (xs:=[.int 0]) (fun Q=>?_) (fun _=>rfl) rfl (BX (t:=0) (d:=38) bv Bk lg (by show jZ ic) (by show ai [[1]] [] [] [] (.le .o .l) ah) (by simp;show rX AC) fun YT Kd nM YG A7=>?_);·show(?_:W (i' (.ref b) .none (.int k) kD) _ _=_);rw[Bs];rfl
 rw[vb A7 (by show ai [[1,56,1]] [_,_] [] [.le .x (.m 56 .y),.le .y .S] (.lt .x .M) ah qU ic) (tw lg) rfl];show W.dA ?_;have e:cC .Eq (.bytes ([]++eS)) (.bytes (bu 0 (rs.take k))) Kd=some true:=by show(?_:h_ Kd (.bytes ([]++eS)) (.bytes (bu 0 (rs.take k)))=_);rw[←sL];show(?_:some (([]:List Int)++dT ((rs.take k).map (aT.cb 0))==bu 0 (rs.take k))=_);show congrArg some (beq_self_eq_true _)
 show hV e ?_;rfl
end
end
section
section
variable{N:Nat}{sa:Addr}{ns:List Int}{F:Addr→List ag→ae→aG ag}{j:ae}{Q:ag→ae→Prop}{X:Nat→ae→Prop}
theorem Hu(mo:F=run a_ N sa ns 39){cd ex sc:a0}{f4:aq}{z an t:Nat}{rs:List aT}(bv:1000≤N){fd:ae}{dQ:Nat}(fb:∀Q,wp ⟨N,sa,ns,true,F⟩ (.hx cd ex sc) f4 j Q X=Q (.ref dQ) fd)(h:eL fd z an dQ rs)(ev:∀r∈rs,r.b8)(V:rs.length≤200)(im:t≤1)(AC:an≤fd.length)(q:∀(af:Nat)(H:ae),bc fd H→fd.length≤af→bl H af (bu t rs)→Q (.ref af) H):wp ⟨N,sa,ns,true,F⟩ (.call (.aC (.fn 646)) (.cons (.hx cd ex sc) (.cons (.aC (.int t)) .nil))) f4 j Q X:=yZ mo (xs:=[.int t]) fb (fun _=>rfl) rfl (BX (d:=38) bv h ev V im AC q)
noncomputable def X9(C:Addr)(w:Str)(Db:Nat):oi→c_ (List (List Int))
 |.ok a=>.di C w (a+Db)
 |.data a=>.di bE "data count section required" a
 |.er=>.g0
noncomputable def B8:bZ→bZ
 |.cons _ (.cons _ (.cons _ r))=>r
 |r=>r
theorem B_(mo:F=run a_ N sa ns 39)(bv:1000≤N){rc ol b c hr k:Nat}{aH after az:List Int}{rs:List aT}{cr:Bool}{s2:Int}{fI:Nat}{res:c_ (List (List Int))}{DJ:ag}(hf:fO j 0 rc ol b c aH after rs)(ev:∀r∈rs,r.b8)(pi:rs.length≤100)(GI:bl j hr az)(Qb:eg az)(gg:az.length<100000)(pa:aH.length≤az.length)(gK:dM s2=none)(mm:0≤s2∧s2<100000000000)(bi:fI≤900)(nI:(ei cr fI [0] []).exec aH.length ((az.take az.length).drop aH.length)=res)(sN:res≠.dI)(on:∀C w pc,res=.di C w pc→C=bE∨C=dy)(hd:∀v H,m6 H az.length v res→cC .NotEq v DJ H=some false){Ch jQ XV wP tz uk um uo uq ur uu uv:Option ag}:bX ⟨N,sa,ns,true,F⟩ (B8 (pA (mz (kk (i6 e7.body))))) (Ch::jQ::XV::some (.bool cr)::wP::tz::some (.ref rc)::some (.ref ol)::some (.int aH.length)::some (.ref b)::some (.ref c)::uk::um::some (.ref hr)::uo::uq::some (.int k)::some (.int s2)::ur::uu::uv::some DJ::List.replicate 18 none) j (fun _ _=>False) (fun v _ _=>v=.bool true) (fun _ _ _=>False):=by
 have P5:B8 (pA (mz (kk (i6 e7.body))))=.cons (.ite (.aQ .NotEq (.call (.aC (.fn 658)) (.cons (.aw 13) (.cons (.aw 8) (.cons (.call (.aC (.b0 .len)) (.cons (.aw 13) .nil)) (.cons (.aw 3) .nil))))) (.aw 21)) (.cons (.ret (.aC (.bool false))) .nil) .nil) (HC (pA (mz (kk (i6 e7.body))))):=rfl;rw[P5];show C9 ?_;show IV mo (fI:=fI) bv bi GI Qb gg pa (cm _) nI sN on (fun Q=>?_) fun v fd ST al=>?_;·show(?_:W (cY ⟨N,sa,ns,true,F⟩ .len [.ref hr] j) (fun x j=>Q [.ref hr,.int aH.length,x,.bool cr] j) _=_);rw[nQ GI gg];rfl
 show b3 (x:=some DJ) rfl ?_;show hV (hd v fd al) ?_;show Tn mo bv (hf.bA ST) ev pi gK mm
theorem CC{j:ae}{s w:Str}{a:Int}(a1:PyData.strOk s=true)(f0:PyData.strOk w=true):cC .NotEq (.av [.str s,.str w,.int a]) (.av [.str s,.str w,.int a]) j=some false:=rh (rJ a1 f0) (rJ a1 f0) (xW a1 f0).1 (xW a1 f0).2 (fun l aa=>by cases aa)
theorem JJ{A B:Prop}(h:A):bN (ck (.bool true)) A B:=h
theorem Dq{A B:Prop}(h:B):bN (ck (.bool false)) A B:=h
theorem L7(j:ae):cC .Eq (.str "a body") (.str "a body") j=some true:=(show h_ _ _ _=_ from(qB _ (bU _) (bU _)).trans (congrArg some (show((("a body":Str))==("a body":Str))=true by decide+kernel)))
theorem EO(j:ae):cC .Eq (.str "malformed") (.str "a body") j=some false:=(show h_ _ _ _=_ from(qB _ (bU _) (bU _)).trans (congrArg some (show((("malformed":Str))==("a body":Str))=false by decide+kernel)))
theorem Wv(C:Addr):PyData.strOk (kx C)=true:=by unfold kx;split<;>show bU _
noncomputable abbrev KA(Ch XV wP tz fJ fm Sc:Option ag)(rc ol b c s hU k Db:Nat)(aH:List Int)(cr:Bool)(s2:Int)(C:Addr)(w:Str):aq:=Ch::some (.ref 0)::XV::some (.bool cr)::wP::tz::some (.ref rc)::some (.ref ol)::some (.int aH.length)::some (.ref b)::some (.ref c)::some (.ref s)::fJ::some (.ref hU)::fm::Sc::some (.int k)::some (.int s2)::some (.str (kx C))::some (.str w)::some (.int Db)::List.replicate 19 none
theorem B9(mo:F=run a_ N sa ns 39)(bv:1000≤N){rc ol b c s hU k Db:Nat}{aH after o:List Int}{rs:List aT}{cr:Bool}{C:Addr}{w:Str}{s2:Int}(hf:fO j 0 rc ol b c aH after rs)(wE:1≤aH.length)(un:aH.length≤3)(ci:eg aH)(No:dH [0] rs [])(ev:∀r∈rs,r.b8)(pi:rs.length≤100)(ak:k<rs.length)(wb:bl j hU o)(Qa:eg o)(s_:o.length≤20)(on:C=bE∨C=dy)(f0:PyData.strOk w=true)(gK:dM s2=none)(mm:0≤s2∧s2<100000000000)(sP:∀cs,dH [0] (rs.take k) cs→dH cs (rs.drop k) []→∀(n:Nat)(body:List (List Int))(p:Int)(L:List Int),(ei cr (n+1) cs body).exec p (o++L)=.di C w (p+Db)){Ch XV wP tz fJ fm Sc:Option ag}:bX ⟨N,sa,ns,true,F⟩ (pA (mz (kk (i6 e7.body)))) (KA Ch XV wP tz fJ fm Sc rc ol b c s hU k Db aH cr s2 C w) j (fun _ _=>False) (fun v _ _=>v=.bool true) (fun _ _ _=>False):=by
 show aX fun _ done=>?_;have lg:∀r∈rs.take k,r.b8:=fun r ar=>ev r (List.take_subset _ _ ar);have Be:∀r∈rs.drop k,r.b8:=fun r ar=>ev r (List.drop_subset _ _ ar);show aW (No.split k) fun cs vT k6=>?_;have sP:=sP cs vT k6;have qU:=ra (t:=1) lg;have GD:=ra (t:=1) Be;have ic:(rs.take k).length=k:=List.length_take.trans (Nat.min_eq_left (Nat.le_of_lt ak));show dR hf.bP fun z an fX A' AC=>?_;show aW (Dd (k:=k) fX (by show jZ pi) AC) fun J0 Bs Bk=>?_;have AH:(rs.drop k).length≤100:=by rw[List.length_drop];show ai [[1,0,1,0,1],[1,0,1]] [_,_,_] [] [.le .y .S,.cG .x .y .aa] (.le .x .S) ah pi (cy _ _)
 show done ?_;generalize hn:B8 (pA (mz (kk (i6 e7.body))))=bh;show dP (hy (hy (hy (ew ?_))));show b3 (x:=some (ag.ref rc)) rfl ?_;show aX fun _ done=>?_;show done ?_;show Hu mo (t:=1) bv (fun Q=>?_) Bk lg (by show ai [[1,1,0,1,1]] [_,_,_] [] [.le .y .S,.lt .aa .y,.eq .x .aa] (.le .x .U) ah pi ak ic) (by show rW) (by simp;show rX AC) fun jF nn fc jv we=>?_;·show(?_:W (i' (.ref b) .none (.int k) j) _ _=_);rw[Bs];rfl
 have Hb:=(bc.push j [aI.list (J0.take k)]).trans fc;have Qe:=hf.bA Hb;show dh (j3 Qe.aH we (by unfold aP;show ai [[1,56,0,1,56,56,1]] [_,_,_,_,_] [] [.le .x .c,.le .aa .S,.lt .w .aa,.le .y (.m 56 .u),.eq .u .w] (.lt (.a .x .y) .L) ah un pi ak qU ic)) ?_;have fW:bl (nn++[aI.list ((aH++bu 1 (rs.take k)).map .int)]) nn.length (aH++bu 1 (rs.take k)):=bG nn _;have wC:=Hb.trans (bc.push nn [aI.list ((aH++bu 1 (rs.take k)).map .int)]);generalize nn++[aI.list ((aH++bu 1 (rs.take k)).map .int)]=us at fW wC⊢;show ew (b3 (x:=some (ag.ref hU)) rfl ?_);show dh (j3 fW (wb.bA wC) (by rw[cA];unfold aP;show ai [[1,56,0,1,1,56,56,1]] [_,_,_,_,_,_] [] [.le .x .c,.le .w .S,.lt .u .w,.le .aa .eh,.le .y (.m 56 .t),.eq .t .u] (.lt (.a (.a .x .y) .aa) .L) ah un pi ak s_ qU ic)) ?_;have lb:bl (us++[aI.list ((aH++bu 1 (rs.take k)++o).map .int)]) us.length (aH++bu 1 (rs.take k)++o):=bG us _;have th:=wC.trans (bc.push us [aI.list ((aH++bu 1 (rs.take k)++o).map .int)]);generalize us++[aI.list ((aH++bu 1 (rs.take k)++o).map .int)]=i9 at lb th⊢;show aX fun _ done=>?_;obtain⟨HL,Gz,Bm,_,v9⟩:=(hf.bA th).bP;show aW (Wr (k:=k) Bm (by show jZ pi) v9) fun Dz Bt Bl=>?_;show done ?_;show Hu mo (t:=1) bv (fun Q=>?_) Bl Be (by show jZ AH) (by show rW) (by simp;show rX v9) fun wZ xL i2 gj jw=>?_;·show(?_:W (i' (.ref b) (.int k) .none i9) _ _=_);rw[Bt];rfl
 have wD:=(bc.push i9 [aI.list (Dz.drop k)]).trans i2;have BF:=th.trans wD;have pb:(aH++bu 1 (rs.take k)++o).length≤7000:=by rw[cA,cA];show ai [[1,56,0,1,1,56,56,1]] [_,_,_,_,_,_] [] [.le .x .c,.le .w .S,.lt .u .w,.le .aa .eh,.le .y (.m 56 .t),.eq .t .u] (.le (.a (.a .x .y) .aa) (.n 7000)) ah un pi ak s_ qU ic
 show dh (j3 (lb.bA wD) jw (by unfold aP;show ai [[1,1,56,1]] [_,_,_] [] [.le .y (.m 56 .aa),.le .aa .S,.le .x (.n 7000)] (.lt (.a .x .y) .L) ah GD AH pb)) ?_;have q0:bl (xL++[aI.list ((aH++bu 1 (rs.take k)++o++bu 1 (rs.drop k)).map .int)]) xL.length (aH++bu 1 (rs.take k)++o++bu 1 (rs.drop k)):=bG xL _;have wF:=BF.trans (bc.push xL [aI.list ((aH++bu 1 (rs.take k)++o++bu 1 (rs.drop k)).map .int)]);generalize xL++[aI.list ((aH++bu 1 (rs.take k)++o++bu 1 (rs.drop k)).map .int)]=gr at q0 wF⊢;have gg:(aH++bu 1 (rs.take k)++o++bu 1 (rs.drop k)).length≤20000:=by rw[cA];show ai [[1,1,56,1]] [_,_,_] [] [.le .y (.m 56 .aa),.le .aa .S,.le .x (.n 7000)] (.le (.a .x .y) (.n 20000)) ah GD AH pb
 have qQ:aH.length≤(aH++bu 1 (rs.take k)++o++bu 1 (rs.drop k)).length:=by simp only[cA];show ai [[1]] [_,_,_,_] [] [] (.le .x (.a (.a (.a .x .y) .aa) .w)) ah
 have me:eg (aH++bu 1 (rs.take k)++o++bu 1 (rs.drop k)):=((ci.du (tw lg)).du Qa).du (tw Be);have vS:aH++bu 1 (rs.take k)++o++bu 1 (rs.drop k)=aH++(bu 1 (rs.take k)++(o++bu 1 (rs.drop k))):=by simp only[dX]
 generalize aH++bu 1 (rs.take k)++o++bu 1 (rs.drop k)=az at q0 gg qQ me vS⊢;generalize xL.length=hr at q0⊢;have iZ:=hf.bA wF;show aX fun _ done=>?_;obtain⟨HM,GA,Bn,_,v_⟩:=iZ.bP;show aW (Dd (k:=k) Bn (by show jZ pi) v_) fun uD Bu Bo=>?_;have wG:=bc.push gr [aI.list (uD.take k)];have wm:=q0.bA wG;show done ?_;show dP ?_;show yZ mo (xs:=[.int ((1:Nat):Int),.int aH.length,.int az.length,.bool cr]) (fd:=gr++[aI.list (uD.take k)]) (dQ:=gr.length) (fun Q=>?_) (fun Q=>?_) rfl (Fd (t:=1) (d:=38) (aE:=aH.length) (e:=az.length) (cr:=cr) bv Bo lg (by show ai [[1,1,0,1,1]] [_,_,_] [] [.le .y .S,.lt .aa .y,.eq .x .aa] (.le .x .U) ah pi ak ic) (by show rW) (by simp;show rX v_) fun v pR pk al=>?_);·show(?_:W (i' (.ref b) .none (.int k) gr) _ _=_);rw[Bu];rfl
 ·show(?_:W (cY ⟨N,sa,ns,true,F⟩ .len [.ref hr] (gr++[aI.list (uD.take k)])) (fun x j=>Q [.int ((1:Nat):Int),.int aH.length,x,.bool cr] j) _=_);rw[nQ wm (by show u2 gg)];rfl
 have key:=VK (pre:=rs.take k) (cr:=cr) (n:=1) (L:=bu 1 (rs.drop k)) vT lg vS fun body p=>sP 0 body p _;have oV:=iZ.bA (wG.trans pk);have pe:=wm.bA pk;generalize fv cr az.length aH.length ((rs.take k).map (aT.cb 1))=d at al key;cases d with
 |ok a=>obtain⟨af,rfl,dl⟩:=al;show cP (op:=.Eq) (x:=.str "a body") (y:=.str "a body") (r:=true) (L7 pR) ?_ (fun _=>rfl) (fun _=>rfl);show JJ ?_;show dP (rM (gv (ew ?_)));show b3 (x:=some (ag.str (kx C))) rfl ?_;show gv (ew ?_);show b3 (x:=some (ag.str w)) rfl ?_;show gv (hy (uA (ew ?_)));show b3 (x:=some (ag.av [.str "a body",.ref af,.int a])) rfl ?_;show el (b3 (x:=some (ag.int a)) rfl ?_);show b3 (x:=some (ag.int Db)) rfl ?_;show dh (add_int a Db pR) ?_;show ky (B_ mo bv (fI:=1+(rs.take k).length) oV ev pi pe me (by show u2 gg) qQ gK mm (by show yG pi ak ic) key (fun aa=>by cases aa) (fun m3 g6 pc aa=>by cases aa;show on) fun v H al=>?_);have KE:=(show v=_ from al);clear lb th HL Gz Bm left v9 Dz Bt Bl wZ xL i2 gj jw wD BF pb gr wF az gg qQ me vS hr q0 iZ done HM GA Bn left_1 v_ uD Bu Bo wG wm pR pk oV pe key af dl al;obtain rfl:=KE;show CC (Wv C) f0
 |data a=>cases(show v=_ from al);show cP (op:=.Eq) (x:=.str "malformed") (y:=.str "a body") (r:=false) (EO pR) ?_ (fun _=>rfl) (fun _=>rfl);show Dq ?_;show B_ mo bv (fI:=1+(rs.take k).length) oV ev pi pe me (by show u2 gg) qQ gK mm (by show yG pi ak ic) key (fun aa=>by cases aa) (fun m3 g6 pc aa=>by cases aa;show .inl rfl) fun v H al=>?_;have KE:=(show v=_ from al);clear fW wC lb th HL Gz Bm left v9 Dz Bt Bl wZ xL i2 gj jw wD BF pb gr wF gg qQ me vS hr q0 iZ done HM GA Bn left_1 v_ uD Bu Bo wG wm pk oV pe key al;obtain rfl:=KE;show CC (bU _) (bU _)
 |er=>obtain rfl:=(show v=_ from al);show cP (op:=.Eq) (x:=.str "malformed") (y:=.str "a body") (r:=false) (EO pR) ?_ (fun _=>rfl) (fun _=>rfl);show Dq ?_;show B_ mo bv (fI:=1+(rs.take k).length) oV ev pi pe me (by show u2 gg) qQ gK mm (by show yG pi ak ic) key (fun aa=>by cases aa) (fun m3 g6 pc aa=>by cases aa) fun v H al=>?_;obtain rfl:=(show v=_ from al);show CC (bU _) (bU _)
end
end
section
section
variable{N:Nat}{sa:Addr}{ns:List Int}{F:Addr→List ag→ae→aG ag}{j:ae}{Q:ag→ae→Prop}{X:Nat→ae→Prop}
theorem UH(af:Nat):nW af=kx (if 7≤af∧af≤15 then dy else bE):=by
 unfold nW kx;by_cases h:7≤af∧af≤15;·rw[aF h,aF h,aF rfl]
 ·rw[aM h,aM h,aM (by decide)]
theorem UJ(af:Nat):PyData.strOk (lC af)=true:=by unfold lC;split<;>show bU _
theorem Mg(af:Nat):oE af=kx (oD af):=by
 unfold oE kx oD;by_cases h:af=7∨af=8∨af=13;·rw[aF h,aF (by simpa using h),aF rfl]
 ·rw[aM h,aM (by simpa using h),aM (by decide)]
theorem L_(af:Nat):oD af=bE∨oD af=dy:=by
 unfold oD;split;·show .inr rfl
 ·show .inl rfl
theorem UI:∀r∈eW,r.2<256∨64512≤r.1:=by decide
theorem J2{cs:List Int}{rs:List aT}{k:Nat}(h:dH cs (rs.drop k) [])(ak:k<rs.length):∃r,rs[k]?=some r∧cs.getLast?=some r.bt∧cs≠[]:=by rw[List.drop_eq_getElem_cons ak]at h;show iv rs[k] (gx ak) h.1 ?_;rintro rfl;have:=h.1;cases this
theorem V3:∀r∈j5,r.1.length≤20∧∀o∈r.1,0≤o∧o<256:=by decide
theorem V5:∀r∈j5,PyData.strOk r.2.1=true:=by decide+kernel
noncomputable abbrev Kz(Ch pX wP tz fJ iG fm Sc:Option ag)(rc ol b c s:Nat)(aH:List Int)(cr:Bool):aq:=Ch::some (.ref 0)::pX::some (.bool cr)::wP::tz::some (.ref rc)::some (.ref ol)::some (.int aH.length)::some (.ref b)::some (.ref c)::some (.ref s)::fJ::iG::fm::Sc::List.replicate 24 none
theorem Tj(mo:F=run a_ N sa ns 39)(bv:1000≤N){rc ol b c s:Nat}{aH after:List Int}{rs:List aT}{cr:Bool}(hf:fO j 0 rc ol b c aH after rs)(wE:1≤aH.length)(un:aH.length≤3)(ci:eg aH)(No:dH [0] rs [])(ev:∀r∈rs,r.b8)(pi:rs.length≤100){Ch pX wP tz fJ iG fm Sc:Option ag}:bX ⟨N,sa,ns,true,F⟩ (mz (kk (i6 e7.body))) (Kz Ch pX wP tz fJ iG fm Sc rc ol b c s aH cr) j (fun _ _=>False) (fun v _ _=>v=.bool true) (fun _ _ _=>False):=by
 generalize hn:pA (mz (kk (i6 e7.body)))=bh;show aW hf.mQ fun l V WF=>?_;show dP (CD mo V (by show yC WF) (fun _=>rfl) fun af lr KK TI wc i1 gi q3=>?_);have fB:=hf.bF TI ⟨lr,wc,by show qc WF i1⟩;have cb:∀s',aO af KK s'→fO s' 0 rc ol b c aH after rs:=fun s' f=>hf.bF (TI.new f gi) ⟨lr,wc.bF f (by have:=V.lt;show ai [[0,1,1,1]] [_,_] [] [.le .y .x,.lt .o .y] (.aK (.eq .o .x)) ah gi this),by show qc WF i1⟩;show aX fun _ done=>?_;show dR fB.bP fun z an v1 ul AC=>?_;show aW v1 fun vs ho gk=>?_;have W1:=gk.len;have wz:1≤rs.length:=by
  cases rs with
  |nil=>cases No
  |cons r rs=>simp
 have nb:cY ⟨N,sa,ns,true,F⟩ .len [.ref b] KK=.ok (.int (rs.length:Nat)) KK:=by have e:c0 KK b=some vs:=d1 ho;show(Cj e (by unfold aP;show yE pi W1)).trans (congrArg (fun n:Nat=>aG.ok (ag.int n) KK) W1)
 show done ?_;show dP (mK mo (m:=(rs.length:Nat)) q3 (by show ai [[1,1],[1,0,1]] [_] [] [.le .x .S,.le .l .x] (.aA (.au .o (.c .x)) (.au (.c .x) .B)) ah pi wz) (fun Q=>?_) fun dC nn am I ty jC=>?_);·show(?_:W (cY ⟨N,sa,ns,true,F⟩ .len [.ref b] KK) _ _=_);rw[nb];rfl
 obtain⟨k,rfl⟩:=Int.eq_ofNat_of_zero_le am;have ak:k<rs.length:=by show ai [[1,1]] [_,_] [] [.au (.c .x) (.c .y)] (.lt .x .y) ah I
 show mP (UB mo jC (fun _=>rfl) fun tv s2 r us ar jA jB fV ph=>?_);show⟨rfl,?_⟩;show cN (v:=Ch::some (.ref 0)::some (.ref af)::some (.bool cr)::wP::tz::some (.ref rc)::some (.ref ol)::some (.int aH.length)::some (.ref b)::some (.ref c)::some (.ref s)::fJ::iG::fm::Sc::some (.int k)::some (.int s2)::some (.str (nW tv))::some (.str (lC tv))::List.replicate 20 none) rfl ?_;have RP:=UI r (eZ ar);have jD:=Ij r (eZ ar);show mP (rM (gv ?_));show MU mo (k:=s2) (x:=0) bv (by show ai [[1,0,0,1,1]] [] [_,_,_] [.ax .x .y,.aA (.ax .aa .y) (.aA (.ax .o .aa) (.au .y (.a .K .A)))] (.au .x (.a .K .A)) ah jB jD) (by show yB) (fun _=>rfl) fun q' i9 il Q0 mn=>?_;have gK:=(Ii ar jA jB 0 []).1;show⟨rfl,?_⟩;show cN (v:=Ch::some (.ref 0)::some (.ref af)::some (.bool cr)::wP::tz::some (.ref rc)::some (.ref ol)::some (.int aH.length)::some (.ref b)::some (.ref c)::some (.ref s)::fJ::some (.ref q')::fm::Sc::some (.int k)::some (.int s2)::some (.str (nW tv))::some (.str (lC tv))::some (.int (0:Nat))::List.replicate 19 none) rfl ?_;have q4:=ph.bA il;have o7:=(ty.trans fV).trans (il.bF af);show C9 (oa ?_);show mK mo (m:=2) q4 (by show rV) (fun _=>rfl) fun eG xL Rx Ry ig q5=>?_;show el (hV (e6 xL eG 0) ?_);have gI:=cb xL (o7.trans ig);cases Y:(eG==0)with
 |false=>
  show Dq ?_;rw[UH];show B9 mo bv (Db:=0) gI wE un ci No ev pi ak (mn.bF ig ?_) (y8 (by show ai [[1,0,0,1,0,0,0,1],[1,0,0,1,0,0,0,1],[1,0,0,0,0,1,1],[0,1,0,0,0,1,0,1]] [] [_,_,_] [.ax .y .x,.ax .x .aa,.or (.au .aa .F) (.ax .K .y),.aA (.ax .y .aa) (.aA (.ax .o .y) (.au .aa (.a .K .A)))] (.or (.aA (.ax .o .x) (.au .x .F)) (.ax .K .x)) ah jA jB RP jD) 0) (c6 (y7 s2 0) (by decide)) ?_ (UJ tv) gK (by show yH jA jB jD) fun cs _ k6 n body p L=>UE ?_ ar jA jB;·have:=ph.lt;show qg Q0 this
  ·split;·show .inr rfl
   ·show .inl rfl
  ·show eA (J2 k6 ak) fun r _ _ h=>?_;show h
 |true=>
  show JJ ?_;show aX fun _ done=>?_;show dR gI.bP fun TO QW v1 _ _=>?_;show aW v1 fun J1 Ha G3=>?_;have BD:=G3.len;obtain⟨v,al⟩:∃v,J1[k]?=some v:=⟨_,gx (by show ai [[1,0,1,1]] [_,_,_] [] [.au (.c .x) (.c .aa),.eq .y .aa] (.lt .x .y) ah I BD)⟩;show aW (G3.get al) fun C8 RH vW=>?_;show dR vW fun S6 iq cl _ _=>?_;subst cl;have WP:dj xL (.ref b) (.int k)=some (.av [bj C8.g5,.int C8.bt,.ref S6,.ref iq]):=by have e:c0 xL b=some J1:=d1 Ha;rw[rH Ha];show(rG (by unfold aP;show yE pi BD) (by show lW) (by show ai [[1,0,1,1]] [_,_,_] [] [.au (.c .x) (.c .aa),.eq .y .aa] (.au (.c .x) (.c .y)) ah I BD)).trans ?_;show al
  show done ?_;show mP (L' (d:=37) rfl mo (bt:=C8.bt) (cr:=cr) q5 (fun Q=>?_) fun i BY o w Db gr wy lc v7 tc ul YD=>?_);·show(?_:bg (dj xL (.ref b) (.int k)) (fun v=>bg (dj xL v (.int 1)) fun x=>Q [.ref af,x,.bool cr] xL)=_);rw[WP];rfl
  obtain⟨s_,GY⟩:=V3 _ (eZ wy);have R3:=V5 _ (eZ wy);have iZ:=cb gr ((o7.trans ig).trans v7);have BG:∀cs,dH cs (rs.drop k) []→cs≠[]∧(BY=0→cs.getLast?≠some 4):=fun cs k6=>by show aX fun _ done=>?_;show eA (J2 k6 ak) fun r fa I O=>?_;cases fa.symm.trans RH;show done ?_;show⟨O,fun aa w=>lc aa ?_⟩;rw[I]at w;injection w
  constructor;·rintro⟨rfl,rfl⟩;show aX fun _ done=>?_;cases wy;show done ?_;show⟨rfl,?_⟩;show cN (v:=Ch::some (.ref 0)::some (.ref af)::some (.bool false)::wP::tz::some (.ref rc)::some (.ref ol)::some (.int aH.length)::some (.ref b)::some (.ref c)::some (.ref s)::fJ::some (.ref i)::fm::Sc::some (.int k)::some (.int s2)::some (.str (kx bE))::some (.str "data count section required")::some (.int (0:Nat))::List.replicate 19 none) rfl ?_;show B9 mo bv (Db:=0) iZ wE un ci No ev pi ak ul GY s_ (.inl rfl) (bU _) gK (by show yH jA jB jD) fun cs _ k6 n body p L=>Mc n cs body p [0,1] L (BG cs k6).1
  ·intro nl;show⟨rfl,?_⟩;show cN (v:=Ch::some (.ref 0)::some (.ref af)::some (.bool cr)::wP::tz::some (.ref rc)::some (.ref ol)::some (.int aH.length)::some (.ref b)::some (.ref c)::some (.ref s)::fJ::some (.ref i)::fm::Sc::some (.int k)::some (.int s2)::some (.str (oE BY))::some (.str w)::some (.int Db)::List.replicate 19 none) rfl ?_;show ek ?_;rw[Mg];show B9 mo bv iZ wE un ci No ev pi ak ul GY s_ (L_ BY) R3 gK (by show yH jA jB jD) fun cs _ k6 n body p L=>Mf (BG cs k6).1 wy (BG cs k6).2 fun aa=>?_;cases cr with
   |true=>rfl
   |false=>show absurd ⟨aa,rfl⟩ nl
end
end
section
theorem To{N:Nat}{sa:Addr}{ns:List Int}{F:Addr→List ag→ae→aG ag}(mo:F=run a_ N sa ns 39)(bv:1000≤N)(fD:ns.length≤63):bX ⟨N,sa,ns,true,F⟩ e7.body (some (.fn sa)::List.replicate 39 none) [] (fun _ _=>False) (fun v _ _=>v=.bool true) (fun _ _ _=>False):=Tg mo bv fD _ fun _ _ _ _ _ _ _ _ _ _ _ _ hf I O bn ci s9 No ev pi=>Th mo bv (HK:=List.replicate 6 none) (tl:=[]) rfl hf I O ci ev pi fun _ _ hf=>Ti mo bv hf I O bn ci s9 No ev pi fun _ _ _ _ _ _ hf=>Tj mo bv hf I O ci No ev pi
theorem Tq{N:Nat}{sa:Addr}{ns:List Int}{F:Addr→List ag→ae→aG ag}(mo:F=run a_ N sa ns 39)(bv:1000≤N)(fD:ns.length≤63):W (dB ⟨N,sa,ns,true,F⟩ e7.body (some (.fn sa)::List.replicate 39 none) []).dU (fun v _=>v=.bool true) fun _ _=>False:=W.dU ((m1 _ (To mo bv fD)).bb (fun _ _ f=>f.elim) (fun _ _ _ h=>h) fun _ _ _ f=>f)
theorem V8{N:Nat}{sa:Addr}{ns:List Int}{D:Nat}:run a_ N sa ns (D+1) 677 [.fn sa] []=(dB (b9 N sa ns D) e7.body (some (.fn sa)::List.replicate 39 none) []).dU:=by have im:a_ 677=some e7:=rfl;have Y:u' e7 [.fn sa]=some (some (.fn sa)::List.replicate 39 none):=rfl;show(gY im).trans (gY Y)
theorem KZ{r:aG ag}(h:W r (fun v _=>v=.bool true) fun _ _=>False):∃H,r=.ok (.bool true) H:=by
 cases r with
 |ok v j=>show⟨j,by rw[show v=_ from h]⟩
 |a6 k j=>show h.elim
 |aS=>show h.elim
theorem Vo(ns:List Int)(sa:Addr)(h:ns.length≤63):∃H,run a_ 100000 sa ns 40 677 [.fn sa] []=.ok (.bool true) H:=by have:=Tq (N:=100000) (sa:=sa) (ns:=ns) rfl (by decide) h;rw[←V8]at this;show KZ this
end
end Pp
open _root_.PySem _root_.PySem.W _root_.PySem.Calls PyProof.Rows
section
def bp(h:Heap)(a:Addr)(c:Value)(d:Option Addr)(g1:Data):Prop:=∃co,h.get? a=some ⟨c,d,g1,co⟩
theorem bp.lt{h:Heap}{a:Addr}{c d g1}(x:bp h a c d g1):a<h.objs.size:=let⟨_,e⟩:=x;Heap.lt_size e
theorem bp.cc{h:Heap}{a:Addr}{c d g1}(x:bp h a c d g1):h.get? a≠none:=let⟨_,e⟩:=x;by rw[e];show fun q=>ns q
theorem fH(h:Heap):h.get? h.objs.size=none:=by
 cases e:h.get? h.objs.size with
 |none=>rfl
 |some o=>show absurd (Heap.lt_size e) (Nat.lt_irrefl _)
theorem bp.of{h:Heap}{a:Addr}{o:Obj}(e:h.get? a=some o):bp h a o.cls o.dict o.data:=⟨o.slots,e⟩
theorem bp.pV{h:Heap}{a:Addr}{c d g1 h0 nj oL}(x:bp h a c d g1)(y:bp h a h0 nj oL):c=h0∧d=nj∧g1=oL:=by show b6 x fun s e=>?_;obtain⟨s',st⟩:=y;rw[e]at st;cases st;show⟨rfl,rfl,rfl⟩
theorem bp.push{h:Heap}{a:Addr}{c d g1}(x:bp h a c d g1)(o:Obj):bp (h.push o) a c d g1:=let⟨s,e⟩:=x;⟨s,Heap.get?_push_of_some o e⟩
theorem bp.new(h:Heap)(c:Value)(d:Option Addr)(g1:Data)(co:Array (Option Value))(ch:(⟨c,d,g1,co⟩:Obj).isFreed=false):bp (h.push ⟨c,d,g1,co⟩) h.objs.size c d g1:=⟨co,Heap.get?_push_size h ch⟩
theorem bp.sameBut{h h':Heap}{a b:Addr}{c d g1}(x:bp h a c d g1)(a1:Heap.SameBut b h h')(n:a≠b):bp h' a c d g1:=let⟨s,e⟩:=x;⟨s,(a1.2 a n).trans e⟩
theorem bp.keeps{h h':Heap}{a:Addr}{c d g1}(x:bp h a c d g1)(ak:∀b o,h.get? b=some o→h'.get? b=some o):bp h' a c d g1:=let⟨s,e⟩:=x;⟨s,ak a _ e⟩
abbrev aN:=List (Addr×Addr)
def cg(ρ:aN)(b:Addr):Prop:=∃p∈ρ,b=p.1∨b=p.2
theorem U6{ρ bm:aN}{b:Addr}:cg (ρ++bm) b↔cg ρ b∨cg bm b:=by
 unfold cg;constructor
 ·rintro⟨p,be,h⟩;rcases List.mem_append.mp be with be|be
  ·show .inl ⟨p,be,h⟩
  ·show .inr ⟨p,be,h⟩
 ·rintro(⟨p,be,h⟩|⟨p,be,h⟩);·show⟨p,List.mem_append_left _ be,h⟩
  ·show⟨p,List.mem_append_right _ be,h⟩
theorem U9{p:Addr×Addr}{b:Addr}:cg [p] b↔b=p.1∨b=p.2:=by simp[cg]
theorem nZ{ρ:aN}{k:Nat}{p:Addr×Addr}(h:ρ[k]?=some p):cg ρ p.1∧cg ρ p.2:=⟨⟨p,eZ h,.inl rfl⟩,⟨p,eZ h,.inr rfl⟩⟩
theorem cg.bb{ρ bm:aN}(be:ρ<+:bm){b:Addr}(h:cg ρ b):cg bm b:=let⟨p,ac,e⟩:=h;⟨p,be.subset ac,e⟩
def hc(b:Array UInt8)(l:List Int):Prop:=b.toList.map (fun u=>(u.toNat:Int))=l
mutual
def aR(ρ:aN)(h:Heap):ag→Value→Prop
 |.none,v=>v=.none
 |.bool b,v=>v=.bool b
 |.int i,v=>∃t,v=.int i t
 |.str s,v=>∃t,v=.str s t
 |.bytes l,v=>∃b t,v=.bytes b t∧hc b l
 |.av l,v=>∃a vs n,v=.ref a∧bp h a (.type "tuple") none (.seq vs n)∧ba ρ h l vs.toList
 |.ref k,v=>∃p,ρ[k]?=some p∧v=.ref p.1
 |.fn a,v=>v=.ref a
 |.b0 b,v=>v=b.val
def ba(ρ:aN)(h:Heap):List ag→List Value→Prop
 |[],vs=>vs=[]
 |x::r,vs=>∃v GM,vs=v::GM∧aR ρ h x v∧ba ρ h r GM
end
def d3(ρ:aN)(h:Heap):c9→List DictEntry→Prop
 |[],bd=>bd=[]
 |(f,v)::r,bd=>∃e SZ,bd=e::SZ∧(∃t,e.key=.str f.str t)∧aR ρ h v e.val∧d3 ρ h r SZ
def kI(ρ:aN)(h:Heap)(wS:Addr)(dL:c9):Prop:=∃bd n,bp h wS (.type "dict") none (.dict bd n)∧d3 ρ h dL bd.toList
def fs(ρ:aN)(h:Heap)(p:Addr×Addr):aI→Prop
 |.list l=>∃vs n,bp h p.1 (.type "list") none (.seq vs n)∧ba ρ h l vs.toList∧p.2=p.1
 |.bS l=>∃b,bp h p.1 (.type "bytearray") none (.bytearray b 0)∧hc b l∧p.2=p.1
 |.b_ C dL=>bp h p.1 (.ref C) (some p.2) .plain∧kI ρ h p.2 dL
 |.a6 C dL=>(∃vs,bp h p.1 (.ref C) (some p.2) (.fields vs)∧(5<vs.size∧vs[1]?=some .none)∧kI ρ h p.2 dL)∨(dL=[]∧p.2=p.1∧∃vs,bp h p.1 (.ref C) none (.fields vs)∧5<vs.size∧vs[1]?=some .none)
 |.cX C dL=>(∃vs,bp h p.1 (.ref C) (some p.2) (.fields vs)∧5<vs.size∧kI ρ h p.2 dL)∨(dL=[]∧p.2=p.1∧∃vs,bp h p.1 (.ref C) none (.fields vs)∧5<vs.size)
def x_(ρ:aN):Prop:=ρ.Pairwise fun p q=>p.1≠q.1∧p.1≠q.2∧p.2≠q.1∧p.2≠q.2
def b4(_:Addr):Prop:=False
structure aL(X:Addr→Prop)(ρ:aN)(h:Heap)(bm:aN)(h':Heap):Prop where
 pre:∀(k:Nat)(p:Addr×Addr),ρ[k]?=some p→∃jp,bm[k]?=some jp∧jp.1=p.1
 cc:∀b,¬X b→h.get? b≠none→h'.get? b≠none
 cls:∀b o,¬X b→h.get? b=some o→∃o',h'.get? b=some o'∧o'.cls=o.cls
 new:∀b,cg bm b→cg ρ b∨(h.get? b=none∧¬X b)
 keep:∀b c d g1,bp h b c d g1→(∀vs,g1≠.fields vs)→¬cg ρ b→¬X b→bp h' b c d g1
 f3:∀b o,h.get? b=some o→o.cls≠.type "traceback"→(∀bd n,o.data≠.dict bd n)→¬cg ρ b→¬X b→h'.get? b=some o
 av:∀b vs n,bp h b (.type "tuple") none (.seq vs n)→bp h' b (.type "tuple") none (.seq vs n)
theorem aL.refl(X:Addr→Prop)(ρ:aN)(h:Heap):aL X ρ h ρ h:=⟨fun _ p h=>⟨p,h,rfl⟩,fun _ _ x=>x,fun _ o _ e=>⟨o,e,rfl⟩,fun _ x=>.inl x,fun _ _ _ _ x _ _ _=>x,fun _ _ x _ _ _ _=>x,fun _ _ _ x=>x⟩
theorem aL.trans{X:Addr→Prop}{fr nw jc:aN}{s4 XL wJ:Heap}(x:aL X fr s4 nw XL)(y:aL X nw XL jc wJ):aL X fr s4 jc wJ where
 pre k p h:=by show aW (x.pre k p h) fun jp h' e=>?_;show aW (y.pre k jp h') fun tV fz st=>?_;show b' tV fz (st.trans e)
 cc b po Y:=y.cc b po (x.cc b po Y)
 cls b o po e:=by show aW (x.cls b o po e) fun o' st c=>?_;show aW (y.cls b o' po st) fun tO sz h0=>?_;show b' tO sz (h0.trans c)
 new b Y:=(y.new b Y).elim (x.new b) fun q=>.inr ⟨by cases e:s4.get? b with
  |none=>rfl
  |some o=>show absurd q.1 (x.cc b q.2 (by rw[e];show fun aa=>ns aa)),q.2⟩
 keep b c d g1 a hd ci po:=y.keep b c d g1 (x.keep b c d g1 a hd ci po) hd (fun q=>(x.new b q).elim ci fun aa=>absurd aa.1 a.cc) po
 f3 b o e I O ci po:=y.f3 b o (x.f3 b o e I O ci po) I O (fun q=>(x.new b q).elim ci fun aa=>by have aa:=aa.1;rw[e]at aa;cases aa) po
 av b vs n a:=y.av b vs n (x.av b vs n a)
theorem aL.x1{X gd:Addr→Prop}{fr nw:aN}{s4 XL:Heap}(x:aL X fr s4 nw XL)(vU:∀b,s4.get? b≠none→X b→gd b)(oW:∀b,gd b→s4.get? b≠none):aL gd fr s4 nw XL where
 pre:=x.pre
 cc b bi Y:=x.cc b (fun aa=>bi (vU b Y aa)) Y
 cls b o bi e:=x.cls b o (fun aa=>bi (vU b (by rw[e];show fun aa=>ns aa) aa)) e
 new b q:=(x.new b q).elim .inl fun aa=>.inr ⟨aa.1,fun y=>oW b y aa.1⟩
 keep b c d g1 a hd ci bi:=x.keep b c d g1 a hd ci fun aa=>bi (vU b a.cc aa)
 f3 b o e I O ci bi:=x.f3 b o e I O ci fun aa=>bi (vU b (by rw[e];show fun aa=>ns aa) aa)
 av:=x.av
theorem aL.aK{X:Addr→Prop}{fr nw:aN}{s4 XL:Heap}(x:aL b4 fr s4 nw XL)(po:∀b,X b→s4.get? b≠none):aL X fr s4 nw XL:=x.x1 (fun _ _ f=>f.elim) po
theorem aL.dv(ρ:aN){h h':Heap}(k:∀b o,h.get? b=some o→h'.get? b=some o):aL b4 ρ h ρ h' where
 pre _ p h:=⟨p,h,rfl⟩
 cc b _ Y:=by
  cases e:h.get? b with
  |none=>show absurd e Y
  |some o=>rw[k b o e];show fun aa=>ns aa
 cls b o _ e:=⟨o,k b o e,rfl⟩
 new _ x:=.inl x
 keep _ _ _ _ x _ _ _:=x.keeps k
 f3 b o e _ _ _ _:=k b o e
 av _ _ _ x:=x.keeps k
mutual
theorem aR.bb{X:Addr→Prop}{ρ bm:aN}{h h':Heap}(x:aL X ρ h bm h'):∀{a:ag}{v:Value},aR ρ h a v→aR bm h' a v
 |.none,_,r=>r
 |.bool _,_,r=>r
 |.int _,_,r=>r
 |.str _,_,r=>r
 |.bytes _,_,r=>r
 |.av l,_,r=>by show d5 r fun a vs n cl io ar=>?_;subst cl;show nU a vs n rfl (x.av _ _ _ io) (ba.bb x ar)
 |.ref _,_,r=>by show aW r fun p be cl=>?_;subst cl;show aW (x.pre _ _ be) fun jp IN e=>?_;show b' jp IN (by rw[e])
 |.fn _,_,r=>r
 |.b0 _,_,r=>r
theorem ba.bb{X:Addr→Prop}{ρ bm:aN}{h h':Heap}(x:aL X ρ h bm h'):∀{l:List ag}{vs:List Value},ba ρ h l vs→ba bm h' l vs
 |[],_,r=>r
 |a::l,_,r=>by show dR r fun v GM cl al ar=>?_;subst cl;show nS v GM rfl (aR.bb x al) (ba.bb x ar)
end
theorem ba.nil{ρ:aN}{h:Heap}:ba ρ h [] []:=rfl
theorem ba.cons{ρ:aN}{h:Heap}{a:ag}{l:List ag}{v:Value}{vs:List Value}(x:aR ρ h a v)(y:ba ρ h l vs):ba ρ h (a::l) (v::vs):=⟨v,vs,rfl,x,y⟩
theorem ba.length{ρ:aN}{h:Heap}:∀{l:List ag}{vs:List Value},ba ρ h l vs→vs.length=l.length:=by
 intro ca;induction ca with
 |nil=>intro _ r;cases r;rfl
 |cons t1 x6 ap=>intro _ r;obtain⟨v,GM,rfl,_,ar⟩:=r;simp[ap ar]
theorem ba.get{ρ:aN}{h:Heap}:∀{l:List ag}{vs:List Value}{i:Nat}{a:ag},ba ρ h l vs→l[i]?=some a→∃v,vs[i]?=some v∧aR ρ h a v:=by
 intro ca;induction ca with
 |nil=>intro sK Ev Da FM e;simp at e
 |cons T0 iI ap=>
  intro j6 kT lZ r e;cases kT with
  |zero=>show dR r fun v GM cl al ar=>?_;subst cl;simp at e;subst e;show b' v rfl al
  |succ i=>obtain⟨v,GM,rfl,al,ar⟩:=r;simp at e;obtain⟨u,I,O⟩:=ap ar e;show⟨u,by simpa using I,O⟩
theorem ba.b2{ρ:aN}{h:Heap}:∀{l s0:List ag}{vs GM:List Value},ba ρ h l vs→ba ρ h s0 GM→ba ρ h (l++s0) (vs++GM):=by
 intro ca;induction ca with
 |nil=>intro _ _ _ r gp;cases r;show gp
 |cons t1 x6 ap=>intro _ _ _ r gp;obtain⟨v,to,rfl,al,ar⟩:=r;show ba.cons al (ap ar gp)
theorem ba.set{ρ:aN}{h:Heap}:∀{l:List ag}{vs:List Value}{i:Nat}{a:ag}{v:Value},ba ρ h l vs→aR ρ h a v→ba ρ h (l.set i a) (vs.set i v):=by
 intro ca;induction ca with
 |nil=>intro sK Ev Da FM r hg;cases r;show ba.nil
 |cons iI h2 ap=>
  intro kT lZ m_ lY r x;cases lZ with
  |zero=>show dR r fun v to cl al ar=>?_;subst cl;show ba.cons x ar
  |succ i=>obtain⟨v,to,rfl,al,ar⟩:=r;show ba.cons al (ap ar x)
theorem ba.take{ρ:aN}{h:Heap}:∀(n:Nat){l:List ag}{vs:List Value},ba ρ h l vs→ba ρ h (l.take n) (vs.take n):=by
 intro ca;induction ca with
 |zero=>intro sK Ev Da;rfl
 |succ n ap=>
  intro FM hg r;cases FM with
  |nil=>cases r;show ba.nil
  |cons iI h2=>obtain⟨v,to,rfl,al,ar⟩:=r;show ba.cons al (ap ar)
theorem ba.drop{ρ:aN}{h:Heap}:∀(n:Nat){l:List ag}{vs:List Value},ba ρ h l vs→ba ρ h (l.drop n) (vs.drop n):=by
 intro ca;induction ca with
 |zero=>intro sK Ev r;show r
 |succ n ap=>
  intro Da FM r;cases Da with
  |nil=>cases r;show ba.nil
  |cons T0 iI=>obtain⟨v,to,rfl,al,ar⟩:=r;show ap ar
theorem d3.bb{X:Addr→Prop}{ρ bm:aN}{h h':Heap}(x:aL X ρ h bm h'):∀{dL:c9}{bd:List DictEntry},d3 ρ h dL bd→d3 bm h' dL bd:=by
 intro ca;induction ca with
 |nil=>intro _ r;show r
 |cons t1 x6 ap=>intro _ r;show iV r fun e SZ cl ak al ar=>?_;subst cl;show⟨e,SZ,rfl,ak,al.bb x,ap ar⟩
end
section
structure br where
 prog:Program
 uC:Program
 w:World
 K:Frag
 a9:Heap
 os:OsState
 sa:Addr
 ns:List Int
 dO:Str→Option Value
 fF:Str→Option Value
 loose:List Str
structure br.b8(G:br):Prop where
 fq:G.K.In G.a9
 T:TopRead G.uC G.loose G.dO G.fF G.a9
 mQ:∃vs:List Value,G.a9.IsList G.sa vs.toArray∧IntsAre vs G.ns
 N1:G.ns.length<aP
structure DT(J:List Env)(env:Env):Prop where
 kind:env.scope.kind=.function
 js:env.globals=mainGlobals
 blt:env.builtins=builtinsNs
 nV:(env.scope.names.map (·.1)).Nodup
 stack:∃v0 v6,J=v0::v6∧v0.frame=env.frame∧env.frame.isSome=true
 apart:env.cells.Pairwise fun x y=>x.2≠y.2
def u3(aaa:List (Str×NameKind))(L:Addr)(ρ:aN)(h:Heap)(z:aq):Prop:=∃m,h.Ns L m∧∀(i:Nat)(x:Str)(v:ag),aaa[i]?=some (x,NameKind.local)→z[i]?=some (some v)→∃u,m x=some u∧aR ρ h v u
def uM(G:br)(aaa:List (Str×NameKind))(cells:List (Str×Addr))(ρ:aN)(h:Heap)(z:aq):Prop:=∀(i:Nat)(x:Str)(k:NameKind),aaa[i]?=some (x,k)→(k=.cell∨k=.free)→∃c EQ,cells.lookup x=some c∧h.IsCell c EQ∧G.a9.get? c=none∧∀v,z[i]?=some (some v)→∃u,EQ=some u∧aR ρ h v u
def p9(G:br)(ρ:aN)(h:Heap)(e:Env):Prop:=e.scope.kind≠.module∧∃L c d bd n,e.frame=some L∧G.a9.get? L=none∧¬cg ρ L∧bp h L c d (.dict bd n)
structure HR(G:br)(J:List Env)(ρ:aN)(j:ae)(s:Shared):Prop where
 a9:G.a9.StaysIn s.heap
 gens:s.gens=#[]
 os:s.os=G.os
 len:ρ.length=j.length
 objs:∀(k:Nat)(o:aI)(p:Addr×Addr),j[k]?=some o→ρ[k]?=some p→fs ρ s.heap p o
 hj:x_ ρ
 jr:∀b,cg ρ b→G.a9.get? b=none
 frames:∀e∈J,p9 G ρ s.heap e
structure FR(G:br)(env:Env)(ρ:aN)(z:aq)(h:Heap):Prop where
 aw:u3 env.scope.names env.locals ρ h z
 iU:uM G env.scope.names env.cells ρ h z
 lV:G.a9.get? env.locals=none
 eT:¬cg ρ env.locals
 jm:∀x c,(x,c)∈env.cells→(∃EQ,h.IsCell c EQ)∧G.a9.get? c=none
structure a4(G:br)(J:List Env)(env:Env)(ρ:aN)(j:ae)(z:aq)(s:Shared):Prop extends HR G J ρ j s,FR G env ρ z s.heap
theorem HR.dW{G:br}{J:List Env}{ρ:aN}{j:ae}{s:Shared}(S:HR G J ρ j s)(t:Nat):HR G J ρ j {s with toks:=t}:=⟨S.a9,S.gens,S.os,S.len,S.objs,S.hj,S.jr,S.frames⟩
theorem a4.dW{G:br}{J:List Env}{env:Env}{ρ:aN}{j:ae}{z:aq}{s:Shared}(S:a4 G J env ρ j z s)(t:Nat):a4 G J env ρ j z {s with toks:=t}:=⟨S.toHR.dW t,S.toFR⟩
theorem xj{h h':Heap}{L:Addr}{m:Str→Option Value}(n:h.Ns L m)(k:∀c d g1,bp h L c d g1→(∀vs,g1≠.fields vs)→bp h' L c d g1):h'.Ns L m:=by show d5 n fun o bd ww ci hd r=>?_;show b6 (k _ _ _ (bp.of ci) (by rw[hd];intro vs q;cases q)) fun co e=>?_;show⟨_,bd,ww,e,hd,r⟩
theorem rj{h:Heap}{L:Addr}{m:Str→Option Value}(n:h.Ns L m):∃c d bd ww,bp h L c d (.dict bd ww):=by show d5 n fun o bd ww ci hd r=>?_;show⟨o.cls,o.dict,bd,ww,by rw[←hd];show bp.of ci⟩
theorem iw{h:Heap}{L:Addr}{m:Str→Option Value}(n:h.Ns L m){re:Prop}(gl:∀c d bd ww,bp h L c d (.dict bd ww)→re):re:=Ny (rj n) gl
theorem sh{h:Heap}{c:Addr}{v:Option Value}(x:h.IsCell c v):∃k d,bp h c k d (.cell v):=by show aW x fun o ci hd=>?_;show⟨o.cls,o.dict,by rw[←hd];show bp.of ci⟩
theorem qs{h:Heap}{c:Addr}{v:Option Value}(x:h.IsCell c v){re:Prop}(gl:∀k d,bp h c k d (.cell v)→re):re:=zv (sh x) gl
theorem EU{h:Heap}{c:Addr}{v:Option Value}{k d}(x:bp h c k d (.cell v)):h.IsCell c v:=let⟨_,e⟩:=x;⟨_,e,rfl⟩
theorem VQ{ρ:aN}{h:Heap}{p:Addr×Addr}{o:aI}(r:fs ρ h p o):∃c d g1,bp h p.1 c d g1∧(∀v,g1≠.cell v)∧(∀bd n,g1≠.dict bd n)∧c≠.type "tuple":=by
 cases o with
 |list l=>obtain⟨vs,n,a,_,_⟩:=r;show Cv _ _ _ a ((by intro v q;cases q)) ((by intro bd n q;cases q)) (by decide)
 |bS l=>obtain⟨b,a,_,_⟩:=r;show Cv _ _ _ a ((by intro v q;cases q)) ((by intro bd n q;cases q)) (by decide)
 |b_ C dL=>obtain⟨a,_⟩:=r;show Cv _ _ _ a ((by intro v q;cases q)) ((by intro bd n q;cases q)) ((by intro q;cases q))
 |a6 C dL=>
  rcases r with⟨vs,a,_⟩|⟨_,_,vs,a,_⟩
  ·show⟨_,_,_,a,(by intro v q;cases q),(by intro bd n q;cases q),(by intro q;cases q)⟩
  ·show⟨_,_,_,a,(by intro v q;cases q),(by intro bd n q;cases q),(by intro q;cases q)⟩
 |cX C dL=>
  rcases r with⟨vs,a,_⟩|⟨_,_,vs,a,_⟩
  ·show⟨_,_,_,a,(by intro v q;cases q),(by intro bd n q;cases q),(by intro q;cases q)⟩
  ·show⟨_,_,_,a,(by intro v q;cases q),(by intro bd n q;cases q),(by intro q;cases q)⟩
theorem VR{ρ:aN}{h:Heap}{p:Addr×Addr}{o:aI}(r:fs ρ h p o):∃c d g1,bp h p.2 c d g1∧(∀v,g1≠.cell v)∧c≠.type "tuple":=by
 cases o with
 |list l=>obtain⟨vs,n,a,_,e⟩:=r;rw[e];show nU _ _ _ a ((by intro v q;cases q)) (by decide)
 |bS l=>obtain⟨b,a,_,e⟩:=r;rw[e];show nU _ _ _ a ((by intro v q;cases q)) (by decide)
 |b_ C dL=>obtain⟨_,bd,n,a,_⟩:=r;show nU _ _ _ a ((by intro v q;cases q)) (by decide)
 |a6 C dL=>
  rcases r with⟨_,_,_,bd,n,a,_⟩|⟨_,e,vs,a,_⟩
  ·show⟨_,_,_,a,(by intro v q;cases q),by decide⟩
  ·rw[e];show⟨_,_,_,a,(by intro v q;cases q),(by intro q;cases q)⟩
 |cX C dL=>
  rcases r with⟨_,_,_,bd,n,a,_⟩|⟨_,e,vs,a,_⟩
  ·show⟨_,_,_,a,(by intro v q;cases q),by decide⟩
  ·rw[e];show⟨_,_,_,a,(by intro v q;cases q),(by intro q;cases q)⟩
section
variable{G:br}{J:List Env}{env:Env}{ρ:aN}{j:ae}{z:aq}{s:Shared}
theorem HR.CO(S:HR G J ρ j s){b:Addr}(Y:cg ρ b):∃c d g1,bp s.heap b c d g1∧(∀v,g1≠.cell v)∧c≠.type "tuple":=by
 show aW Y fun p be e=>?_;obtain⟨k,ak⟩:=List.mem_iff_getElem?.mp be;have m0:k<j.length:=by rw[←S.len];show(c7.mp ak).1
 have ci:j[k]?=some j[k]:=gx m0;rcases e with rfl|rfl
 ·show Fl (VQ (S.objs k _ p ci ak)) fun c d g1 a I O bn=>?_;show nU c d g1 a I bn
 ·show d5 (VR (S.objs k _ p ci ak)) fun c d g1 a I O=>?_;show⟨c,d,g1,a,I,O⟩
theorem HR.mI(S:HR G J ρ j s){b:Addr}(Y:cg ρ b):s.heap.get? b≠none:=let⟨_,_,_,a,_⟩:=S.CO Y;a.cc
theorem HR.tM(S:HR G J ρ j s){b:Addr}{vs n}(a:bp s.heap b (.type "tuple") none (.seq vs n)):¬cg ρ b:=fun q=>by show d5 (S.CO q) fun c d g1 pc _ h=>?_;show h (pc.pV a).1
theorem HR.CG(S:HR G J ρ j s){c:Addr}{v}(x:s.heap.IsCell c v):¬cg ρ c:=fun q=>by show d5 (S.CO q) fun _ _ _ pc h _=>?_;show qs x fun _ _ a=>?_;show h v (pc.pV a).2.2
theorem u3.ext{aaa:List (Str×NameKind)}{L:Addr}{bm:aN}{h h':Heap}(r:u3 aaa L ρ h z){X:Addr→Prop}(x:aL X ρ h bm h')(ci:¬cg ρ L)(po:¬X L):u3 aaa L bm h' z:=by show aW r fun m bi ar=>?_;show b' m (xj bi fun c d g1 a hd=>x.keep _ _ _ _ a hd ci po) (fun i y v I O=>?_);show aW (ar i y v I O) fun u bn lc=>?_;show⟨u,bn,lc.bb x⟩
theorem uM.ext{aaa:List (Str×NameKind)}{cells:List (Str×Addr)}{bm:aN}{h h':Heap}(r:uM G aaa cells ρ h z){X:Addr→Prop}(x:aL X ρ h bm h')(ci:∀c v,h.IsCell c v→¬cg ρ c)(po:∀c v,h.IsCell c v→¬X c):uM G aaa cells bm h' z:=by intro i y k I O;show iV (r i y k I O) fun c EQ bn lc nl wf=>?_;show qs lc fun hs dd a=>?_;show nT c EQ bn (EU (x.keep _ _ _ _ a (by intro vs q;cases q) (ci _ _ lc) (po _ _ lc))) nl (fun v al=>?_);show aW (wf v al) fun u ws hN=>?_;show⟨u,ws,hN.bb x⟩
theorem p9.ext{e:Env}{bm:aN}{h h':Heap}(r:p9 G ρ h e){X:Addr→Prop}(x:aL X ρ h bm h')(po:∀L,e.frame=some L→¬X L):p9 G bm h' e:=by show aX fun _ done=>?_;obtain⟨ak,L,c,d,bd,n,I,O,bn,lc⟩:=r;show done ?_;show⟨ak,L,c,d,bd,n,I,O,fun q=>(x.new L q).elim bn fun aa=>absurd aa.1 lc.cc,x.keep _ _ _ _ lc (by intro vs q;cases q) bn (po L I)⟩
theorem HR.step(S:HR G J ρ j s){bm:aN}{H:ae}{s':Shared}{X:Addr→Prop}(x:aL X ρ s.heap bm s'.heap)(po:∀e∈J,∀L,e.frame=some L→¬X L)(Y:G.a9.StaysIn s'.heap)(pp:s'.gens=s.gens)(q2:s'.os=s.os)(V:bm.length=H.length)(Rq:∀(k:Nat)(o:aI)(p:Addr×Addr),H[k]?=some o→bm[k]?=some p→fs bm s'.heap p o)(hd:x_ bm):HR G J bm H s' where
 a9:=Y
 gens:=pp.trans S.gens
 os:=q2.trans S.os
 len:=V
 objs:=Rq
 hj:=hd
 jr b Y:=(x.new b Y).elim (S.jr b) fun aa=>by
  have aa:=aa.1;cases e:G.a9.get? b with
  |none=>rfl
  |some o=>rw[S.a9 b o e]at aa;cases aa
 frames e ge:=(S.frames e ge).ext x (po e ge)
theorem FR.ext(F:FR G env ρ z s.heap)(S:HR G J ρ j s){bm:aN}{h':Heap}{X:Addr→Prop}(x:aL X ρ s.heap bm h')(po:¬X env.locals)(Gf:∀c v,s.heap.IsCell c v→¬X c):FR G env bm z h' where
 aw:=F.aw.ext x F.eT po
 iU:=F.iU.ext x (fun _ _ h=>S.CG h) Gf
 lV:=F.lV
 eT q:=(x.new _ q).elim F.eT fun aa=>by show aW F.aw fun m bi _=>?_;show iw bi fun _ _ _ _ a=>?_;show absurd aa.1 a.cc
 jm y c ac:=by obtain⟨⟨EQ,Z⟩,Y⟩:=F.jm y c ac;show qs Z fun hs dd a=>?_;show⟨⟨EQ,EU (x.keep _ _ _ _ a (by intro vs q;cases q) (S.CG Z) (Gf _ _ Z))⟩,Y⟩
theorem FR.aK(F:FR G env ρ z s.heap)(S:HR G J ρ j s){bm:aN}{h':Heap}(x:aL b4 ρ s.heap bm h'):FR G env bm z h':=F.ext S x (fun f=>f) fun _ _ _ f=>f
theorem Di{b h:Heap}(x:b.StaysIn h)(o:Obj):b.StaysIn (h.push o):=fun a o' e=>Heap.get?_push_of_some o (x a o' e)
theorem qE(ρ:aN)(h:Heap)(o:Obj):aL b4 ρ h ρ (h.push o):=aL.dv ρ fun _ _ e=>Heap.get?_push_of_some o e
theorem kI.ext{X:Addr→Prop}{bm:aN}{h h':Heap}{wS:Addr}{dL:c9}(r:kI ρ h wS dL)(x:aL X ρ h bm h')(k:∀bd n,bp h wS (.type "dict") none (.dict bd n)→bp h' wS (.type "dict") none (.dict bd n)):kI bm h' wS dL:=by show h9 r fun bd n a f=>?_;show⟨bd,n,k _ _ a,f.bb x⟩
theorem fs.ext{X:Addr→Prop}{bm:aN}{h h':Heap}{p:Addr×Addr}{o:aI}(r:fs ρ h p o)(x:aL X ρ h bm h')(k:∀b c d g1,b=p.1∨b=p.2→bp h b c d g1→bp h' b c d g1):fs bm h' p o:=by
 cases o with
 |list l=>obtain⟨vs,n,a,f,e⟩:=r;show nS vs n (k _ _ _ _ (.inl rfl) a) (f.bb x) e
 |bS l=>obtain⟨b,a,f,e⟩:=r;show iv b (k _ _ _ _ (.inl rfl) a) f e
 |b_ C dL=>obtain⟨a,f⟩:=r;show⟨k _ _ _ _ (.inl rfl) a,f.ext x fun _ _=>k _ _ _ _ (.inr rfl)⟩
 |a6 C dL=>
  rcases r with⟨vs,a,aa,f⟩|⟨cd,ex,vs,a,aa⟩
  ·show .inl ⟨vs,k _ _ _ _ (.inl rfl) a,aa,f.ext x fun _ _=>k _ _ _ _ (.inr rfl)⟩
  ·show .inr ⟨cd,ex,vs,k _ _ _ _ (.inl rfl) a,aa⟩
 |cX C dL=>
  rcases r with⟨vs,a,aa,f⟩|⟨cd,ex,vs,a,aa⟩
  ·show .inl ⟨vs,k _ _ _ _ (.inl rfl) a,aa,f.ext x fun _ _=>k _ _ _ _ (.inr rfl)⟩
  ·show .inr ⟨cd,ex,vs,k _ _ _ _ (.inl rfl) a,aa⟩
theorem HR.push(S:HR G J ρ j s)(o:Obj)(t:Nat):HR G J ρ j {s with heap:=s.heap.push o,toks:=t}∧aL b4 ρ s.heap ρ (s.heap.push o):=⟨S.step (s':={s with heap:=s.heap.push o,toks:=t}) (qE _ _ _) (fun _ _ _ _ f=>f) (Di S.a9 o) rfl rfl S.len (fun k a p I O=>(S.objs k a p I O).ext (qE _ _ _) fun _ _ _ _ _ y=>y.push o) S.hj,qE _ _ _⟩
theorem HR.dv(S:HR G J ρ j s){h':Heap}(k:∀b o,s.heap.get? b=some o→h'.get? b=some o)(t:Nat):HR G J ρ j {s with heap:=h',toks:=t}∧aL b4 ρ s.heap ρ h':=⟨S.step (s':={s with heap:=h',toks:=t}) (aL.dv ρ k) (fun _ _ _ _ f=>f) (fun b o e=>k b o (S.a9 b o e)) rfl rfl S.len (fun af a p I O=>(S.objs af a p I O).ext (aL.dv ρ k) fun _ _ _ _ _ y=>y.keeps k) S.hj,aL.dv ρ k⟩
theorem a4.dv(S:a4 G J env ρ j z s){h':Heap}(k:∀b o,s.heap.get? b=some o→h'.get? b=some o)(t:Nat):a4 G J env ρ j z {s with heap:=h',toks:=t}∧aL b4 ρ s.heap ρ h':=⟨⟨(S.toHR.dv k t).1,S.toFR.aK S.toHR (aL.dv ρ k)⟩,aL.dv ρ k⟩
theorem F3{α:Type}{l:List α}{x y:α}{k:Nat}(h:(l++[x])[k]?=some y):l[k]?=some y∨(k=l.length∧y=x):=by
 rcases Nat.lt_trichotomy k l.length with ak|ak|ak
 ·rw[List.getElem?_append_left ak]at h;show .inl h
 ·subst ak;simp at h;show .inr ⟨rfl,h.symm⟩
 ·rw[og (Nat.le_of_lt ak)]at h;obtain⟨n,bi⟩:∃n,k-l.length=n+1:=⟨k-l.length-1,by show ai [[1,0,1],[1,0,1],[1,0,1,0,0,0,1,1],[0,0,0,0,1,0,0,1],[1,0,0,1],[0,0,0,0,1,0,0,1],[1,1],[0,0,0,0,1,0,0,1]] [_,_,_,_] [] [.lt .aa .w,.cG .x .w .aa,.cG .y .x .l] (.eq .x (.a .y .l)) ah ak (cy _ _) (cy _ _)⟩;rw[bi]at h;simp at h
theorem a4.push(S:a4 G J env ρ j z s)(o:Obj)(t:Nat):a4 G J env ρ j z {s with heap:=s.heap.push o,toks:=t}∧aL b4 ρ s.heap ρ (s.heap.push o):=⟨⟨(S.toHR.push o t).1,S.toFR.aK S.toHR (qE _ _ _)⟩,qE _ _ _⟩
theorem HR.xd(S:HR G J ρ j s){s':Shared}{o:aI}{p:Addr×Addr}(x:aL b4 ρ s.heap ρ s'.heap)(mu:s.heap.get? p.1=none)(mv:s.heap.get? p.2=none)(Y:G.a9.StaysIn s'.heap)(pp:s'.gens=s.gens)(q2:s'.os=s.os)(wu:∀b c d g1,cg ρ b→bp s.heap b c d g1→bp s'.heap b c d g1)(ij:∀bm,bm=ρ++[p]→aL b4 ρ s.heap bm s'.heap→fs bm s'.heap p o):HR G J (ρ++[p]) (j++[o]) s'∧aL b4 ρ s.heap (ρ++[p]) s'.heap:=by
 have X:aL b4 ρ s.heap (ρ++[p]) s'.heap:=⟨fun _ p h=>⟨p,by rw[List.getElem?_append_left (c7.mp h).1];show h,rfl⟩,x.cc,x.cls,fun b q=>by
  rcases U6.mp q with q|q
  ·show .inl q
  ·rcases U9.mp q with rfl|rfl
   ·show .inr ⟨mu,fun f=>f⟩
   ·show .inr ⟨mv,fun f=>f⟩,x.keep,x.f3,x.av⟩
 show⟨S.step X (fun _ _ _ _ f=>f) Y pp q2 (by simp[S.len]) (fun k a q I O=>?_) ?_,X⟩
 ·rcases F3 O with O|⟨rfl,rfl⟩
  ·rcases F3 I with I|⟨rfl,rfl⟩
   ·show(S.objs k a q I O).ext X fun b c d g1 e y=>wu b c d g1 ?_ y;have:=nZ O;clear I c d g1 y;rcases e with rfl|rfl
    ·show this.1
    ·show this.2
   ·have:=(c7.mp O).1;rw[S.len]at this;show absurd this (Nat.lt_irrefl _)
  ·rw[S.len]at I;simp at I;subst I;show ij _ rfl X
 ·show List.pairwise_append.mpr ⟨S.hj,List.pairwise_singleton _ _,fun q ne r ar=>?_⟩;rw[ee]at ar;clear pp q2 wu ij X;subst ar;have aj:=S.mI ⟨q,ne,.inl rfl⟩;have ao:=S.mI ⟨q,ne,.inr rfl⟩;show⟨fun e=>aj (e▸mu),fun e=>aj (e▸mv),fun e=>ao (e▸mu),fun e=>ao (e▸mv)⟩
theorem zk(hd:x_ ρ){i af:Nat}{p q:Addr×Addr}(an:ρ[i]?=some p)(dl:ρ[af]?=some q)(li:i≠af):p.1≠q.1∧p.1≠q.2∧p.2≠q.1∧p.2≠q.2:=by
 show b6 (c7.mp an) fun ml kf=>?_;obtain⟨gi,jv⟩:=c7.mp dl;rcases Nat.lt_or_gt_of_ne li with h|h
 ·have:=List.pairwise_iff_getElem.mp hd i af ml gi h;rw[kf,jv]at this;show this
 ·have:=List.pairwise_iff_getElem.mp hd af i gi ml h;rw[kf,jv]at this;show⟨this.1.symm,this.2.2.1.symm,this.2.1.symm,this.2.2.2.symm⟩
end
end
section
def D7(G:br)(ρ:aN)(h:Heap)(a:Addr)(vs:Array Value):Prop:=∃T d ts,vs[1]?=some (.ref T)∧T≠a∧bp h T (.type "traceback") d (.fields ts)∧3<ts.size∧G.a9.get? T=none∧¬cg ρ T
def KU(G:br)(ρ:aN)(h:Heap)(a:Addr)(vs:Array Value):Prop:=vs[1]?=some .none∨D7 G ρ h a vs
def DU(Xc:Addr→Array Value→Prop)(ρ:aN)(j:ae)(h:Heap)(k:Nat)(e:Value):Prop:=∃C dL p d vs,j[k]?=some (.cX C dL)∧ρ[k]?=some p∧e=.ref p.1∧bp h p.1 (.ref C) d (.fields vs)∧5<vs.size∧Xc p.1 vs
def je(G:br)(ρ:aN)(j:ae)(h:Heap)(k:Nat)(e:Value):Prop:=DU (KU G ρ h) ρ j h k e
def e1(G:br)(ρ:aN)(j:ae)(h:Heap)(k:Nat)(e:Value):Prop:=DU (D7 G ρ h) ρ j h k e
theorem e1.d7{G:br}{ρ:aN}{j:ae}{h:Heap}{k:Nat}{e:Value}(x:e1 G ρ j h k e):je G ρ j h k e:=by show aX fun _ done=>?_;obtain⟨C,dL,p,d,vs,I,O,bn,lc,nl,wf⟩:=x;show done ?_;show⟨C,dL,p,d,vs,I,O,bn,lc,nl,.inr wf⟩
section
variable{α go:Type}
def a3(G:br)(J:List Env)(env:Env)(z:aq)(ρ:aN)(h:Heap)(R:aN→Heap→α→go→Prop)(r:aG α)(Q:go→Shared→Prop)(E:Value→Shared→Prop):Prop:=match r with
 |.ok a H=>∀bm s' v,a4 G J env bm H z s'→aL b4 ρ h bm s'.heap→R bm s'.heap a v→Q v s'
 |.a6 k H=>∀bm s' e,a4 G J env bm H z s'→aL b4 ρ h bm s'.heap→je G bm H s'.heap k e→E e s'
 |.aS=>False
def hH(G:br)(J:List Env)(ρ:aN)(h:Heap)(r:aG ag)(R:Result→Shared→Prop):Prop:=match r with
 |.ok a H=>∀bm s' v,HR G J bm H s'→aL b4 ρ h bm s'.heap→aR bm s'.heap a v→R (.ok (.ret v)) s'
 |.a6 k H=>∀bm s' e,HR G J bm H s'→aL b4 ρ h bm s'.heap→je G bm H s'.heap k e→R (.error e) s'
 |.aS=>False
end
def uO(G:br)(d:Nat)(kB:Addr→List ag→ae→aG ag):Prop:=∀(A:Around)(J:List Env)(a:Addr)(xs:List ag)(j:ae)(ρ:aN)(s:Shared)(ls:List Value)(R:Result→Shared→Prop),A.frames=some J→A.guards=some []→A.handled=none→A.depth+4*d+4<recursionLimit→A.units+30*d+100<cLine→HR G J ρ j s→ba ρ s.heap xs ls→hH G J ρ s.heap (kB a xs j) R→dK (model G.prog G.w) A (.call (.ref a) ⟨ls,[]⟩) R s
def KV(G:br)(v:ag)(u:Value):Prop:=∀(ρ:aN)(h:Heap),G.a9.StaysIn h→aR ρ h v u
structure kK(G:br):Prop where
 vH:G.dO "WasmFault"=some (.ref e4)
 a6:G.dO "Exception"=none∧G.fF "Exception"=some (.type "Exception")
 bW:G.dO "range"=none∧G.fF "range"=some (.type "range")
 js:∀x v,oQ x=some v→∃u,KV G v u∧(G.dO x=some u∨(G.dO x=none∧G.fF x=some u))
 dict:∀a l,oH a=some l→∃f,G.a9.IntMap a f∧(∀k,(f k).isSome=(l.lookup k).isSome)∧∀k x,l.lookup k=some (.str x)→∃t,f k=some (.str x t)
 list:∀a l,w8 a=some l→∃vs:Array Value,G.a9.IsList a vs∧(vs.size<aP)∧∀(ρ:aN)(h:Heap),G.a9.StaysIn h→ba ρ h l vs.toList
def w0(k gl:NameKind):Prop:=k=gl∨(k=.free∧gl=.cell)
def rY(aaa Us:List (Str×NameKind)):Prop:=∀(af:Nat)(x:Str)(k:NameKind),aaa[af]?=some (x,k)→∃gl,Us[af]?=some (x,gl)∧w0 k gl
theorem rY.refl(aaa:List (Str×NameKind)):rY aaa aaa:=fun _ _ k h=>⟨k,h,.inl rfl⟩
structure jY(K:Frag):Prop where
 b_:∀C,cZ C=true→(findIn K (.ref C) "__getattribute__"=some (some (.builtin "object.__getattribute__"))∧findIn K (.ref C) "__getattr__"=some none)∧plainOver K C=true∧makesIn K C=true∧findIn K (.ref C) "__init__"=some (some (.ref (gN C)))∧isFn K (.ref (gN C))=true
 Av:∀C f,(cZ C||cD C)=true→findIn K (.ref C) (c8.str f)=some none
 m9:∀C,(cZ C||cD C)=true→hasDictIn K C=true∧findIn K (.ref C) "__setattr__"=some (some (.builtin "object.__setattr__"))∧typeIn K (.ref C)=some (.type "type")
 Hw:∀C,(cZ C||cD C)=true→keepIn K (.ref C)=true
 bq:∀C m f,gm C m=some f→cZ C=true→findIn K (.ref C) (dG.str m)=some (some (.ref f))∧isFn K (.ref f)=true∧keepIn K (.ref f)=true
 vH:readsIn K e4 (.type "type")=true∧findCls K (.ref e4) (.type "type") "__init__"=some (.val (.ref 131))∧specialIn K (.ref e4) "__getattribute__"=some (some (.builtin "type.__getattribute__"))∧keepIn K (.ref 131)=true
 NL:findCls K (.type "Exception") (.type "type") "__init__"=some (.val (.builtin "Exception.__init__"))
 Fz:∀C,cD C=true→∃nm q N bs sn sub ab col dd k0 k1 k2 k3 k5,K.lookup C=some (excClassObj nm q C N bs [.ref e4,.type "Exception",.type "BaseException",.type "object"] true sn sub ab col dd k0 k1 k2 k3 k5 "Exception.__new__")
 NU:∀C D,cD C=true→cD D=true→exmOne K (.ref D) (.ref C)=some (C==D)
 a6:∀C,cD C=true→findIn K (.ref C) "__getattribute__"=some (some (.builtin "BaseException.__getattribute__"))∧findIn K (.ref C) "__getattr__"=some none∧(clsIn K C).map (·.mro)=some [.ref C,.ref e4,.type "Exception",.type "BaseException",.type "object"]∧findIn K (.ref C) "__init__"=some (some (.ref (gN C)))∧isFn K (.ref (gN C))=true
structure cq(G:br)(P:aY)(d:Nat)(aaa:List (Str×NameKind))(A:Around)(J:List Env)(env:Env):Prop where
 ok:G.b8
 dc:kK G
 cv:jY G.K
 frames:A.frames=some J
 guards:A.guards=some []
 keep:∀a xs j,P.d' a xs j≠.aS→keepIn G.K (.ref a)=true
 cL:DT J env
 tK:rY aaa env.scope.names
 hd:P.hd=true→A.handled=none
 sa:P.sa=G.sa
 ns:P.ns=G.ns
 d':uO G d P.d'
 depth:A.depth+4*d+6<recursionLimit
 units:A.units+30*d+120<cLine
section
variable{α go hB Kc:Type}{G:br}{J:List Env}{env:Env}{z:aq}{ρ:aN}{h:Heap}{R:aN→Heap→α→go→Prop}{kN:aN→Heap→hB→Kc→Prop}{Q:Kc→Shared→Prop}{E:Value→Shared→Prop}
theorem a3.eY{r:aG hB}(p:a3 G J env z ρ h kN r Q E){bm:aN}{h':Heap}(x:aL b4 ρ h bm h'):a3 G J env z bm h' kN r Q E:=by
 cases r with
 |ok a j=>show fun fr a2 v S X r=>p fr a2 v S (x.trans X) r
 |a6 k j=>show fun fr a2 e S X r=>p fr a2 e S (x.trans X) r
 |aS=>show p
theorem a3.bind{x:aG α}{f:α→ae→aG hB}(p:a3 G J env z ρ h kN (x.bind f) Q E){sp:go→Shared→Prop}(k:∀a f2 fr a2 v,x=.ok a f2→a4 G J env fr f2 z a2→aL b4 ρ h fr a2.heap→R fr a2.heap a v→a3 G J env z fr a2.heap kN (f a f2) Q E→sp v a2):a3 G J env z ρ h R x sp E:=by
 cases x with
 |ok a j=>show fun fr a2 v S X r=>k a j fr a2 v rfl S X r (a3.eY p X)
 |a6 k j=>show p
 |aS=>show p
theorem a3.cM{a:α}{j:ae}{Q:go→Shared→Prop}(p:a3 G J env z ρ h R (.ok a j) Q E){bm:aN}{s':Shared}{v:go}(S:a4 G J env bm j z s')(X:aL b4 ρ h bm s'.heap)(r:R bm s'.heap a v):Q v s':=p bm s' v S X r
theorem a3.TJ{a:Option α}{j:ae}{Q:go→Shared→Prop}(p:a3 G J env z ρ h R (aG.bg a j) Q E):∃x,a=some x∧a3 G J env z ρ h R (.ok x j) Q E:=by
 cases a with
 |none=>show p.elim
 |some x=>show⟨x,rfl,p⟩
theorem a3.iu{a:Option α}{j:ae}{Q:go→Shared→Prop}(p:a3 G J env z ρ h R (aG.bg a j) Q E){re:Prop}(gl:∀x,a=some x→a3 G J env z ρ h R (.ok x j) Q E→re):re:=aW (a3.TJ p) gl
end
def a'(G:br)(P:aY)(d:Nat)(aaa:List (Str×NameKind))(e:Expr)(i:a0):Prop:=∀(A:Around)(J:List Env)(env:Env)(ρ:aN)(j:ae)(z:aq)(s:Shared)(Q:Value→Shared→Prop)(E:Value→Shared→Prop),cq G P d aaa A J env→a4 G J env ρ j z s→a3 G J env z ρ s.heap aR (den P i z j) Q E→aD (model G.prog G.w) A (eval e env) Q E s
def m7(_:aN)(_:Heap)(a:ag)(b:Bool):Prop:=ck a=some b
def cB(G:br)(P:aY)(d:Nat)(aaa:List (Str×NameKind))(e:Expr)(i:a0):Prop:=∀(A:Around)(J:List Env)(env:Env)(ρ:aN)(j:ae)(z:aq)(s:Shared)(Q:Bool→Shared→Prop)(E:Value→Shared→Prop),cq G P d aaa A J env→a4 G J env ρ j z s→a3 G J env z ρ s.heap m7 ((den P i z j).bind fun a j=>aG.bg ((ck a).map fun _=>a) j) Q E→aD (model G.prog G.w) A (isTrue e env (eval e env)) Q E s
def gc(G:br)(P:aY)(d:Nat)(aaa:List (Str×NameKind))(bd:List Expr)(l:b5):Prop:=∀(A:Around)(J:List Env)(env:Env)(pos:Pos)(ρ:aN)(j:ae)(z:aq)(s:Shared)(Q:List Value→Shared→Prop)(E:Value→Shared→Prop),cq G P d aaa A J env→a4 G J env ρ j z s→a3 G J env z ρ s.heap ba (hM P l z j) Q E→aD (model G.prog G.w) A (spliced (backTo pos (starEach bd env))) Q E s
theorem tH{α:Type}:∀{l:List (Str×α)}{i:Nat}{x:Str}{k:α},(l.map (·.1)).Nodup→l[i]?=some (x,k)→l.lookup x=some k:=by
 intro ca;induction ca with
 |nil=>intro sK Ev Da FM h;simp at h
 |cons T0 r ap=>
  intro SB x k bi h;cases SB with
  |zero=>obtain⟨y,af⟩:=T0;simp only[List.getElem?_cons_zero,Option.some.injEq,Prod.mk.injEq]at h;obtain⟨rfl,rfl⟩:=h;simp[List.lookup_cons]
  |succ i=>
   obtain⟨y,af⟩:=T0;simp only[List.getElem?_cons_succ]at h;rw[List.map_cons,List.nodup_cons]at bi;dsimp only at bi;have ad:x∈r.map (·.1):=List.mem_map.mpr ⟨(x,k),eZ h,rfl⟩;have li:(x==y)=false:=by
    cases q:x==y with
    |false=>rfl
    |true=>rw[dw.mp q]at ad;show absurd ad bi.1
   rw[List.lookup_cons,li];show ap bi.2 h
theorem sH:∀{l:List (Str×NameKind)}{i:Nat}{x:Str}{k:NameKind},gu l x=some i→l.lookup x=some k→l[i]?=some (x,k):=by
 intro ca;induction ca with
 |nil=>intro _ _ _ h _;simp[gu]at h
 |cons t1 r ap=>
  obtain⟨y,af⟩:=t1;intro i x k h ak;unfold gu at h;rw[List.findIdx?_cons]at h;rw[List.lookup_cons]at ak;by_cases q:y=x;·subst q;simp only[beq_self_eq_true,if_true,Option.some.injEq]at h ak;subst h ak;rfl
  ·have t4:(y==x)=false:=by simpa using q
   have mM:(x==y)=false:=by simpa using fun e:x=y=>q e.symm
   rw[mM]at ak;simp only[t4,gy,if_false]at h;cases ar:r.findIdx? (fun p=>p.1==x)with
   |none=>rw[ar]at h;cases h
   |some n=>rw[ar]at h;simp only[Option.map_some,Option.some.injEq]at h;subst h;simpa using ap (i:=n) ar ak
theorem F2:∀{l:List (Str×NameKind)}{i:Nat}{x:Str},gu l x=some i→∃k,l[i]?=some (x,k):=by
 intro ca;induction ca with
 |nil=>intro _ _ h;simp[gu]at h
 |cons t1 r ap=>
  obtain⟨y,af⟩:=t1;intro i x h;unfold gu at h;rw[List.findIdx?_cons]at h;by_cases q:y=x;·subst q;simp only[beq_self_eq_true,if_true,Option.some.injEq]at h;subst h;show⟨af,rfl⟩
  ·have t4:(y==x)=false:=by simpa using q
   simp only[t4,gy,if_false]at h;cases ar:r.findIdx? (fun p=>p.1==x)with
   |none=>rw[ar]at h;cases h
   |some n=>rw[ar]at h;simp only[Option.map_some,Option.some.injEq]at h;subst h;obtain⟨k,ak⟩:=ap (i:=n) ar;show⟨k,by simpa using ak⟩
section
variable{G:br}{P:aY}{d:Nat}{aaa:List (Str×NameKind)}{A:Around}{J:List Env}{env:Env}{ρ:aN}{j:ae}{z:aq}{s:Shared}
theorem cq.S8(C:cq G P d aaa A J env){af:Nat}{x:Str}{k:NameKind}(h:aaa[af]?=some (x,k)):∃gl,env.scope.names[af]?=some (x,gl)∧env.kindOf x=some gl∧w0 k gl:=by show aW (C.tK af x k h) fun gl I O=>?_;show⟨gl,I,tH C.cL.nV I,O⟩
theorem cq.lq(C:cq G P d aaa A J env){af:Nat}{x:Str}{k:NameKind}(h:aaa[af]?=some (x,k)){re:Prop}(gl:∀gl,env.scope.names[af]?=some (x,gl)→env.kindOf x=some gl→w0 k gl→re):re:=eA (cq.S8 C h) gl
theorem HN{M:Model}{E:Value→Shared→Prop}{Q:Value→Shared→Prop}(C:cq G P d aaa A J env)(S:a4 G J env ρ j z s){i:Nat}{x:Str}{k:NameKind}(bi:aaa[i]?=some (x,k))(ak:k=.local∨k=.cell∨k=.free){a:ag}(al:z[i]?=some (some a))(ne:∀u,aR ρ s.heap a u→Q u s)(hd:(x==("__classdict__":Str))=false):wpAny M A (loadName env x) Q E s:=by
 show C.lq bi fun gl I O bn=>?_;have Z:gl=.local∨gl=.cell∨gl=.free:=by
  rcases bn with rfl|⟨_,h⟩
  ·show ak
  ·show .inr (.inl h)
 clear ak bn;rcases Z with rfl|rfl|rfl
 ·show aW S.aw fun m ac V=>?_;show aW (V i x a I al) fun u cd ex=>?_;show wpAny_loadName_local C.cL.kind O ac cd (ne u ex)
 ·obtain⟨c,EQ,cd,ex,_,sc⟩:=S.iU i x _ I (.inl rfl);obtain⟨u,rfl,wT⟩:=sc a al;show wpAny_loadName_cell C.cL.kind O cd ex (ne u wT)
 ·obtain⟨c,EQ,cd,ex,_,sc⟩:=S.iU i x _ I (.inr rfl);obtain⟨u,rfl,wT⟩:=sc a al;show wpAny_loadName_free C.cL.kind O cd ex (ne u wT) hd
theorem a'.aw(C:cq G P d aaa A J env)(S:a4 G J env ρ j z s){i:Nat}{x:Str}{pos:Pos}{k:NameKind}(bi:aaa[i]?=some (x,k))(ak:k=.local∨k=.cell∨k=.free)(hd:(x==("__debug__":Str))=false)(Z:(x==("__classdict__":Str))=false){Q:Value→Shared→Prop}{E:Value→Shared→Prop}(p:a3 G J env z ρ s.heap aR (den P (.aw i) z j) Q E):wpAny (model G.prog G.w) A (eval (.Name x pos) env) Q E s:=by
 show p.iu fun a ds p=>?_;show wpAny_Name ?_ hd;show HN C S bi ak ?_ (fun u np=>p.cM S (aL.refl _ _ _) np) Z;cases h:z[i]? with
 |none=>rw[h]at ds;cases ds
 |some y=>rw[h]at ds;simp at ds;rw[ds]
theorem a'.js(C:cq G P d aaa A J env)(S:a4 G J env ρ j z s){x:Str}{pos:Pos}{af:Nat}(bi:aaa[af]?=some (x,.globalImplicit))(hd:(x==("__debug__":Str))=false){v:ag}(pp:oQ x=some v){Q:Value→Shared→Prop}{E:Value→Shared→Prop}(p:a3 G J env z ρ s.heap aR (den P (.aC v) z j) Q E):wpAny (model G.prog G.w) A (eval (.Name x pos) env) Q E s:=by
 show C.lq bi fun gl I O bn=>?_;have:gl=.globalImplicit:=by
  rcases bn with rfl|⟨h,_⟩
  ·rfl
  ·cases h
 subst this;show aW (C.dc.js x v pp) fun u np ac=>?_;have k_:s.heap.Ns env.globals G.dO:=by rw[C.cL.js];show C.ok.T.g.keeps S.a9
 have oY:s.heap.Ns env.builtins G.fF:=by rw[C.cL.blt];show C.ok.T.b.keeps S.a9
 have q:Q u s:=by show p.cM S (aL.refl _ _ _) (np _ _ S.a9)
 show Name_function_global C.cL.kind O ?_ hd;rcases ac with ac|⟨ac,Y⟩
 ·show loadGlobal_global k_ ac q
 ·show loadGlobal_builtin k_ ac oY Y q
end
end
section
section
variable{G:br}{A:Around}{J:List Env}{env:Env}{ρ:aN}{j:ae}{z:aq}{s:Shared}{E:Value→Shared→Prop}
theorem iB{h:Heap}{i:Int}{t:Tok}:aR ρ h (.int i) (.int i t):=⟨t,rfl⟩
theorem n3{h:Heap}{b:Bool}:aR ρ h (.bool b) (.bool b):=rfl
theorem mN{h:Heap}:aR ρ h .none .none:=rfl
theorem t8{h:Heap}{x:Str}{t:Tok}:aR ρ h (.str x) (.str x t):=⟨t,rfl⟩
theorem C5{h:Heap}{k:Nat}{p:Addr×Addr}(e:ρ[k]?=some p):aR ρ h (.ref k) (.ref p.1):=⟨p,e,rfl⟩
theorem gb{n:Nat}(h:n<aP):n≤sizeLine:=by rw[sizeLine_eq];unfold aP at h;show ai [[1,1]] [_] [] [.lt .x .L] (.le .x (.n 16777216)) ah h
theorem hq{h:Heap}{a:Addr}{d:Option Addr}{vs:Array Value}{n:Nat}(x:bp h a (.type "list") d (.seq vs n)):h.IsList a vs:=let⟨_,e⟩:=x;⟨_,e,rfl,n,rfl⟩
theorem px{h:Heap}{a:Addr}{d:Option Addr}{vs:Array Value}{n:Nat}(x:bp h a (.type "tuple") d (.seq vs n)):IsTup h a vs:=let⟨_,e⟩:=x;⟨_,e,rfl,n,rfl⟩
theorem HR.list(S:HR G J ρ j s){k:Nat}{l:List ag}(ak:j[k]?=some (.list l)):∃p vs n,ρ[k]?=some p∧bp s.heap p.1 (.type "list") none (.seq vs n)∧ba ρ s.heap l vs.toList∧p.2=p.1:=by
 have m0:k<ρ.length:=by rw[S.len];show(c7.mp ak).1
 have be:ρ[k]?=some ρ[k]:=gx m0;show dR (S.objs k _ _ ak be) fun vs n a b c=>?_;show⟨_,vs,n,be,a,b,c⟩
theorem HR.w9(S:HR G J ρ j s){k:Nat}{l:List ag}(ak:j[k]?=some (.list l)){re:Prop}(gl:∀p vs n,ρ[k]?=some p→bp s.heap p.1 (.type "list") none (.seq vs n)→ba ρ s.heap l vs.toList→p.2=p.1→re):re:=Fl (HR.list S ak) gl
theorem Sw{o:aI}{l:List ag}(h:o.wU=some l):o=.list l:=by cases o<;>first|show congrArg aI.list (bx h)|show cf h
theorem pD{k:Nat}{l:List ag}(h:c0 j k=some l):j[k]?=some (.list l):=(hC.mp h).elim fun _ h=>h.1.trans (congrArg some (Sw h.2))
theorem Hm{v:ag}{i:Int}(h:isInt v=some i):v=.int i:=by cases v<;>first|show congrArg ag.int (bx h)|show cf h
theorem Sz{v:ag}{l:List ag}(h:wV v=some l):v=.av l:=by cases v<;>first|show congrArg ag.av (bx h)|show cf h
theorem Hn{v:ag}{k:Nat}(h:gO v=some k):v=.ref k:=by cases v<;>first|show congrArg ag.ref (bx h)|show cf h
theorem Hp{v:ag}{x:Str}(h:isStr v=some x):v=.str x:=by cases v<;>first|show congrArg ag.str (bx h)|show cf h
theorem Sv{v:ag}{a:Addr}(h:BQ v=some a):v=.fn a:=by cases v<;>first|show congrArg ag.fn (bx h)|show cf h
theorem Sr{v:ag}{l:List Int}(h:wR v=some l):v=.bytes l:=by cases v<;>first|show congrArg ag.bytes (bx h)|show cf h
theorem tr{v:ag}(h:v.isNone=true):v=.none:=by cases v<;>first|rfl|show fy h
theorem U1{l:List ag}{v:ag}(h:f5 l=some v):l=[v]:=match l,h with
 |[_],h=>congrArg (fun x=>[x]) (bx h)
 |[],h=>cf h
 |_::_::_,h=>cf h
theorem rx{h:Heap}{v:ag}{u:Value}{i:Int}(r:aR ρ h v u)(e:isInt v=some i):∃t,u=.int i t:=(Hm e▸r:aR ρ h (.int i) u)
theorem ks{h:Heap}{v:ag}{u:Value}{i:Int}(r:aR ρ h v u)(e:isInt v=some i){re:Prop}(gl:∀t,u=.int i t→re):re:=b6 (rx r e) gl
theorem VS{h:Heap}{v:ag}{u:Value}{x:Str}(r:aR ρ h v u)(e:isStr v=some x):∃t,u=.str x t:=(Hp e▸r:aR ρ h (.str x) u)
theorem I1{h:Heap}{v:ag}{u:Value}{l:List ag}(r:aR ρ h v u)(e:wV v=some l):aR ρ h (.av l) u:=Sz e▸r
theorem I0{h:Heap}{v:ag}{u:Value}{k:Nat}(r:aR ρ h v u)(e:gO v=some k):∃p,ρ[k]?=some p∧u=.ref p.1:=(Hn e▸r:aR ρ h (.ref k) u)
theorem t7{h:Heap}{v:ag}{u:Value}{k:Nat}(r:aR ρ h v u)(e:gO v=some k){re:Prop}(gl:∀p,ρ[k]?=some p→u=.ref p.1→re):re:=aW (I0 r e) gl
theorem VO{h:Heap}{v:ag}{u:Value}{a:Addr}(r:aR ρ h v u)(e:BQ v=some a):u=.ref a:=(Sv e▸r:aR ρ h (.fn a) u)
theorem IX{h:Heap}{v:ag}{u:Value}{l:List Int}(r:aR ρ h v u)(e:wR v=some l):∃b t,u=.bytes b t∧hc b l:=(Sr e▸r:aR ρ h (.bytes l) u)
theorem IZ{h:Heap}{l:List ag}{vs:List Value}{v:ag}(r:ba ρ h l vs)(e:f5 l=some v):∃u,vs=[u]∧aR ρ h v u:=by rw[U1 e]at r;show r.elim fun u r=>r.elim fun mX r=>⟨u,r.1.trans (congrArg (u::·) r.2.2),r.2.1⟩
theorem pM{h:Heap}{l:List ag}{vs:List Value}{v:ag}(r:ba ρ h l vs)(e:f5 l=some v){re:Prop}(gl:∀u,vs=[u]→aR ρ h v u→re):re:=aW (IZ r e) gl
theorem VP(S:HR G J ρ j s){v:ag}{u:Value}{l:List ag}(r:aR ρ s.heap v u)(e:(gO v).bind (c0 j)=some l):∃a vs n,u=.ref a∧bp s.heap a (.type "list") none (.seq vs n)∧ba ρ s.heap l vs.toList:=(hC.mp e).elim fun _ e=>(I0 r e.1).elim fun p be=>(S.list (pD e.2)).elim fun q h=>h.elim fun vs h=>h.elim fun n h=>⟨p.1,vs,n,be.2,(bx (be.1.symm.trans h.1))▸h.2.1,h.2.2.1⟩
theorem n2(S:HR G J ρ j s){v:ag}{u:Value}{l:List ag}(r:aR ρ s.heap v u)(e:(gO v).bind (c0 j)=some l){re:Prop}(gl:∀a vs n,u=.ref a→bp s.heap a (.type "list") none (.seq vs n)→ba ρ s.heap l vs.toList→re):re:=d5 (VP S r e) gl
theorem vO{α:Type}{c:Prop}[Decidable c]{x y:α}(h:kZ c x=some y):c∧x=y:=by
 by_cases Z:c;·show⟨Z,bx ((aF Z).symm.trans h)⟩
 ·show nomatch(aM Z).symm.trans h
theorem qO{α:Type}{c:Prop}[Decidable c]{x y:α}(h:kZ c x=some y){re:Prop}(gl:c→x=y→re):re:=c4 (vO h) gl
section
variable{α go hB:Type}{h:Heap}{R:aN→Heap→α→go→Prop}{Q:go→Shared→Prop}
theorem a3.bL{x:Option hB}{f:hB→aG α}(p:a3 G J env z ρ h R (bL x f) Q E):∃a,x=some a∧a3 G J env z ρ h R (f a) Q E:=by
 cases x with
 |none=>show p.elim
 |some a=>show⟨a,rfl,p⟩
theorem a3.ec{x:Option hB}{f:hB→aG α}(p:a3 G J env z ρ h R (Mine.Internal.bL x f) Q E){re:Prop}(gl:∀a,x=some a→a3 G J env z ρ h R (f a) Q E→re):re:=aW (a3.bL p) gl
theorem a3.hd{b:Bool}{x:aG α}(p:a3 G J env z ρ h R (if !b then .aS else x) Q E):b=true∧a3 G J env z ρ h R x Q E:=by
 cases b with
 |true=>show⟨rfl,p⟩
 |false=>show p.elim
theorem a3.mi{b:Bool}{x:aG α}(p:a3 G J env z ρ h R (if !b then .aS else x) Q E){re:Prop}(gl:b=true→a3 G J env z ρ h R x Q E→re):re:=c4 (a3.hd p) gl
theorem a3.ite{c:Prop}[Decidable c]{x:aG α}(p:a3 G J env z ρ h R (if c then x else .aS) Q E):c∧a3 G J env z ρ h R x Q E:=by
 by_cases Z:c;·rw[aF Z]at p;show⟨Z,p⟩
 ·rw[aM Z]at p;show p.elim
theorem a3.eD{c:Prop}[Decidable c]{x:aG α}(p:a3 G J env z ρ h R (if c then x else .aS) Q E){re:Prop}(gl:c→a3 G J env z ρ h R x Q E→re):re:=c4 (a3.ite p) gl
end
theorem a4.newList(S:a4 G J env ρ j z s){l:List ag}{vs:List Value}(r:ba ρ s.heap l vs)(t:Nat):a4 G J env (ρ++[(s.heap.objs.size,s.heap.objs.size)]) (j++[.list l]) z {s with heap:=s.heap.push {cls:=.type "list",data:=.seq vs.toArray},toks:=t}∧aL b4 ρ s.heap (ρ++[(s.heap.objs.size,s.heap.objs.size)]) (s.heap.push {cls:=.type "list",data:=.seq vs.toArray}):=by have X:=qE ρ s.heap {cls:=.type "list",data:=.seq vs.toArray};obtain⟨a,b⟩:=S.toHR.xd (s':={s with heap:=s.heap.push {cls:=.type "list",data:=.seq vs.toArray},toks:=t}) (o:=.list l) (p:=(s.heap.objs.size,s.heap.objs.size)) X (fH _) (fH _) (Di S.a9 _) rfl rfl (fun b c d g1 _ y=>y.push _) fun bm _ hm=>⟨vs.toArray,0,bp.new _ _ _ _ _ rfl,by simpa using r.bb hm,rfl⟩;show⟨⟨a,S.toFR.aK S.toHR b⟩,b⟩
theorem gV{Q:Value→Shared→Prop}{l:List ag}{vs:List Value}(S:a4 G J env ρ j z s)(r:ba ρ s.heap l vs)(p:a3 G J env z ρ s.heap aR (es l j) Q E):vs.length<aP∧∀t,Q (.ref s.heap.objs.size) {s with heap:=s.heap.push {cls:=.type "list",data:=.seq vs.toArray},toks:=t}:=by
 unfold es at p;split at p;·rename_i V;show⟨by rw[r.length];show V,fun t=>?_⟩;show c4 (S.newList r t) fun s5 hm=>?_;show p.cM s5 hm ?_;rw[←S.len];show b' ((s.heap.objs.size,s.heap.objs.size)) (by simp) rfl
 ·show p.elim
theorem xe{Q:Value→Shared→Prop}{l:List ag}{vs:List Value}(S:a4 G J env ρ j z s)(r:ba ρ s.heap l vs)(p:a3 G J env z ρ s.heap aR (.ok (.av l) j) Q E):∀t,Q (.ref s.heap.objs.size) {s with heap:=s.heap.push {cls:=.type "tuple",data:=.seq vs.toArray},toks:=t}:=fun t=>by show c4 (S.push {cls:=.type "tuple",data:=.seq vs.toArray} t) fun s5 hm=>?_;show p.cM s5 hm ?_;show⟨_,vs.toArray,0,rfl,bp.new _ _ _ _ _ rfl,by simpa using r.bb hm⟩
theorem TP{n:Nat}(h:n<2^100):n.log2<9000:=by
 by_cases am:n=0;·subst am;decide
 ·show jV ((Nat.log2_lt am).mpr h) (by decide)
theorem q_{α:Type}{c:Prop}[Decidable c]{x:Option α}{y:α}(h:(if c then x else none)=some y):c∧x=some y:=by
 by_cases Z:c;·show⟨Z,(aF Z).symm.trans h⟩
 ·show nomatch(aM Z).symm.trans h
theorem wW{α:Type}{c:Prop}[Decidable c]{x:Option α}{y:α}(h:(if c then x else none)=some y){re:Prop}(gl:c→x=some y→re):re:=c4 (q_ h) gl
theorem gP{α:Type}{c:Prop}[Decidable c]{x y:α}(h:(if c then some x else none)=some y):c∧x=y:=by
 by_cases Z:c;·rw[aF Z]at h;show⟨Z,bx h⟩
 ·rw[aM Z]at h;show cf h
theorem Sm{op:Operator}{a b i:Int}{t u:Tok}{Q:Value→Shared→Prop}(h:tn op a b=some i)(q:∀t,Q (.int i t) {s with toks:=s.toks+1}):wpAny (model G.prog G.w) A (binaryOp op (.int a t) (.int b u)) Q E s:=by
 cases op with
 |Add=>obtain rfl:_=_:=bx h;show add_int (q _)
 |Sub=>obtain rfl:_=_:=bx h;show sub_int' (q _)
 |Mult=>obtain⟨Z,e⟩:=gP h;subst e;show mul_int (q _) (IntMulOk.of_le (m:=100) (n:=100) (intBits_le_iff.mpr Z.1) (intBits_le_iff.mpr Z.2) (by decide))
 |FloorDiv=>obtain⟨Z,e⟩:=gP h;subst e;show floordiv_int Z.1 (q _) (.inl (PyProof.noPylong_of_log2 (TP Z.2)))
 |Mod=>obtain⟨Z,e⟩:=gP h;subst e;show mod_int' Z.1 (q _)
 |Pow=>obtain⟨Z,e⟩:=gP h;subst e;show pow_int_small Z.1 (by have:=Z.2.1;show ai [[1,0,1]] [_] [_] [.aA (.ax .o .x) (.aA (.ax .x (.k 1000)) (.lt .x (.n 18446744073709551616)))] (.ax .x (.k 1000000)) ah Z) Z.2.2 (q _)
 |BitAnd=>obtain rfl:_=_:=bx h;show and_int (q _)
 |BitOr=>obtain rfl:_=_:=bx h;show or_int (q _)
 |RShift=>obtain⟨Z,e⟩:=gP h;subst e;show rshift_int Z (q _)
 |LShift=>obtain⟨Z,e⟩:=gP h;subst e;show lshift_int_small Z.1 (by have:=Z.2.1;show ai [[1,0,1]] [_] [_] [.aA (.ax .o .x) (.aA (.ax .x (.k 1000)) (.lt .x (.n 18446744073709551616)))] (.ax .x (.k 1000000)) ah Z) Z.2.2 (q _)
 |_=>show cf h
theorem K7{a b:Addr}{l r:List ag}{vs to:Array Value}{n m:Nat}{Q:Value→Shared→Prop}(S:a4 G J env ρ j z s)(ds:bp s.heap a (.type "tuple") none (.seq vs n))(Y:bp s.heap b (.type "tuple") none (.seq to m))(KF:ba ρ s.heap l vs.toList)(Rs:ba ρ s.heap r to.toList)(ik:l.length+r.length<aP)(p:a3 G J env z ρ s.heap aR (.ok (.av (l++r)) j) Q E):wpAny (model G.prog G.w) A (binaryOp .Add (.ref a) (.ref b)) Q E s:=by
 show b6 (id ds) fun co kd=>?_;show b6 (id Y) fun GE ke=>?_;have cd:=KF.length;have ex:=Rs.length;simp only[iM]at cd ex;have Y3:=PySem.noFill_tuple_add;by_cases am:vs.isEmpty=true
 ·have al:vs.toList=[]:=by simpa using am
  show concat_meets ⟨_,kd,rfl⟩ ⟨_,ke,rfl⟩ noFill_tuple_add seq_tuple_add PySem.F.slot_tuple_add PySem.F.entry_tuple_add (PySem.F.args_tuple_add_2 _ _) (tuple_addW0 a b vs to n m none none co GE am) ⟨kd,ke,?_⟩;show p.cM (S.dW _) (aL.refl _ _ _) ?_;rw[al]at KF;have:l=[]:=by cases l with|nil=>rfl|cons x y=>show(match KF with|⟨_,_,aa,_⟩=>nomatch aa)
  subst this;show nU b to m rfl Y (by simpa using Rs)
 ·by_cases I:to.isEmpty=true
  ·have al:to.toList=[]:=by simpa using I
   show concat_meets ⟨_,kd,rfl⟩ ⟨_,ke,rfl⟩ noFill_tuple_add seq_tuple_add PySem.F.slot_tuple_add PySem.F.entry_tuple_add (PySem.F.args_tuple_add_2 _ _) (tuple_addW1 a b vs to n m none none co GE am I) ⟨kd,ke,?_⟩;show p.cM (S.dW _) (aL.refl _ _ _) ?_;rw[al]at Rs;have:r=[]:=by cases r with|nil=>rfl|cons x y=>show(match Rs with|⟨_,_,aa,_⟩=>nomatch aa)
   subst this;show nU a vs n rfl ds (by simpa using KF)
  ·show concat_meets ⟨_,kd,rfl⟩ ⟨_,ke,rfl⟩ noFill_tuple_add seq_tuple_add PySem.F.slot_tuple_add PySem.F.entry_tuple_add (PySem.F.args_tuple_add_2 _ _) (tuple_addW2 a b vs to n m none none co GE am I (by rw[cd,ex];show gb ik)) ⟨kd,ke,?_⟩;have:=xe S (KF.b2 Rs) p s.toks;rw[show(vs.toList++to.toList).toArray=vs++to by simp]at this;show this
theorem K5{a b:Addr}{l r:List ag}{vs to:Array Value}{n m:Nat}{Q:Value→Shared→Prop}(S:a4 G J env ρ j z s)(ds:bp s.heap a (.type "list") none (.seq vs n))(Y:bp s.heap b (.type "list") none (.seq to m))(KF:ba ρ s.heap l vs.toList)(Rs:ba ρ s.heap r to.toList)(p:a3 G J env z ρ s.heap aR (es (l++r) j) Q E):wpAny (model G.prog G.w) A (binaryOp .Add (.ref a) (.ref b)) Q E s:=by show b6 (id ds) fun co kd=>?_;show b6 (id Y) fun GE ke=>?_;obtain⟨V,q⟩:=gV S (KF.b2 Rs) p;show concat_meets ⟨_,kd,rfl⟩ ⟨_,ke,rfl⟩ noFill_list_add seq_list_add PySem.F.slot_list_add PySem.F.entry_list_add (PySem.F.args_list_add_2 _ _) (list_addW a b vs to n m none none co GE (by simp at V;show gb V)) ⟨kd,ke,?_⟩;have:=q s.toks;rw[show(vs.toList++to.toList).toArray=vs++to by simp]at this;show this
theorem mD{α go:Type}{f:α→Option go}{a:α}{l:List α}{r:List go}(h:dz f (a::l)=some r):∃y ys,f a=some y∧dz f l=some ys∧r=y::ys:=(hC.mp h).elim fun y h=>(hC.mp h.2).elim fun ys h'=>⟨y,ys,h.1,h'.1,(bx h'.2).symm⟩
theorem w_{α go:Type}{f:α→Option go}{a:α}{l:List α}{r:List go}(h:dz f (a::l)=some r){re:Prop}(gl:∀y ys,f a=some y→dz f l=some ys→r=y::ys→re):re:=dR (mD h) gl
theorem xt{h:Heap}{f:ag→Option PyData}(ap:∀a v d,aR ρ h a v→f a=some d→∃as,Reads h v d as):∀(l:List ag)(vs:List Value)(wr:List PyData),ba ρ h l vs→dz f l=some wr→∃as,ReadsAll h vs wr as
 |[],_,_,r,h=>by subst r;obtain rfl:=bx h;show⟨_,ReadsAll.nil⟩
 |a::l,_,_,⟨v,GM,e,al,ar⟩,h=>by subst e;show w_ h fun y ys f1 pq e=>?_;subst e;obtain⟨as,KF⟩:=ap a v y al f1;obtain⟨bs,Rs⟩:=xt ap l GM ys ar pq;show⟨_,ReadsAll.cons KF Rs⟩
theorem xr(S:HR G J ρ j s):∀(n:Nat)(a:ag)(v:Value)(d:PyData),aR ρ s.heap a v→c1 j n a=some d→∃as,Reads s.heap v d as:=by
 intro ca;induction ca with
 |zero=>intro sK Ev Da FM h;show cf h
 |succ n ap=>
  intro hg SB j6 r h;cases hg with
  |none=>subst r;cases h;show⟨_,Reads.none⟩
  |bool b=>subst r;cases h;show⟨_,Reads.bool b⟩
  |int b=>obtain⟨t,r⟩:=r;subst r;cases h;show⟨_,Reads.int b t⟩
  |str b=>obtain⟨t,r⟩:=r;subst r;obtain rfl:_=_:=(gP h).2;show⟨_,Reads.str b t⟩
  |av l=>show d5 r fun a vs k r v1 ar=>?_;show b6 v1 fun co io=>?_;subst r;show eF h fun wr h' e=>?_;subst e;obtain⟨as,KF⟩:=xt (ap) l vs.toList wr ar h';show⟨_,Reads.tuple io rfl rfl KF⟩
  |ref k=>show aW r fun p be r=>?_;subst r;show aX fun _ done=>?_;show c5 h fun l V h=>?_;show eF h fun wr h' e=>?_;subst e;show S.w9 (pD V) fun q vs m ne v1 ar _=>?_;obtain⟨co,io⟩:=v1;obtain rfl:=bx (be.symm.trans ne);obtain⟨as,KF⟩:=xt (ap) l vs.toList wr ar h';show done ?_;show⟨_,Reads.list io rfl rfl KF⟩
  |bytes jb=>show cf h
  |fn lQ=>show cf h
  |b0 uB=>show cf h
theorem VM(S:HR G J ρ j s)(n:Nat)(l:List ag)(vs:List Value)(wr:List PyData)(r:ba ρ s.heap l vs)(h:dz (c1 j n) l=some wr):∃as,ReadsAll s.heap vs wr as:=xt (xr S n) l vs wr r h
theorem Mk{b c:Array UInt8}{l m:List Int}(Y:hc b l)(Z:hc c m):(b.toList==c.toList)=(l==m):=by
 unfold hc at Y Z;subst Y Z;have inj:∀x y:List UInt8,x.map (fun u=>(u.toNat:Int))=y.map (fun u=>(u.toNat:Int))→x=y:=by
  intro x;induction x with
  |nil=>intro y h;cases y with|nil=>rfl|cons _ _=>simp at h
  |cons a x ap=>
   intro y h;cases y with
   |nil=>simp at h
   |cons b y=>simp only[List.map_cons,List.cons.injEq]at h;rw[ap y h.2,UInt8.toNat_inj.mp (Int.ofNat_inj.mp h.1)]
 rw[Bool.eq_iff_iff,dw,dw];show⟨fun h=>by rw[h],inj _ _⟩
theorem Fv{P:Prop}{x y:ag}{u v:Value}{b:Bool}(S:HR G J ρ j s)(ii:aR ρ s.heap x u)(Fa:aR ρ s.heap y v)(h:h_ j x y=some b)(k1:∀dQ f' gF pU,u=.bytes dQ f'→v=.bytes gF pU→b=(dQ.toList==gF.toList)→P)(k2:∀d e as bs,Reads s.heap u d as→Reads s.heap v e bs→SeqAt.shaped d=true→SeqAt.shaped e=true→b=PyData.eqv d e→P):P:=by
 have PS:vt j x y=some b→P:=fun h=>(hC.mp h).elim fun d h=>(hC.mp h.2).elim fun e h'=>(xr S _ _ _ _ ii h.1).elim fun as KF=>(xr S _ _ _ _ Fa h'.1).elim fun bs Rs=>k2 d e as bs KF Rs (hD.mp (vO h'.2).1).1 (hD.mp (vO h'.2).1).2 (vO h'.2).2.symm;cases x with
 |bytes a=>show eF h fun c Z e=>?_;show h9 ii fun dQ f' cd I=>?_;show h9 (IX Fa Z) fun gF pU ex O=>?_;show k1 dQ f' gF pU cd ex (e.symm.trans (Mk I O).symm)
 |_=>show PS h
theorem NG(S:HR G J ρ j s){x y:ag}{u v:Value}{b:Bool}{Q:Value→Shared→Prop}(ii:aR ρ s.heap x u)(Fa:aR ρ s.heap y v)(np:A.units+64<cLine)(h:h_ j x y=some b)(q:Q (.bool b) s):wpAny (model G.prog G.w) A (compareOp .Eq u v) Q E s:=Fv S ii Fa h (fun _ _ _ _ cd ex e=>by subst cd ex;show eq_bytes (e▸q)) fun _ _ _ _ KF Rs KK nn e=>eq_dataH KF Rs KK nn np (e▸q)
theorem Uu(S:HR G J ρ j s){x y:ag}{u v:Value}{b:Bool}{Q:Value→Shared→Prop}(ii:aR ρ s.heap x u)(Fa:aR ρ s.heap y v)(np:A.units+64<cLine)(h:h_ j x y=some b)(q:Q (.bool (!b)) s):wpAny (model G.prog G.w) A (compareOp .NotEq u v) Q E s:=Fv S ii Fa h (fun _ _ _ _ cd ex e=>by subst cd ex;rw[e]at q;show ne_bytes q) fun _ _ _ _ KF Rs KK nn e=>ne_dataH KF Rs KK nn np (e▸q)
theorem I2{x:ag}{u:Value}{h:Heap}{c:Bool}(r:aR ρ h x u)(ad:(ri x).map (fun x=>x.isNone)=some c):plainIs u .none=true∧(u==.none)=c:=by
 cases x with
 |b0 b=>show cf ad
 |none=>obtain rfl:_=_:=bx ad;subst r;show⟨rfl,rfl⟩
 |bool b=>obtain rfl:_=_:=bx ad;subst r;show⟨rfl,rfl⟩
 |fn a=>obtain rfl:_=_:=bx ad;subst r;show⟨rfl,rfl⟩
 |int i=>obtain rfl:_=_:=bx ad;obtain⟨t,rfl⟩:=r;show⟨rfl,rfl⟩
 |str i=>obtain rfl:_=_:=bx ad;obtain⟨t,rfl⟩:=r;show⟨rfl,rfl⟩
 |bytes l=>obtain rfl:_=_:=bx ad;obtain⟨b,t,rfl,_⟩:=r;show⟨rfl,rfl⟩
 |av l=>obtain rfl:_=_:=bx ad;obtain⟨a,vs,n,rfl,_⟩:=r;show⟨rfl,rfl⟩
 |ref k=>obtain rfl:_=_:=bx ad;obtain⟨p,_,rfl⟩:=r;show⟨rfl,rfl⟩
theorem zc{f g:ag→Option PyData}(ap:∀a d,f a=some d→g a=some d):∀(l:List ag)(wr:List PyData),dz f l=some wr→dz g l=some wr
 |[],_,h=>h
 |a::l,_,h=>by show w_ h fun y ys f1 pq e=>?_;subst e;show hC.mpr ⟨y,ap a y f1,hC.mpr ⟨ys,zc ap l ys pq,rfl⟩⟩
theorem E8:∀(n:Nat)(a:ag)(d:PyData),c1 [] n a=some d→c1 j n a=some d:=by
 intro ca;induction ca with
 |zero=>intro sK Ev h;show cf h
 |succ n ap=>
  intro Da FM h;cases Da with
  |av l=>show let⟨wr,h,e⟩:=Option.map_eq_some_iff.mp h;Option.map_eq_some_iff.mpr ⟨wr,zc (ap) l wr h,e⟩
  |ref k=>show cf h
  |none=>show h
  |bool T0=>show h
  |int iI=>show h
  |str h2=>show h
  |bytes jb=>show h
  |fn lQ=>show h
  |b0 uB=>show h
theorem M5(n:Nat)(l:List ag)(wr:List PyData)(h:dz (c1 [] n) l=some wr):dz (c1 j n) l=some wr:=zc (E8 n) l wr h
theorem Hi(S:HR G J ρ j s){x:ag}{l:List ag}{u v:Value}{d:PyData}{wr:List PyData}(ii:aR ρ s.heap x u)(Fa:aR ρ s.heap (.av l) v)(np:A.units+64<cLine)(hd:c1 [] 8 x=some d)(sR:dz (c1 [] 8) l=some wr):∃as bs,Reads s.heap u d as∧Reads s.heap v (.tuple wr) bs:=by show b6 (xr S _ _ _ _ ii (E8 _ _ _ hd)) fun as KF=>?_;show d5 Fa fun a vs n cl hZ ar=>?_;subst cl;obtain⟨co,io⟩:=hZ;obtain⟨bs,Rs⟩:=VM S _ _ _ _ ar (M5 _ _ _ sR);show⟨as,bs,KF,Reads.tuple io rfl rfl Rs⟩
theorem Hl(S:HR G J ρ j s){a:Addr}{f:Int→Option Value}(ch:G.a9.IntMap a f):s.heap.IntMap a f:=by show Fj ch fun o bd ww ci r=>?_;show⟨o,bd,ww,S.a9 _ _ ci,r⟩
theorem Hh{x:ag}{l:List ag}{b:Bool}(h:wN x l=some b):∃d wr,c1 [] 8 x=some d∧dz (c1 [] 8) l=some wr∧d.canLay0=true∧PyData.canLayAll0 wr=true∧d.depth=0∧(wr.any fun y=>PyData.eqv y d)=b:=(hC.mp h).elim fun d h=>(hC.mp h.2).elim fun wr h'=>by show qO h'.2 fun Z e=>?_;have Z:=hD.mp Z;have s3:=hD.mp Z.1;show⟨d,wr,h.1,h'.1,s3.1,s3.2,eq_of_beq Z.2,e⟩
theorem Sh(dc:kK G)(S:HR G J ρ j s){x y:ag}{u v:Value}{b:Bool}{Q:Value→Shared→Prop}(ii:aR ρ s.heap x u)(Fa:aR ρ s.heap y v)(np:A.units+64<cLine)(h:tk x y=some b)(q:∀t,Q (.bool b) {s with toks:=t}):wpAny (model G.prog G.w) A (compareOp .In u v) Q E s:=by
 cases y with
 |av l=>show Fi (Hh h) fun d wr hd sR I O bn e=>?_;show h9 (Hi S ii Fa np hd sR) fun as bs KF Rs=>?_;show SeqAt.in_tuple_reads Rs KF O I (by rw[bn,Nat.min_zero];show Nat.lt_trans (Nat.add_lt_add_left (show 1<64 by decide) A.units) np) (e▸q s.toks)
 |fn a=>show c5 h fun i an h=>?_;show eF h fun l V e=>?_;show ks ii an fun t cl=>?_;subst cl;subst Fa;show eA (dc.dict a l V) fun f ch a1 _=>?_;show wpAny_in_intMap (Hl S ch) ((a1 i).trans e▸q _)
 |_=>show cf h
theorem qv(dc:kK G)(S:HR G J ρ j s){op:CmpOp}{x y:ag}{u v:Value}{b:Bool}{Q:Value→Shared→Prop}(ii:aR ρ s.heap x u)(Fa:aR ρ s.heap y v)(np:A.units+64<cLine)(h:cC op x y j=some b)(q:∀t,Q (.bool b) {s with toks:=t}):wpAny (model G.prog G.w) A (compareOp op u v) Q E s:=by
 have m9:∀{f:Int→Int→Bool},tm f x y=some b→∃i af t h1,u=.int i t∧v=.int af h1∧f i af=b:=fun h=>(hC.mp h).elim fun i h=>(Option.map_eq_some_iff.mp h.2).elim fun af h'=>(rx ii h.1).elim fun t im=>(rx Fa h'.1).elim fun h1 tf=>⟨i,af,t,h1,im,tf,h'.2⟩;cases op with
 |Eq=>show NG S ii Fa np h (q s.toks)
 |NotEq=>show eF h fun c Z e=>?_;show Uu S ii Fa np Z (e▸q s.toks)
 |In=>show Sh dc S ii Fa np h q
 |NotIn=>show aX fun _ done=>?_;show c5 h fun l V h=>?_;show eF h fun c Z e=>?_;show Fi (Hh Z) fun d wr hd sR I O bn st=>?_;show h9 (Hi S ii (I1 Fa V) np hd sR) fun as bs KF Rs=>?_;show done ?_;show SeqAt.notIn_tuple_reads Rs KF O I (by rw[bn,Nat.min_zero];show Nat.lt_trans (Nat.add_lt_add_left (show 1<64 by decide) A.units) np) ((congrArg (!·) st).trans e▸q s.toks)
 |Is=>obtain⟨f1,h⟩:=q_ h;rw[tr f1]at Fa;subst Fa;obtain⟨I,O⟩:=I2 ii h;show wpAny_is_plain I (O▸q s.toks)
 |IsNot=>obtain⟨f1,h⟩:=q_ h;rw[tr f1]at Fa;subst Fa;show eF h fun w f0 e=>?_;obtain⟨I,O⟩:=I2 ii (Option.map_eq_some_iff.mpr ⟨w,f0,rfl⟩);show wpAny_isNot_plain I ((congrArg (!·) O).trans e▸q s.toks)
 |Lt=>obtain⟨i,af,t,h1,rfl,rfl,e⟩:=m9 h;show lt_int (e▸q s.toks)
 |LtE=>obtain⟨i,af,t,h1,rfl,rfl,e⟩:=m9 h;show le_int (e▸q s.toks)
 |Gt=>obtain⟨i,af,t,h1,rfl,rfl,e⟩:=m9 h;show gt_int (e▸q s.toks)
 |GtE=>obtain⟨i,af,t,h1,rfl,rfl,e⟩:=m9 h;show ge_int (e▸q s.toks)
end
end
section
section
variable{G:br}{A:Around}{J:List Env}{env:Env}{ρ:aN}{j:ae}{z:aq}{s:Shared}{E:Value→Shared→Prop}
theorem WZ(a b:Str):(a++b).cps.size=a.cps.size+b.cps.size:=by have:=Str.cps_append a b;rw[this,Array.size_append]
theorem K6{a b:Str}{t u:Tok}{Q:Value→Shared→Prop}(ik:a.cps.size+b.cps.size<aP)(q:∀t h1,Q (.str (a++b) t) {s with toks:=h1}):wpAny (model G.prog G.w) A (binaryOp .Add (.str a t) (.str b u)) Q E s:=by
 show PySem.P.add_str ?_;by_cases am:a.length=0
 ·have ds:a=Str.empty:=Str.ext' (by simpa[Str.length,Str.empty]using am);have:(a.length==0)=true:=by rw[am];rfl
  rw[aF this];have e:a++b=b:=by rw[ds];show Str.empty_append b
  have:=q u s.toks;rw[e]at this;show this
 ·have I:¬(a.length==0)=true:=by simpa using am
  rw[aM I];by_cases O:b.length=0
  ·have Y:b=Str.empty:=Str.ext' (by simpa[Str.length,Str.empty]using O);have:(b.length==0)=true:=by rw[O];rfl
   rw[aF this];have e:a++b=a:=by rw[Y];show Str.append_empty a
   have:=q t s.toks;rw[e]at this;show this
  ·have bn:¬(b.length==0)=true:=by simpa using O
   rw[aM bn];show⟨by change(a++b).cps.size≤sizeLine;rw[WZ];show gb ik,q _ _⟩
theorem LZ{op:Operator}{x y:ag}{u v:Value}{Q:Value→Shared→Prop}(S:a4 G J env ρ j z s)(ii:aR ρ s.heap x u)(Fa:aR ρ s.heap y v)(p:a3 G J env z ρ s.heap aR (cj op x y j) Q E):wpAny (model G.prog G.w) A (binaryOp op u v) Q E s:=by
 cases x with
 |int a=>show p.ec fun b Y p=>?_;obtain⟨t,rfl⟩:=ii;show ks Fa Y fun h1 cl=>?_;subst cl;show p.iu fun w f0 p=>?_;show eF f0 fun i an e=>?_;show Sm an fun t=>p.cM (S.dW _) (aL.refl _ _ _) (e▸iB)
 |str a=>show p.ec fun b Y p=>?_;obtain⟨t,rfl⟩:=ii;obtain⟨h1,rfl⟩:=VS Fa Y;obtain⟨⟨rfl,h⟩,On⟩:=p.ite;show K6 h fun t h1=>On.cM (S.dW _) (aL.refl _ _ _) t8
 |av a=>show p.ec fun b Y p=>?_;show d5 ii fun aj vs n cl ds KF=>?_;subst cl;show d5 (I1 Fa Y) fun ao to m cl Y Rs=>?_;subst cl;show p.eD fun v1 On=>?_;obtain⟨rfl,h⟩:=v1;show K7 S ds Y KF Rs h On
 |ref a=>show p.ec fun r ar p=>?_;show p.ec fun l V p=>?_;obtain⟨rfl,On⟩:=p.ite;show n2 S.toHR ii V fun aj vs n cl ds KF=>?_;subst cl;show n2 S.toHR Fa ar fun ao to m cl Y Rs=>?_;subst cl;show K5 S ds Y KF Rs On
 |_=>show p.elim
theorem xQ{jN:Expr}(h:∀a b c p,jN≠.Slice a b c p)(o i:Value):subscripted jN false o i=operate [o,i] (getItem o i):=by cases jN<;>first|rfl|show absurd rfl (h _ _ _ _)
theorem Wb(i:Int)(n:Nat):i_ i n=seqIndex? i n:=by
 unfold i_ seqIndex?;by_cases am:0≤i
 ·have I:¬i<0:=by show yi am
  simp only[am,if_true,I,if_false];by_cases O:i<n;·simp[O]
  ·simp[O]
 ·have I:i<0:=by show uR am
  simp only[am,if_false,I,if_true];by_cases O:0≤i+n
  ·have:i+n<n:=by show ai [[1,1]] [_] [_] [.aK (.ax .o .x)] (.au (.a .x (.c .x)) (.c .x)) ah am
   simp[O,this]
  ·simp[O]
theorem Wa{i:Int}{n af:Nat}(h:i_ i n=some af):-(n:Int)≤i∧i<n:=by
 unfold i_ at h;split at h
 ·split at h;·show ai [[1,0,1],[1,1]] [_] [_] [.ax .o .x,.au .x (.c .x)] (.aA (.ax (.g (.c .x)) .x) (.au .x (.c .x))) ah (by assumption) (by assumption)
  ·cases h
 ·split at h;·show ai [[1,1],[1,0,1]] [_] [_] [.aK (.ax .o .x),.ax .o (.a .x (.c .x))] (.aA (.ax (.g (.c .x)) .x) (.au .x (.c .x))) ah (by assumption) (by assumption)
  ·cases h
section
variable{value jN:Expr}{v:Value}{w:ag}{Q:Value→Shared→Prop}
theorem xP(a1:∀a b c p,jN≠.Slice a b c p){l:List ag}{i:Int}{t:Tok}{a:Addr}{vs:Array Value}{n:Nat}(io:bp s.heap a (.type "tuple") none (.seq vs n))(ar:ba ρ s.heap l vs.toList)(h:n7 l i=some w)(q:∀r t,aR ρ s.heap w r→Q r {s with toks:=t}):wpAny (model G.prog G.w) A (subscriptTail value jN (.ref a) (.int i t)) Q E s:=by
 show wW h fun V h=>?_;show c5 h fun af dl ad=>?_;show aW (ar.get ad) fun aa lm xD=>?_;have cd:=ar.length;have Qu:=Wa dl;rw[Wb]at dl;rw[iM]at cd;have Y:-(2^63)≤i∧i<2^63:=by show ai [[1,1,0,1],[1,0,1,1]] [_] [_] [.lt .x .L,.aA (.ax (.g (.c .x)) .x) (.au .x (.c .x))] (.aA (.ax .E .x) (.au .x .D)) ah V Qu
 show tail_any (px io).typeIs slot_tuple_getitem.lookup (getItem_tuple (px io) Y.1 Y.2 (cd.symm▸dl) (Array.getElem?_toList.symm.trans lm) (q aa s.toks xD)) (xQ a1 _ _)
theorem W2(a1:∀a b c p,jN≠.Slice a b c p){l:List Int}{i:Int}{t pT:Tok}{b:Array UInt8}(Y:hc b l)(h:(if 0≤i∧l.length<aP then(l[i.toNat]?).map ag.int else none)=some w)(q:∀r t,aR ρ s.heap w r→Q r {s with toks:=t}):wpAny (model G.prog G.w) A (subscriptTail value jN (.bytes b pT) (.int i t)) Q E s:=by
 show wW h fun V h=>?_;show eF h fun aa lm e=>?_;clear h;subst e;have nb:b.toList.length=l.length:=by unfold hc at Y;rw[←Y,bD]
 show b6 (c7.mp lm) fun ml kf=>?_;have m0:i.toNat<b.toList.length:=nb.symm▸ml;have R':((b.toList.getD i.toNat 0).toNat:Int)=aa:=by unfold hc at Y;rw[←Y,eQ]at lm;show eF lm fun y f1 e=>?_;rw[List.getD_eq_getElem?_getD,f1];show e
 have key:=getItem_bytes (prog:=G.prog) (w:=G.w) (A:=A) (E:=E) (s:=s) (t:=pT) (u:=t) (l:=b.toList) (i:=i) (Q:=Q) (by show ai [[1,0,1,1]] [_,_] [_] [.eq .x .y,.aA (.ax .o .x) (.lt .y .L)] (.le .x (.n 1099511627776)) ah nb V) V.1 (by show ai [[1,0,0,1,1,0,1],[1,1,0,0,1,0,1]] [_,_,_] [_] [.eq .x .y,.lt .aa .y,.cz .aa .x] (.au .x (.c .x)) ah nb ml (cS _)) (by rw[R'];show q _ _ iB);show tail_any (typeIs_bytes s b pT) FB.slot_bytes_getitem.lookup key (xQ a1 _ _)
theorem W3(a1:∀a b c p,jN≠.Slice a b c p){l:List ag}{i:Int}{t:Tok}{a:Addr}{vs:Array Value}{n:Nat}(io:bp s.heap a (.type "list") none (.seq vs n))(ar:ba ρ s.heap l vs.toList)(h:n7 l i=some w)(q:∀r t,aR ρ s.heap w r→Q r {s with toks:=t}):wpAny (model G.prog G.w) A (subscriptTail value jN (.ref a) (.int i t)) Q E s:=by
 show wW h fun V h=>?_;show c5 h fun af dl ad=>?_;show aW (ar.get ad) fun aa lm xD=>?_;have cd:=ar.length;rw[iM]at cd;have wI:vs[af]?=some aa:=Array.getElem?_toList.symm.trans lm;show tail_any (hq io).typeIs slot_list_getitem.lookup ?_ (xQ a1 _ _);unfold i_ at dl;by_cases am:0≤i;·rw[aF am]at dl;obtain⟨I,dl⟩:=gP dl;cases dl;show wpAny_getItem_list (hq io) am (by show ai [[1,1,1]] [_] [_] [.lt .x .L,.au .x (.c .x)] (.au .x .D) ah V I) wI (q aa s.toks xD)
 ·rw[aM am]at dl;obtain⟨I,dl⟩:=gP dl;cases dl;show wpAny_getItem_list_neg (hq io) (by show uR am) (by show ai [[1,1,0,1]] [_,_] [_] [.eq .x .y,.ax .o (.a .x (.c .y))] (.ax (.g (.c .x)) .x) ah cd I) (by show ai [[1,1,1]] [_] [_] [.lt .x .L,.ax .o (.a .x (.c .x))] (.ax .E .x) ah V I) (cd.symm▸wI) (q aa s.toks xD)
theorem W6(dc:kK G)(a1:∀a b c p,jN≠.Slice a b c p){x y:ag}{u:Value}(S:a4 G J env ρ j z s)(ii:aR ρ s.heap x u)(Fa:aR ρ s.heap y v)(h:dj j x y=some w)(q:∀r t,aR ρ s.heap w r→Q r {s with toks:=t}):wpAny (model G.prog G.w) A (subscriptTail value jN u v) Q E s:=by
 show c5 h fun i an h=>?_;show ks Fa an fun t cl=>?_;subst cl;cases x with
 |av l=>obtain⟨a,vs,n,rfl,io,ar⟩:=ii;show xP a1 io ar h q
 |bytes l=>obtain⟨b,pT,rfl,Y⟩:=ii;show W2 a1 Y h q
 |ref k=>show c5 h fun l V h=>?_;show n2 S.toHR ii V fun a vs n cl io ar=>?_;subst cl;show W3 a1 io ar h q
 |fn a=>subst ii;show c5 h fun l V h=>?_;show c5 h fun o ci h=>?_;show eF h fun x ad e=>?_;clear Fa h;show aX fun _ done=>?_;subst e;show eA (dc.dict a l V) fun f ch _ al=>?_;obtain⟨h1,tf⟩:=al i x (ci.trans (congrArg some (Hp ad)));have Gb:=Hl S.toHR ch;show done ?_;show tail_any Gb.typeIs slot_dict_getitem.lookup (wpAny_getItem_intMap Gb tf (q _ _ t8)) (xQ a1 _ _)
 |_=>show cf h
end
theorem Ji{value:Expr}{Jg Jh:Option Expr}{g4:Pos}{x i af:ag}{u pY pZ:Value}{Q:Value→Shared→Prop}(S:a4 G J env ρ j z s)(ii:aR ρ s.heap x u)(pO:aR ρ s.heap i pY)(t_:aR ρ s.heap af pZ)(p:a3 G J env z ρ s.heap aR (i' x i af j) Q E):wpAny (model G.prog G.w) A (subscriptTail value (.Slice Jg Jh none g4) u (.ref s.heap.objs.size)) Q E {s with heap:=s.heap.push {cls:=.type "slice",data:=.fields #[pY,pZ,.none]}}:=by
 have hf:=S.push {cls:=.type "slice",data:=.fields #[pY,pZ,.none]} s.toks;have s5:=hf.1;have hm:=hf.2;have fb:=Heap.IsSliceOf.new s.heap pY pZ .none;have jp:=p.eY hm;have Bf:∀o:Value,subscripted (.Slice Jg Jh none g4) false o (.ref s.heap.objs.size)=operate [.ref s.heap.objs.size,o] (getItem o (.ref s.heap.objs.size)):=fun _=>rfl;generalize xz:({s with heap:=s.heap.push {cls:=.type "slice",data:=.fields #[pY,pZ,.none]}}:Shared)=nn;have kW:s.heap.push {cls:=.type "slice",data:=.fields #[pY,pZ,.none]}=nn.heap:=congrArg Shared.heap xz;have hS:({s with heap:=s.heap.push {cls:=.type "slice",data:=.fields #[pY,pZ,.none]},toks:=s.toks}:Shared)=nn:=xz;rw[hS]at s5;rw[kW]at hm fb jp;clear xz hS hf p;generalize s.heap.objs.size=b at*;cases x with
 |av l=>
  show jp.ec fun i3 an jp=>?_;show jp.eD fun v1 On=>?_;obtain⟨dl,Z⟩:=v1;show d5 ii fun a vs n cl io ar=>?_;subst cl;show ks pO an fun t cl=>?_;subst cl;rw[tr dl]at t_;show aX fun _ done=>?_;subst t_;have F6:=hm.av _ _ _ io;have cd:=ar.length;rw[iM]at cd;have em:i3=(i3.toNat:Int):=by show ai [[1,0,1],[0,1,0,0,1],[1,0,0,1],[0,1,0,0,1]] [_,_,_] [_] [.aA (.ax .l .x) (.aA (.ax .x (.c .y)) (.lt .y .aa)),.cz .x .x] (.a8 .x (.c .x)) ah Z (cS _)
  clear jp;show done ?_;generalize i3.toNat=m at On em;clear an dl io pO kW;subst em;have gp:=xe s5 ((ar.drop m).bb hm) On nn.toks;show tail_any (px F6).typeIs slot_tuple_getitem.lookup (getItem_tuple_from (px F6) fb (by show ai [[1,1]] [_,_,_] [] [.aA (.ax .l (.c .x)) (.aA (.ax (.c .x) (.c .y)) (.lt .y .aa))] (.le .l .x) ah Z) (by show ai [[1,0,1,0,0,1]] [_,_,_,_] [] [.eq .y .aa,.aA (.ax .l (.c .x)) (.aA (.ax (.c .x) (.c .aa)) (.lt .aa .w))] (.le .x .y) ah cd Z) gp (by rw[cd];show gb Z.2.2)) (Bf _)
 |ref k=>
  show jp.ec fun l V jp=>?_;show n2 s5.toHR (ii.bb hm) V fun a vs n cl io ar=>?_;subst cl;have cd:=ar.length;rw[iM]at cd;clear kW V ii;cases i with
  |int i3=>
   show jp.eD fun v1 On=>?_;obtain⟨dl,Z⟩:=v1;show b6 pO fun t cl=>?_;subst cl;rw[tr dl]at t_;subst t_;have em:i3=(i3.toNat:Int):=by show ai [[1,0,1],[1,0,1,0,1],[1,0,0,1],[1,1]] [_,_,_] [_] [.aA (.ax .o .x) (.lt .y .aa),.cz .x .x] (.a8 .x (.c .x)) ah Z (cS _)
   clear jp;generalize i3.toNat=m at On em;cases em;have gp:=(gV s5 (ar.drop m) On).2 nn.toks;rw[←slicePick_from']at gp;show tail_any (hq io).typeIs slot_list_getitem.lookup (wpAny_getItem_list_slice (hq io) fb (.int _ _) .none .none (by intro e;cases e) gp (by rw[cd];show gb Z.2)) (Bf _)
  |none=>
   show a3.ec (x:=isInt af) jp fun i3 an jp=>?_;show jp.eD fun Z On=>?_;show ks t_ an fun t cl=>?_;subst cl;cases pO;have em:i3=(i3.toNat:Int):=by show ai [[1,0,1],[1,0,1,0,1],[1,0,0,1],[1,1]] [_,_,_] [_] [.aA (.ax .o .x) (.lt .y .aa),.cz .x .x] (.a8 .x (.c .x)) ah Z (cS _)
   clear jp;generalize i3.toNat=m at On em;subst em;have gp:=(gV s5 (ar.take m) On).2 nn.toks;rw[←slicePick_upto']at gp;show tail_any (hq io).typeIs slot_list_getitem.lookup (wpAny_getItem_list_slice (hq io) fb .none (.int _ _) .none (by intro e;cases e) gp (by rw[cd];show gb Z.2)) (Bf _)
  |_=>show jp.elim
 |_=>show jp.elim
end
end
section
open Builtin Builtin.ObjectAttr
noncomputable def YQ(C:Addr):Bool:=C==e4||C==bE||C==dy||C==fR
theorem FZ:Slot "Exception" "__getattribute__" "BaseException.__getattribute__":=.of (owner:="BaseException") (n:="__getattribute__") (by rw[iP,iN];kernel_rfl) (by decide+kernel) (by decide+kernel) (by decide+kernel) (by first|show .inl (by decide+kernel)|show .inr (by decide+kernel)) (by rw[isSubtype_type];kernel_rfl)
section
variable{prog:Program}{w:World}{A:Around}{E:Value→Shared→Prop}{s:Shared}{K:Frag}{x C:Addr}{jK:Obj}{od:Option Obj}{name:Str}{v:Value}
theorem FC(X:K.In s.heap){M:Model}(aJ:InstAt s.heap x jK C od){l:List Value}(ac:(clsIn K C).map (·.mro)=some l)(V:l.isEmpty=false){b:Value}(Y:l.contains b=true):Looks M s.heap (isInstance (.ref x) b) true:=by show eF ac fun Id Z cl=>?_;subst cl;show aJ.type.andThen (looks_mroIn X (by unfold mroIn;rw[Z,Option.bind_some,aM (by rw[V];decide),Y]))
theorem NM{bB:Bool}{Q:Value→Shared→Prop}(X:K.In s.heap)(aJ:InstAt s.heap x jK C od)(pp:findIn K (.ref C) "__getattribute__"=some (some (.builtin "BaseException.__getattribute__")))(bi:findIn K (.ref C) "__getattr__"=some none){l:List Value}(ac:(clsIn K C).map (·.mro)=some l)(V:l.isEmpty=false)(Y:l.contains (.type "BaseException")=true)(ch:findObj K C od name=some (.value v))(it:handedIn v=true)(h:Q v {s with toks:=s.toks+1}):wpAny (model prog w) A (getAttr (.ref x) name bB) Q E s:=by
 obtain⟨YC,g,d,t,os⟩:=s;have S:=FC X (M:=model prog w) aJ ac V Y;have gD:=aJ.type (M:=model prog w);have Ku:=looks_findIn (M:=model prog w) X pp;have DX:=looks_findIn (M:=model prog w) X bi;have p_:=looks_find (M:=model prog w) X aJ ch;unfold getAttr getAttrBy;show aU (wpAny_mkText (wpAny_holding (aU (gD.at (aU (Ku.at ?_))))));dsimp only;have BH:(Value.builtin "BaseException.__getattribute__"==Value.builtin "object.__getattribute__")=false:=by decide+kernel
 have R6:(onTheHeap (Value.ref C)&&Value.builtin "BaseException.__getattribute__"==Value.builtin "object.__getattribute__")=false:=by rw[BH];rfl
 rw[R6];simp only[gy,if_false];unfold getAttrByItsOwn;show aU (DX.at (aU ?_));show wpAny_attempt ?_;show wpAny_holding ?_;have R5:(bB&&onTheHeap (Value.builtin "BaseException.__getattribute__"))=false:=by cases bB<;>rfl
 unfold callGetattribute boundAndCalled;rw[R5];dsimp only[gy,if_false];rw[FZ.bind (.ref x)];show aU (bz (wpAny_call (codeAny_call_builtin FZ.plain F.entry_bexc_ga ?_)));show check_slot (i:="BaseException.__getattribute__") (owner:="BaseException") (n:="__getattribute__") (by decide+kernel) (by decide+kernel) S (F.args_bexc_ga _ _) ?_;show(?_:wpAny _ _ (Builtin.«object.__getattribute__» ⟨[.ref x,.str name t],[]⟩) _ _ _);unfold Builtin.«object.__getattribute__»;show aU (bz (aU (bz (aU (gD.at (aU (p_.at (bz ?_))))))));show(?_:wpAny _ _ (handedOut v) _ _ _);rw[handedOut_of it];show bz h
theorem It{R:Result→Shared→Prop}{Do:Tok}(X:K.In s.heap)(aJ:InstAt s.heap x jK C od){Id:ClassData}(Z:clsIn K C=some Id)(ci:∀self,refuseLoop self "__setattr__" Id.mro=pure ())(V:Id.mro.isEmpty=false)(Y:Id.mro.contains (.type "object")=true)(ds:findIn K (.ref C) name=some none)(h:wpAny (model prog w) A.in1 (storeInOwnDict (.ref x) (.ref C) (.str name Do) name v false) (fun v4 s'=>match v4 with|.done f=>R (.ok f) s'|.again h0=>h0.quiet=true∧codeAny (model prog w) A h0 R s') (fun e s'=>R (.error e) s') s):codeAny (model prog w) A (.call (.builtin "object.__setattr__") ⟨[.ref x,.str name Do,v],[]⟩) R s:=by have r3:=PySem.F.store_object;have sub:Looks (model prog w) s.heap (isInstance (.ref x) (.type "object")) true:=FC X aJ (by rw[Z];rfl) V Y;show codeAny_call_builtin r3.slot.plain r3.entry (@check_slot (model prog w) _ _ s "object.__setattr__" "object" "__setattr__" (.ref x) [.str name Do,v] [] _ r3.kind r3.split sub (r3.args (.ref x) (.str name Do) v) ?_);have ac:Looks (model prog w) s.heap (mroOf (.ref C)) Id.mro:=(looks_clsIn X Z).andThen .now;have p_:Looks (model prog w) s.heap (storeTaker? none) none:=.now;rw[osa_eq,refuse_eq];show aU (aU (aJ.type.here (aU (ac.here ?_))));rw[ci];show bz (aU (aJ.type.here (aU ((looks_findIn X ds).here (aU (p_.here ?_))))));show h
theorem Jy{Do:Tok}{Q:Fin→Shared→Prop}{wS:Addr}{o':Obj}{bd:Array DictEntry}{n:Nat}(D:s.heap.get? wS=some o')(hd:o'.data=.dict bd n)(ar:(bd.any (·.refKey))=false)(lm:bd.size≤1000)(fN:(s.heap.update wS (Obj.putName name (PyData.keyHash w.params name) (.str name s.toks) v)).get? wS=some (Obj.putName name (PyData.keyHash w.params name) (.str name s.toks) v o'))(q:Q (.done (.ret .none)) {s with heap:=s.heap.update wS (Obj.putName name (PyData.keyHash w.params name) (.str name s.toks) v),toks:=s.toks+1}):wpAny (model prog w) A (storeInDict wS (.str name Do) name v) Q E s:=by
 show aU (bz (aU ?_));unfold nsSet;show aU (aU (wpAny_askSetting (bz (aU (wpAny_mkText (aU (wpAny_loadPart D ?_)))))));rw[hd];dsimp only;rw[aRefKeyMayBeTheName_at,ar,Bool.and_false];show wpAny_updatePart D ?_;show aU (wpAny_lookBehind fN ?_ ?_)
 ·obtain⟨dZ,fu,h7,qp⟩:=o';dsimp only at hd;clear q D fN;subst hd;rw[Obj.putName_eq];unfold Obj.putNameByArray;dsimp only;split;·show pastItsLine_dict (by rw[Array.size_modify,sizeLine_eq];show ai [[1,1]] [_] [] [.le .x .R] (.le .x (.a (.n 16777216) .l)) ah lm)
  ·show pastItsLine_dict (by rw[Array.size_push,sizeLine_eq];show ai [[1,1]] [_] [] [.le .x .R] (.le (.a .x .l) (.a (.n 16777216) .l)) ah lm)
 ·show bz q
theorem U'{Do:Tok}{Q:Fin→Shared→Prop}{wS:Addr}(X:K.In s.heap)(ad:s.heap.get? x=some jK)(At:jK.cls=.ref C)(it:hasDictIn K C=true)(nD:jK.dict=some wS)(h:wpAny (model prog w) A (storeInDict wS (.str name Do) name v) Q E s):wpAny (model prog w) A (storeInOwnDict (.ref x) (.ref C) (.str name Do) name v false) Q E s:=by show aX fun _ done=>?_;obtain⟨mG,UZ,Iq,pH⟩:=jK;dsimp only at At nD;subst At nD;show aW (any_some it) fun Id Z o4=>?_;show done ?_;show aU (bz (aU (aU (wpAny_loadPart ad (aU ((looks_clsIn X Z).here ?_))))));rw[o4];show bz (a:=some wS) h
theorem U_{Do:Tok}{Q:Fin→Shared→Prop}(X:K.In s.heap)(ad:s.heap.get? x=some jK)(At:jK.cls=.ref C)(KB:notCls jK=true)(it:hasDictIn K C=true)(nD:jK.dict=none)(h:wpAny (model prog w) A (storeInDict s.heap.objs.size (.str name Do) name v) Q E {s with heap:=(s.heap.push emptyDict).update x fun o=>{o with dict:=some s.heap.objs.size}}):wpAny (model prog w) A (storeInOwnDict (.ref x) (.ref C) (.str name Do) name v false) Q E s:=by show aX fun _ done=>?_;obtain⟨mG,UZ,Iq,pH⟩:=jK;dsimp only at At nD;subst At nD;show aW (any_some it) fun Id Z o4=>?_;show done ?_;show aU (bz (aU (aU (wpAny_loadPart ad (aU ((looks_clsIn X Z).here ?_))))));rw[o4];dsimp only;rw[aM (by decide),aM (by simp[typeHasDict])];have pn:=eH emptyDict ad;clear ad Id Z o4;cases Iq<;>first|(cases KB;done)|show aU (wpAny_alloc (aU (wpAny_update pn (bz (a:=some s.heap.objs.size) h))))
end
end
section
open Builtin Builtin.ObjectAttr
section
variable{G:br}{A:Around}{J:List Env}{env:Env}{ρ:aN}{j:ae}{z:aq}{s:Shared}{E:Value→Shared→Prop}
theorem HR.change(S:HR G J ρ j s){h':Heap}{k:Nat}{o o':aI}{p jp:Addr×Addr}{t:Nat}(Fk:j[k]?=some o)(ip:ρ[k]?=some p)(mu:jp.1=p.1)(mv:jp.2=p.1∨jp.2=p.2∨s.heap.get? jp.2=none)(wE:∀ln,s.heap.get? p.1=some ln→∃iy,h'.get? p.1=some iy∧iy.cls=ln.cls)(un:∀ln,s.heap.get? p.2=some ln→∃iy,h'.get? p.2=some iy∧iy.cls=ln.cls)(ak:∀b ln,b≠p.1→b≠p.2→s.heap.get? b=some ln→h'.get? b=some ln)(ij:aL b4 ρ s.heap (ρ.set k jp) h'→fs (ρ.set k jp) h' jp o'):HR G J (ρ.set k jp) (j.set k o') {s with heap:=h',toks:=t}∧aL b4 ρ s.heap (ρ.set k jp) h':=by
 have mJ:=nZ ip;have m0:k<ρ.length:=(c7.mp ip).1;have F9:∀b c d g1,bp s.heap b c d g1→¬cg ρ b→bp h' b c d g1:=fun b c d g1 y ci=>let⟨co,e⟩:=y;⟨co,ak b _ (fun q=>ci (q▸mJ.1)) (fun q=>ci (q▸mJ.2)) e⟩;have k9:∀b o,s.heap.get? b=some o→∃o',h'.get? b=some o'∧o'.cls=o.cls:=by
  intro b ln e;by_cases cd:b=p.1;·subst cd;show wE ln e
  ·by_cases ex:b=p.2;·subst ex;show un ln e
   ·show b' ln (ak b ln cd ex e) rfl
 have cc:∀b,s.heap.get? b≠none→h'.get? b≠none:=by
  intro b Y;cases e:s.heap.get? b with
  |none=>show absurd e Y
  |some ln=>obtain⟨o',st,_⟩:=k9 b ln e;rw[st];show fun aa=>ns aa
 have X:aL b4 ρ s.heap (ρ.set k jp) h':=⟨fun af q h=>by
  by_cases e:af=k;·clear Fk ij;subst e;rw[ip]at h;obtain rfl:=bx h;show b' jp (by rw[kE m0]) mu
  ·show⟨q,by rw[eP (Ne.symm e)];show h,rfl⟩,fun b _ Y=>cc b Y,fun b o _ e=>k9 b o e,fun b q=>by
  show aW q fun q ne e=>?_;clear un ij m0 k9 cc;rcases List.mem_or_eq_of_mem_set ne with ne|rfl
  ·show .inl ⟨q,ne,e⟩
  ·rcases e with rfl|rfl
   ·rw[mu];show .inl mJ.1
   ·rcases mv with e|e|e
    ·rw[e];show .inl mJ.1
    ·rw[e];show .inl mJ.2
    ·show .inr ⟨e,fun f=>f⟩,fun b c d g1 y _ ci _=>F9 b c d g1 y ci,fun b o e _ _ ci _=>ak b o (fun q=>ci (q▸mJ.1)) (fun q=>ci (q▸mJ.2)) e,fun b vs n y=>F9 _ _ _ _ y (S.tM y)⟩
 show⟨S.step (s':={s with heap:=h',toks:=t}) X (fun _ _ _ _ f=>f) (fun b ln e=>?_) rfl rfl (by simp[S.len]) (fun af x q I O=>?_) ?_,X⟩
 ·show ak b _ (fun q=>?_) (fun q=>?_) (S.a9 b ln e);·have:=S.jr _ mJ.1;rw[←q,e]at this;cases this
  ·have:=S.jr _ mJ.2;rw[←q,e]at this;cases this
 ·by_cases dl:af=k;·clear ip;subst dl;rw[kE (c7.mp Fk).1]at I;rw[kE m0]at O;obtain rfl:=bx I;obtain rfl:=bx O;show ij X
  ·rw[eP (Ne.symm dl)]at I O;show(S.objs af x q I O).ext X fun b c d g1 e y=>?_;have D:=zk S.hj O ip dl;obtain⟨co,st⟩:=y;show⟨co,ak b _ ?_ ?_ st⟩
   ·rcases e with rfl|rfl
    ·show D.1
    ·show D.2.2.1
   ·rcases e with rfl|rfl
    ·show D.2.1
    ·show D.2.2.2
 ·show List.pairwise_iff_getElem.mpr fun i af an dl v'=>?_;rw[List.length_set]at an dl;have FG:∀q,∀i,i≠k→ρ[i]?=some q→q.1≠jp.1∧q.1≠jp.2∧q.2≠jp.1∧q.2≠jp.2:=by
   intro q i QX ne;have D:=zk S.hj ne ip QX;have tP:=S.mI (nZ ne).1;have UW:=S.mI (nZ ne).2;rw[mu];show HY D.1 ?_ D.2.2.1 ?_
   ·rcases mv with e|e|e
    ·rw[e];show D.1
    ·rw[e];show D.2.1
    ·show fun aa=>tP (aa▸e)
   ·rcases mv with e|e|e
    ·rw[e];show D.2.2.1
    ·rw[e];show D.2.2.2
    ·show fun aa=>UW (aa▸e)
  simp only[List.getElem_set];by_cases cd:k=i
  ·subst cd;have li:¬k=af:=by show yd v'
   simp only[if_true,li,if_false];have:=FG ρ[af] af (Ne.symm li) (gx dl);show HY this.1.symm this.2.2.1.symm this.2.1.symm this.2.2.2.symm
  ·by_cases ex:k=af;·subst ex;simp only[cd,if_false,if_true];show FG ρ[i] i (Ne.symm cd) (gx an)
   ·simp only[cd,ex,if_false];show List.pairwise_iff_getElem.mp S.hj i af an dl v'
theorem a4.change(S:a4 G J env ρ j z s){h':Heap}{k:Nat}{o o':aI}{p jp:Addr×Addr}{t:Nat}(Fk:j[k]?=some o)(ip:ρ[k]?=some p)(mu:jp.1=p.1)(mv:jp.2=p.1∨jp.2=p.2∨s.heap.get? jp.2=none)(wE:∀ln,s.heap.get? p.1=some ln→∃iy,h'.get? p.1=some iy∧iy.cls=ln.cls)(un:∀ln,s.heap.get? p.2=some ln→∃iy,h'.get? p.2=some iy∧iy.cls=ln.cls)(ak:∀b ln,b≠p.1→b≠p.2→s.heap.get? b=some ln→h'.get? b=some ln)(ij:aL b4 ρ s.heap (ρ.set k jp) h'→fs (ρ.set k jp) h' jp o'):a4 G J env (ρ.set k jp) (j.set k o') z {s with heap:=h',toks:=t}∧aL b4 ρ s.heap (ρ.set k jp) h':=by show c4 (S.toHR.change (t:=t) Fk ip mu mv wE un ak ij) fun a b=>?_;show⟨⟨a,S.toFR.aK S.toHR b⟩,b⟩
theorem HR.gX(S:HR G J ρ j s){k:Nat}{o:aI}(ak:j[k]?=some o):∃p,ρ[k]?=some p∧fs ρ s.heap p o:=by
 have m0:k<ρ.length:=by rw[S.len];show(c7.mp ak).1
 have be:ρ[k]?=some ρ[k]:=gx m0;show⟨_,be,S.objs k _ _ ak be⟩
theorem N9{f g:c8}(h:f.str=g.str):f=g:=by cases f<;>cases g<;>first|rfl|(exfalso;revert h;decide)
theorem Ho{f g:c8}{t:Tok}:(Value.str f.str t).isStr g.str=decide (f=g):=by
 change(f.str==g.str)=_;by_cases h:f=g;·subst h;simp
 ·have:f.str≠g.str:=fun e=>h (N9 e);simp[h,this]
theorem d3.cons{h:Heap}{f:c8}{v:ag}{dL:c9}{e:DictEntry}{bd:List DictEntry}(ak:∃t,e.key=.str f.str t)(al:aR ρ h v e.val)(ar:d3 ρ h dL bd):d3 ρ h ((f,v)::dL) (e::bd):=Exists.intro e (Exists.intro bd ⟨rfl,ak,al,ar⟩)
theorem d3.Ih{h:Heap}:∀{dL:c9}{bd:List DictEntry},d3 ρ h dL bd→bd.any (·.refKey)=false:=by
 intro ca;induction ca with
 |nil=>intro _ r;subst r;rfl
 |cons t1 x6 ap=>
  intro _ r;show iV r fun e SZ cl hZ _ ar=>?_;subst cl;obtain⟨t,ak⟩:=hZ;have I:e.refKey=false:=by unfold DictEntry.refKey;rw[ak]
  show(congr (congrArg or I) (ap ar))
theorem d3.length{h:Heap}:∀{dL:c9}{bd:List DictEntry},d3 ρ h dL bd→bd.length=dL.length:=by
 intro ca;induction ca with
 |nil=>intro _ r;subst r;rfl
 |cons t1 x6 ap=>intro _ r;show iV r fun e SZ cl _ _ ar=>?_;subst cl;show congrArg (·+1) (ap ar)
theorem d3.get{h:Heap}{f:c8}:∀{dL:c9}{bd:List DictEntry},d3 ρ h dL bd→∀{v:ag},qI dL f=some v→∃e,bd.find? (·.key.isStr f.str)=some e∧aR ρ h v e.val:=by
 intro ca;induction ca with
 |nil=>intro _ _ _ h;show cf h
 |cons t1 gp ap=>
  obtain⟨g,u⟩:=t1;intro _ r v h;show iV r fun e SZ cl hZ al ar=>?_;subst cl;obtain⟨t,ak⟩:=hZ;rw[List.find?_cons,ak,Ho];by_cases q:g=f;·obtain rfl:=bx ((aF q).symm.trans h);rw[cF q];show b' e rfl al
  ·rw[cE q];show ap ar ((aM q).symm.trans h)
theorem d3.Ul{h:Heap}{n:Str}(bi:∀f:c8,f.str≠n):∀{dL:c9}{bd:List DictEntry},d3 ρ h dL bd→bd.find? (·.key.isStr n)=none:=by
 intro ca;induction ca with
 |nil=>intro _ r;subst r;rfl
 |cons t1 gp ap=>obtain⟨g,u⟩:=t1;intro _ r;show iV r fun e SZ cl hZ al ar=>?_;subst cl;obtain⟨t,ak⟩:=hZ;rw[List.find?_cons,ak,show(Value.str g.str t).isStr n=false from g8.mpr (bi g)];show ap ar
theorem d3.ko{h:Heap}{f:c8}{v:ag}{u key:Value}{nL:Int}(np:aR ρ h v u)(Q7:∃t,key=.str f.str t):∀{dL:c9}{bd:List DictEntry},d3 ρ h dL bd→d3 ρ h (kp dL f v) (putL f.str nL key u bd):=by
 intro ca;induction ca with
 |nil=>intro _ r;subst r;show d3.cons Q7 np rfl
 |cons t1 gp ap=>
  obtain⟨g,w⟩:=t1;intro _ r;show iV r fun e SZ cl hZ al ar=>?_;subst cl;obtain⟨t,ak⟩:=hZ;show(?_:d3 ρ h (if g=f then _ else _) (if e.key.isStr f.str=true then _ else _));rw[ak,Ho];by_cases q:g=f;·rw[aF q,aF (cF q)];show d3.cons ⟨t,q▸rfl⟩ np ar
  ·rw[aM q,aM (fun aa=>q (of_decide_eq_true aa))];show d3.cons ⟨t,ak⟩ al (ap ar)
theorem Qq{h:Heap}{w v:ag}{u:Value}(r:aR ρ h w u)(Y:ri w=some v):handedIn u=true∧w=v:=by
 cases w with
 |b0 b=>show cf Y
 |none=>subst r;show⟨rfl,bx Y⟩
 |bool b=>subst r;show⟨rfl,bx Y⟩
 |fn a=>subst r;show⟨rfl,bx Y⟩
 |int i=>obtain⟨t,rfl⟩:=r;show⟨rfl,bx Y⟩
 |str i=>obtain⟨t,rfl⟩:=r;show⟨rfl,bx Y⟩
 |bytes l=>obtain⟨b,t,rfl,_⟩:=r;show⟨rfl,bx Y⟩
 |av l=>obtain⟨a,vs,n,rfl,_⟩:=r;show⟨rfl,bx Y⟩
 |ref k=>obtain⟨p,_,rfl⟩:=r;show⟨rfl,bx Y⟩
theorem N5{K:Frag}{C:Addr}{od:Obj}{f:c8}{h:Heap}{dL:c9}{bd:Array DictEntry}{n:Nat}{v:ag}(it:hasDictIn K C=true)(ds:findIn K (.ref C) f.str=some none)(hd:od.data=.dict bd n)(r:d3 ρ h dL bd.toList)(pp:qI dL f=some v):∃u,findObj K C (some od) f.str=some (.value u)∧aR ρ h v u:=by show aW (r.get pp) fun e ge al=>?_;show b' e.val (findObj_own it ds rfl ?_) al;unfold lookIn;rw[hd];dsimp only;rw[ge]
theorem UX{h:Heap}{p:Addr×Addr}{o:aI}{dL:c9}{f:c8}{v:ag}(r:fs ρ h p o)(e:vJ o=some dL)(pp:qI dL f=some v):∃C g1,bp h p.1 (.ref C) (some p.2) g1∧kI ρ h p.2 dL∧(cZ C=true∨cD C=true)∧∀c d co,notCls ⟨c,d,g1,co⟩=true:=by
 cases o with
 |b_ C Az=>obtain⟨Z,e⟩:=gP e;cases e;show nT C _ r.1 r.2 (.inl Z) (fun _ _ _=>rfl)
 |a6 C Az=>
  obtain⟨Z,e⟩:=gP e;cases e;rcases r with⟨vs,a,_,b⟩|⟨e,_⟩
  ·show⟨C,_,a,b,.inr Z,fun _ _ _=>rfl⟩
  ·rw[e]at pp;show cf pp
 |cX C Az=>
  obtain⟨Z,e⟩:=gP e;cases e;rcases r with⟨vs,a,_,b⟩|⟨e,_⟩
  ·show⟨C,_,a,b,.inr Z,fun _ _ _=>rfl⟩
  ·rw[e]at pp;show cf pp
 |_=>show cf e
theorem CN{C:Addr}(h:cZ C=true∨cD C=true):(cZ C||cD C)=true:=Bool.or_eq_true_iff.mpr h
theorem Ll(C:G.b8)(cv:jY G.K){x:ag}{u:Value}{f:c8}{v:ag}{bB:Bool}{Q:Value→Shared→Prop}(S:a4 G J env ρ j z s)(ii:aR ρ s.heap x u)(h:c' j x f=some v)(q:∀r t,aR ρ s.heap v r→Q r {s with toks:=t}):wpAny (model G.prog G.w) A (getAttr u f.str bB) Q E s:=by
 show c5 h fun k ak h=>?_;have X:G.K.In s.heap:=C.fq.keeps S.a9;show t7 ii ak fun p be cl=>?_;subst cl;show aX fun _ done=>?_;show c5 h fun o ci h=>?_;show c5 h fun dL ch h=>?_;show c5 h fun w pp Y=>?_;show iV (UX (S.objs k _ p ci be) ch pp) fun lf g1 v1 hZ Z bi=>?_;show b6 v1 fun co a=>?_;show h9 hZ fun bd n v1 v0=>?_;show b6 v1 fun GE b=>?_;have aJ:InstAt s.heap p.1 ⟨.ref lf,some p.2,g1,co⟩ lf (some ⟨.type "dict",none,.dict bd n,GE⟩):=⟨a,rfl,bi _ _ _,b⟩;have i0:=CN Z;show aW (N5 (od:=⟨.type "dict",none,.dict bd n,GE⟩) (cv.m9 _ i0).1 (cv.Av _ f i0) rfl v0 pp) fun u I O=>?_;obtain⟨it,e⟩:=Qq O Y;clear pp Y;cases e;show done ?_;rcases Z with an|an
 ·show get_value X aJ (cv.b_ _ an).1.1 I it (q _ _ O)
 ·show Nw (cv.a6 _ an) fun k1 k2 k3 _=>?_;show NM X aJ k1 k2 k3 rfl (by simp) I it (q _ _ O)
theorem IK(name:Str)(nL:Int)(key v:Value)(c:Value)(d:Option Addr)(bd:Array DictEntry)(n:Nat)(co:Array (Option Value)):∃SZ lz,Obj.putName name nL key v ⟨c,d,.dict bd n,co⟩=⟨c,d,.dict SZ lz,co⟩∧SZ.toList=putL name nL key v bd.toList:=by
 rw[Obj.putName_eq];unfold Obj.putNameByArray;have I:=putL_find name nL key v bd.toList;have e:bd.findIdx? (fun x=>x.key.isStr name)=bd.toList.findIdx? (fun x=>x.key.isStr name):=by rw[←List.findIdx?_toArray]
 dsimp only;rw[e];cases h:List.findIdx? (fun x=>x.key.isStr name) bd.toList with
 |none=>rw[h]at I;show Uo _ _ rfl (by rw[←I];simp)
 |some i=>rw[h]at I;show⟨_,_,rfl,by rw[←I];simp⟩
def Kh(K:Frag)(C:Addr):Prop:=∃Id,clsIn K C=some Id∧(∀self,refuseLoop self "__setattr__" Id.mro=pure ())∧Id.mro.isEmpty=false∧Id.mro.contains (.type "object")=true
theorem E1(cv:jY G.K){C:Addr}(h:cZ C=true∨cD C=true):Kh G.K C:=by
 show Or.elim h (fun an=>?_) fun an=>?_;·obtain⟨Id,Z,ci⟩:=any_some (cv.b_ _ an).2.1;show⟨Id,Z,fun self=>refuse_only self ci,by cases q:Id.mro with|nil=>rw[q]at ci;cases ci|cons _ _=>rfl,only_has ci⟩
 ·obtain⟨Id,Z,ac⟩:=Option.map_eq_some_iff.mp (cv.a6 _ an).2.2.1;show⟨Id,Z,fun self=>by rw[ac,refuseLoop_ref,refuseLoop_ref];show PySem.F.store_Exception.passes self,ac▸rfl,ac▸(by simp)⟩
section
variable{v:ag}{hz:Value}{f:c8}{dL:c9}{k:Nat}{p:Addr×Addr}{o o':aI}{lf:Addr}{g1:Data}{co:Array (Option Value)}{Q:Unit→Shared→Prop}
theorem Jc(cv:jY G.K)(X:G.K.In s.heap)(S:a4 G J env ρ j z s)(Fk:j[k]?=some o)(be:ρ[k]?=some p)(Z:cZ lf=true∨cD lf=true)(a:s.heap.get? p.1=some ⟨.ref lf,some p.2,g1,co⟩)(Tk:kI ρ s.heap p.2 dL)(bi:∀c d co,notCls ⟨c,d,g1,co⟩=true)(sB:aR ρ s.heap v hz)(nb:dL.length<10)(ij:∀bm h',bp h' p.1 (.ref lf) (some p.2) g1→kI bm h' p.2 (kp dL f v)→fs bm h' p o')(q:∀bm s',a4 G J env bm (j.set k o') z s'→aL b4 ρ s.heap bm s'.heap→Q () s'):wpAny (model G.prog G.w) A (setAttr (.ref p.1) f.str hz) Q E s:=by
 show aX fun _ done=>?_;show h9 Tk fun bd n v1 v0=>?_;show b6 v1 fun GE b=>?_;show h9 (IK f.str (PyData.keyHash G.w.params f.str) (.str f.str (s.toks+1)) hz (.type "dict") none bd n GE) fun SZ lz cd ex=>?_;have i0:=CN Z;have hd:=cv.m9 _ i0;show oM (E1 cv Z) fun Id I O bn lc=>?_;have aJ:InstAt s.heap p.1 ⟨.ref lf,some p.2,g1,co⟩ lf (some ⟨.type "dict",none,.dict bd n,GE⟩):=⟨a,rfl,bi _ _ _,b⟩;have li:p.1≠p.2:=fun e=>by rw[←e,a]at b;cases b
 show done ?_;show set_plain (s:=s) X aJ hd.2.1 (It (s:={s with toks:=s.toks+1}) X aJ I O bn lc (cv.Av _ f i0) (U' (s:={s with toks:=s.toks+1}) X a rfl hd.1 rfl ?_));have fN:(s.heap.update p.2 (Obj.putName f.str (PyData.keyHash G.w.params f.str) (.str f.str (s.toks+1)) hz)).get? p.2=some (Obj.putName f.str (PyData.keyHash G.w.params f.str) (.str f.str (s.toks+1)) hz ⟨.type "dict",none,.dict bd n,GE⟩):=jX _ b (by rw[cd];rfl);have keep:∀b ln,b≠p.2→s.heap.get? b=some ln→(s.heap.update p.2 (Obj.putName f.str (PyData.keyHash G.w.params f.str) (.str f.str (s.toks+1)) hz)).get? b=some ln:=fun b ln h e=>(Heap.get?_update_ne _ _ _ _ h).trans e;show Jy (s:={s with toks:=s.toks+1}) b rfl (by rw[←Array.any_toList];show v0.Ih) (by have:=v0.length;rw[iM]at this;show ai [[1,1,0,1]] [_,_] [] [.lt .y .W,.eq .x .y] (.le .x .R) ah nb this) fN ?_;rw[cd]at fN;generalize s.heap.update p.2 _=h' at fN keep⊢;have hf:=(S.dW (s.toks+1)).change (h':=h') (o':=o') (jp:=p) (t:=s.toks+1+1) Fk be rfl (.inr (.inl rfl)) (fun ln e=>⟨ln,keep _ _ li e,rfl⟩) (fun ln e=>⟨_,fN,by cases b.symm.trans e;rfl⟩) (fun b ln _ O e=>keep b ln O e) (fun X=>ij _ _ ⟨co,keep _ _ li a⟩ ⟨SZ,lz,⟨GE,fN⟩,ex▸(d3.ko sB ⟨_,rfl⟩ v0).bb X⟩);show q _ _ hf.1 hf.2
theorem Wj{vs:Array Value}(cv:jY G.K)(X:G.K.In s.heap)(S:a4 G J env ρ j z s)(Fk:j[k]?=some o)(be:ρ[k]?=some p)(jz:p.2=p.1)(Z:cZ lf=true∨cD lf=true)(a:s.heap.get? p.1=some ⟨.ref lf,none,.fields vs,co⟩)(sB:aR ρ s.heap v hz)(ij:∀bm h' d,bp h' p.1 (.ref lf) (some d) (.fields vs)→kI bm h' d (kp [] f v)→fs bm h' (p.1,d) o')(q:∀bm s',a4 G J env bm (j.set k o') z s'→aL b4 ρ s.heap bm s'.heap→Q () s'):wpAny (model G.prog G.w) A (setAttr (.ref p.1) f.str hz) Q E s:=by show h9 (IK f.str (PyData.keyHash G.w.params f.str) (.str f.str (s.toks+1)) hz (.type "dict") none #[] 0 #[]) fun SZ lz cd ex=>?_;have i0:=CN Z;have hd:=cv.m9 _ i0;show oM (E1 cv Z) fun Id I O bn lc=>?_;have aJ:InstAt s.heap p.1 ⟨.ref lf,none,.fields vs,co⟩ lf none:=⟨a,rfl,rfl,trivial⟩;have li:p.1≠s.heap.objs.size:=Nat.ne_of_lt (Heap.lt_size a);show set_plain (s:=s) X aJ hd.2.1 (It (s:={s with toks:=s.toks+1}) X aJ I O bn lc (cv.Av _ f i0) (U_ (s:={s with toks:=s.toks+1}) X a rfl rfl hd.1 rfl ?_));have ao:((s.heap.push emptyDict).update p.1 fun o=>{o with dict:=some s.heap.objs.size}).get? p.1=some ⟨.ref lf,some s.heap.objs.size,.fields vs,co⟩:=jX _ (eH _ a) rfl;have gF:((s.heap.push emptyDict).update p.1 fun o=>{o with dict:=some s.heap.objs.size}).get? s.heap.objs.size=some emptyDict:=(Heap.get?_update_ne _ _ _ _ li.symm).trans (iO _ rfl);have k2:∀b ln,b≠p.1→s.heap.get? b=some ln→((s.heap.push emptyDict).update p.1 fun o=>{o with dict:=some s.heap.objs.size}).get? b=some ln:=fun b ln h e=>(Heap.get?_update_ne _ _ _ _ h).trans (eH _ e);have ik:∀b ln,s.heap.get? b=some ln→b≠s.heap.objs.size:=fun b ln e=>Nat.ne_of_lt (Heap.lt_size e);have KB:=fH s.heap;show(?_:wpAny _ _ _ _ _ (⟨(s.heap.push emptyDict).update p.1 fun o=>{o with dict:=some s.heap.objs.size},s.gens,s.drawn,s.toks+1,s.os⟩:Shared));show(?_:wpAny _ _ (storeInDict s.heap.objs.size _ _ _) _ _ _);generalize(s.heap.push emptyDict).update p.1 _=O at ao gF k2⊢;generalize s.heap.objs.size=d at*;have fN:(O.update d (Obj.putName f.str (PyData.keyHash G.w.params f.str) (.str f.str (s.toks+1)) hz)).get? d=some (Obj.putName f.str (PyData.keyHash G.w.params f.str) (.str f.str (s.toks+1)) hz ⟨.type "dict",none,.dict #[] 0,#[]⟩):=jX _ gF (by rw[cd];rfl);have keep:∀b ln,b≠d→O.get? b=some ln→(O.update d (Obj.putName f.str (PyData.keyHash G.w.params f.str) (.str f.str (s.toks+1)) hz)).get? b=some ln:=fun b ln h e=>(Heap.get?_update_ne _ _ _ _ h).trans e;show Jy (s:=⟨O,s.gens,s.drawn,s.toks+1,s.os⟩) gF rfl (by simp) (e0 _) fN ?_;rw[cd]at fN;show(?_:Q () (⟨O.update d (Obj.putName f.str (PyData.keyHash G.w.params f.str) (.str f.str (s.toks+1)) hz),s.gens,s.drawn,s.toks+1+1,s.os⟩:Shared));generalize O.update d _=h' at fN keep⊢;have hf:=(S.dW (s.toks+1)).change (h':=h') (o':=o') (jp:=(p.1,d)) (t:=s.toks+1+1) Fk be rfl (.inr (.inr KB)) (fun ln e=>⟨_,keep _ _ li ao,by cases a.symm.trans e;rfl⟩) (fun ln e=>by rw[jz]at e⊢;show⟨_,keep _ _ li ao,by cases a.symm.trans e;rfl⟩) (fun b ln I _ e=>keep _ _ (ik b ln e) (k2 _ _ I e)) (fun X=>ij _ _ d ⟨co,keep _ _ li ao⟩ ⟨SZ,lz,⟨#[],fN⟩,ex▸d3.ko (sB.bb X) ⟨_,rfl⟩ (show d3 _ _ [] []from rfl)⟩);show q _ _ hf.1 hf.2
end
theorem Wk(C:G.b8)(cv:jY G.K){x v:ag}{u hz:Value}{f:c8}{H:ae}{Q:Unit→Shared→Prop}(S:a4 G J env ρ j z s)(ii:aR ρ s.heap x u)(sB:aR ρ s.heap v hz)(h:pK j x f v=some H)(q:∀bm s',a4 G J env bm H z s'→aL b4 ρ s.heap bm s'.heap→Q () s'):wpAny (model G.prog G.w) A (setAttr u f.str hz) Q E s:=by
 show c5 h fun k ak h=>?_;have X:G.K.In s.heap:=C.fq.keeps S.a9;show t7 ii ak fun p be cl=>?_;subst cl;show aX fun _ done=>?_;show c5 h fun o ci h=>?_;show eF h fun o' nG e=>?_;subst e;have R:=S.objs k _ p ci be;show done ?_;cases o with
 |b_ lf dL=>show qO nG fun v1 e=>?_;obtain⟨Z,V⟩:=v1;subst e;obtain⟨⟨co,a⟩,Tk⟩:=R;show Jc (o':=.b_ lf (kp dL f v)) cv X S ci be (.inl Z) a Tk (fun _ _ _=>rfl) sB V (fun _ _ a b=>And.intro a b) q
 |a6 lf dL=>
  show qO nG fun v1 e=>?_;obtain⟨Z,V⟩:=v1;subst e;clear ii nG h;rcases R with⟨vs,⟨co,a⟩,lm,Tk⟩|⟨rfl,jz,vs,⟨co,a⟩,lm⟩
  ·show Jc (o':=.a6 lf (kp dL f v)) cv X S ci be (.inr Z) a Tk (fun _ _ _=>rfl) sB V (fun _ _ a b=>Or.inl ⟨vs,a,lm,b⟩) q
  ·show Wj (o':=.a6 lf (kp [] f v)) cv X S ci be jz (.inr Z) a sB (fun _ _ _ a b=>Or.inl ⟨vs,a,lm,b⟩) q
 |_=>show cf nG
end
end
section
open Builtin
section
variable{G:br}{P:aY}{A:Around}{J:List Env}{env:Env}{ρ:aN}{j:ae}{z:aq}{s:Shared}{E:Value→Shared→Prop}{Q:Value→Shared→Prop}
theorem Sq{v:ag}{b:Bool}(h:wQ v=some b):v=.bool b:=by cases v<;>first|show congrArg ag.bool (bx h)|show cf h
theorem Ss{v:ag}{i:Int}(h:tp v=some i):v=.int i∧0≤i∧i<256:=by
 cases v with
 |int af=>show⟨congrArg ag.int (gP h).2,(gP h).2▸(gP h).1⟩
 |_=>show cf h
theorem L8{h:Heap}:∀{l:List ag}{vs:List Value}{bs:List Bool},ba ρ h l vs→dz wQ l=some bs→LSm.BoolsAre vs bs:=by
 intro ca;induction ca with
 |nil=>intro _ _ r e;subst r;cases e;show .nil
 |cons a l ap=>rintro _ _ ⟨v,GM,cd,al,ar⟩ e;subst cd;show w_ e fun y ys f1 pq e=>?_;subst e;have KE:=Sq f1;clear f1 e;obtain rfl:=KE;subst al;show .cons _ (ap ar pq)
theorem So{h:Heap}:∀{l:List ag}{vs:List Value}{bs:List Int},ba ρ h l vs→dz tp l=some bs→IntsAre vs bs∧∀n∈bs,0≤n∧n<256:=by
 intro ca;induction ca with
 |nil=>intro _ _ r e;subst r;cases e;show⟨.nil,fun _ h=>nm h⟩
 |cons a l ap=>rintro _ _ ⟨v,GM,cd,al,ar⟩ e;subst cd;show w_ e fun y ys f1 pq e=>?_;subst e;obtain⟨f1,Y⟩:=Ss f1;subst f1;obtain⟨t,rfl⟩:=al;obtain⟨I,O⟩:=ap ar pq;show⟨.cons _ t I,fun n bi=>(ep.mp bi).elim (fun e=>e▸Y) (O n)⟩
theorem I3{h:Heap}:∀{vs:List Value}{ns:List Int},IntsAre vs ns→ba ρ h (ns.map .int) vs
 |_,_,.nil=>ba.nil
 |_,_,.cons _ _ r=>ba.cons iB (I3 r)
theorem Mj{ns:List Int}(h:∀n∈ns,0≤n∧n<256):hc (byteArr ns) ns:=by
 unfold hc byteArr;induction ns with
 |nil=>rfl
 |cons n ns ap=>
  have I:=h n (dF ..);have O:=ap fun m ac=>h m (dE _ ac);simp only[List.toList_toArray,List.map_cons,List.map_map]at O⊢;rw[O];congr 1;have:n.toNat.toUInt8.toNat=n.toNat:=by rw[Nat.toUInt8,UInt8.toNat_ofNat'];show Nat.mod_eq_of_lt ((Int.toNat_lt I.1).mpr I.2)
  rw[this];show ai [[1,0,0,1],[1,1],[1,0,1],[1,0,1,0,1]] [_] [_] [.aA (.ax .o .x) (.au .x .F),.cz .x .x] (.a8 (.c .x) .x) ah I (cS _)
theorem r_{b:Array UInt8}{l:List Int}(Y:hc b l):b.size=l.length:=by unfold hc at Y;rw[←Y];simp
theorem lF{h:Heap}{l:List ag}{vs:Array Value}(ar:ba ρ h l vs.toList):vs.size=l.length:=iM.symm.trans ar.length
section
variable{v:ag}{u:Value}
theorem Ls(hd:P.hd=true→A.handled=none)(S:a4 G J env ρ j z s)(r:aR ρ s.heap v u)(p:a3 G J env z ρ s.heap aR (Ep P v j) Q E):aD (model G.prog G.w) A (call gA.any.val [u]) Q E s:=by
 show aX fun _ done=>?_;show p.eD fun it p=>?_;show p.iu fun w f0 p=>?_;show eF f0 fun bs oZ e=>?_;clear f0;subst e;show c5 oZ fun l V oZ=>?_;show n2 S.toHR r V fun a vs n cl io ar=>?_;subst cl;have m0:=io.lt;have Tm:=L8 ar oZ;have Ty:=hq io;show done ?_;show bk (call_any_walk (wpAny_pyIter_list Ty ?_));show⟨s.heap.objs.size,[s.heap.objs.size,a],[s.heap.objs.size],vs.size,_,_,fun i=>(bs[i]?).getD false,rfl,Walks.list (A:=A.in1) (hd it) _ a (Nat.ne_of_lt m0) vs,⟨⟨_,iO _ rfl,rfl,rfl⟩,Ty.push _⟩,fun i v s' sp p7 iY Ix=>?_,fun h' Do ak=>?_⟩;·show aW (Tm.get i v (Array.getElem?_toList.trans iY)) fun b e cl=>?_;subst cl;have Ix:sp ((bs[i]?).getD false) s':=Ix;rw[e]at Ix;show wpAny_truthy_bool Ix
 ·have e:((List.range vs.size).any fun i=>(bs[i]?).getD false)=bs.any id:=by have:=Tm.length;rw[iM]at this;rw[this];show LSm.range_any bs
  rw[e];have hf:=S.dv (LSm.kept_iter ak) Do;show p.cM hf.1 hf.2 n3
theorem Lz(S:a4 G J env ρ j z s)(r:aR ρ s.heap v u)(p:a3 G J env z ρ s.heap aR (Ey v j) Q E):aD (model G.prog G.w) A (call gA.str.val [u]) Q E s:=by
 show p.ec fun i an p=>?_;show p.eD fun Z p=>?_;show ks r an fun t cl=>?_;subst cl;show bk (PySem.P.str_of_int ?_ (p.cM (S.dW _) (aL.refl _ _ _) t8));by_cases am:i.natAbs=0;·rw[am];decide
 ·show jV ((Nat.log2_lt am).mpr (show i.natAbs<2^60 by show ai [[1,0,1,0,0,1],[1,0,1,0,1]] [_] [_] [.aA (.au (.af 99999999) .x) (.au .x (.k 100000000000)),.ab .x .x] (.lt .x (.n 1152921504606846976)) ah Z (uI _))) (by decide)
theorem Lw(S:a4 G J env ρ j z s)(r:aR ρ s.heap v u)(p:a3 G J env z ρ s.heap aR (Eu v j) Q E):aD (model G.prog G.w) A (call gA.len.val [u]) Q E s:=by
 cases v with
 |av l=>obtain⟨Z,p⟩:=p.ite;show d5 r fun a vs n cl io ar=>?_;subst cl;have e:=lF ar;show bk (PyProof.Rows.len_tuple (px io) (by show ai [[1,1,1]] [_,_] [] [.eq .x .y,.lt .y .L] (.au (.c .x) .D) ah e Z) ?_);rw[e];show p.cM (S.dW _) (aL.refl _ _ _) iB
 |ref k=>show p.ec fun l V p=>?_;show p.eD fun Z p=>?_;show n2 S.toHR r V fun a vs n cl io ar=>?_;subst cl;have e:=lF ar;show bk (call_len_list (hq io) (by show ai [[1,1,1]] [_,_] [] [.eq .x .y,.lt .y .L] (.au (.c .x) .D) ah e Z) ?_);rw[e];show p.cM (S.dW _) (aL.refl _ _ _) iB
 |bytes l=>obtain⟨Z,p⟩:=p.ite;show h9 r fun b t cl Y=>?_;subst cl;have e:=r_ Y;show bk (len_bytes (by show ai [[1,1,1]] [_,_] [] [.eq .x .y,.lt .y .L] (.le .x (.n 1099511627776)) ah e Z) ?_);rw[e];show p.cM (S.dW _) (aL.refl _ _ _) iB
 |_=>show p.elim
theorem LA(S:a4 G J env ρ j z s)(r:aR ρ s.heap v u)(p:a3 G J env z ρ s.heap aR (Ez v j) Q E):aD (model G.prog G.w) A (call gA.tuple.val [u]) Q E s:=by show p.ec fun l V p=>?_;show p.eD fun Z p=>?_;show n2 S.toHR r V fun a vs n cl io ar=>?_;subst cl;show bk (call_tuple_list (hq io) (fun h' k=>?_) (by rw[lF ar];show gb Z));have hf:=S.dv k s.toks;show xe hf.1 (ar.bb hf.2) (p.eY hf.2) s.toks
theorem Lv(hd:P.hd=true→A.handled=none)(S:a4 G J env ρ j z s)(r:aR ρ s.heap v u)(p:a3 G J env z ρ s.heap aR (Es P v j) Q E):aD (model G.prog G.w) A (call gA.bytes.val [u]) Q E s:=by
 show p.ec fun o ci p=>?_;show c5 ci fun k ak ci=>?_;show t7 r ak fun Go jz cl=>?_;subst cl;have R:=S.objs k o Go ci jz;cases o with
 |list l=>obtain⟨Z,p⟩:=p.ite;show aX fun _ done=>?_;obtain⟨vs,n,io,ar,_⟩:=R;show p.iu fun w f0 p=>?_;show eF f0 fun bs oZ e=>?_;clear ci right f0;subst e;obtain⟨I,O⟩:=So ar oZ;show done ?_;show bk (call_bytes_ints (vs:=vs.toList) (hq io) I O (by rw[ar.length];show gb Z.2) (hd Z.1) fun h' t Do ak=>?_);have hf:=S.dv ak Do;show p.cM hf.1 hf.2 (Exists.intro _ ⟨t,rfl,Mj O⟩)
 |bS l=>obtain⟨Z,p⟩:=p.ite;show eA R fun b v1 Y _=>?_;show b6 v1 fun co io=>?_;show bk (MB io (by rw[r_ Y];show gb Z) fun t Do=>?_);show p.cM (S.dW Do) (aL.refl _ _ _) (Exists.intro b ⟨t,rfl,Y⟩)
 |_=>show p.elim
theorem Ib{h':Heap}{o:aI}(S:a4 G J env ρ j z s)(ak:∀b o,s.heap.get? b=some o→h'.get? b=some o)(bi:∀bm,aL b4 ρ s.heap bm h'→fs bm h' (s.heap.objs.size,s.heap.objs.size) o)(p:a3 G J env z ρ s.heap aR (.ok (.ref j.length) (j++[o])) Q E):Q (.ref s.heap.objs.size) {s with heap:=h'}:=by have hf:=S.toHR.xd (s':={s with heap:=h'}) (o:=o) (p:=(s.heap.objs.size,s.heap.objs.size)) (aL.dv ρ ak) (fH _) (fH _) (fun b o e=>ak b o (S.a9 b o e)) rfl rfl (fun _ _ _ _ _ y=>y.keeps ak) fun bm _ X=>bi bm X;show p.cM ⟨hf.1,S.toFR.aK S.toHR hf.2⟩ hf.2 (Exists.intro (s.heap.objs.size,s.heap.objs.size) ⟨?_,rfl⟩);rw[←S.len,og (cm _),Nat.sub_self];rfl
theorem Lu(pp:A.guards=some [])(S:a4 G J env ρ j z s)(p:a3 G J env z ρ s.heap aR (.ok (.ref j.length) (j++[.bS []])) Q E):aD (model G.prog G.w) A (call gA.bytearray.val []) Q E s:=by
 show MA pp fun h' kW=>?_;have aE:(s.heap.push {cls:=.type "bytearray",data:=.bytearray #[]}).get? s.heap.objs.size=some ⟨.type "bytearray",none,.bytearray #[] 0,#[]⟩:=iO _ rfl;have aj:h'.get? s.heap.objs.size=some ⟨.type "bytearray",none,.bytearray #[] 0,#[]⟩:=by rw[kW];show jX _ aE rfl
 show Ib (o:=.bS []) S (fun b o e=>by rw[kW];show(Heap.get?_update_ne _ _ _ _ (Nat.ne_of_lt (Heap.lt_size e))).trans (eH _ e)) (fun bm _=>Exists.intro #[] ⟨⟨_,aj⟩,rfl,rfl⟩) p
theorem Ly{xs:List ag}{ls:List Value}(hd:P.hd=true→A.handled=none)(S:a4 G J env ρ j z s)(ii:ba ρ s.heap xs ls)(p:a3 G J env z ρ s.heap aR (Ex P xs j) Q E):aD (model G.prog G.w) A (call gA.min.val ls) Q E s:=by
 cases xs with
 |nil=>show p.elim
 |cons x r=>
  show aX fun _ done=>?_;show p.ec fun a ds p=>?_;show p.ec fun b Y p=>?_;show p.eD fun it p=>?_;show c5 Y fun y f1 Y=>?_;obtain⟨v,GM,rfl,sB,ii⟩:=ii;show pM ii f1 fun u cl rz=>?_;subst cl;show ks sB ds fun t cl=>?_;subst cl;have KE:=rx rz Y;clear Y rz ii sB;obtain⟨h1,rfl⟩:=KE;show done ?_;show bk (min_two_ints (hd it) fun h' Do ak=>?_);have hf:=S.dv ak Do;by_cases q:b<a;·rw[aF q]at p⊢;show p.cM hf.1 hf.2 iB
  ·rw[aM q]at p⊢;show p.cM hf.1 hf.2 iB
theorem Lx(C:G.b8)(mw:P.sa=G.sa)(fD:P.ns=G.ns)(S:a4 G J env ρ j z s)(r:aR ρ s.heap v u)(p:a3 G J env z ρ s.heap aR (Ew P v j) Q E):aD (model G.prog G.w) A (call gA.list.val [u]) Q E s:=by show p.ec fun a ds p=>?_;show p.eD fun e On=>?_;clear p;have e:=e.trans mw;obtain rfl:=VO r ds;clear p ds r;subst e;rw[fD]at On;have kn:=(a3.ite On).2;show aX fun _ done=>?_;show aW C.mQ fun vs V an=>?_;obtain⟨o,ci,Z,n,QI⟩:=V.at fun o e=>S.a9 _ o e;show done ?_;show bk (call_list_seq G.sa (.inl rfl) ci Z QI (fun h' h0 ak bi=>?_) (by rw[List.size_toArray,an.length];show gb C.N1));show Ib (o:=.list (G.ns.map .int)) S ak (fun bm _=>Exists.intro vs.toArray (Exists.intro h0 ⟨⟨_,bi⟩,I3 an,rfl⟩)) kn
end
theorem Mw(C:G.b8)(hd:P.hd=true→A.handled=none)(pp:A.guards=some [])(mw:P.sa=G.sa)(fD:P.ns=G.ns){b:gA}{xs:List ag}{ls:List Value}(S:a4 G J env ρ j z s)(ii:ba ρ s.heap xs ls)(p:a3 G J env z ρ s.heap aR (cY P b xs j) Q E):aD (model G.prog G.w) A (call b.val ls) Q E s:=by
 have de:∀{f:ag→aG ag}{w:Value},a3 G J env z ρ s.heap aR (bL (f5 xs) f) Q E→(∀v u,aR ρ s.heap v u→a3 G J env z ρ s.heap aR (f v) Q E→aD (model G.prog G.w) A (call w [u]) Q E s)→aD (model G.prog G.w) A (call w ls) Q E s:=fun p k=>p.bL.elim fun v al=>(IZ ii al.1).elim fun u np=>np.1▸k v u np.2 al.2;cases b with
 |any=>show de p fun v u r p=>Ls hd S r p
 |str=>show de p fun v u r p=>Lz S r p
 |len=>show de p fun v u r p=>Lw S r p
 |tuple=>show de p fun v u r p=>LA S r p
 |bytes=>show de p fun v u r p=>Lv hd S r p
 |bytearray=>
  show p.eD fun e p=>?_;clear mw fD de;cases xs with
  |cons _ _=>show fy e
  |nil=>subst ii;show Lu pp S p
 |min=>show Ly hd S ii p
 |list=>show de p fun v u r p=>Lx C mw fD S r p
end
end
section
open Builtin
section
variable{M:Model}{A:Around}{E:Value→Shared→Prop}{s:Shared}{env:Env}
theorem Js{Q:List Value→Shared→Prop}(h:Q [] s):aD M A (spliced []) Q E s:=bw h
theorem Jr{x:Sem Value}{bh:List (Bool×Sem Value)}{Q:List Value→Shared→Prop}(h:aD M A x (fun v a2=>aD M A (spliced bh) (fun vs lo=>Q (v::vs) lo) E a2) E s):aD M A (spliced ((false,x)::bh)) Q E s:=by rw[spliced];show aB (en h (fun v a2 s4=>?_) fun _ _ x=>x);dsimp only[gy,if_false];show aB (bw (aB (cp (en s4 (fun vs lo XL=>bw XL) fun _ _ x=>x))))
theorem NJ{f:Value}{l:List (Bool×Sem Value)}{Q:Args→Shared→Prop}(V:l.any (·.1)=false)(h:aD M A (spliced l) (fun vs s'=>Q ⟨vs,[]⟩ s') E s):aD M A (evalArgs f true l []) Q E s:=by
 have v4:∀vs s',Q ⟨vs,[]⟩ s'→aD M A (holding (vs++(none:Option Value).toList) (evalAll []>>=fun r=>pure vs>>=fun x=>pure (⟨x,[]⟩:Args))) Q E s':=fun vs s' h'=>cp (aB (bw (aB (bw (bw h')))));unfold evalArgs;cases l with
 |nil=>show(?_:aD M A (spliced []>>=_) Q E s);show aB (en h (fun vs s' h'=>aB (bw (v4 vs s' h'))) fun _ _ x=>x)
 |cons a l=>
  obtain⟨b,x⟩:=a;cases b with
  |true=>simp at V
  |false=>show(?_:aD M A (spliced ((false,x)::l)>>=_) Q E s);show aB (en h (fun vs s' h'=>aB (bw (v4 vs s' h'))) fun _ _ x=>x)
theorem sf{pos:Pos}{f:Value}{first:List Value}{l:List (Bool×Sem Value)}{Q:Value→Shared→Prop}(V:l.any (·.1)=false)(h:aD M A (spliced l) (fun vs a2=>(∃k,(k=Keeper.frame∨k=Keeper.machine∨k=Keeper.boundFrame)∧Looks M a2.heap (keeperOf f) k)∧aD M A (call f (first++vs)) Q E a2) E s):aD M A (callWith pos f first l []) Q E s:=by
 unfold callWith;show aB (cp (NJ V (en h (fun vs a2 s4=>aB (cH ?_)) fun _ _ x=>x)));show aX fun _ done=>?_;obtain⟨⟨k,ak,L⟩,s4⟩:=s4;show done ?_;rw[V,List.any_nil,Bool.or_false];dsimp only;show cV (L.here ?_);have iD:∀{t:Sem Value},aD M A t Q E a2→aD M A (t>>=fun r=>holding [r] point>>=fun _=>pure r) Q E a2:=fun im=>aB (en im (fun r lo ar=>aB (cp (J3 (bw ar)))) fun _ _ x=>x);have Ue(mk:Value):aD M A (callMarked mk f (first++vs) []) Q E a2:=fun t0 p NE a b=>by unfold callMarked;rw[Sem.wp_keep];show s4 t0 p NE a b
 clear h L;rcases ak with rfl|rfl|rfl<;>dsimp only<;>first|show iD s4|(split<;>first|show iD s4|show iD (Ue _))
noncomputable def f7:List Expr→Bool
 |[]=>true
 |.Starred .. ::_=>false
 |_::r=>f7 r
theorem Dh{e:Expr}{r:List Expr}(h:f7 (e::r)=true):starEach (e::r) env=(false,eval e env)::starEach r env∧f7 r=true:=by cases e<;>first|show⟨rfl,h⟩|cases h
theorem r9{pos:Pos}:∀{bd:List Expr},f7 bd=true→(backTo pos (starEach bd env)).any (·.1)=false:=by
 intro ca;induction ca with
 |nil=>intro _;show rfl
 |cons e r ap=>intro h;show c4 (Dh (env:=env) h) fun a b=>?_;rw[a];show(?_:(false||(backTo pos (starEach r env)).any (·.1))=false);rw[ap b];rfl
end
section
variable{G:br}{P:aY}{d:Nat}{aaa:List (Str×NameKind)}
theorem gc.Ig:gc G P d aaa [] .nil:=fun A J env pos ρ j z s Q E C S p=>by show Js (p.cM S (aL.refl _ _ _) ba.nil)
theorem gc.E7{e:Expr}{r:List Expr}{i:a0}{l:b5}(ge:a' G P d aaa e i)(ar:gc G P d aaa r l)(be:f7 (e::r)=true):gc G P d aaa (e::r) (.cons i l):=fun A J env pos ρ j z s Q E C S p=>by show c4 (Dh (env:=env) be) fun a b=>?_;rw[a];show(?_:aD _ _ (spliced ((false,eval e env)::backTo pos (starEach r env))) _ _ _);show Jr (ge A J env ρ j z s _ E C S (a3.bind p fun x f2 fr a2 v _ he lv sB kt=>?_));show ar A J env pos fr f2 z a2 _ E C he (a3.bind kt fun xs s1 nw lo vs _ is no jM g2=>?_);show g2.cM is (aL.refl _ _ _) (ba.cons (sB.bb no) jM)
end
end
section
open Builtin
section
variable{prog:Program}{w:World}{A:Around}{C:Addr}{R:Result→Shared→Prop}{h:Heap}{g:Array GenState}{d:Drawn}{t:Nat}{os:OsState}
theorem T'{bh:List Value}{init:Value}(gd:Makes (model prog w) h C)(an:Looks (model prog w) h (typeLookup (.ref C) "__init__") (some init))(Y:∀self,Looks (model prog w) h (bindSpecial init self) (init,[self]))(li:(some init !=some (Value.builtin "object.__init__"))=true)(ne:dK (model prog w) (A.under (.builtin "type.__call__" ⟨.ref C::bh,[]⟩)) (.call init ⟨.ref (h.objs.size+1)::bh,[]⟩) (InitBack (h.objs.size+1) R) ⟨(h.push emptyDict).push (instObj C h.objs.size),g,d,t,os⟩):dK (model prog w) A (.call (.ref C) ⟨bh,[]⟩) R ⟨h,g,d,t,os⟩:=by
 show aX fun _ done=>?_;have K0:=gd;obtain⟨⟨mG,od,Id,co,on,cd,ex,wT⟩,made,a9,self,bt,call,Xl⟩:=gd;show done ?_;show j8 rfl ?_;show(?_:aD _ _ (load C>>=fun o=>_) _ _ _);show cV (wpAny_load on ?_);show(?_:aD _ _ (callAny.viaDunder (.ref C) _) _ _ _);unfold callAny.viaDunder;show cV (call.at ?_);dsimp only;rw[tc_bind];show aB (bw (aB (bw ?_)));show bw (a:=Fin.again (.call (.builtin "type.__call__") ⟨.ref C::bh,[]⟩)) (And.intro rfl ?_);show y4 (ql (by decide+kernel)) (Code.quiet_builtin _ (by decide+kernel)) entry_typeCall (check_slot tc_kind tc_split Xl (tc_args _ _ _) ?_);unfold Builtin.«type.__call__»;have ac:Looks (model prog w) h (mroOf (.ref C)) Id.mro:=((Looks.ld (part:=none) on).andThen .now).andThen .now;have lA:(Value.ref C==Value.type "type")=false:=by first|rfl|decide|simp
 show h3 lA ?_;show cV (ac.at ?_);show h3 wT ?_;show cV (made.at (aB (bw ?_)));show aB (cp (bk (wpAny_call (new_K K0 an (.inl li) ?_))));have k:∀b o,h.get? b=some o→((h.push emptyDict).push (instObj C h.objs.size)).get? b=some o:=fun b o e=>eH _ (eH _ e);have ad:((h.push emptyDict).push (instObj C h.objs.size)).get? (h.objs.size+1)=some (instObj C h.objs.size):=by heap_get
 have f':Looks (model prog w) ((h.push emptyDict).push (instObj C h.objs.size)) (typeOf (.ref (h.objs.size+1))) (.ref C):=(Looks.ld ad).andThen .now;have KK:=self.keeps k;have wK:=an.keeps k;have dQ:=(Y (.ref (h.objs.size+1))).keeps k;unfold isInstance;show cV (aU (f'.at (KK.at ?_)));show h3 rfl ?_;unfold callSpecial? specialOf;show aB (cp (cV (aU (f'.at (wK.at ?_)))));show cp (cV (dQ.at ?_));show aB (lR (vf ne fun r s' aa=>?_));cases r with
 |error e=>show aa
 |ok f=>cases f with
  |ret v=>obtain⟨rfl,aa⟩:=aa;show bw (h3 rfl (bw aa))
  |_=>show aa.elim
end
theorem JU(A:Around)(C:Addr)(bh:List Value):A.under (.builtin "type.__call__" ⟨.ref C::bh,[]⟩)={A with depth:=A.depth+1,units:=A.units+1}:=by
 have I:(Code.builtin "type.__call__" ⟨.ref C::bh,[]⟩).weight=1:=by kernel_rfl
 have O:(Code.builtin "type.__call__" ⟨.ref C::bh,[]⟩).envs=[]:=by kernel_rfl
 have bn:(Code.builtin "type.__call__" ⟨.ref C::bh,[]⟩).guards=[]:=by kernel_rfl
 have lc:(Code.builtin "type.__call__" ⟨.ref C::bh,[]⟩).cUnits=1:=by kernel_rfl
 unfold Around.under;rw[I,O,bn,lc];rfl
section
variable{G:br}{P:aY}{d:Nat}{aaa:List (Str×NameKind)}{A:Around}{J:List Env}{env:Env}{ρ:aN}{j:ae}{z:aq}{s:Shared}{E:Value→Shared→Prop}{Q:Value→Shared→Prop}
def DO(Q E:Value→Shared→Prop)(r:Result)(s':Shared):Prop:=match r with
 |.ok (.ret v)=>Q v s'
 |.ok _=>False
 |.error e=>E e s'
theorem a3.toC(S:a4 G J env ρ j z s){r:aG ag}(p:a3 G J env z ρ s.heap aR r Q E):hH G J ρ s.heap r (DO Q E):=by
 cases r with
 |ok a H=>show fun bm s' v ae X r=>p bm s' v ⟨ae,S.toFR.aK S.toHR X⟩ X r
 |a6 k H=>show fun bm s' e ae X r=>p bm s' e ⟨ae,S.toFR.aK S.toHR X⟩ X r
 |aS=>show p
theorem hH.eY{r:aG ag}{R:Result→Shared→Prop}{h:Heap}(p:hH G J ρ h r R){bm:aN}{h':Heap}(x:aL b4 ρ h bm h'):hH G J bm h' r R:=by
 cases r with
 |ok a j=>show fun fr a2 v S X r=>p fr a2 v S (x.trans X) r
 |a6 k j=>show fun fr a2 e S X r=>p fr a2 e S (x.trans X) r
 |aS=>show p
theorem sg(C:cq G P d aaa A J env)(it:P.hd=true){g7:Around}(PW:g7.frames=A.frames)(PX:g7.guards=A.guards)(PY:g7.handled=A.handled)(PZ:g7.depth≤A.depth+1)(P0:g7.units≤A.units+4){ρ:aN}{j:ae}{s:Shared}{a:Addr}{xs:List ag}{ls:List Value}{R:Result→Shared→Prop}(S:HR G J ρ j s)(ii:ba ρ s.heap xs ls)(p:hH G J ρ s.heap (P.d' a xs j) R):dK (model G.prog G.w) g7 (.call (.ref a) ⟨ls,[]⟩) R s:=by have I:=C.depth;have O:=C.units;show C.d' g7 J a xs j ρ s ls R (PW.trans C.frames) (PX.trans C.guards) (PY.trans (C.hd it)) (by show ai [[1,1,1]] [_,_,_,_] [] [.le .x (.a .w .l),.lt (.a (.a .w (.m 4 .y)) (.n 6)) .aa] (.lt (.a (.a .x (.m 4 .y)) (.n 4)) .aa) ah PZ I) (by show ai [[1,1,1]] [_,_,_,_] [] [.le .x (.a .w (.n 4)),.lt (.a (.a .w (.m 30 .y)) (.n 120)) .aa] (.lt (.a (.a .x (.m 30 .y)) .S) .aa) ah P0 O) S ii p
theorem CF(h:Heap):h.get? (h.objs.size+1)=none:=by
 cases e:h.get? (h.objs.size+1)with
 |none=>rfl
 |some o=>show absurd (Heap.lt_size e) (Nat.not_lt.mpr (Nat.le_succ _))
def uQ(M:Model)(h:Heap)(f:Value):Prop:=∃k,(k=Keeper.frame∨k=Keeper.machine∨k=Keeper.boundFrame)∧Looks M h (keeperOf f) k
theorem Uz(C:cq G P d aaa A J env){a:Addr}{xs:List ag}{ls:List Value}(S:a4 G J env ρ j z s)(ii:ba ρ s.heap xs ls)(it:P.hd=true)(an:cZ a=true)(tX:hH G J ρ s.heap ((P.d' (gN a) (.ref j.length::xs) (j++[.b_ a []])).bind fun v H=>(match v with|.none=>.ok (.ref j.length) H|_=>.aS)) (DO Q E)):aD (model G.prog G.w) A (call (.ref a) ls) Q E s:=by
 have X:G.K.In s.heap:=C.ok.fq.keeps S.a9;have cv:=C.cv.b_ a an;show lR ?_;show T' (makes_of X cv.2.2.1) (looks_findIn X cv.2.2.2.1) (fun self=>bind_fn X self (dw.mp cv.2.2.2.2)) rfl ?_;rw[JU];have ak:∀b o,s.heap.get? b=some o→((s.heap.push emptyDict).push (instObj a s.heap.objs.size)).get? b=some o:=fun b o e=>eH _ (eH _ e);have ad:((s.heap.push emptyDict).push (instObj a s.heap.objs.size)).get? (s.heap.objs.size+1)=some (instObj a s.heap.objs.size):=by heap_get
 have nD:((s.heap.push emptyDict).push (instObj a s.heap.objs.size)).get? s.heap.objs.size=some emptyDict:=eH _ (iO _ rfl);generalize(s.heap.push emptyDict).push (instObj a s.heap.objs.size)=O at ak ad nD⊢;have hf:=S.toHR.xd (s':=⟨O,s.gens,s.drawn,s.toks,s.os⟩) (o:=.b_ a []) (p:=(s.heap.objs.size+1,s.heap.objs.size)) (aL.dv ρ ak) (CF _) (fH _) (fun b o e=>ak b o (S.a9 b o e)) rfl rfl (fun _ _ _ _ _ y=>y.keeps ak) fun bm _ _=>And.intro ⟨_,ad⟩ (Exists.intro #[] (Exists.intro 0 ⟨⟨_,nD⟩,rfl⟩));have ua:aR (ρ++[(s.heap.objs.size+1,s.heap.objs.size)]) O (.ref j.length) (.ref (s.heap.objs.size+1)):=by show Exists.intro (s.heap.objs.size+1,s.heap.objs.size) ⟨?_,rfl⟩;rw[←S.len,og (cm _),Nat.sub_self];rfl
 have RJ:=ii.bb hf.2;have hm:=hf.2;have Fr:=hf.1;show sg C it (by rfl) (by rfl) (by rfl) (by show cm _) (by show Nat.add_le_add_left (by decide) _) Fr (ba.cons ua RJ) ?_;generalize P.d' (gN a) (.ref j.length::xs) (j++[.b_ a []])=r at tX;cases r with
 |aS=>show tX.elim
 |a6 k H=>show fun fr a2 e ae lv r=>tX fr a2 e ae (hm.trans lv) r
 |ok v H=>
  cases v with
  |none=>show fun fr a2 xY ae lv r=>And.intro r (tX fr a2 _ ae (hm.trans lv) (ua.bb lv))
  |_=>show tX.elim
theorem Mz(C:cq G P d aaa A J env){f:ag}{u:Value}{xs:List ag}{ls:List Value}(S:a4 G J env ρ j z s)(I8:aR ρ s.heap f u)(ii:ba ρ s.heap xs ls)(p:a3 G J env z ρ s.heap aR (nd P f xs j) Q E):uQ (model G.prog G.w) s.heap u∧aD (model G.prog G.w) A (call u ls) Q E s:=by
 have X:G.K.In s.heap:=C.ok.fq.keeps S.a9;cases f with
 |fn a=>
  subst I8;show p.mi fun it p=>?_;by_cases an:cZ a=true;·rw[aF an]at p;show⟨keeps_K (C.cv.Hw a (by rw[an];rfl)) _ X,Uz C S ii it an (p.toC S)⟩
  ·rw[aM an]at p;show⟨keeps_K (C.keep a xs j fun q=>by rw[q]at p;show p) _ X,lR (sg C it rfl rfl rfl (Nat.le_succ _) (Nat.le_add_right _ _) S.toHR ii (p.toC S))⟩
 |b0 b=>subst I8;show⟨?_,Mw C.ok C.hd C.guards C.sa C.ns S ii p⟩;cases b<;>show b' .machine (.inr (.inl rfl)) (Looks.of_pure rfl)
 |_=>show p.elim
end
end
section
open Builtin _root_.PySem.MeetsSeq _root_.PySem.AutoSeq1
theorem LM:typeLookup (.type "bytearray") "__getattribute__"=pure (some (.builtin "bytearray.__getattribute__")):=by rw[iP,iN];kernel_rfl
theorem MC:(Manifest.canonical "bytearray.__getattribute__"!="object.__getattribute__")=false:=by decide+kernel
theorem LL:typeLookup (.type "bytearray") "__getattr__"=pure none:=by rw[iP,iN];kernel_rfl
theorem Xm:typeOf (.builtin "bytearray.append")=pure (.type "method_descriptor"):=by change builtinType _=_;rw[builtinType_eq_fast];kernel_rfl
theorem Xn:typeOf (.builtin "bytearray.extend")=pure (.type "method_descriptor"):=by change builtinType _=_;rw[builtinType_eq_fast];kernel_rfl
theorem Xp:typeOf (.builtin "list.extend")=pure (.type "method_descriptor"):=by change builtinType _=_;rw[builtinType_eq_fast];kernel_rfl
theorem Xq:typeOf (.builtin "list.pop")=pure (.type "method_descriptor"):=by change builtinType _=_;rw[builtinType_eq_fast];kernel_rfl
theorem Df:Slot "list" "pop" "list.pop":=.of (owner:="list") (n:="pop") (by rw[iP,iN];kernel_rfl) (by decide+kernel) (by decide+kernel) (by decide+kernel) (by first|show .inl (by decide+kernel)|show .inr (by decide+kernel)) (by rw[isSubtype_type];kernel_rfl)
theorem Jn:Slot "list" "extend" "list.extend":=.of (owner:="list") (n:="extend") (by rw[iP,iN];kernel_rfl) (by decide+kernel) (by decide+kernel) (by decide+kernel) (by first|show .inl (by decide+kernel)|show .inr (by decide+kernel)) (by rw[isSubtype_type];kernel_rfl)
theorem Ft:entryFor table "list.pop"=some Builtin.«list.pop»:=entryFor_of_tree (by kernel_rfl)
theorem ND:entryFor table "list.extend"=some Builtin.«list.extend»:=entryFor_of_tree (by kernel_rfl)
theorem Lg(a:Value):argsOk "list.pop" ⟨[a],[]⟩:=by unfold argsOk;kernel_rfl
theorem Lh(a b:Value):argsOk "list.pop" ⟨[a,b],[]⟩:=by unfold argsOk;kernel_rfl
theorem Lf(a b:Value):argsOk "list.extend" ⟨[a,b],[]⟩:=by unfold argsOk;kernel_rfl
section
variable{M:Model}{A:Around}{E:Value→Shared→Prop}{s:Shared}
theorem F1{T AD id:String}{name:Str}{l:Addr}{o:Obj}{fh:Sem Bool}{Q:Value×List Value→Shared→Prop}(QR:typeLookup (.type T) "__getattribute__"=pure (some (.builtin AD)))(QA:(Manifest.canonical AD !="object.__getattribute__")=false)(A2:typeLookup (.type T) "__getattr__"=pure none)(slot:Slot T name id)(im:typeOf (.builtin id)=pure (.type "method_descriptor"))(ci:s.heap.get? l=some o)(Z:o.cls=.type T)(hd:o.dict=none)(h:Q (.builtin id,[.ref l]) s):wpAny M A (getMethod (.ref l) name fh) Q E s:=by have py:s.TypeIs (.ref l) T:=⟨o,ci,Z⟩;unfold getMethod;show aU (wpAny_specialOf py QR ?_);show(?_:wpAny M A (if(Manifest.canonical AD !="object.__getattribute__")=true then _ else _) Q E s);rw[QA,aM kG];show aU (wpAny_specialOf py A2 ?_);show aU (wpAny_specialOf py slot.lookup ?_);show aU (ey im ?_);show aU (wpAny_load ci ?_);rw[hd];show aU (wpAny_rule (bz h))
end
section
variable{prog:Program}{w:World}{A:Around}{E:Value→Shared→Prop}{s:Shared}{l:Addr}{vs:Array Value}{n:Nat}{d:Option Addr}{co:Array (Option Value)}
theorem xp{y:Value}{i:Nat}(f1:vs[i]?=some y):0<vs.size∧vs.isEmpty=false:=by have h:=hE (e0 i) (Array.getElem?_eq_some_iff.mp f1).1;show⟨h,by rw[Array.isEmpty,cE (Nat.ne_of_gt h)]⟩
theorem Td{y:Value}{Q:Value→Shared→Prop}(V:s.heap.get? l=some ⟨.type "list",d,.seq vs n,co⟩)(f1:vs[vs.size-1]?=some y)(lm:vs.size≤sizeLine)(q:Q y {s with heap:=s.heap.update l (Obj.mapSeq fun xs=>xs.eraseIdxIfInBounds (vs.size-1))}):wpAny (model prog w) A (call (.builtin "list.pop") [.ref l]) Q E s:=by
 have e':=(xp f1).1;have li:=(xp f1).2;have ak:seqIndex? (-1) vs.size=some (vs.size-1):=by rw[MeetsSeq.seqIndex_neg (by show ai [[1]] [] [] [] (.au .az .o) ah) (by show ye e')];congr 1;show yf (cS _) (cy _ _)
 show wpAny_call_entry Df ⟨_,V,rfl⟩ Ft ?_ (Lg _);unfold Builtin.«list.pop»;show aU (ey (a:=(Value.ref l,[])) (by kernel_rfl) ?_);dsimp only;show aU (bz ?_);show bm_if_false (by decide) ?_;show aU ?_;unfold Builtin.List.listItems;show aU (wpAny_seqItems V rfl (bz ?_));show bm_if_false li ?_;rw[ak,Option.bind_some,f1];show aU ?_;show(?_:wpAny _ _ (updateSeq l _) _ _ _);show wpAny_updateSeq V rfl ?_ lm (c6 (size_erased vs _) (Nat.le_succ_of_le lm));show bz ⟨_,rfl,q⟩
theorem Tc{y:Value}{u:Tok}{Q:Value→Shared→Prop}(V:s.heap.get? l=some ⟨.type "list",d,.seq vs n,co⟩)(f1:vs[0]?=some y)(lm:vs.size≤sizeLine)(q:Q y {s with heap:=s.heap.update l (Obj.mapSeq fun xs=>xs.eraseIdxIfInBounds 0)}):wpAny (model prog w) A (call (.builtin "list.pop") [.ref l,.int 0 u]) Q E s:=by
 have e':=(xp f1).1;have li:=(xp f1).2;have ak:seqIndex? 0 vs.size=some 0:=by unfold seqIndex?;simp[e']
 show wpAny_call_entry Df ⟨_,V,rfl⟩ Ft ?_ (Lh _ _);unfold Builtin.«list.pop»;show aU (ey (a:=(Value.ref l,[Value.int 0 u])) (by kernel_rfl) ?_);dsimp only;show aU (ey (a:=(0:Int)) rfl ?_);show bm_if_false (by decide) ?_;show aU ?_;unfold Builtin.List.listItems;show aU (wpAny_seqItems V rfl (bz ?_));show bm_if_false li ?_;rw[ak,Option.bind_some,f1];show aU ?_;show(?_:wpAny _ _ (updateSeq l _) _ _ _);show wpAny_updateSeq V rfl ?_ lm (c6 (size_erased vs _) (Nat.le_succ_of_le lm));show bz ⟨_,rfl,q⟩
theorem Tb{b:Addr}{to:Array Value}{m:Nat}{nj:Option Addr}{GE:Array (Option Value)}{Q:Value→Shared→Prop}(V:s.heap.get? l=some ⟨.type "list",d,.seq vs n,co⟩)(Y:s.heap.get? b=some ⟨.type "list",nj,.seq to m,GE⟩)(lm:vs.size+to.size≤sizeLine)(q:Q .none {s with heap:=s.heap.update l (Obj.mapSeq fun xs=>xs++to)}):wpAny (model prog w) A (call (.builtin "list.extend") [.ref l,.ref b]) Q E s:=by
 show wpAny_call_entry Jn ⟨_,V,rfl⟩ ND ?_ (Lf _ _);unfold Builtin.«list.extend»;show aU (ey (a:=(Value.ref l,Value.ref b)) (by kernel_rfl) ?_);dsimp only;unfold Builtin.List.listExtendWith;show aU (wpAny_typeOf ⟨_,Y,rfl⟩ ?_);show bm_if_true (by simp) ?_;show aU ?_;unfold Builtin.List.listItems;show aU (wpAny_seqItems Y rfl (bz ?_));show aU (aU (wpAny_seqItems V rfl (bz ?_)));show bm_if_false ?_ ?_
 ·have:Builtin.List.listTooLong (vs.size+to.size)=false:=by change decide _=false;show cE (Nat.not_lt.mpr lm)
  rw[this,Bool.and_false]
 ·show(?_:wpAny _ _ (updateSeq l (·++to)>>=fun _=>_) _ _ _);show aU (wpAny_updateSeq V rfl ?_ (c6 (Nat.le_add_right _ _) lm) (by rw[Array.size_append];show Nat.le_succ_of_le lm));first|show bz ⟨_,rfl,q⟩|show aU (bz (bz ⟨_,rfl,q⟩))
end
section
variable{G:br}{P:aY}{d:Nat}{aaa:List (Str×NameKind)}{A:Around}{J:List Env}{env:Env}{ρ:aN}{j:ae}{z:aq}{s:Shared}{E:Value→Shared→Prop}{Q:Value→Shared→Prop}
theorem mR{α:Type}{l:List α}{k:Nat}{p:α}(h:l[k]?=some p):l.set k p=l:=List.ext_getElem? fun i=>by
 by_cases q:i=k;·subst q;rw[kE (c7.mp h).1,h]
 ·rw[eP (Ne.symm q)]
theorem a4.seq(S:a4 G J env ρ j z s){k:Nat}{l s0:List ag}{p:Addr×Addr}{vs:Array Value}{n:Nat}{f:Array Value→Array Value}(Fk:j[k]?=some (.list l))(ip:ρ[k]?=some p)(io:bp s.heap p.1 (.type "list") none (.seq vs n))(ge:p.2=p.1)(ar:ba ρ s.heap s0 (f vs).toList):a4 G J env ρ (j.set k (.list s0)) z {s with heap:=s.heap.update p.1 (Obj.mapSeq f)}∧aL b4 ρ s.heap ρ (s.heap.update p.1 (Obj.mapSeq f)):=by show b6 io fun co a=>?_;obtain⟨lz,aj⟩:∃lz,(s.heap.update p.1 (Obj.mapSeq f)).get? p.1=some ⟨.type "list",none,.seq (f vs) lz,co⟩:=⟨_,jX _ a rfl⟩;have:=S.change (h':=s.heap.update p.1 (Obj.mapSeq f)) (o':=.list s0) (jp:=p) (t:=s.toks) Fk ip rfl (.inr (.inl rfl)) (fun ln e=>⟨_,aj,by cases a.symm.trans e;rfl⟩) (fun ln e=>by rw[ge]at e⊢;show⟨_,aj,by cases a.symm.trans e;rfl⟩) (fun b ln I _ e=>(Heap.get?_update_ne _ _ _ _ I).trans e) (fun X=>⟨f vs,lz,⟨co,aj⟩,ar.bb X,ge⟩);rw[mR ip]at this;show this
theorem a4.bS(S:a4 G J env ρ j z s){k:Nat}{l s0:List Int}{p:Addr×Addr}{b:Array UInt8}{f:Array UInt8→Array UInt8}(Fk:j[k]?=some (.bS l))(ip:ρ[k]?=some p)(io:bp s.heap p.1 (.type "bytearray") none (.bytearray b 0))(ge:p.2=p.1)(ar:hc (f b) s0):a4 G J env ρ (j.set k (.bS s0)) z {s with heap:=s.heap.update p.1 (Obj.mapBytearray f)}∧aL b4 ρ s.heap ρ (s.heap.update p.1 (Obj.mapBytearray f)):=by show b6 io fun co a=>?_;have aj:(s.heap.update p.1 (Obj.mapBytearray f)).get? p.1=some ⟨.type "bytearray",none,.bytearray (f b) 0,co⟩:=jX _ a rfl;have:=S.change (h':=s.heap.update p.1 (Obj.mapBytearray f)) (o':=.bS s0) (jp:=p) (t:=s.toks) Fk ip rfl (.inr (.inl rfl)) (fun ln e=>⟨_,aj,by cases a.symm.trans e;rfl⟩) (fun ln e=>by rw[ge]at e⊢;show⟨_,aj,by cases a.symm.trans e;rfl⟩) (fun b ln I _ e=>(Heap.get?_update_ne _ _ _ _ I).trans e) (fun X=>⟨f b,⟨co,aj⟩,ar,ge⟩);rw[mR ip]at this;show this
noncomputable def oF:aI→Value
 |.list _=>.type "list"
 |.bS _=>.type "bytearray"
 |.b_ C _=>.ref C
 |.a6 C _=>.ref C
 |.cX C _=>.ref C
theorem IY{h:Heap}{p:Addr×Addr}{o:aI}(r:fs ρ h p o):∃d g1,bp h p.1 (oF o) d g1:=by
 cases o with
 |list l=>obtain⟨vs,n,a,_⟩:=r;show pE _ _ a
 |bS l=>obtain⟨b,a,_⟩:=r;show pE _ _ a
 |b_ C dL=>obtain⟨a,_⟩:=r;show pE _ _ a
 |a6 C dL=>
  rcases r with⟨vs,a,_⟩|⟨_,_,vs,a,_⟩
  ·show pE _ _ a
  ·show pE _ _ a
 |cX C dL=>
  rcases r with⟨vs,a,_⟩|⟨_,_,vs,a,_⟩
  ·show pE _ _ a
  ·show⟨_,_,a⟩
theorem V_{nw:aN}{s1:ae}{lo:Shared}(S:HR G J ρ j s)(is:HR G J nw s1 lo)(X:aL b4 ρ s.heap nw lo.heap){k:Nat}{o hv:aI}(I:j[k]?=some o)(O:s1[k]?=some hv):oF hv=oF o:=by show aX fun _ done=>?_;show aW (S.gX I) fun p be r=>?_;show aW (is.gX O) fun g2 Rw TW=>?_;show aW (X.pre k p be) fun jp IN e=>?_;rw[Rw]at IN;obtain rfl:=bx IN;show oN (IY r) fun d g1 co a=>?_;show oN (IY TW) fun Ys Yr Y7 Lm=>?_;show aW (X.cls _ _ (fun f=>f) a) fun ln cd ex=>?_;rw[←e,Lm]at cd;obtain rfl:=bx cd;show done ?_;show ex
section
variable{k:Nat}{p:Addr×Addr}{xs:List ag}{ls:List Value}
section
variable{l:List ag}(S:a4 G J env ρ j z s)(O:j[k]?=some (.list l))(bn:ρ[k]?=some p)(ii:ba ρ s.heap xs ls)
include S O bn ii
theorem HJ(g2:a3 G J env z ρ s.heap aR (Hz k l xs j) Q E):aD (model G.prog G.w) A (call (.builtin "list.append") (.ref p.1::ls)) Q E s:=by show aX fun _ done=>?_;show g2.ec fun v al g2=>?_;show g2.eD fun V g2=>?_;show pM ii al fun w cl lH=>?_;subst cl;show dR (S.objs k _ p O bn) fun vs n io ar ge=>?_;show b6 (id io) fun co a=>?_;have e:=lF ar;show done ?_;show bk (wpAny_call_entry slot_list_append ⟨_,a,rfl⟩ entry_list_append ?_ (args_list_append _ _));show(?_:wpAny _ _ (updateSeq p.1 (·.push w)>>=fun _=>ret .none) _ _ _);show aU (wpAny_updateSeq a rfl ?_ (by rw[e];show gb V) (by rw[Array.size_push,e];show Nat.succ_le_succ (gb V)));have hf:=S.seq (s0:=l++[v]) O bn io ge (f:=(·.push w)) (by rw[Array.toList_push];show ar.b2 (ba.cons lH ba.nil));show bz ⟨_,rfl,g2.cM hf.1 hf.2 mN⟩
theorem TM(g2:a3 G J env z ρ s.heap aR (HA k l xs j) Q E):aD (model G.prog G.w) A (call (.builtin "list.extend") (.ref p.1::ls)) Q E s:=by show g2.ec fun af dl g2=>?_;show g2.ec fun r fa g2=>?_;show g2.eD fun V g2=>?_;show c5 dl fun v al dl=>?_;show pM ii al fun w cl lH=>?_;subst cl;show aX fun _ done=>?_;clear ii;show n2 S.toHR lH (hC.mpr ⟨af,dl,fa⟩) fun b to m cl hZ G0=>?_;subst cl;show dR (S.objs k _ p O bn) fun vs n io ar ge=>?_;show b6 (id io) fun co a=>?_;show b6 hZ fun GE oA=>?_;show done ?_;show bk (Tb a oA (by rw[lF ar,lF G0];show gb V.2) ?_);have hf:=S.seq (s0:=l++r) O bn io ge (f:=fun xs=>xs++to) (by rw[Array.toList_append];show ar.b2 G0);show g2.cM hf.1 hf.2 mN
theorem TN(g2:a3 G J env z ρ s.heap aR (HB k l xs j) Q E):aD (model G.prog G.w) A (call (.builtin "list.pop") (.ref p.1::ls)) Q E s:=by
 show dR (S.objs k _ p O bn) fun vs n io ar ge=>?_;show b6 (id io) fun co a=>?_;have e:=lF ar;cases xs with
 |nil=>subst ii;show aX fun _ done=>?_;show a3.ec (x:=l.getLast?) g2 fun v al g2=>?_;show g2.eD fun V g2=>?_;rw[List.getLast?_eq_getElem?]at al;show aW (ar.get al) fun y f1 Fa=>?_;have hf:=S.seq (s0:=l.dropLast) O bn io ge (f:=fun xs=>xs.eraseIdxIfInBounds (vs.size-1)) (by rw[Array.toList_eraseIdxIfInBounds,e,List.eraseIdx_eq_dropLast (by rw[iM (xs:=vs),e];show Nat.succ_pred (Nat.ne_of_gt (hE (e0 _) (c7.mp al).1))),List.dropLast_eq_take,List.dropLast_eq_take,iM (xs:=vs),e];show ar.take (l.length-1));show done ?_;show bk (Td (y:=y) a (by rw[e];show Array.getElem?_toList.symm.trans f1) (by rw[e];show gb V) (g2.cM hf.1 hf.2 (Fa.bb hf.2)))
 |cons x r=>
  show a3.ec (x:=(f5 (x::r)).bind isInt) g2 fun i an g2=>?_;show g2.eD fun h8 kn=>?_;clear g2;subst h8;show c5 an fun v al an=>?_;show pM ii al fun w cl lH=>?_;subst cl;have KE:=rx lH an;clear lH ii;obtain⟨t,rfl⟩:=KE;cases l with
  |nil=>show kn.elim
  |cons v r=>obtain⟨V,g2⟩:=kn.ite;show aW (ar.get (i:=0) (a:=v) rfl) fun y f1 Fa=>?_;have hf:=S.seq (s0:=r) O bn io ge (f:=fun xs=>xs.eraseIdxIfInBounds 0) (by rw[Array.toList_eraseIdxIfInBounds,List.eraseIdx_zero,←List.drop_one];show ar.drop 1);show bk (Tc (y:=y) a (Array.getElem?_toList.symm.trans f1) (by rw[e];show gb V) (g2.cM hf.1 hf.2 (Fa.bb hf.2)))
end
section
variable{l:List Int}(pp:A.guards=some [])(S:a4 G J env ρ j z s)(O:j[k]?=some (.bS l))(bn:ρ[k]?=some p)(ii:ba ρ s.heap xs ls)
include pp S O bn ii
theorem L3(g2:a3 G J env z ρ s.heap aR (Er k l xs j) Q E):aD (model G.prog G.w) A (call (.builtin "bytearray.append") (.ref p.1::ls)) Q E s:=by
 show aX fun _ done=>?_;show g2.ec fun i an g2=>?_;show g2.eD fun V g2=>?_;show c5 an fun v al an=>?_;show pM ii al fun w cl lH=>?_;subst cl;clear ii;show ks lH an fun t cl=>?_;subst cl;show eA (S.objs k _ p O bn) fun b io ar ge=>?_;show b6 (id io) fun co a=>?_;show done ?_;show LD pp a V.2.1 V.2.2 (by rw[r_ ar,sizeLine_eq];show jV V.1 (by decide)) ?_;have hf:=S.bS (s0:=l++[i]) O bn io ge (f:=(·.push i.toNat.toUInt8)) (by
  unfold hc at ar⊢;rw[Array.toList_push,List.map_append,ar,List.map_singleton];have:i.toNat.toUInt8.toNat=i.toNat:=by rw[Nat.toUInt8,UInt8.toNat_ofNat'];show Nat.mod_eq_of_lt ((Int.toNat_lt V.2.1).mpr V.2.2)
  rw[this,Int.toNat_of_nonneg V.2.1])
 show g2.cM hf.1 hf.2 mN
theorem L4(g2:a3 G J env z ρ s.heap aR (Et k l xs j) Q E):aD (model G.prog G.w) A (call (.builtin "bytearray.extend") (.ref p.1::ls)) Q E s:=by show aX fun _ done=>?_;show g2.ec fun r fa g2=>?_;show g2.eD fun V g2=>?_;show c5 fa fun v al fa=>?_;show pM ii al fun w cl lH=>?_;subst cl;clear ii;show h9 (IX lH fa) fun c t cl Z=>?_;subst cl;show eA (S.objs k _ p O bn) fun b io ar ge=>?_;show b6 (id io) fun co a=>?_;show done ?_;show LK pp a (by rw[r_ ar,r_ Z];show gb V) ?_;have hf:=S.bS (s0:=l++r) O bn io ge (f:=(·++c)) (by unfold hc at ar Z⊢;rw[Array.toList_append,List.map_append,ar,Z]);show g2.cM hf.1 hf.2 mN
end
end
def u4(G:br)(P:aY)(A:Around)(J:List Env)(env:Env)(ρ:aN)(z:aq)(s:Shared)(E:Value→Shared→Prop)(o:ag)(u:Value)(m:dG)(f:Value):Prop:=(∀(fh:Sem Bool)(sp:Value×List Value→Shared→Prop),sp (f,[u]) s→wpAny (model G.prog G.w) A (getMethod u m.str fh) sp E s)∧(∀h,G.K.In h→uQ (model G.prog G.w) h f)∧∀(nw:aN)(s1:ae)(lo:Shared)(xs:List ag)(ls:List Value)(Q:Value→Shared→Prop),a4 G J env nw s1 z lo→aL b4 ρ s.heap nw lo.heap→ba nw lo.heap xs ls→a3 G J env z nw lo.heap aR (cJ P o m xs s1) Q E→aD (model G.prog G.w) A (call f (u::ls)) Q E lo
section
variable{k:Nat}{p:Addr×Addr}{o:aI}{m:dG}
theorem B7(S:HR G J ρ j s)(Fk:j[k]?=some o)(be:ρ[k]?=some p){nw:aN}{s1:ae}{lo:Shared}{xs:List ag}(is:HR G J nw s1 lo)(no:aL b4 ρ s.heap nw lo.heap)(g2:a3 G J env z nw lo.heap aR (cJ P (.ref k) m xs s1) Q E):∃hv jp,s1[k]?=some hv∧nw[k]?=some jp∧jp.1=p.1∧oF hv=oF o∧a3 G J env z nw lo.heap aR (se P k hv (.ref k) m xs s1) Q E:=g2.bL.elim fun gl h=>by show aX fun _ done=>?_;obtain⟨e,h⟩:=h;obtain rfl:=bx e;show done ?_;show aX fun _ done=>?_;show h.ec fun hv O h=>?_;show aW (no.pre k p be) fun jp IN st=>?_;show done ?_;show⟨hv,jp,O,IN,st,V_ S is no Fk O,h⟩
theorem B0(id:String)(h:Heap)(_:G.K.In h):uQ (model G.prog G.w) h (.builtin id):=⟨.machine,.inr (.inl rfl),Looks.of_pure rfl⟩
theorem Ck{l:List ag}{id:String}(S:HR G J ρ j s)(Fk:j[k]?=some (.list l))(be:ρ[k]?=some p)(slot:Slot "list" m.str id)(im:typeOf (.builtin id)=pure (.type "method_descriptor"))(Z:∀(nw:aN)(s1:ae)(lo:Shared)(g2:Addr×Addr)(mB:List ag)(xs:List ag)(ls:List Value)(Q:Value→Shared→Prop),a4 G J env nw s1 z lo→s1[k]?=some (.list mB)→nw[k]?=some g2→ba nw lo.heap xs ls→a3 G J env z nw lo.heap aR (se P k (.list mB) (.ref k) m xs s1) Q E→aD (model G.prog G.w) A (call (.builtin id) (.ref g2.1::ls)) Q E lo):u4 G P A J env ρ z s E (.ref k) (.ref p.1) m (.builtin id):=by
 show dR (S.objs k _ p Fk be) fun vs n v1 ar ge=>?_;show b6 v1 fun co io=>?_;show xb (fun fh sp h=>F1 list_getattribute canon_list_getattribute list_getattr_none slot im io rfl rfl h) (B0 id) (fun nw s1 lo xs ls Q is no ii g2=>?_);show zw (B7 S Fk be is.toHR no g2) fun hv jp O IN st At g2=>?_;rw[←st];cases hv with
 |list mB=>show Z nw s1 lo jp mB xs ls Q is O IN ii g2
 |bS _=>show absurd At (by simp[oF])
 |_=>show nomatch At
theorem EE{l:List Int}{id:String}(S:HR G J ρ j s)(Fk:j[k]?=some (.bS l))(be:ρ[k]?=some p)(slot:Slot "bytearray" m.str id)(im:typeOf (.builtin id)=pure (.type "method_descriptor"))(Z:∀(nw:aN)(s1:ae)(lo:Shared)(g2:Addr×Addr)(mB:List Int)(xs:List ag)(ls:List Value)(Q:Value→Shared→Prop),a4 G J env nw s1 z lo→s1[k]?=some (.bS mB)→nw[k]?=some g2→ba nw lo.heap xs ls→a3 G J env z nw lo.heap aR (se P k (.bS mB) (.ref k) m xs s1) Q E→aD (model G.prog G.w) A (call (.builtin id) (.ref g2.1::ls)) Q E lo):u4 G P A J env ρ z s E (.ref k) (.ref p.1) m (.builtin id):=by
 show eA (S.objs k _ p Fk be) fun vs v1 ar ge=>?_;show b6 v1 fun co io=>?_;show xb (fun fh sp h=>F1 LM MC LL slot im io rfl rfl h) (B0 id) (fun nw s1 lo xs ls Q is no ii g2=>?_);show zw (B7 S Fk be is.toHR no g2) fun hv jp O IN st At g2=>?_;rw[←st];cases hv with
 |bS mB=>show Z nw s1 lo jp mB xs ls Q is O IN ii g2
 |list _=>show absurd At (by simp[oF])
 |_=>show nomatch At
theorem N2:false=false:=rfl
theorem N_(f:c8)(m:dG):(f.str==m.str)=false:=by cases f<;>cases m<;>show N2
theorem U8{lf:Addr}{dL:c9}(C:cq G P d aaa A J env)(S:HR G J ρ j s)(Fk:j[k]?=some (.b_ lf dL))(be:ρ[k]?=some p)(an:cZ lf=true){f:Addr}(ch:gm lf m=some f):u4 G P A J env ρ z s E (.ref k) (.ref p.1) m (.ref f):=by
 show aX fun _ done=>?_;obtain⟨⟨co,a⟩,bd,n,⟨GE,b⟩,v0⟩:=S.objs k _ p Fk be;have X:G.K.In s.heap:=C.ok.fq.keeps S.a9;have B3:=C.cv.bq lf m f ch an;have Hx:=(C.cv.b_ lf an).1;have aJ:InstAt s.heap p.1 ⟨.ref lf,some p.2,.plain,co⟩ lf (some ⟨.type "dict",none,.dict bd n,GE⟩):=⟨a,rfl,rfl,b⟩;have nL:shadowIn (some ⟨.type "dict",none,.dict bd n,GE⟩) m.str=some false:=by show(?_:(lookIn m.str _).map _=_);unfold lookIn;dsimp only;rw[d3.Ul (fun fw=>ne_of_beq_false (N_ fw m)) v0];dsimp only;rw[v0.Ih];rfl
 show done ?_;show xb (fun fh sp h=>method_fn X aJ Hx.1 Hx.2 B3.1 (dw.mp B3.2.1) nL h) (fun h yQ=>keeps_K B3.2.2 h yQ) (fun nw s1 lo xs ls Q is no ii g2=>?_);show zw (B7 S Fk be is.toHR no g2) fun hv jp O IN st At g2=>?_;rw[←st];cases hv with
 |b_ X4 Yt=>show aX fun _ done=>?_;clear b aJ nL no st O;cases At;show done ?_;show aX fun _ done=>?_;show g2.mi fun it g2=>?_;show g2.ec fun iX e_ g2=>?_;obtain rfl:=bx (ch.symm.trans e_);show done ?_;show lR (sg C it rfl rfl rfl (Nat.le_succ _) (Nat.le_add_right _ _) is.toHR (ba.cons (C5 IN) ii) (g2.toC is))
 |a6 _ _=>show g2.elim
 |cX _ _=>show g2.elim
 |_=>show nomatch At
end
theorem Ui(C:cq G P d aaa A J env){o:ag}{u:Value}{m:dG}(S:a4 G J env ρ j z s)(VZ:aR ρ s.heap o u)(ac:ht P j o m=true):∃f,u4 G P A J env ρ z s E o u m f:=by
 cases ci:(gO o).bind fun k=>j[k]? with
 |none=>unfold ht at ac;rw[ci]at ac;show fy ac
 |some ln=>
  unfold ht at ac;rw[ci]at ac;show c5 ci fun k ak ci=>?_;obtain rfl:=Hn ak;show aW VZ fun p be cl=>?_;subst cl;cases ln with
  |list l=>
   cases m with
   |b2=>show⟨_,Ck S.toHR ci be slot_list_append type_list_append fun _ _ _ _ _ _ _ _ is O bn ii g2=>HJ is O bn ii g2⟩
   |d_=>show⟨_,Ck S.toHR ci be Jn Xp fun _ _ _ _ _ _ _ _ is O bn ii g2=>TM is O bn ii g2⟩
   |gn=>show⟨_,Ck S.toHR ci be Df Xq fun _ _ _ _ _ _ _ _ is O bn ii g2=>TN is O bn ii g2⟩
   |_=>show fy ac
  |bS l=>
   cases m with
   |b2=>show⟨_,EE S.toHR ci be Jl Xm fun _ _ _ _ _ _ _ _ is O bn ii g2=>L3 C.guards is O bn ii g2⟩
   |d_=>show⟨_,EE S.toHR ci be Jm Xn fun _ _ _ _ _ _ _ _ is O bn ii g2=>L4 C.guards is O bn ii g2⟩
   |_=>show fy ac
  |b_ lf dL=>have ac:=hD.mp (show(_&&_)=true from ac);show b6 (Option.isSome_iff_exists.mp ac.2) fun f ch=>?_;show⟨_,U8 C S.toHR ci be ac.1 ch⟩
  |_=>show fy ac
end
end
section
open Builtin
section
variable{M:Model}{A:Around}{E:Value→Shared→Prop}{s:Shared}{env:Env}
theorem LR{pos:Pos}:∀{bd:List Expr},f7 bd=true→(backTo pos (starEach bd env)).all (fun x=>!x.1)=true:=by
 intro ca;induction ca with
 |nil=>intro sK;show rfl
 |cons e r ap=>intro h;show c4 (Dh (env:=env) h) fun a b=>?_;rw[a];show(?_:(true&&(backTo pos (starEach r env)).all (fun x=>!x.1))=true);rw[ap b];rfl
theorem HV{o:Expr}{m:Str}{Uf pos:Pos}{pI:Value}{as:List Expr}{Q:Value→Shared→Prop}(V:(Uf.endLine==pos.line)=true)(bi:as.length<29)(be:f7 as=true)(h:wpAny M A (getMethod pI m (do return(←importBound o env).getD true)) (fun AA lo=>aD M A (callWith pos AA.1 AA.2 (backTo pos (starEach as env)) []) Q E lo) E s):aD M A (methodCall o m Uf pos env pI (as.length+([]:List Keyword).length) (backTo pos (starEach as env)) (backToKw pos (keywordEach [] env))) Q E s:=by
 have gK:methodCallForm (as.length+([]:List Keyword).length) (backTo pos (starEach as env)) (backToKw pos (keywordEach [] env))=true:=by unfold methodCallForm;rw[LR be];show(?_:(true&&decide (as.length+0+0<30))=true);simp;show ai [[1,1]] [_] [] [.lt .x (.n 29)] (.lt .x (.n 30)) ah bi
 have e':methodCallPos true o env Uf pos=pure pos:=by unfold methodCallPos;simp[V]
 unfold methodCall;rw[gK];show cV (wpAny_holding ?_);show(?_:wpAny M A (getMethod pI m (do return(←importBound o env).getD true)) _ E s);show wpAny_mono h (fun AA lo XL=>?_) fun _ _ x=>x;dsimp only;rw[e'];show aB (bw XL)
end
section
variable{prog:Program}{w:World}{A:Around}{E:Value→Shared→Prop}{s:Shared}{K:Frag}{v:Value}{name:Str}
theorem Uj{T:String}{fh:Sem Bool}{Q:Value×List Value→Shared→Prop}(X:K.In s.heap)(im:typeOf (.type T)=pure (.type "type"))(a1:Manifest.isStub T=false)(e:findCls K (.type T) (.type "type") name=some (.val v))(it:handedIn v=true)(h:Q (v,[]) {s with toks:=s.toks+1}):wpAny (model prog w) A (getMethod (.type T) name fh) Q E s:=by
 have RS:opaqueClassAbove (.type T)=pure none:=by unfold opaqueClassAbove;dsimp only;rw[a1];rfl
 have gD:Looks (model prog w) s.heap (typeOf (.type T)) (.type "type"):=Looks.of_pure im;have pp:findIn K (.type "type") "__getattribute__"=some (some (.builtin "type.__getattribute__")):=type_tga;unfold getMethod specialOf;show aU (aU (gD.here ((looks_findIn X pp).here ?_)));dsimp only;rw[aF canon_tga];show aU (wpAny_mono (Q:=fun v=>Q (v,[])) (E:=E) ?_ (fun _ _ aa=>bz aa) fun _ _ aa=>aa);have KD:Looks (model prog w) s.heap (opaqueClassAbove (.type T)) none:=Looks.of_pure RS;show cls_open X KD gD pp (looks_hook X (r:=none) (by rfl)) (by change subIn K _ _=_;rfl) e (bz (by change wpAny _ _ (handedOut v) _ _ _;rw[handedOut_of it];show bz h))
end
noncomputable abbrev kR:List Value:=[.ref e4,.type "Exception",.type "BaseException",.type "object"]
section
variable{prog:Program}{w:World}{A:Around}{E:Value→Shared→Prop}{R:Result→Shared→Prop}{h:Heap}{g:Array GenState}{d:Drawn}{t:Nat}{os:OsState}
variable{nm q:Str}{C N:Addr}{bs:List Value}{hdct:Bool}{sn:List Str}{sub:List Value}{ab:Bool}{col:Option Bool}{dd:Option Addr}{k0 k1 k2 k3 k5:Option Value}
theorem rn(X:String)(b:Bool)(Y:kR.contains (.type X)=b):(Value.ref C::kR).contains (.type X)=b:=by rw[List.contains_cons,Y];rfl
theorem NQ{bh:List Value}{Q:Unit→Shared→Prop}(on:h.get? C=some (excClassObj nm q C N bs kR hdct sn sub ab col dd k0 k1 k2 k3 k5 "Exception.__new__"))(ne:Q () ⟨h,g,d,t,os⟩):wpAny (model prog w) A (checkBuiltinCall "Exception.__new__" ⟨.ref C::bh,[]⟩) Q E ⟨h,g,d,t,os⟩:=by
 have F:=F.excBase_Exception;have QE:=rn (C:=C) "Exception" true (by decide);have YN:=F.noStar;unfold checkBuiltinCall;rw[F.newKind,F.newSplit,F.newRow];dsimp only;repeat(first|show wpAny_loadPart_at on ?_|(show wpAny_isSubtype_exc on ?_;rw[QE])|show wpAny_staticBase_exc on ?_|show wpAny_madeBy_exc on ?_|simp only[bne_self_eq_false,gy,if_false]|wp_step)
 show ne
theorem NS{bh:List Value}(on:h.get? C=some (excClassObj nm q C N bs kR hdct sn sub ab col dd k0 k1 k2 k3 k5 "Exception.__new__"))(ne:R (.ok (.ret (.ref (h.objs.size+1)))) ⟨(h.push {cls:=.type "tuple",data:=.seq bh.toArray}).push {cls:=.ref C,data:=.fields #[.ref h.objs.size,.none,.none,.none,.bool false,.none]},g,d,t,os⟩)(hn:bh.length≤sizeLine):codeAny (model prog w) A (.builtin "Exception.__new__" ⟨.ref C::bh,[]⟩) R ⟨h,g,d,t,os⟩:=by
 have F:=F.excBase_Exception;have YB:=F.ends;have sQ:=rn (C:=C) "Exception" true (by decide);have Qx:=rn (C:=C) "AttributeError" false (by decide);have Qz:=rn (C:=C) "NameError" false (by decide);show codeAny_builtinAt F.entry ?_;unfold Builtin.«BaseException.__new__»;show PySem.wpAt_bind ?_;show(?_:PySem.wpAt _ _ _ (stack>>=_) _ _ _);show PySem.wpAt_bind (PySem.wpAt_stack fun p below=>PySem.wpAt_of_wpAny ?_);wp_walk;show PySem.wpAt_of_wpAny ?_;rw[F.owner];repeat(first|with_reducible show wpAny_madeHere_exc F.canon on ?_|with_reducible show wpAny_loadPart_at on ?_|(with_reducible show wpAny_isSubtype_exc on ?_;first|rw[sQ]|rw[Qx]|rw[Qz])|wp_step)
 show(?_:R _ _);rw[Heap.size_push];show ne
theorem NP{e:Addr}{rl:Obj}{bh:List Value}{Q:Unit→Shared→Prop}(on:h.get? C=some (excClassObj nm q C N bs kR hdct sn sub ab col dd k0 k1 k2 k3 k5 "Exception.__new__"))(ge:h.get? e=some rl)(k9:rl.cls=.ref C)(ne:Q () ⟨h,g,d,t,os⟩):wpAny (model prog w) A (checkBuiltinCall "Exception.__init__" ⟨.ref e::bh,[]⟩) Q E ⟨h,g,d,t,os⟩:=by
 have F:=F.excBase_Exception;have sQ:=rn (C:=C) "Exception" true (by decide);have YM:=F.noStar;simp only[checkBuiltinCall,F.initKind,F.initSplit,F.initRow];repeat(first|(with_reducible show wpAny_loadPart_at ge ?_;rw[k9])|with_reducible show wpAny_loadPart_at on ?_|(with_reducible show wpAny_isSubtype_exc on ?_;rw[sQ])|wp_step)
 show wpAny_onRaise ?_;rw[show∀(a b:String)(n:Nat),Bind.check ⟨.positional,"*","Exception",.self,[⟨"args",.varPos,false⟩]⟩ a b n (List.map (fun x=>x.fst) ({pos:=Value.ref e::bh}:Args).kw)=pure ()from fun a b n=>check_star_args _ _ _ _ _ _];show bz ne
theorem NR{e:Addr}{co:Array (Option Value)}{wS:Option Addr}{vs:Array Value}{pT:Value}{bh:List Value}{Q:Value→Shared→Prop}(on:h.get? C=some (excClassObj nm q C N bs kR hdct sn sub ab col dd k0 k1 k2 k3 k5 "Exception.__new__"))(ge:h.get? e=some ⟨.ref C,wS,.fields vs,co⟩)(am:vs[0]?=some pT)(hn:bh.length≤sizeLine)(ne:Q .none ⟨(h.push {cls:=.type "tuple",data:=.seq bh.toArray}).update e (Obj.mapFields (·.setIfInBounds 0 (.ref h.objs.size))),g,d,t,os⟩):wpAny (model prog w) A (call (.builtin "Exception.__init__") (.ref e::bh)) Q E ⟨h,g,d,t,os⟩:=by have F:=F.excBase_Exception;show wpAny_call (codeAny_call_builtin F.init.plain F.initEntry (NP on ge rfl ?_));unfold Builtin.«BaseException.__init__»;dsimp only;rw[aM (by simp)];unfold newTuple Builtin.BaseException.bexcPut;have ik:0<vs.size:=(Array.getElem?_eq_some_iff.mp am).1;have Gu:=eH (h:=h) {cls:=.type "tuple",data:=.seq bh.toArray} ge;show aU (wpAny_newObj_type (aU (aU (wpAny_field Gu rfl am (aU (wpAny_setField Gu rfl ik ?_))))) (by change bh.toArray.size≤sizeLine;rw[List.size_toArray];show hn));cases pT<;>first|show bz (bz ne)|(show wpAny_letGo ?_;show bz ne)
end
section
variable{prog:Program}{w:World}{A:Around}{C:Addr}{R:Result→Shared→Prop}{h:Heap}{g:Array GenState}{d:Drawn}{t:Nat}{os:OsState}
variable{nm q:Str}{N:Addr}{bs:List Value}{hdct:Bool}{sn:List Str}{sub:List Value}{ab:Bool}{col:Option Bool}{dd:Option Addr}{k0 k1 k2 k3 k5:Option Value}
noncomputable abbrev l_(C t:Addr):Obj:={cls:=.ref C,data:=.fields #[.ref t,.none,.none,.none,.bool false,.none]}
theorem T_{bh:List Value}{init:Value}(on:h.get? C=some (excClassObj nm q C N bs kR hdct sn sub ab col dd k0 k1 k2 k3 k5 "Exception.__new__"))(an:Looks (model prog w) h (typeLookup (.ref C) "__init__") (some init))(Y:∀self,Looks (model prog w) h (bindSpecial init self) (init,[self]))(hn:bh.length≤sizeLine)(ne:dK (model prog w) (A.under (.builtin "type.__call__" ⟨.ref C::bh,[]⟩)) (.call init ⟨.ref (h.objs.size+1)::bh,[]⟩) (InitBack (h.objs.size+1) R) ⟨(h.push {cls:=.type "tuple",data:=.seq bh.toArray}).push (l_ C h.objs.size),g,d,t,os⟩):dK (model prog w) A (.call (.ref C) ⟨bh,[]⟩) R ⟨h,g,d,t,os⟩:=by
 have ia:=tc_lookup;have py:(⟨h,g,d,t,os⟩:Shared).TypeIs (.ref C) "type":=⟨_,on,rfl⟩;show j8 rfl ?_;show(?_:aD _ _ (load C>>=fun o=>_) _ _ _);show cV (wpAny_load on ?_);show(?_:aD _ _ (callAny.viaDunder (.ref C) _) _ _ _);unfold callAny.viaDunder;show cV (wpAny_specialOf py ia ?_);dsimp only;rw[PySem.tc_bind];show aB (bw (aB (bw ?_)));show bw (a:=Fin.again (.call (.builtin "type.__call__") ⟨.ref C::bh,[]⟩)) (And.intro rfl ?_);show y4 (ql (by decide+kernel)) (Code.quiet_builtin _ (by decide+kernel)) PySem.entry_typeCall (wpAny_check_type_call_sub on ?_);unfold Builtin.«type.__call__»;have lA:(Value.ref C==Value.type "type")=false:=by first|rfl|decide|simp
 show h3 lA ?_;show cV (wpAny_mroOf_exc on ?_);show h3 rfl ?_;show cV (wpAny_madeBy_exc on (aB (bw ?_)));show aB (cp (bk (wpAny_call (codeAny_call_builtin_code (Code.quiet_builtin _ F.excBase_Exception.quiet) (NQ on (NS on ?_ hn))))));have k:∀b o,h.get? b=some o→((h.push {cls:=.type "tuple",data:=.seq bh.toArray}).push (l_ C h.objs.size)).get? b=some o:=fun b o e=>eH _ (eH _ e);have ad:((h.push {cls:=.type "tuple",data:=.seq bh.toArray}).push (l_ C h.objs.size)).get? (h.objs.size+1)=some (l_ C h.objs.size):=by heap_get
 have f':Looks (model prog w) ((h.push {cls:=.type "tuple",data:=.seq bh.toArray}).push (l_ C h.objs.size)) (typeOf (.ref (h.objs.size+1))) (.ref C):=(Looks.ld ad).andThen .now;have wK:=an.keeps k;have dQ:=(Y (.ref (h.objs.size+1))).keeps k;have Qy:(Value.ref C::kR).contains (.ref C)=true:=by simp
 unfold isInstance;show cV (aU (f'.at (wpAny_isSubtype_exc (k _ _ on) ?_)));rw[Qy];show h3 rfl ?_;unfold callSpecial? specialOf;show aB (cp (cV (aU (f'.at (wK.at ?_)))));show cp (cV (dQ.at ?_));show aB (lR (vf ne fun r s' aa=>?_));cases r with
 |error e=>show aa
 |ok f=>cases f with
  |ret v=>obtain⟨rfl,aa⟩:=aa;show bw (h3 rfl (bw aa))
  |_=>show aa.elim
end
end
section
open Builtin
section
variable{M:Model}{A:Around}{E:Value→Shared→Prop}{s:Shared}{env:Env}
variable{nm q:Str}{C N:Addr}{bs:List Value}{hdct:Bool}{sn:List Str}{sub:List Value}{ab:Bool}{col:Option Bool}{dd:Option Addr}{k0 k1 k2 k3 k5:Option Value}
theorem Vx{x:Sem Value}{Q:Flow→Shared→Prop}(it:A.handled=none)(h:aD M A x (fun v a2=>∃e vs wS co,v=.ref e∧a2.heap.get? C=some (excClassObj nm q C N bs kR hdct sn sub ab col dd k0 k1 k2 k3 k5 "Exception.__new__")∧a2.heap.get? e=some ⟨.ref C,wS,.fields vs,co⟩∧vs[1]?=some .none∧E (.ref e) a2) E s):aD M A (raiseStmt env (some x) none) Q E s:=by
 have sQ:=rn (C:=C) "BaseException" true (by decide);unfold raiseStmt;show aB (en h (fun v a2 s4=>bk ?_) fun _ _ x=>x);show Fn s4 fun e vs wS co cl on ge I zs=>?_;subst cl;obtain⟨be,g,d,Do,os⟩:=a2;have py:(⟨be,g,d,Do,os⟩:Shared).TypeIs (.ref C) "type":=⟨_,on,rfl⟩;repeat(first|with_reducible show wpAny_field ge rfl I ?_|with_reducible show wpAny_loadPart_at ge ?_|with_reducible show wpAny_loadPart_at on ?_|(with_reducible show wpAny_isSubtype_exc on ?_;rw[sQ])|wp_step)
 show wpAny_raiseNew_none it zs
end
section
variable{G:br}{P:aY}{d:Nat}{aaa:List (Str×NameKind)}{A:Around}{J:List Env}{env:Env}{ρ:aN}{j:ae}{z:aq}{s:Shared}{E:Value→Shared→Prop}{Q:Value→Shared→Prop}
noncomputable def Hk(lf:Addr):Value:=if lf=e4 then .ref e4 else .type "Exception"
theorem Su{o:aI}{C:Addr}(h:BP o=some C):∃dL,o=.a6 C dL:=by
 cases o with
 |a6 D dL=>show⟨dL,congrArg (aI.a6 · dL) (bx h)⟩
 |_=>show cf h
theorem Sj{k:Nat}{Go:Addr×Addr}{lT:Addr}{dL:c9}{h':Heap}{r:Value}(S:a4 G J env ρ j z s)(Fk:j[k]?=some (.a6 lT dL))(be:ρ[k]?=some Go)(ak:∀b ln,b≠Go.1→s.heap.get? b=some ln→h'.get? b=some ln)(ge:∀wS vs co,s.heap.get? Go.1=some ⟨.ref lT,wS,.fields vs,co⟩→h'.get? Go.1=some ⟨.ref lT,wS,.fields (vs.setIfInBounds 0 r),co⟩):a4 G J env ρ j z {s with heap:=h'}∧aL b4 ρ s.heap ρ h':=by
 have R:=S.objs k _ Go Fk be;have At:∀ln,s.heap.get? Go.1=some ln→∃iy,h'.get? Go.1=some iy∧iy.cls=ln.cls:=fun ln e=>by
  rcases R with⟨vs,⟨co,a⟩,_⟩|⟨_,_,vs,⟨co,a⟩,_⟩
  ·cases a.symm.trans e;show b' _ (ge _ _ _ a) rfl
  ·cases a.symm.trans e;show b' _ (ge _ _ _ a) rfl
 have a1:∀{vs:Array Value}{y:Value},5<vs.size∧vs[1]?=some .none→5<(vs.setIfInBounds 0 y).size∧(vs.setIfInBounds 0 y)[1]?=some .none:=fun h=>⟨Array.size_setIfInBounds.symm▸h.1,(Array.getElem?_setIfInBounds_ne (by decide)).trans h.2⟩;have:=S.change (h':=h') (o':=.a6 lT dL) (jp:=Go) (t:=s.toks) Fk be rfl (.inr (.inl rfl)) At (fun ln e=>by
  by_cases aa:Go.2=Go.1;·rw[aa]at e⊢;show At ln e
  ·show⟨ln,ak _ _ aa e,rfl⟩)
  (fun b ln I _ e=>ak b ln I e) (fun X=>by
   rcases R with⟨vs,⟨co,a⟩,lm,bd,n,⟨GE,b⟩,v0⟩|⟨h8,jz,vs,⟨co,a⟩,lm⟩
   ·show Or.inl ⟨_,⟨co,ge _ _ _ a⟩,a1 lm,bd,n,⟨GE,ak _ _ (fun e=>by rw[e,a]at b;cases b) b⟩,v0.bb X⟩
   ·show Or.inr ⟨h8,jz,_,⟨co,ge _ _ _ a⟩,a1 lm⟩)
 rw[mR be,mR Fk]at this;show this
theorem FA{h:Heap}{p:Addr×Addr}{C:Addr}{dL:c9}(r:fs ρ h p (.a6 C dL)):∃wS vs co,h.get? p.1=some ⟨.ref C,wS,.fields vs,co⟩∧5<vs.size∧vs[1]?=some .none:=by
 rcases r with⟨vs,⟨co,a⟩,aa,_⟩|⟨_,_,vs,⟨co,a⟩,aa⟩
 ·show HZ _ vs co a aa
 ·show⟨_,vs,co,a,aa⟩
theorem NN(C:cq G P d aaa A J env){k:Nat}{Go:Addr×Addr}{lT:Addr}{dL:c9}{w:Value}(S:a4 G J env ρ j z s)(Fk:j[k]?=some (.a6 lT dL))(be:ρ[k]?=some Go)(an:cD lT=true)(p:a3 G J env z ρ s.heap aR (.ok .none j) Q E):aD (model G.prog G.w) A (call (.builtin "Exception.__init__") [.ref Go.1,w]) Q E s:=by show aX fun _ done=>?_;obtain⟨nm,q,N,bs,sn,sub,ab,col,dd,k0,k1,k2,k3,k5,ny⟩:=C.cv.Fz lT an;have on:=C.ok.fq.keeps S.a9 _ _ ny;show d5 (FA (S.objs k _ Go Fk be)) fun wS vs co ge lm _=>?_;show done ?_;show bk (NR (g:=s.gens) (d:=s.drawn) (t:=s.toks) (os:=s.os) on ge (Array.getElem?_eq_getElem (hE (e0 _) lm)) (by rw[sizeLine_eq];show Nat.le_add_left 1 16777215) ?_);have ak:∀b ln,b≠Go.1→s.heap.get? b=some ln→((s.heap.push {cls:=.type "tuple",data:=.seq [w].toArray}).update Go.1 (Obj.mapFields (·.setIfInBounds 0 (.ref s.heap.objs.size)))).get? b=some ln:=fun b ln I e=>(Heap.get?_update_ne _ _ _ _ I).trans (eH _ e);have hf:=Sj (r:=.ref s.heap.objs.size) S Fk be ak fun wS vs co a=>jX _ (eH {cls:=.type "tuple",data:=.seq [w].toArray} a) rfl;show p.cM hf.1 hf.2 mN
theorem Sk(C:cq G P d aaa A J env){lf:Addr}(mc:lf=e4∨lf=0)(S:a4 G J env ρ j z s):∃f,(∀(fh:Sem Bool)(sp:Value×List Value→Shared→Prop),(∀t,sp (f,[]) {s with toks:=t})→wpAny (model G.prog G.w) A (getMethod (Hk lf) "__init__" fh) sp E s)∧(∀h,G.K.In h→uQ (model G.prog G.w) h f)∧∀(nw:aN)(s1:ae)(lo:Shared)(xs:List ag)(ls:List Value)(Q:Value→Shared→Prop),a4 G J env nw s1 z lo→ba nw lo.heap xs ls→a3 G J env z nw lo.heap aR (vd P lf xs s1) Q E→aD (model G.prog G.w) A (call f ls) Q E lo:=by
 have X:G.K.In s.heap:=C.ok.fq.keeps S.a9;rcases mc with rfl|rfl
 ·have F:=C.cv.vH;show iv (.ref 131) (fun fh sp h=>(?_:wpAny _ _ (getMethod (.ref e4) _ _) _ _ _)) (fun h yQ=>keeps_K F.2.2.2 h yQ) (fun nw s1 lo xs ls Q is ii p=>?_);·show method_cls X F.2.2.1 (cls_value X F.1 F.2.1 rfl (h _))
  ·show p.mi fun it p=>?_;show lR (sg C it rfl rfl rfl (Nat.le_succ _) (Nat.le_add_right _ _) is.toHR ii (p.toC is))
 ·show iv (.builtin "Exception.__init__") (fun fh sp h=>(?_:wpAny _ _ (getMethod (.type "Exception") _ _) _ _ _)) (B0 _) (fun nw s1 lo xs ls Q is ii p=>?_);·show Uj X (by kernel_rfl) (by decide+kernel) C.cv.NL rfl (h _)
  ·show p.mi fun it p=>?_;cases xs with
   |nil=>show p.elim
   |cons x r=>show aX fun _ done=>?_;show a3.ec (x:=f5 r) p fun y f1 p=>?_;show p.ec fun lT on p=>?_;show p.eD fun an p=>?_;show c5 on fun k ak on=>?_;show c5 on fun o ci on=>?_;obtain⟨dL,rfl⟩:=Su on;obtain⟨v,vs,rfl,sB,ii⟩:=ii;show pM ii f1 fun w cl _=>?_;subst cl;show t7 sB ak fun Go be cl=>?_;subst cl;show done ?_;show NN C is ci be an p
end
end
section
open Builtin
section
variable{M:Model}{A:Around}{E:Value→Shared→Prop}{s:Shared}
theorem p1{vs:List Value}{m:Sem Value}{Q:Value→Shared→Prop}(h:aD M A m Q E s):aD M A (operate vs m) Q E s:=fun t0 p NE a b=>by rw[Sem.wp_operate];show h t0 p NE a b
theorem x2{vs keep:List Value}{Q:Unit→Shared→Prop}(h:Q () s):aD M A (release vs keep) Q E s:=bk (wpAny_release h)
end
section
variable{G:br}{P:aY}{d:Nat}{aaa:List (Str×NameKind)}
theorem a'.d7{A:Around}{J:List Env}{env:Env}{ρ:aN}{j:ae}{z:aq}{s:Shared}{E:Value→Shared→Prop}{e:Expr}{i:a0}{f:ag→ae→aG ag}{Q:Value→Shared→Prop}{sp:Value→Shared→Prop}(ge:a' G P d aaa e i)(C:cq G P d aaa A J env)(S:a4 G J env ρ j z s)(p:a3 G J env z ρ s.heap aR ((den P i z j).bind f) Q E)(k:∀a f2 fr a2 v,a4 G J env fr f2 z a2→aL b4 ρ s.heap fr a2.heap→aR fr a2.heap a v→a3 G J env z fr a2.heap aR (f a f2) Q E→sp v a2):aD (model G.prog G.w) A (eval e env) sp E s:=ge A J env ρ j z s sp E C S (a3.bind p fun a f2 fr a2 v _ he lv mt kt=>k a f2 fr a2 v he lv mt kt)
theorem a'.M_{k:Nat}{pos:Pos}:a' G P d aaa (.Constant .none k pos) (.aC .none):=fun A J env ρ j z s Q E C S p=>by show bk (bz (p.cM S (aL.refl _ _ _) mN))
theorem a'.M8{b:Bool}{k:Nat}{pos:Pos}:a' G P d aaa (.Constant (.bool b) k pos) (.aC (.bool b)):=fun A J env ρ j z s Q E C S p=>by show bk (bz (p.cM S (aL.refl _ _ _) n3))
theorem a'.M9{b:Int}{k:Nat}{pos:Pos}:a' G P d aaa (.Constant (.int b) k pos) (.aC (.int b)):=fun A J env ρ j z s Q E C S p=>by show bk (wpAny_mkInt (p.cM (S.dW _) (aL.refl _ _ _) iB))
theorem a'.M'{b:Str}{k:Nat}{pos:Pos}:a' G P d aaa (.Constant (.str b) k pos) (.aC (.str b)):=fun A J env ρ j z s Q E C S p=>by show bk (wpAny_mkText (p.cM (S.dW _) (aL.refl _ _ _) t8))
theorem a'.aV{a b:Expr}{op:Operator}{pos:Pos}{i af:a0}(ds:a' G P d aaa a i)(Y:a' G P d aaa b af):a' G P d aaa (.BinOp a op b pos) (.aV op i af):=fun A J env ρ j z s Q E C S p=>by show(?_:aD _ _ (eval a env>>=fun x=>holding [x] (eval b env)>>=fun y=>standAt pos>>=fun _=>operate [x,y] (binaryOp op x y)) _ _ _);show aB (ds.d7 C S p fun x f2 fr a2 u he lv mt kt=>?_);show aB (cp (Y.d7 C he kt fun y s1 nw lo v is no TW g2=>?_));show aB (cH ?_);show p1 (bk (LZ is (mt.bb no) TW g2))
theorem a'.neg{a:Expr}{pos:Pos}{i:a0}(ds:a' G P d aaa a i):a' G P d aaa (.UnaryOp .USub a pos) (.neg i):=fun A J env ρ j z s Q E C S p=>by show(?_:aD _ _ (eval a env>>=fun v=>standAt pos>>=fun _=>holding [v] (unaryOp .USub v)) _ _ _);show aB (ds.d7 C S p fun x f2 fr a2 u he lv mt kt=>?_);show aB (cH (cp ?_));show kt.iu fun w f0 kt=>?_;show eF f0 fun k ak cl=>?_;subst cl;show aX fun _ done=>?_;clear S p lv f0;obtain rfl:=Hm ak;obtain⟨t,rfl⟩:=mt;show done ?_;show bk (neg_int (kt.cM (he.dW _) (aL.refl _ _ _) iB))
noncomputable def jJ:Expr→Bool
 |.Set .. =>false
 |_=>true
theorem w'{op:CmpOp}{e:Expr}{t:Sem Value}(h:jJ e=true):markedBehindIn op e t=t:=by
 unfold markedBehindIn;have:behindInMarks op e=false:=by cases e<;>first|rfl|cases h
 rw[this]
theorem a'.aQ{a b:Expr}{op:CmpOp}{pos:Pos}{i af:a0}(a1:jJ b=true)(ds:a' G P d aaa a i)(Y:a' G P d aaa b af):a' G P d aaa (.Compare a [op] [b] pos) (.aQ op i af):=fun A J env ρ j z s Q E C S p=>by show(?_:aD _ _ (eval a env>>=fun x=>compareChain pos x [op] [markedBehindIn op b (eval b env)]) _ _ _);rw[w' a1];show aB (ds.d7 C S p fun x f2 fr a2 u he lv mt kt=>?_);show(?_:aD _ _ (holding [u] (eval b env)>>=fun y=>standAt pos>>=fun _=>operate [u,y] (compareOp op u y)) _ _ _);show aB (cp (Y.d7 C he kt fun y s1 nw lo v is no TW g2=>?_));show aB (cH ?_);show g2.iu fun w f0 g2=>?_;show eF f0 fun c Z cl=>?_;subst cl;have np:=C.units;show p1 (bk (qv C.dc is.toHR (mt.bb no) TW (by show qd np) Z fun t=>g2.cM (is.dW _) (aL.refl _ _ _) n3))
theorem a'.jk{a b c:Expr}{op f6:CmpOp}{pos:Pos}{i af l:a0}(a1:jJ c=true)(ds:a' G P d aaa a i)(Y:a' G P d aaa b af)(Z:a' G P d aaa c l):a' G P d aaa (.Compare a [op,f6] [b,c] pos) (.jk i op af f6 l):=fun A J env ρ j z s Q E C S p=>by
 show(?_:aD _ _ (eval a env>>=fun x=>compareChain pos x [op,f6] [eval b env,markedBehindIn f6 c (eval c env)]) _ _ _);rw[w' a1];show aB (ds.d7 C S p fun x f2 fr a2 u he lv mt kt=>?_);show(?_:aD _ _ (holding [u] (eval b env)>>=fun y=>standAt pos>>=fun _=>holding [u,y] (compareOp op u y)>>=fun k=>release [u,y] [k]>>=fun _=>holding [k,y] (truthy k)>>=fun aa=>if aa=true then compareChain pos y [f6] [eval c env]else pure k) _ _ _);show aB (cp (Y.d7 C he kt fun y s1 nw lo v is no TW g2=>?_));have np:=C.units;show aB (cH (aB (cp ?_)));generalize ak:cC op x y s1=o at g2;cases o with
 |none=>show g2.elim
 |some k=>
  show bk (qv C.dc is.toHR (mt.bb no) TW (by show qd np) ak fun t=>?_);show aB (x2 (aB (cp (bk (wpAny_truthy_bool ?_)))));clear p x f2 fr a2 u he lv mt kt no ak;cases k with
  |false=>show bw (g2.cM (is.dW _) (aL.refl _ _ _) n3)
  |true=>show(?_:aD _ _ (holding [v] (eval c env)>>=fun aa=>standAt pos>>=fun _=>operate [v,aa] (compareOp f6 v aa)) _ _ _);show aB (cp (Z.d7 C (is.dW t) g2 fun aa jS jc lL w Os M2 pP kq=>?_));show aB (cH ?_);show kq.iu fun g6 BE kq=>?_;show eF BE fun h0 s3 cl=>?_;subst cl;show p1 (bk (qv C.dc Os.toHR (TW.bb M2) pP (by show qd np) s3 fun t=>kq.cM (Os.dW _) (aL.refl _ _ _) n3))
theorem JQ{α:Type}{x:aG ag}{Tk jq:ae→aG α}:(x.bind fun a j=>h6 (ck a) (Tk j) (jq j))=((x.bind fun a j=>aG.bg ((ck a).map fun _=>a) j).bind fun a j=>h6 (ck a) (Tk j) (jq j)):=by
 cases x with
 |ok x f2=>
  simp only[aG.yU];cases h:ck x with
  |none=>simp
  |some t=>cases t<;>simp[h]
 |a6 k f2=>rfl
 |aS=>rfl
theorem aG.qn{α go hB:Type}(x:aG α)(f:α→ae→aG go)(g:go→ae→aG hB):(x.bind f).bind g=x.bind fun a j=>(f a j).bind g:=by cases x<;>rfl
theorem a3.xn{α go:Type}{J:List Env}{env:Env}{z:aq}{ρ:aN}{h:Heap}{R:aN→Heap→α→go→Prop}{x:aG ag}{Tk jq:ae→aG α}{Q:go→Shared→Prop}{E:Value→Shared→Prop}(p:a3 G J env z ρ h R (x.bind fun a j=>h6 (ck a) (Tk j) (jq j)) Q E):a3 G J env z ρ h R ((x.bind fun a j=>aG.bg ((ck a).map fun _=>a) j).bind fun a j=>h6 (ck a) (Tk j) (jq j)) Q E:=JQ▸p
theorem a'.ite{c a b:Expr}{pos:Pos}{i af l:a0}(Z:cB G P d aaa c i)(ds:a' G P d aaa a af)(Y:a' G P d aaa b l):a' G P d aaa (.IfExp c a b pos) (.ite i af l):=fun A J env ρ j z s Q E C S p=>by
 show(?_:aD _ _ (isTrue c env (eval c env)>>=fun t=>if t=true then eval a env else eval b env) _ _ _);show aB (Z A J env ρ j z s _ E C S ?_);show a3.bind (a3.xn p) fun x f2 fr a2 t _ he lv mt kt=>?_;have mt:ck x=some t:=mt;rw[mt]at kt;clear s S p lv mt;cases t with
 |true=>show ds A J env fr f2 z a2 Q E C he kt
 |false=>show Y A J env fr f2 z a2 Q E C he kt
theorem a'.av{bd:List Expr}{k:Nat}{pos:Pos}{l:b5}(h:gc G P d aaa bd l)(bi:bd.length<1000)(V:∀z j xs H,hM P l z j=.ok xs H→xs.length=bd.length):a' G P d aaa (.Tuple bd k pos) (.av l):=fun A J env ρ j z s Q E C S p=>by show(?_:aD _ _ (standAt pos>>=fun _=>spliced (backTo pos (starEach bd env))>>=fun vs=>newTuple vs) _ _ _);show aB (cH (aB ?_));show h A J env pos ρ j z s _ E C S (a3.bind p fun xs f2 fr a2 vs e he lv mt kt=>?_);have:=xe he mt kt a2.toks;show bk (wpAny_newTuple this (by rw[mt.length,V _ _ _ _ e,sizeLine_eq];show ai [[1,1]] [_] [] [.lt .x .R] (.le .x (.n 16777216)) ah bi))
theorem a'.bM{bd:List Expr}{pos:Pos}{l:b5}(h:gc G P d aaa bd l):a' G P d aaa (.List bd pos) (.bM l):=fun A J env ρ j z s Q E C S p=>by show(?_:aD _ _ (standAt pos>>=fun _=>spliced (backTo pos (starEach bd env))>>=fun vs=>newList vs) _ _ _);show aB (cH (aB ?_));show h A J env pos ρ j z s _ E C S (a3.bind p fun xs f2 fr a2 vs e he lv mt kt=>?_);show c4 (gV he mt kt) fun I O=>?_;show bk (wpAny_newList (O a2.toks) (gb I))
end
end
section
open Builtin
section
variable{G:br}{P:aY}{d:Nat}{aaa:List (Str×NameKind)}
theorem a'.sub{v i:Expr}{pos:Pos}{a b:a0}(al:a' G P d aaa v a)(an:a' G P d aaa i b)(a1:∀x y aa p,i≠.Slice x y aa p):a' G P d aaa (.Subscript v i pos) (.sub a b):=fun A J env ρ j z s Q E C S p=>by show(?_:aD _ _ (eval v env>>=fun o=>holding [o] (eval i env)>>=fun x=>standAt pos>>=fun _=>subscriptTail v i o x) _ _ _);show aB (al.d7 C S p fun x f2 fr a2 u he lv mt kt=>?_);show aB (cp (an.d7 C he kt fun y s1 nw lo w is no TW g2=>?_));show aB (cH (bk ?_));show g2.iu fun aa lm g2=>?_;show W6 C.dc a1 is (mt.bb no) TW lm fun r t ry=>g2.cM (is.dW _) (aL.refl _ _ _) ry
theorem a'.Wn{v l:Expr}{pos g4:Pos}{a b:a0}(al:a' G P d aaa v a)(V:a' G P d aaa l b):a' G P d aaa (.Subscript v (.Slice (some l) none none g4) pos) (.hx a b (.aC .none)):=fun A J env ρ j z s Q E C S p=>by show(?_:aD _ _ (eval v env>>=fun o=>holding [o] (eval l env>>=fun x=>holding [x] (pure .none)>>=fun y=>holding [x,y] (pure .none)>>=fun aa=>newFields "slice" [x,y,aa])>>=fun x=>standAt pos>>=fun _=>subscriptTail v (.Slice (some l) none none g4) o x) _ _ _);show aB (al.d7 C S p fun x f2 fr a2 u he lv mt kt=>?_);show aB (cp (aB (V.d7 C he kt fun y s1 nw lo w is no TW g2=>?_)));show aB (cp (bw (aB (cp (bw ?_)))));show bk (wpAny_newObj_type ?_ (by size_fits));show aB (cH (bk ?_));show Ji is (mt.bb no) TW mN g2
theorem a'.Wo{v l:Expr}{pos g4:Pos}{a b:a0}(al:a' G P d aaa v a)(V:a' G P d aaa l b):a' G P d aaa (.Subscript v (.Slice none (some l) none g4) pos) (.hx a (.aC .none) b):=fun A J env ρ j z s Q E C S p=>by show(?_:aD _ _ (eval v env>>=fun o=>holding [o] (pure .none>>=fun x=>holding [x] (eval l env)>>=fun y=>holding [x,y] (pure .none)>>=fun aa=>newFields "slice" [x,y,aa])>>=fun x=>standAt pos>>=fun _=>subscriptTail v (.Slice none (some l) none g4) o x) _ _ _);show aB (al.d7 C S p fun x f2 fr a2 u he lv mt kt=>?_);show aB (cp (aB (bw (aB (cp (V.d7 C he kt fun y s1 nw lo w is no TW g2=>?_))))));show aB (cp (bw ?_));show bk (wpAny_newObj_type ?_ (by size_fits));show aB (cH (bk ?_));show Ji is (mt.bb no) mN TW g2
theorem Eo{o:Expr}{a:Str}{env:Env}{uF:Sem Value}(h:tL o=true):attributeBase o a env uF=uF:=by
 cases o with
 |Name x p=>rfl
 |Attribute v f p=>rfl
 |_=>show fy h
theorem a'.bO{v:Expr}{f:Str}{fw:c8}{pos:Pos}{a:a0}(al:a' G P d aaa v a)(ch:qF f=some fw)(bi:tL v=true):a' G P d aaa (.Attribute v f pos) (.bO a fw):=fun A J env ρ j z s Q E C S p=>by
 have o9:fw.str=f:=by have:=List.find?_some ch;simpa using this
 show(?_:aD _ _ (attributeBase v f env (eval v env)>>=fun o=>standAt pos.atName>>=fun _=>holding [o] (getAttr o f true)>>=fun r=>letTemporaryGo v o r>>=fun _=>pure r) _ _ _);rw[Eo bi];show aB (al.d7 C S p fun x f2 fr a2 u he lv mt kt=>?_);show kt.iu fun aa lm kt=>?_;show aB (cH (aB (cp (bk ?_))));rw[←o9];show Ll C.ok C.cv he mt lm fun r t ry=>?_;show aB (bk (wpAny_letTemporaryGo (bw (kt.cM (he.dW _) (aL.refl _ _ _) ry))))
noncomputable def Ik:Expr→Bool
 |.Attribute .. =>false
 |_=>true
theorem a'.call{f:Expr}{as:List Expr}{pos:Pos}{a:a0}{l:b5}(ch:a' G P d aaa f a)(V:gc G P d aaa as l)(be:f7 as=true)(bi:Ik f=true):a' G P d aaa (.Call f as [] pos) (.call a l):=fun A J env ρ j z s Q E C S p=>by
 have e:eval (.Call f as [] pos) env=(eval f env>>=fun v=>callWith pos v [] (backTo pos (starEach as env)) []):=by clear ch;cases f<;>first|rfl|cases bi
 rw[e];show aB (ch.d7 C S p fun x f2 fr a2 u he lv mt kt=>?_);show sf (r9 be) ?_;show V A J env pos fr f2 z a2 _ E C he (a3.bind kt fun xs s1 nw lo vs _ is no jM g2=>?_);show Mz C is (mt.bb no) jM g2
theorem a'.bq{o:Expr}{m:Str}{Cx:dG}{as:List Expr}{Uf pos:Pos}{a:a0}{l:b5}(ci:a' G P d aaa o a)(V:gc G P d aaa as l)(be:f7 as=true)(ac:H5 m=some Cx)(bi:tL o=true)(I:(Uf.endLine==pos.line)=true)(O:as.length<29):a' G P d aaa (.Call (.Attribute o m Uf) as [] pos) (.bq a Cx l):=fun A J env ρ j z s Q E C S p=>by
 have Rl:Cx.str=m:=by have:=List.find?_some ac;simpa using this
 show(?_:aD _ _ (attributeBase o m env (eval o env)>>=fun pI=>standAt Uf.atName>>=fun _=>methodCall o m Uf pos env pI (as.length+([]:List Keyword).length) (backTo pos (starEach as env)) (backToKw pos (keywordEach [] env))) _ _ _);rw[Eo bi];show aB (ci.d7 C S p fun x f2 fr a2 u he lv mt kt=>?_);show kt.eD fun ev kt=>?_;show eA (Ui (E:=E) C he mt ev) fun f ZB SC UV=>?_;show aB (cH (HV I O be ?_));rw[←Rl];show ZB _ _ ?_;show sf (r9 be) ?_;show V A J env pos fr f2 z a2 _ E C he (a3.bind kt fun xs s1 nw lo vs _ is no jM g2=>?_);show⟨SC _ (C.ok.fq.keeps is.a9),UV nw s1 lo xs vs Q is no jM g2⟩
theorem a'.init{c:Str}{as:List Expr}{Ok Uf pos:Pos}{lf:Addr}{l:b5}(V:gc G P d aaa as l)(be:f7 as=true)(Z:(c=("WasmFault":Str)∧lf=e4)∨(c=("Exception":Str)∧lf=0))(ak:∃af:Nat,aaa[af]?=some (c,.globalImplicit))(I:(Uf.endLine==pos.line)=true)(O:as.length<29):a' G P d aaa (.Call (.Attribute (.Name c Ok) "__init__" Uf) as [] pos) (.init lf l):=fun A J env ρ j z s Q E C S p=>by
 obtain⟨af,dl⟩:=ak;show C.lq dl fun gl ZB SC UV=>?_;show(?_:aD _ _ (eval (.Name c Ok) env>>=fun pI=>standAt Uf.atName>>=fun _=>methodCall (.Name c Ok) "__init__" Uf pos env pI (as.length+([]:List Keyword).length) (backTo pos (starEach as env)) (backToKw pos (keywordEach [] env))) _ _ _);have AT:gl=.globalImplicit:=by
  rcases UV with rfl|⟨h,_⟩
  ·rfl
  ·cases h
 subst AT;have k_:s.heap.Ns env.globals G.dO:=by rw[C.cL.js];show C.ok.T.g.keeps S.a9
 have oY:s.heap.Ns env.builtins G.fF:=by rw[C.cL.blt];show C.ok.T.b.keeps S.a9
 have iD:aD (model G.prog G.w) A (standAt Uf.atName>>=fun _=>methodCall (.Name c Ok) "__init__" Uf pos env (Hk lf) (as.length+([]:List Keyword).length) (backTo pos (starEach as env)) (backToKw pos (keywordEach [] env))) Q E s:=by show eA (Sk (E:=E) C (lf:=lf) (by rcases Z with⟨_,h⟩|⟨_,h⟩<;>simp[h]) S) fun f ia l' zC=>?_;show aB (cH (HV I O be ?_));show ia _ _ fun t=>?_;show sf (r9 be) ?_;show V A J env pos ρ j z {s with toks:=t} _ E C (S.dW t) (a3.bind p fun xs s1 nw lo vs _ is no jM g2=>?_);show⟨l' _ (C.ok.fq.keeps is.a9),zC nw s1 lo xs vs Q is jM g2⟩
 clear z S p af dl ZB UV;rcases Z with⟨rfl,rfl⟩|⟨rfl,rfl⟩
 ·show aB (bk (Name_function_global C.cL.kind SC (loadGlobal_global k_ C.dc.vH iD) (by decide)))
 ·show aB (bk (Name_function_global C.cL.kind SC (loadGlobal_builtin k_ C.dc.a6.1 oY C.dc.a6.2 iD) (by decide)))
theorem JR{A:Around}{s:Shared}{E:Value→Shared→Prop}{ρ:aN}{x:ag}{v:Value}{b:Bool}{Q:Bool→Shared→Prop}{h:Heap}(r:aR ρ h x v)(Y:ck x=some b)(q:Q b s):wpAny (model G.prog G.w) A (truthy v) Q E s:=by
 cases x with
 |bool c=>cases Y;subst r;show wpAny_truthy_bool q
 |int i=>cases Y;obtain⟨t,rfl⟩:=r;show PySem.P.truthy_int q
 |_=>show cf Y
noncomputable def xo:Expr→Bool
 |.Name .. =>true
 |.Attribute .. =>true
 |.Call .. =>true
 |.Constant .. =>true
 |.Subscript .. =>true
 |.BinOp .. =>true
 |_=>false
theorem Sy{e:Expr}{env:Env}{uF:Sem Value}(h:xo e=true):isTrue e env uF=(uF>>=fun v=>standAt e.pos>>=fun _=>holding [v] (truthy v)):=by
 cases e with
 |Name _ _=>rfl
 |Attribute _ _ _=>rfl
 |Call _ _ _ _=>rfl
 |Constant _ _ _=>rfl
 |Subscript _ _ _=>rfl
 |BinOp _ _ _ _=>rfl
 |_=>show fy h
theorem a3.toB{J:List Env}{env:Env}{z:aq}{ρ:aN}{h:Heap}{x:aG ag}{Q:Bool→Shared→Prop}{E:Value→Shared→Prop}(p:a3 G J env z ρ h m7 (x.bind fun a j=>aG.bg ((ck a).map fun _=>a) j) Q E){sp:Value→Shared→Prop}(k:∀a b f2 fr a2 v,x=.ok a f2→ck a=some b→a4 G J env fr f2 z a2→aL b4 ρ h fr a2.heap→aR fr a2.heap a v→Q b a2→sp v a2):a3 G J env z ρ h aR x sp E:=by
 cases x with
 |aS=>show p
 |a6 k j=>show p
 |ok a j=>intro fr a2 v he lv mt;show a3.iu (a:=(ck a).map fun _=>a) p fun w f0 p=>?_;show eF f0 fun b Y e=>?_;clear f0;subst e;show k a b j fr a2 v rfl Y he lv mt (p fr a2 b he lv Y)
theorem cB.plain{e:Expr}{i:a0}(ge:a' G P d aaa e i)(h:xo e=true):cB G P d aaa e i:=fun A J env ρ j z s Q E C S p=>by rw[Sy h];show aB (ge A J env ρ j z s _ E C S (p.toB fun a b f2 fr a2 v _ Y he lv mt q=>?_));show aB (cH (cp (bk (JR mt Y q))))
theorem a3.toT{A:Around}{J:List Env}{env:Env}{z:aq}{ρ:aN}{h:Heap}{x:aG ag}{Q:Bool→Shared→Prop}{E:Value→Shared→Prop}(p:a3 G J env z ρ h m7 (x.bind fun a j=>aG.bg ((ck a).map fun _=>a) j) Q E):a3 G J env z ρ h aR x (fun v a2=>aD (model G.prog G.w) A (truthy v) Q E a2) E:=p.toB fun _ _ _ _ _ _ _ Y _ _ mt q=>bk (JR mt Y q)
theorem cB.aQ{a b:Expr}{op:CmpOp}{pos:Pos}{i af:a0}(a1:jJ b=true)(ds:a' G P d aaa a i)(Y:a' G P d aaa b af):cB G P d aaa (.Compare a [op] [b] pos) (.aQ op i af):=fun A J env ρ j z s Q E C S p=>by show(?_:aD _ _ (eval a env>>=fun x=>testChain pos x [op] [markedBehindIn op b (eval b env)]) _ _ _);rw[w' a1];have p:=p.toT (A:=A);show aB (ds.d7 C S p fun x f2 fr a2 u he lv mt kt=>?_);show(?_:aD _ _ (holding [u] (eval b env)>>=fun y=>standAt pos>>=fun _=>operate [u,y] (compareOp op u y)>>=fun c=>holding [c] (truthy c)) _ _ _);show aB (cp (Y.d7 C he kt fun y s1 nw lo v is no TW g2=>?_));show aB (cH ?_);show g2.iu fun w f0 g2=>?_;show eF f0 fun c Z cl=>?_;subst cl;have np:=C.units;show aB (p1 (bk (qv C.dc is.toHR (mt.bb no) TW (by show qd np) Z fun t=>?_)));show cp (g2.cM (is.dW t) (aL.refl _ _ _) n3)
theorem cB.jk{a b c:Expr}{op f6:CmpOp}{pos:Pos}{i af l:a0}(a1:jJ c=true)(ds:a' G P d aaa a i)(Y:a' G P d aaa b af)(Z:a' G P d aaa c l):cB G P d aaa (.Compare a [op,f6] [b,c] pos) (.jk i op af f6 l):=fun A J env ρ j z s Q E C S p=>by
 show(?_:aD _ _ (eval a env>>=fun x=>testChain pos x [op,f6] [eval b env,markedBehindIn f6 c (eval c env)]) _ _ _);rw[w' a1];have p:=p.toT (A:=A);show aB (ds.d7 C S p fun x f2 fr a2 u he lv mt kt=>?_);show(?_:aD _ _ (holding [u] (eval b env)>>=fun y=>standAt pos>>=fun _=>holding [u,y] (compareOp op u y)>>=fun k=>release [u,y] [k]>>=fun _=>holding [k,y] (truthy k)>>=fun aa=>if aa=true then testChain pos y [f6] [eval c env]else pure false) _ _ _);show aB (cp (Y.d7 C he kt fun y s1 nw lo v is no TW g2=>?_));have np:=C.units;show aB (cH (aB (cp ?_)));generalize ak:cC op x y s1=o at g2;cases o with
 |none=>show g2.elim
 |some k=>
  show bk (qv C.dc is.toHR (mt.bb no) TW (by show qd np) ak fun t=>?_);show aB (x2 (aB (cp (bk (wpAny_truthy_bool ?_)))));clear fr a2 u he lv mt kt no ak;cases k with
  |false=>have q:=g2.cM (is.dW t) (aL.refl _ _ _) n3;have e:truthy (.bool false)=pure false:=rfl;rw[e]at q;show q
  |true=>show(?_:aD _ _ (holding [v] (eval c env)>>=fun aa=>standAt pos>>=fun _=>operate [v,aa] (compareOp f6 v aa)>>=fun c=>holding [c] (truthy c)) _ _ _);show aB (cp (Z.d7 C (is.dW t) g2 fun aa jS jc lL w Os M2 pP kq=>?_));show aB (cH ?_);show kq.iu fun g6 BE kq=>?_;show eF BE fun h0 s3 cl=>?_;subst cl;show aB (p1 (bk (qv C.dc Os.toHR (TW.bb M2) pP (by show qd np) s3 fun t=>?_)));show cp (kq.cM (Os.dW t) (aL.refl _ _ _) n3)
theorem a3.not{J:List Env}{env:Env}{z:aq}{ρ:aN}{h:Heap}{x:aG ag}{Q:Bool→Shared→Prop}{E:Value→Shared→Prop}(p:a3 G J env z ρ h m7 ((x.bind fun a j=>aG.bg ((ck a).map fun b=>.bool (!b)) j).bind fun a j=>aG.bg ((ck a).map fun _=>a) j) Q E):a3 G J env z ρ h m7 (x.bind fun a j=>aG.bg ((ck a).map fun _=>a) j) (fun b=>Q (!b)) E:=by
 cases x with
 |aS=>show p
 |a6 k j=>show p
 |ok a j=>
  show(?_:a3 G J env z ρ h m7 (aG.bg ((ck a).map fun _=>a) j) _ E);have p:a3 G J env z ρ h m7 ((aG.bg ((ck a).map fun b=>ag.bool (!b)) j).bind _) Q E:=p;cases im:ck a with
  |none=>rw[im]at p;show p
  |some b=>rw[im]at p;intro fr a2 v he lv r;obtain rfl:=bx (im.symm.trans r);show p fr a2 (!b) he lv rfl
theorem cB.not{e:Expr}{pos:Pos}{i:a0}(ge:cB G P d aaa e i):cB G P d aaa (.UnaryOp .Not e pos) (.not i):=fun A J env ρ j z s Q E C S p=>by show(?_:aD _ _ (isTrue e env (eval e env)>>=fun b=>pure (!b)) _ _ _);show aB (en (ge A J env ρ j z s _ E C S (a3.not p)) (fun _ _ q=>bw q) fun _ _ aa=>aa)
def r2(G:br)(P:aY)(d:Nat)(aaa:List (Str×NameKind))(op:BoolOp)(bd:List Expr)(i:a0):Prop:=∀(A:Around)(J:List Env)(env:Env)(ρ:aN)(j:ae)(z:aq)(s:Shared)(Q:Bool→Shared→Prop)(E:Value→Shared→Prop),cq G P d aaa A J env→a4 G J env ρ j z s→a3 G J env z ρ s.heap m7 ((den P i z j).bind fun a j=>aG.bg ((ck a).map fun _=>a) j) Q E→aD (model G.prog G.w) A (allTrue op bd env) Q E s
theorem a3.IA{J:List Env}{env:Env}{z:aq}{ρ:aN}{h:Heap}{R:aN→Heap→ag→Bool→Prop}{x:aG ag}{Tk jq:ae→aG ag}{g:ag→ae→aG ag}{Q:Bool→Shared→Prop}{E:Value→Shared→Prop}(p:a3 G J env z ρ h R ((x.bind fun a j=>h6 (ck a) (Tk j) (jq j)).bind g) Q E):a3 G J env z ρ h R ((x.bind fun a j=>aG.bg ((ck a).map fun _=>a) j).bind fun a j=>(h6 (ck a) (Tk j) (jq j)).bind g) Q E:=by rw[JQ,aG.qn]at p;show p
set_option backward.match.sparseCases true in
theorem cB.and{a b:Expr}{i af:a0}(ds:cB G P d aaa a i){bh:List Expr}(Y:r2 G P d aaa .And (b::bh) af):r2 G P d aaa .And (a::b::bh) (.and i af):=fun A J env ρ j z s Q E C S p=>by
 show(?_:aD _ _ (isTrue a env (eval a env)>>=fun t=>match BoolOp.And,t with
  |.And,false=>pure false
  |.Or,true=>pure true
  |_,_=>allTrue .And (b::bh) env) _ _ _)
 show aB (ds A J env ρ j z s _ E C S (a3.bind (a3.IA p) fun x f2 fr a2 t _ he lv mt kt=>?_));have mt:ck x=some t:=mt;rw[mt]at kt;clear S p lv mt;cases t with
 |true=>show Y A J env fr f2 z a2 Q E C he kt
 |false=>show bw (a3.cM kt (a:=ag.bool false) he (aL.refl _ _ _) rfl)
set_option backward.match.sparseCases true in
theorem cB.or{a b:Expr}{i af:a0}(ds:cB G P d aaa a i){bh:List Expr}(Y:r2 G P d aaa .Or (b::bh) af):r2 G P d aaa .Or (a::b::bh) (.or i af):=fun A J env ρ j z s Q E C S p=>by
 show(?_:aD _ _ (isTrue a env (eval a env)>>=fun t=>match BoolOp.Or,t with
  |.And,false=>pure false
  |.Or,true=>pure true
  |_,_=>allTrue .Or (b::bh) env) _ _ _)
 show aB (ds A J env ρ j z s _ E C S (a3.bind (a3.IA p) fun x f2 fr a2 t _ he lv mt kt=>?_));have mt:ck x=some t:=mt;rw[mt]at kt;clear S p lv mt;cases t with
 |false=>show Y A J env fr f2 z a2 Q E C he kt
 |true=>show bw (a3.cM kt (a:=ag.bool true) he (aL.refl _ _ _) rfl)
set_option backward.match.sparseCases true in
theorem cB.lu{op:BoolOp}{a:Expr}{i:a0}(ds:cB G P d aaa a i):r2 G P d aaa op [a] i:=fun A J env ρ j z s Q E C S p=>by
 show(?_:aD _ _ (isTrue a env (eval a env)>>=fun t=>match op,t with
  |.And,false=>pure false
  |.Or,true=>pure true
  |_,_=>pure (op==.And)) _ _ _)
 show aB (en (ds A J env ρ j z s Q E C S p) (fun b s' q=>?_) fun _ _ aa=>aa);cases op<;>cases b<;>show bw q
theorem cB.K_{a b:Expr}{pos:Pos}{i af:a0}(ds:cB G P d aaa a i)(Y:cB G P d aaa b af):cB G P d aaa (.BoolOp .And [a,b] pos) (.and i af):=cB.and ds (cB.lu Y)
theorem cB.K'{a b c:Expr}{pos:Pos}{i af k:a0}(ds:cB G P d aaa a i)(Y:cB G P d aaa b af)(Z:cB G P d aaa c k):cB G P d aaa (.BoolOp .And [a,b,c] pos) (.and i (.and af k)):=cB.and ds (cB.and Y (cB.lu Z))
theorem cB.U4{a b:Expr}{pos:Pos}{i af:a0}(ds:cB G P d aaa a i)(Y:cB G P d aaa b af):cB G P d aaa (.BoolOp .Or [a,b] pos) (.or i af):=cB.or ds (cB.lu Y)
end
end
section
open Builtin
theorem N7{α:Type}(a:α):∀n:Nat,(List.replicate n [a]).flatten=List.replicate n a:=by
 intro ca;induction ca with
 |zero=>show rfl
 |succ n ap=>rw[List.replicate_succ,List.flatten_cons,ap];rfl
theorem VU{ρ:aN}{h:Heap}{a:ag}{v:Value}(r:aR ρ h a v):∀n:Nat,ba ρ h (List.replicate n a) (List.replicate n v):=by
 intro ca;induction ca with
 |zero=>show ba.nil
 |succ n ap=>show ba.cons r (ap)
section
variable{G:br}{P:aY}{d:Nat}{aaa:List (Str×NameKind)}
theorem a'.lG{i k:Int}{k1 k2:Nat}{tW On kn pos:Pos}(ak:0<k∧k<100):a' G P d aaa (.BinOp (.List [.Constant (.int i) k1 tW] On) .Mult (.Constant (.int k) k2 kn) pos) (.lG i k.toNat):=fun A J env ρ j z s Q E C S p=>by show p.eD fun _ p=>?_;change aD _ _ ((standAt On>>=fun _=>spliced [(false,mkInt i)]>>=fun vs=>newList vs)>>=fun x=>holding [x] (mkInt k)>>=fun y=>standAt pos>>=fun _=>operate [x,y] (binaryOp .Mult x y)) _ _ _;show aB (aB (cH (aB (Jr (bk (wpAny_mkInt (Js ?_)))))));show c4 ((S.dW (s.toks+1)).newList (l:=[.int i]) (vs:=[.int i s.toks]) (ba.cons iB ba.nil) (s.toks+1)) fun he lv=>?_;obtain⟨it,Yu,dd,ah,Y4⟩:=s;show bk (wpAny_newList ?_ (by size_fits));show aB (cp (bk (wpAny_mkInt ?_)));show aB (cH (p1 (bk ?_)));have ci:(it.push {cls:=.type "list",data:=.seq #[Value.int i ah]}).get? it.objs.size=some ⟨.type "list",none,.seq #[Value.int i ah] 0,#[]⟩:=iO _ rfl;show wpAny_binaryOp_repeat_ref (T:="list") (U:="int") (by decide) ⟨_,ci,rfl⟩ (fun s'=>typeIs_int s' k (ah+1)) noFill_list_mul F.fills_int_mul F.slot_int_rmul repeat_list F.slot_int_index.lookup (call_meets F.slot_int_rmul (typeIs_int _ k (ah+1)) F.entry_int_rmul (F.args_int_rmul_2 _ _) (lm_int_rmul_list_any k (ah+1) it.objs.size #[Value.int i ah] 0 none #[]) ⟨ci,rfl,⟨_,ci,rfl⟩,call_meets F.slot_list_mul ⟨_,ci,rfl⟩ F.entry_list_mul (F.args_list_mul_2 _ _) (lm_list_mul_any it.objs.size #[Value.int i ah] 0 none #[] k (ah+1) (by simp[Builtin.List.listFitsIndex];show⟨g9 (by decide) (Int.le_of_lt ak.1),Int.lt_trans ak.2 (by decide)⟩) (by simp;show Int.le_of_lt (Int.lt_trans ak.2 (by decide))) (by simp[Builtin.List.listTooLong,sizeLine];show Int.le_of_lt (Int.lt_trans ak.2 (by decide)))) ⟨ci,?_⟩⟩);rw[listMul_foldl_if];have e:(List.replicate k.toNat (#[Value.int i ah]:Array Value).toList).flatten=List.replicate k.toNat (Value.int i ah):=N7 _ _;rw[e];have is:=he.dW (ah+1+1);obtain⟨I,O⟩:=gV is (VU iB k.toNat) (p.eY lv);show O _
end
end
section
open Builtin
theorem ba.PQ{ρ:aN}{h:Heap}:∀{l:List ag}{vs:List Value}{i:Nat}{v:Value},ba ρ h l vs→vs[i]?=some v→∃a,l[i]?=some a∧aR ρ h a v:=by
 intro ca;induction ca with
 |nil=>intro sK Ev Da r e;subst r;show cf e
 |cons a iH ap=>
  intro hg SB j6 r e;cases SB with
  |zero=>show dR r fun v GM cl al ar=>?_;subst cl;cases e;show b' a rfl al
  |succ i=>obtain⟨v,GM,rfl,al,ar⟩:=r;show ap (i:=i) ar e
noncomputable def tT:List String:=["enumerate","zip","dict_itemiterator","dict_reverseitemiterator","odict_iterator","itertools.zip_longest","itertools.pairwise"]
noncomputable def rC:List String:=["list_iterator","tuple_iterator","range_iterator","str_ascii_iterator","str_iterator"]
def yc(G:br)(ρ:aN)(h:Heap)(aJ:Addr)(l:List ag)(i:Nat):Prop:=∃(oP:List Addr)(P:Nat→Value→Prop)(St:Nat→Heap→Prop)(T:String),(∀A:Around,A.handled=none→Walks G.prog G.w A aJ oP [aJ] l.length P St)∧St i h∧i≤l.length∧(∀af h',St af h'→∃d vs co,h'.get? aJ=some ⟨.type T,d,.fields vs,co⟩)∧T≠"traceback"∧(T≠"tuple"∧tT.contains T=false∧rC.contains T=true)∧¬cg ρ aJ∧(∀b∈oP,b=aJ∨(∃o,h.get? b=some o∧o.cls≠.type "traceback"∧(∀bd n,o.data≠.dict bd n)∧∀w,o.data≠.cell w)∧¬cg ρ b)∧(∀af v,P af v→∃x,l[af]?=some x∧aR ρ h x v)
def Kr(ρ:aN)(h:Heap)(aJ:Addr)(k i:Nat):Prop:=∃p d co,ρ[k]?=some p∧h.get? aJ=some ⟨.type "list_iterator",d,.fields #[.ref p.1,.int i 0],co⟩∧¬cg ρ aJ
def ef(G:br)(ρ:aN)(h:Heap)(aJ:Addr)(db:d8)(i:Nat):Prop:=match db with
 |.all l=>yc G ρ h aJ l i
 |.cc k=>Kr ρ h aJ k i
theorem ef.q9{G:br}{ρ:aN}{h:Heap}{aJ:Addr}{db:d8}{i:Nat}(x:ef G ρ h aJ db i):(∃T d vs co,h.get? aJ=some ⟨.type T,d,.fields vs,co⟩∧T≠"traceback"∧(T≠"tuple"∧tT.contains T=false∧rC.contains T=true))∧¬cg ρ aJ:=by
 cases db with
 |all l=>show aX fun _ done=>?_;obtain⟨oP,P,St,T,W,wn,_,ch,f',lM,ci,_⟩:=x;show oN (ch i h wn) fun d vs co e=>?_;show done ?_;show⟨⟨T,d,vs,co,e,f',lM⟩,ci⟩
 |cc k=>show d5 x fun p d co be e ci=>?_;show⟨⟨_,d,_,co,e,by decide,by decide,by decide,by decide⟩,ci⟩
theorem ef.ext{G:br}{ρ bm:aN}{h h':Heap}{aJ:Addr}{db:d8}{i:Nat}{X:Addr→Prop}(x:ef G ρ h aJ db i)(e:aL X ρ h bm h')(po:∀b o,h.get? b=some o→o.cls≠.type "traceback"→(∀bd n,o.data≠.dict bd n)→(∀w,o.data≠.cell w)→¬cg ρ b→¬X b):ef G bm h' aJ db i:=by
 show c4 (ef.q9 x) fun v1 ki=>?_;show vr v1 fun T d vs co fS f' lM=>?_;have CA:∀{oq:String},T≠oq→(⟨.type T,d,.fields vs,co⟩:Obj).cls≠.type oq:=fun h q=>h (by simpa using q);have H':∀bd n,(⟨.type T,d,.fields vs,co⟩:Obj).data≠.dict bd n:=fun bd n h=>by cases h
 have BZ:h'.get? aJ=some ⟨.type T,d,.fields vs,co⟩:=e.f3 _ _ fS (CA f') H' ki (po _ _ fS (CA f') H' (fun w h=>by cases h) ki);have Cz:¬cg bm aJ:=fun q=>(e.new aJ q).elim ki fun aa=>by have aa:=aa.1;rw[fS]at aa;cases aa
 cases db with
 |all l=>
  show aX fun _ done=>?_;obtain⟨oP,P,St,oq,W,wn,TT,ch,xS,xT,ci,v8,iY⟩:=x;show done ?_;show⟨oP,P,St,oq,W,?_,TT,ch,xS,xT,Cz,fun b Y=>?_,fun af v al=>?_⟩
  ·show(W {} rfl).frame i h h' wn fun b Y o iW=>?_;clear St oq W wn TT ch xS xT ci iY;rcases v8 b Y with rfl|⟨⟨o',ka,dZ,fu,h7⟩,nH⟩
   ·rw[fS]at iW;cases iW;show BZ
   ·rw[ka]at iW;cases iW;show e.f3 _ _ ka dZ fu nH (po _ _ ka dZ fu h7 nH)
  ·clear ki fS BZ Cz W ch ci;rcases v8 b Y with rfl|⟨⟨o',ka,dZ,fu,h7⟩,nH⟩
   ·show .inl rfl
   ·show .inr ⟨⟨o',e.f3 _ _ ka dZ fu nH (po _ _ ka dZ fu h7 nH),dZ,fu,h7⟩,fun q=>(e.new b q).elim nH fun aa=>by have aa:=aa.1;rw[ka]at aa;cases aa⟩
  ·show aW (iY af v al) fun x ad ar=>?_;show b' x ad (ar.bb e)
 |cc k=>show d5 x fun p nj GE be cd ci=>?_;show aW (e.pre _ _ be) fun jp IN ww=>?_;rw[fS]at cd;show⟨jp,nj,GE,IN,by rw[BZ,cd,ww],Cz⟩
section
variable{G:br}{A:Around}{J:List Env}{env:Env}{ρ:aN}{j:ae}{z:aq}{s:Shared}{E:Value→Shared→Prop}
theorem HR.bV(S:HR G J ρ j s){h':Heap}{aJ:Addr}{o:Obj}(ga:s.heap.get? aJ=some o)(hd:∃vs,o.data=.fields vs)(nC:o.cls≠.type "tuple")(ci:¬cg ρ aJ)(Y:G.a9.get? aJ=none)(k:∀b x,b≠aJ→s.heap.get? b=some x→h'.get? b=some x)(t:Nat):HR G J ρ j {s with heap:=h',toks:=t}∧aL (fun b=>b=aJ) ρ s.heap ρ h':=by
 have X:aL (fun b=>b=aJ) ρ s.heap ρ h':={
  pre:=fun _ p h=>⟨p,h,rfl⟩
  cc:=fun b e Y=>by
   cases q:s.heap.get? b with
   |none=>show absurd q Y
   |some x=>rw[k b x e q];show fun aa=>ns aa
  cls:=fun b x po e=>⟨x,k b x po e,rfl⟩
  new:=fun _ q=>.inl q
  keep:=fun b c d g1 a _ _ po=>let⟨co,e⟩:=a;⟨co,k b _ po e⟩
  f3:=fun b x e _ _ _ po=>k b x po e
  av:=fun b vs n a=>by obtain⟨co,e⟩:=a;show⟨co,k b _ (fun q=>?_) e⟩;clear ci Y k;subst q;rw[ga]at e;clear hd ga;obtain rfl:=bx e;show nC rfl}
 obtain⟨vs,hd⟩:=hd;show⟨S.step (s':={s with heap:=h',toks:=t}) X (fun e ge L Ty P8=>?_) (fun b x e=>?_) rfl rfl S.len (fun af a p I O=>(S.objs af a p I O).ext X fun b c d g1 e y=>?_) S.hj,X⟩;·obtain⟨_,g3,c,d,bd,n,cd,_,_,⟨co,a⟩⟩:=S.frames e ge;subst P8;rw[Ty]at cd;clear nC left_1;obtain rfl:=bx cd;rw[ga]at a;clear left_2 ga ci Y k X;obtain rfl:=bx a;cases hd
 ·show k b x (fun q=>by subst q;rw[Y]at e;cases e) (S.a9 b x e)
 ·obtain⟨co,a⟩:=y;show⟨co,k b _ (fun q=>ci ?_) a⟩;subst q;have:=nZ O;clear a ga ci Y k X;rcases e with rfl|rfl
  ·show this.1
  ·show this.2
theorem a4.bV(S:a4 G J env ρ j z s){h':Heap}{aJ:Addr}{o:Obj}(ga:s.heap.get? aJ=some o)(hd:∃vs,o.data=.fields vs)(nC:o.cls≠.type "tuple")(ci:¬cg ρ aJ)(Y:G.a9.get? aJ=none)(k:∀b x,b≠aJ→s.heap.get? b=some x→h'.get? b=some x)(t:Nat):a4 G J env ρ j z {s with heap:=h',toks:=t}∧aL (fun b=>b=aJ) ρ s.heap ρ h':=by
 show c4 (S.toHR.bV ga hd nC ci Y k t) fun Fr X=>?_;obtain⟨vs,hd⟩:=hd;show⟨⟨Fr,S.toFR.ext S.toHR X (fun q=>?_) (fun c v Z q=>?_)⟩,X⟩;·show aW S.aw fun m bi _=>?_;show sC (rj bi) fun c d bd ww co a=>?_;rw[q,ga]at a;clear ga nC;obtain rfl:=bx a;cases hd
 ·clear ci Y k X;subst q;show oN (sh Z) fun h0 d co a=>?_;rw[ga]at a;clear nC;obtain rfl:=bx a;cases hd
theorem ef.next(S:a4 G J env ρ j z s){aJ:Addr}{db:d8}{i:Nat}(ga:ef G ρ s.heap aJ db i)(Y:G.a9.get? aJ=none)(it:A.handled=none){r:Option ag}(e:gQ db i j=some r){Q:Option Value→Shared→Prop}(q:∀s',a4 G J env ρ j z s'→aL (fun b=>b=aJ) ρ s.heap ρ s'.heap→(∀x,r=some x→∀v,aR ρ s'.heap x v→ef G ρ s'.heap aJ db (i+1)→Q (some v) s')∧(r=none→Q none s')):wpAny (model G.prog G.w) A (pyNext (.ref aJ)) Q E s:=by
 show c4 (ef.q9 ga) fun v1 ki=>?_;show vr v1 fun T d vs co fS f' lM=>?_;have py:(⟨.type T,d,.fields vs,co⟩:Obj).cls≠.type "tuple":=fun aa=>lM.1 (by simpa using aa);cases db with
 |all l=>
  show aX fun _ done=>?_;obtain⟨oP,P,St,oq,W,wn,TT,ch,xS,xT,ci,v8,iY⟩:=ga;cases e;show done ?_;by_cases an:i<l.length
  ·show(W A it).item i s Q E an wn fun v h' Do al Bz ak=>?_;show c4 (S.bV fS ⟨vs,rfl⟩ py ki Y (fun b x li e=>ak b x (by simpa using li) e) Do) fun s5 hm=>?_;show aW (iY i v al) fun x ad ar=>?_;show(q _ s5 hm).1 x ad v (ar.bb hm) ⟨oP,P,St,oq,W,Bz,an,ch,xS,xT,ci,fun b ke=>?_,fun af v al=>?_⟩
   ·clear Y;rcases v8 b ke with rfl|⟨⟨o',ka,dZ,fu,h7⟩,nH⟩
    ·show .inl rfl
    ·by_cases aa:b=aJ;·show .inl aa
     ·show .inr ⟨⟨o',ak b o' (by simpa using aa) ka,dZ,fu,h7⟩,nH⟩
   ·show aW (iY af v al) fun x ad ar=>?_;show b' x ad (ar.bb hm)
  ·have QY:i=l.length:=by show yg TT an
   clear TT an;subst QY;show(W A it).done s Q E wn fun h' Do ak=>?_;show c4 (S.bV fS ⟨vs,rfl⟩ py ki Y (fun b x li e=>ak b x (by simpa using li) e) Do) fun s5 hm=>?_;show(q _ s5 hm).2 (by simp)
 |cc k=>
  show c5 e fun l V e=>?_;show d5 ga fun p nj GE be cd ci=>?_;show qO e fun jx e=>?_;subst e;show aX fun _ done=>?_;show S.w9 (pD V) fun jp to n IN io ar _=>?_;obtain rfl:=bx (be.symm.trans IN);have k':s.heap.IsListIter aJ p.1 i:=⟨_,cd,rfl,rfl⟩;show done ?_;cases ad:l[i]? with
  |some x=>show aW (ar.get ad) fun v al sB=>?_;show wpAny_pyNext_list_item k' (hq io) (x:=v) (Array.getElem?_toList.symm.trans al) fun h' QZ a1=>?_;show eA QZ fun v1 ka h0 oL=>?_;obtain⟨mG,od,CL,pH⟩:=v1;have hf:=S.bV fS ⟨vs,rfl⟩ py ki Y (fun b x li e=>(a1.2 b li).trans e) s.toks;obtain rfl:=(show mG=_ from h0);obtain rfl:=(show CL=_ from oL);show(q _ hf.1 hf.2).1 x ad v (sB.bb hf.2) ⟨p,od,pH,be,ka,ci⟩
  |none=>show wpAny_pyNext_list_end it k' (hq io) (Array.getElem?_eq_none_iff.mpr ((lF ar).symm▸List.getElem?_eq_none_iff.mp ad)) fun h' ge=>?_;have hf:=S.bV fS ⟨vs,rfl⟩ py ki Y (fun b x li e=>ge b x li e) s.toks;show(q _ hf.1 hf.2).2 ad
theorem VT{h:Heap}(x:Str){i:Nat}{v:Value}(al:SignAt x i v):∃y,(nh x)[i]?=some y∧aR ρ h y v:=by
 show h9 al fun c u e cl=>?_;subst cl;show b' (.str ⟨#[c]⟩) ?_ t8;unfold nh;rw[eQ];have:x.cps.toList[i]?=some c:=by simpa using e
 rw[this];rfl
theorem Aw{h:Heap}{aJ:Addr}{T:String}{vs:Array Value}:(∃o,h.get? aJ=some o∧o.cls=.type T∧o.data=.fields vs)→∃d vs co,h.get? aJ=some ⟨.type T,d,.fields vs,co⟩
 |⟨⟨mG,od,CL,pH⟩,e,c,g1⟩=>by obtain rfl:_=_:=(show mG=_ from c);obtain rfl:_=_:=(show CL=_ from g1);show⟨_,_,_,e⟩
def D6(T:String):Prop:=T≠"traceback"∧T≠"tuple"∧tT.contains T=false∧rC.contains T=true
theorem JB{h:Heap}{aJ:Addr}{T:String}{x:Str}{t:Tok}(py:D6 T)(KB:¬cg ρ aJ)(W:∀A:Around,A.handled=none→Walks G.prog G.w A aJ [aJ] [aJ] x.cps.size (SignAt x) fun i h=>h.IsStrIter aJ T x t i)(wn:h.IsStrIter aJ T x t 0):yc G ρ h aJ (nh x) 0:=⟨[aJ],SignAt x,fun i h=>h.IsStrIter aJ T x t i,T,fun A it=>by rw[nh,bD,iM];show W A it,wn,e0 _,fun af h' e=>Aw e,py.1,py.2,KB,fun b Y=>.inl (ee.mp Y),fun af v al=>VT x al⟩
theorem Ja{h:Heap}{aJ a:Addr}{T:String}{vs:Array Value}{l:List ag}{o:Obj}{St:Nat→Heap→Prop}(py:D6 T)(KB:¬cg ρ aJ)(W:∀A:Around,A.handled=none→Walks G.prog G.w A aJ [aJ,a] [aJ] vs.size (fun i v=>vs[i]?=some v) St)(wn:St 0 h)(ch:∀af h',St af h'→∃d vs co,h'.get? aJ=some ⟨.type T,d,.fields vs,co⟩)(ds:h.get? a=some o)(I:o.cls≠.type "traceback")(O:∃n,o.data=.seq vs n)(s9:¬cg ρ a)(ar:ba ρ h l vs.toList):yc G ρ h aJ l 0:=⟨[aJ,a],fun i v=>vs[i]?=some v,St,T,fun A it=>by rw[←lF ar];show W A it,wn,e0 _,ch,py.1,py.2,KB,fun b Y=>(ep.mp Y).imp id fun Y=>by have KE:=ee.mp Y;clear W Y;obtain rfl:=KE;obtain⟨n,O⟩:=O;show⟨⟨o,ds,I,(fun bd n q=>nomatch O.symm.trans q),fun w q=>nomatch O.symm.trans q⟩,s9⟩,fun af v al=>ba.PQ ar (Array.getElem?_toList.trans al)⟩
theorem tZ(h:Heap)(o:Obj):∀b o',h.get? b=some o'→(h.push o).get? b=some o':=fun _ _ e=>eH _ e
theorem ef.WR(dc:kK G)(S:a4 G J env ρ j z s){v:ag}{u:Value}{db:d8}(sB:aR ρ s.heap v u)(a1:d6 j false v=some db){Q:Value→Shared→Prop}(q:∀h',(∀b o,s.heap.get? b=some o→h'.get? b=some o)→a4 G J env ρ j z {s with heap:=h'}→ef G ρ h' s.heap.objs.size db 0→Q (.ref s.heap.objs.size) {s with heap:=h'}):wpAny (model G.prog G.w) A (pyIter u) Q E s:=by
 have KB:¬cg ρ s.heap.objs.size:=fun aa=>S.mI aa (fH _);have q:∀o:Obj,(∀X:aL b4 ρ s.heap ρ (s.heap.push o),ef G ρ (s.heap.push o) s.heap.objs.size db 0)→Q (.ref s.heap.objs.size) {s with heap:=s.heap.push o}:=fun o an=>q _ (tZ _ _) (S.dv (tZ _ _) s.toks).1 (an (S.dv (tZ _ _) s.toks).2);cases v with
 |str x=>
  cases a1;obtain⟨t,rfl⟩:=sB;show wpAny_pyIter_strU (q _ fun _=>?_);unfold strIterType;cases Z:x.cps.all (·<128)with
  |true=>show JB (T:="str_ascii_iterator") ⟨by decide,by decide,by decide,by decide⟩ KB (fun A it=>Walks.strAscii it _ x t) ⟨_,iO _ rfl,rfl,rfl⟩
  |false=>show JB (T:="str_iterator") ⟨by decide,by decide,by decide,by decide⟩ KB (fun A it=>Walks.strWide it _ x t) ⟨_,iO _ rfl,rfl,rfl⟩
 |av l=>cases a1;show d5 sB fun a vs n cl hZ ar=>?_;subst cl;show b6 hZ fun co io=>?_;have py:s.heap.IsTuple a vs:=⟨_,io,rfl,n,rfl⟩;show wpAny_pyIter_tuple py (q _ fun X=>Ja (T:="tuple_iterator") (St:=fun i h=>h.IsTupleIter s.heap.objs.size a i∧h.IsTuple a vs) ⟨by decide,by decide,by decide,by decide⟩ KB (fun A it=>Walks.tuple it s.heap.objs.size a (Nat.ne_of_lt (Heap.lt_size io)) vs) ⟨⟨_,iO _ rfl,rfl,rfl⟩,py.push _⟩ (fun af h' e=>Aw e.1) (tZ _ _ _ _ io) (by simp) ⟨n,rfl⟩ (S.tM ⟨co,io⟩) (ar.bb X))
 |ref k=>obtain⟨l,V,e⟩:=Option.map_eq_some_iff.mp a1;cases e;show aW sB fun p be cl=>?_;subst cl;show aX fun _ done=>?_;show S.w9 (pD V) fun jp vs n IN io ar _=>?_;obtain rfl:=bx (be.symm.trans IN);show done ?_;show wpAny_pyIter_list (hq io) (q _ fun _=>⟨p,_,_,be,iO _ rfl,KB⟩)
 |fn a=>obtain⟨l,V,e⟩:=Option.map_eq_some_iff.mp a1;cases e;subst sB;show aX fun _ done=>?_;show eA (dc.list a l V) fun vs Ty jx ar=>?_;obtain⟨o,ci,Z,n,hd⟩:=Ty;have nG:=S.a9 _ _ ci;have qP:s.heap.IsList a vs:=⟨o,nG,Z,n,hd⟩;show done ?_;show wpAny_pyIter_list qP (q _ fun X=>Ja (T:="list_iterator") (St:=fun i h=>h.IsListIter s.heap.objs.size a i∧h.IsList a vs) ⟨by decide,by decide,by decide,by decide⟩ KB (fun A it=>Walks.list it s.heap.objs.size a (Nat.ne_of_lt (Heap.lt_size nG)) vs) ⟨⟨_,iO _ rfl,rfl,rfl⟩,qP.push _⟩ (fun af h' e=>Aw e.1) (tZ _ _ _ _ nG) (by rw[Z];simp) ⟨n,hd⟩ (fun aa=>nomatch(S.jr _ aa).symm.trans ci) ((ar ρ s.heap S.a9).bb X))
 |_=>show cf a1
theorem W'(n:Int):(if 0<n then n-0 else 0)=((n.toNat:Nat):Int):=by
 by_cases h:0<n;·show(aF h).trans ((Int.sub_zero n).trans (Int.toNat_of_nonneg (Int.le_of_lt h)).symm)
 ·show(aM h).trans (congrArg Nat.cast (Int.toNat_of_nonpos (Int.not_lt.mp h))).symm
theorem ef.range(S:a4 G J env ρ j z s){n:Int}{t:Tok}(I:n<aP)(O:-aP<n){Q:Value→Shared→Prop}(q:∀(o:Obj)(Do:Nat),(∀b x,s.heap.get? b=some x→(s.heap.push o).get? b=some x)→a4 G J env ρ j z {s with heap:=s.heap.push o,toks:=Do}→wpAny (model G.prog G.w) A (pyIter (.ref s.heap.objs.size)) (fun v s'=>∃o',v=.ref (s.heap.push o).objs.size∧s'={s with heap:=(s.heap.push o).push o',toks:=Do}∧a4 G J env ρ j z s'∧ef G ρ s'.heap (s.heap.push o).objs.size (.all ((List.range n.toNat).map fun(i:Nat)=>.int i)) 0) (fun _ _=>False) {s with heap:=s.heap.push o,toks:=Do}→Q (.ref s.heap.objs.size) {s with heap:=s.heap.push o,toks:=Do}):wpAny (model G.prog G.w) A (call (.type "range") [.int n t]) Q E s:=by
 show call_range_1 ?_;have ak:∀(h:Heap)(o:Obj) b o',h.get? b=some o'→(h.push o).get? b=some o':=fun h o b o' e=>eH _ e;show c4 (S.dv (ak s.heap {cls:=.type "range",data:=.fields #[.int 0 s.toks,.int n t,.int 1 (s.toks+1)]}) (s.toks+1+1)) fun D3 X5=>?_;show q _ _ (ak _ _) (S.dv (ak _ _) _).1 ?_;show wpAny_pyIter_range (IsRange.new ..) (small_one (by decide) (by decide) (by unfold aP at O;show ai [[1,1]] [] [_] [.au (.g (.c .L)) .x] (.ax (.af 4611686018427387903) .x) ah O) (by unfold aP at I;show ai [[1,1]] [] [_] [.au .x (.c .L)] (.au .x (.k 4611686018427387904)) ah I)) ?_;have ik:Builtin.Range.rangeSize 0 n 1=(n.toNat:Int):=by rw[rangeSize_one];show W' n
 have KB:¬cg ρ (s.heap.push {cls:=.type "range",data:=.fields #[.int 0 s.toks,.int n t,.int 1 (s.toks+1)]}).objs.size:=fun aa=>D3.mI aa (fH _);show⟨_,rfl,rfl,(D3.dv (ak _ _) _).1,⟨[_],fun i v=>i<n.toNat∧∃t,v=.int (0+(i:Nat)*1) t,fun i h=>IsRangeIter h (s.heap.push {cls:=.type "range",data:=.fields #[.int 0 s.toks,.int n t,.int 1 (s.toks+1)]}).objs.size (0+(i:Nat)*1) ((n.toNat:Int)-(i:Nat)) 1,"range_iterator",fun A it=>by rw[bD,List.length_range];show(Walks.range it _ 0 1 n.toNat).bound,?_,e0 _,fun af h' e=>⟨_,_,_,e⟩,by decide,⟨by decide,by decide,by decide⟩,KB,fun b Y=>.inl (by simpa using Y),fun af v al=>?_⟩⟩
 ·change IsRangeIter _ _ (0+((0:Nat):Int)*1) ((n.toNat:Int)-((0:Nat):Int)) 1;have cd:(0+((0:Nat):Int)*1)=0:=by simp
  have ex:((n.toNat:Int)-((0:Nat):Int))=Builtin.Range.rangeSize 0 n 1:=by rw[ik];simp
  rw[cd,ex];show iO _ rfl
 ·obtain⟨dl,u,rfl⟩:=al;show b' (.int af) ?_ ?_;·rw[eQ,List.getElem?_range dl];rfl
  ·show⟨u,by simp⟩
end
end
section
open Builtin
def e3(env:Env)(b:Addr):Prop:=b=env.locals∨∃x,(x,b)∈env.cells
section
variable{G:br}{P:aY}{d:Nat}{aaa:List (Str×NameKind)}{A:Around}{J:List Env}{env:Env}{ρ:aN}{j:ae}{z:aq}{s:Shared}{E:Value→Shared→Prop}
theorem rD{z:aq}{i af:Nat}{v w:ag}(h:(dg z i v)[af]?=some (some w)):(af=i∧w=v)∨(af≠i∧z[af]?=some (some w)):=by
 unfold dg at h;by_cases e:af=i
 ·subst e;by_cases V:af<z.length;·rw[kE V]at h;simp only[Option.some.injEq]at h;show .inl ⟨rfl,h.symm⟩
  ·rw[List.getElem?_eq_none_iff.mpr (by rw[List.length_set];show rR V)]at h;show cf h
 ·rw[eP (Ne.symm e)]at h;show .inr ⟨e,h⟩
theorem HR.cg(S:HR G J ρ j s){h':Heap}{L:Addr}{c:Value}{dd:Option Addr}{g1 h0 sv oL}(Ty:bp s.heap L c dd g1)(qP:bp h' L h0 sv oL)(ch:(∀bd n,g1≠.dict bd n)∨∃bd n,oL=.dict bd n)(QB:∀vs n,g1≠.seq vs n)(ci:¬cg ρ L)(Y:G.a9.get? L=none)(k:∀b x,b≠L→s.heap.get? b=some x→h'.get? b=some x)(t:Nat):HR G J ρ j {s with heap:=h',toks:=t}∧aL (fun b=>b=L) ρ s.heap ρ h':=by
 have X:aL (fun b=>b=L) ρ s.heap ρ h':={
  pre:=fun _ p h=>⟨p,h,rfl⟩
  cc:=fun b e Y=>by
   cases q:s.heap.get? b with
   |none=>show absurd q Y
   |some x=>rw[k b x e q];show fun aa=>ns aa
  cls:=fun b x po e=>⟨x,k b x po e,rfl⟩
  new:=fun _ q=>.inl q
  keep:=fun b c d g1 a _ _ po=>let⟨co,e⟩:=a;⟨co,k b _ po e⟩
  f3:=fun b x e _ _ _ po=>k b x po e
  av:=fun b vs n a=>by
   show let⟨co,e⟩:=id a;⟨co,k b _ (fun q=>?_) e⟩
   clear qP ci Y k;subst q;show QB vs n (Ty.pV a).2.2}
 show⟨⟨fun b x e=>k b x (fun q=>by subst q;rw[Y]at e;cases e) (S.a9 b x e),S.gens,S.os,S.len,fun af a p I O=>(S.objs af a p I O).ext X fun b c d g1 e y=>?_,S.hj,S.jr,fun e ge=>?_⟩,X⟩
 ·obtain⟨co,a⟩:=y;show⟨co,k b _ (fun q=>ci ?_) a⟩;clear Ty qP ci Y k X a;subst q;have:=nZ O;rcases e with rfl|rfl
  ·show this.1
  ·show this.2
 ·show aX fun _ done=>?_;obtain⟨ak,g3,c,d,bd,n,cd,ex,sc,a⟩:=S.frames e ge;show done ?_;by_cases q:g3=L
  ·clear ci Y k X;subst q;rcases ch with ch|⟨SZ,lz,rfl⟩
   ·show absurd (a.pV Ty).2.2.symm (ch bd n)
   ·show⟨ak,g3,_,_,_,_,cd,ex,sc,qP⟩
  ·show b6 a fun co a=>?_;show⟨ak,g3,_,_,_,_,cd,ex,sc,⟨co,k _ _ q a⟩⟩
theorem xf(C:DT J env){i af:Nat}{x:Str}{k gl:NameKind}(I:env.scope.names[i]?=some (x,k))(O:env.scope.names[af]?=some (x,gl)):i=af:=by
 obtain⟨an,zt⟩:=c7.mp I;obtain⟨dl,zu⟩:=c7.mp O;have bi:=C.nV;have cd:(env.scope.names.map (·.1))[i]'(by rw[bD];show an)=x:=by rw[List.getElem_map,zt]
 have ex:(env.scope.names.map (·.1))[af]'(by rw[bD];show dl)=x:=by rw[List.getElem_map,zu]
 show(List.getElem_inj bi).mp (cd.trans ex.symm)
structure gE(aaa:List (Str×NameKind))(env:Env)(X:Addr→Prop):Prop where
 le:∀b,X b→e3 env b
 aw:X env.locals
 iU:(∃(i:Nat)(x:Str),aaa[i]?=some (x,NameKind.cell))→∀x c,(x,c)∈env.cells→X c
theorem gE.all(aaa:List (Str×NameKind))(env:Env):gE aaa env (e3 env):=⟨fun _ h=>h,.inl rfl,fun _ x _ h=>.inr ⟨x,h⟩⟩
theorem gE.K9{aaa:List (Str×NameKind)}(env:Env)(h:∀(i:Nat)(x:Str),aaa[i]? ≠some (x,NameKind.cell)):gE aaa env (fun b=>b=env.locals):=⟨fun _ h=>.inl h,rfl,fun⟨i,x,e⟩=>absurd e (h i x)⟩
theorem va(C:cq G P d aaa A J env){X:Addr→Prop}(ad:gE aaa env X)(S:a4 G J env ρ j z s){i:Nat}{x:Str}{k:NameKind}(bi:aaa[i]?=some (x,k))(ak:k=.local∨k=.cell){v:ag}{u:Value}(sB:aR ρ s.heap v u){Q:Unit→Shared→Prop}(q:∀s',a4 G J env ρ j (dg z i v) s'→aL X ρ s.heap ρ s'.heap→Q () s'):wpAny (model G.prog G.w) A (bindName env x u) Q E s:=by
 show C.lq bi fun gl I O bn=>?_;have AT:gl=k:=by
  rcases bn with rfl|⟨h,_⟩
  ·rfl
  ·rcases ak with rfl|rfl<;>cases h
 clear bn;subst AT;have k9:(env.scope.kind==.class||(env.scope.kind==.module&&env.locals !=env.globals))=false:=by rw[C.cL.kind];rfl
 show aW S.aw fun m ac V=>?_;show wpAny_bindName ?_;show iw ac fun c dd bd ww ov=>?_;have Gg:∀b,X b→s.heap.get? b≠none:=fun b Y=>by
  rcases ad.le b Y with rfl|⟨y,f1⟩
  ·show ov.cc
  ·show aX fun _ done=>?_;obtain⟨⟨EQ,o,ci,_⟩,_⟩:=S.jm y b f1;show done ?_;show ci▸fun aa=>ns aa
 have ET:∀b v,s.heap.IsCell b v→b≠env.locals:=fun b v Z e=>by show qs Z fun hs nj a=>?_;rw[e]at a;have:=(a.pV ov).2.2;cases this
 rcases ak with rfl|rfl
 ·show wpAny_storeName_local O ac (fun h' nF a1=>?_) k9;show aX fun _ done=>?_;show iw nF fun h0 sv SZ zx yR=>?_;obtain⟨Fr,hm⟩:=S.toHR.cg ov yR (.inr ⟨_,_,rfl⟩) (by intro vs n aa;cases aa) S.eT S.lV (fun b x li e=>(a1.2 b li).trans e) (s.toks+1);have cells:∀b v,s.heap.IsCell b v→h'.IsCell b v:=fun b v Z=>Z.sameBut a1 (ET b v Z);show done ?_;show q _ ⟨Fr,⟨⟨_,nF,fun af y w cd ex=>?_⟩,fun af y hs cd ex=>?_,S.lV,S.eT,fun y b f1=>?_⟩⟩ (hm.x1 (fun b _ e=>e▸ad.aw) Gg)
  ·clear q O bi nF;rcases rD ex with⟨rfl,rfl⟩|⟨li,ex⟩
   ·cases I.symm.trans cd;show b' u (by simp) (sB.bb hm)
   ·show aW (V af y w cd ex) fun g6 sc wT=>?_;have f1:y≠x:=fun aa=>by subst aa;show li (xf C.cL cd I)
    show b' g6 (by simp[f1,sc]) (wT.bb hm)
  ·show iV (S.iU af y hs cd ex) fun dZ EQ sc wT gH l8=>?_;show nT dZ EQ sc (cells _ _ wT) gH (fun w f0=>?_);rcases rD f0 with⟨rfl,rfl⟩|⟨li,f0⟩
   ·rw[I]at cd;show aX fun _ done=>?_;cases cd;show done ?_;rcases ex with ex|ex<;>cases ex
   ·show aW (l8 w f0) fun g6 zp zq=>?_;show b' g6 zp (zq.bb hm)
  ·obtain⟨⟨EQ,Z⟩,Y⟩:=S.jm y b f1;show⟨⟨EQ,cells _ _ Z⟩,Y⟩
 ·show iV (S.iU i x _ I (.inl rfl)) fun qr EQ cd ex sc wT=>?_;show wpAny_storeName_cell C.cL.kind O cd ex (fun h' s3 a1=>?_);show qs ex fun Yo Id K3=>?_;show qs s3 fun Yp Yn K4=>?_;show c4 (S.toHR.cg K3 K4 (.inl (by intro bd n aa;cases aa)) (by intro vs n aa;cases aa) (S.CG ex) sc (fun b x li e=>(a1.2 b li).trans e) s.toks) fun Fr hm=>?_;have qZ:=mem_of_lookup cd;have P_:env.locals≠qr:=fun aa=>ET qr EQ ex aa.symm;have Rm:=ac.sameBut a1 P_;have iz:∀y b,(y,b)∈env.cells→y≠x→b≠qr:=fun y b f1 li aa=>by subst aa;show li (name_of_addr C.cL.apart f1 qZ)
  show q _ ⟨Fr,⟨⟨m,Rm,fun af y w ia l'=>?_⟩,fun af y hs ia l'=>?_,S.lV,S.eT,fun y b f1=>?_⟩⟩ (hm.x1 (fun b _ e=>e▸ad.iU ⟨i,x,bi⟩ x qr qZ) Gg)
  ·rcases rD l' with⟨rfl,rfl⟩|⟨li,l'⟩
   ·rw[I]at ia;show nomatch ia
   ·show aW (V af y w ia l') fun g6 zC NV=>?_;show b' g6 zC (NV.bb hm)
  ·show iV (S.iU af y hs ia l') fun dZ zd ZB SC UV nv=>?_;by_cases f1:y=x
   ·clear q O bi wT qZ iz SC UV;subst f1;have Q1:=xf C.cL ia I;subst Q1;rw[cd]at ZB;obtain rfl:=bx ZB;show nT qr (some u) cd s3 sc (fun w f0=>?_);show aX fun _ done=>?_;rcases rD f0 with⟨_,rfl⟩|⟨li,_⟩
    show done ?_;·show b' u rfl (sB.bb hm)
    ·show absurd rfl li
   ·have li:=iz y dZ (mem_of_lookup ZB) f1;show nT dZ zd ZB (SC.sameBut a1 li) UV (fun w f0=>?_);rcases rD f0 with⟨rfl,rfl⟩|⟨_,f0⟩
    ·rw[I]at ia;show aX fun _ done=>?_;cases ia;show done ?_;show absurd rfl f1
    ·show aX fun _ done=>?_;show aW (nv w f0) fun g6 sG AB=>?_;show done ?_;show b' g6 sG (AB.bb hm)
  ·obtain⟨⟨zd,mg⟩,Y⟩:=S.jm y b f1;by_cases aa:b=qr;·subst aa;show⟨⟨_,s3⟩,Y⟩
   ·show⟨⟨zd,mg.sameBut a1 aa⟩,Y⟩
theorem xN(C:cq G P d aaa A J env){X:Addr→Prop}(ad:gE aaa env X)(S:a4 G J env ρ j z s){i:Nat}{x:Str}{pos:Pos}{k:NameKind}(bi:aaa[i]?=some (x,k))(ak:k=.local∨k=.cell){v:ag}{u:Value}(sB:aR ρ s.heap v u){Q:Unit→Shared→Prop}(q:∀s',a4 G J env ρ j (dg z i v) s'→aL X ρ s.heap ρ s'.heap→Q () s'):wpAny (model G.prog G.w) A (assign (.Name x pos) env u) Q E s:=by show aU (wpAny_standAt (va C ad S bi ak sB q))
end
end
section
theorem Wd:∀{o0 Hv:List Nat}{vs to:List ag}{z f4:aq},gs z o0 vs=some f4→gs z (o0++Hv) (vs++to)=gs f4 Hv to:=by
 intro ca;induction ca with
 |nil=>
  intro sK Ev Da FM hg h;cases Ev with
  |nil=>cases h;rfl
  |cons iI h2=>show cf h
 |cons jb lQ ap=>
  intro m_ lY m' z f4 h;cases lY with
  |nil=>show cf h
  |cons v vs=>show ap h
theorem We:∀{o0:List Nat}{vs:List ag}{z f4:aq}{i:Nat}{v:ag},i∉o0→gs z o0 vs=some f4→gs (dg z i v) o0 vs=some (dg f4 i v):=by
 intro ca;induction ca with
 |nil=>
  intro sK Ev Da FM hg SB h;cases sK with
  |nil=>cases h;rfl
  |cons h2 jb=>show cf h
 |cons lQ uB ap=>
  intro lY z f4 i v bi h;cases lY with
  |nil=>show cf h
  |cons w vs=>have v':i≠lQ:=fun e=>bi (e▸dF);have:dg (dg z i v) lQ w=dg (dg z lQ w) i v:=List.set_comm _ _ v';show(?_:gs (dg (dg z i v) lQ w) uB vs=_);rw[this];show ap (fun ac=>bi (dE _ ac)) h
theorem Wg:∀{o0:List Nat}{vs:List ag}(z:aq),o0.length=vs.length→∃f4,gs z o0 vs=some f4:=by
 intro ca;induction ca with
 |nil=>
  intro sK z h;cases sK with
  |nil=>show⟨z,rfl⟩
  |cons lP mY=>show nomatch h
 |cons iH T0 ap=>
  intro SB z h;cases SB with
  |nil=>show nomatch h
  |cons v vs=>show ap (dg z iH v) (Nat.succ.inj h)
theorem xJ:∀{o0:List Nat}{vs:List ag}{z f4:aq},gs z o0 vs=some f4→o0.length=vs.length:=by
 intro ca;induction ca with
 |nil=>
  intro sK Ev Da h;cases sK with
  |nil=>show rfl
  |cons iH T0=>show cf h
 |cons iI h2 ap=>
  intro kT z f4 h;cases kT with
  |nil=>show cf h
  |cons v vs=>show congrArg (·+1) (ap h)
theorem Wf:∀{o0:List Nat}{vs:List ag}{z f4:aq},o0.Nodup→gs z o0 vs=some f4→gs z o0.reverse vs.reverse=some f4:=by
 intro ca;induction ca with
 |nil=>
  intro sK Ev Da FM h;cases sK with
  |nil=>show h
  |cons T0 iI=>show cf h
 |cons h2 jb ap=>
  intro lZ z f4 bi h;cases lZ with
  |nil=>show cf h
  |cons v vs=>have an:=List.nodup_cons.mp bi;show b6 (Wg z (xJ (o0:=jb) h)) fun P3 I=>?_;have O:=h.symm.trans (We (v:=v) an.1 I);rw[List.reverse_cons,List.reverse_cons,Wd (ap an.2 I)];show O.symm
section
variable{G:br}{P:aY}{d:Nat}{aaa:List (Str×NameKind)}{A:Around}{J:List Env}{env:Env}{ρ:aN}{j:ae}{z:aq}{s:Shared}{E:Value→Shared→Prop}
theorem a4.fo(S:a4 G J env ρ j z s)(b:Addr)(Y:e3 env b):s.heap.get? b≠none:=by
 rcases Y with rfl|⟨y,f1⟩
 ·show aW S.aw fun m ac _=>?_;show iw ac fun _ _ _ _ a=>?_;show a.cc
 ·obtain⟨⟨EQ,o,ci,_⟩,_⟩:=S.jm y b f1;rw[ci];show fun aa=>ns aa
theorem e3.ext{bm:aN}{h h':Heap}(x:aL (e3 env) ρ h bm h'){a:ag}{v:Value}(r:aR ρ h a v):aR bm h' a v:=r.bb x
theorem Jk{x:Str}{i:Nat}(h:kv aaa x=some i):∃k,aaa[i]?=some (x,k)∧(k=.local∨k=.cell):=(hC.mp h).elim fun k e=>(q_ e.2).elim fun ak a1=>⟨k,sH a1 e.1,ak⟩
theorem ud{x:Str}{i:Nat}(h:kv aaa x=some i){re:Prop}(gl:∀k,aaa[i]?=some (x,k)→(k=.local∨k=.cell)→re):re:=aW (Jk h) gl
def KS(G:br)(P:aY)(d:Nat)(aaa:List (Str×NameKind))(env:Env)(X:Addr→Prop)(f:Value→Sem Unit)(i:Nat):Prop:=∀(A:Around)(J:List Env)(ρ:aN)(j:ae)(z:aq)(s:Shared)(v:ag)(u:Value)(Q:Unit→Shared→Prop)(E:Value→Shared→Prop),cq G P d aaa A J env→a4 G J env ρ j z s→aR ρ s.heap v u→(∀s',a4 G J env ρ j (dg z i v) s'→aL X ρ s.heap ρ s'.heap→Q () s')→wpAny (model G.prog G.w) A (f u) Q E s
inductive hI(G:br)(P:aY)(d:Nat)(aaa:List (Str×NameKind))(env:Env)(X:Addr→Prop):List (Value→Sem Unit)→List Nat→Prop
 |nil:hI G P d aaa env X [] []
 |cons {f:Value→Sem Unit} {i:Nat} {dL:List (Value→Sem Unit)} {o0:List Nat}:KS G P d aaa env X f i→hI G P d aaa env X dL o0→hI G P d aaa env X (f::dL) (i::o0)
theorem hI.b2{X:Addr→Prop}{f g:List (Value→Sem Unit)}{i af:List Nat}(x:hI G P d aaa env X f i)(y:hI G P d aaa env X g af):hI G P d aaa env X (f++g) (i++af):=by
 induction x with
 |nil=>show y
 |cons h _ ap=>show .cons h ap
theorem hI.reverse{X:Addr→Prop}{f:List (Value→Sem Unit)}{i:List Nat}(x:hI G P d aaa env X f i):hI G P d aaa env X f.reverse i.reverse:=by
 induction x with
 |nil=>show .nil
 |cons h _ ap=>rw[List.reverse_cons,List.reverse_cons];show ap.b2 (.cons h .nil)
theorem hI.length{X:Addr→Prop}{f:List (Value→Sem Unit)}{i:List Nat}(x:hI G P d aaa env X f i):f.length=i.length:=by
 induction x with
 |nil=>rfl
 |cons _ _ ap=>show congrArg (·+1) ap
theorem JA{X:Addr→Prop}{dL:List (Value→Sem Unit)}{o0:List Nat}(a1:hI G P d aaa env X dL o0):∀{ρ:aN}{j:ae}{z f4:aq}{s:Shared}{vs:List ag}{mX:List Value}{Q:Unit→Shared→Prop},cq G P d aaa A J env→a4 G J env ρ j z s→ba ρ s.heap vs mX→gs z o0 vs=some f4→(∀s',a4 G J env ρ j f4 s'→aL X ρ s.heap ρ s'.heap→Q () s')→wpAny (model G.prog G.w) A (assignInOrder dL mX) Q E s:=by
 induction a1 with
 |nil=>
  intro ρ j z f4 s vs mX Q C S sB h q;cases vs with
  |nil=>obtain rfl:=bx h;show assignInOrder_nil (q s S (aL.refl _ _ _))
  |cons _ _=>show cf h
 |cons ch _ ap=>
  intro ρ j z f4 s vs mX Q C S sB h q;cases vs with
  |nil=>show cf h
  |cons v vs=>obtain⟨u,Zc,rfl,sB,jM⟩:=sB;show assignInOrder_cons (ch A J ρ j z s v u _ E C S sB fun a2 he lv=>?_);show ap C he (jM.bb lv) h fun lo is no=>q lo is (lv.trans no)
inductive j2(aaa:List (Str×NameKind)):List Expr→List Nat→Prop
 |nil:j2 aaa [] []
 |cons {x:Str} {p:Pos} {i:Nat} {bd:List Expr} {o0:List Nat}:kv aaa x=some i→j2 aaa bd o0→j2 aaa (.Name x p::bd) (i::o0)
inductive jj(aaa:List (Str×NameKind)):Expr→List Nat→Prop
 |de {x:Str} {p:Pos} {i:Nat}:kv aaa x=some i→jj aaa (.Name x p) [i]
 |mC {bd:List Expr} {i af:Nat} {o0:List Nat} {k} {p:Pos}:j2 aaa bd (i::af::o0)→jj aaa (.Tuple bd k p) (i::af::o0)
theorem j2.Xb{X:Addr→Prop}(ad:gE aaa env X){ts:List Expr}{o0:List Nat}(h:j2 aaa ts o0):hI G P d aaa env X ((assignEach ts env).map (·.2)) o0∧(assignEach ts env).findIdx? (·.1)=none∧(assignEach ts env).length=o0.length:=by
 induction h with
 |nil=>show⟨.nil,rfl,rfl⟩
 |cons an _ ap=>show ud an fun k ak AT=>?_;show⟨.cons (fun A J ρ j z s v u Q E C S sB q=>xN C ad S ak AT sB q) ap.1,?_,congrArg (·+1) ap.2.2⟩;show List.findIdx?_cons.trans (congrArg (Option.map (·+1)) ap.2.1)
theorem EF{z f4:aq}{i af:Nat}{o0:List Nat}{v:ag}(h:dY z (i::af::o0) v=some f4):∃l,v=.av l∧(i::af::o0).Nodup∧gs z (i::af::o0) l=some f4:=by
 cases v with
 |av l=>
  by_cases bi:(i::af::o0).Nodup;·show iv l rfl bi ((aF bi).symm.trans h)
  ·show nomatch(aM bi).symm.trans h
 |_=>cases h
theorem Dp{X:Addr→Prop}(ad:gE aaa env X){t:Expr}{o0:List Nat}(im:jj aaa t o0)(C:cq G P d aaa A J env)(it:A.handled=none)(S:a4 G J env ρ j z s){v:ag}{u:Value}{f4:aq}(sB:aR ρ s.heap v u)(Y:dY z o0 v=some f4){Q:Unit→Shared→Prop}(q:∀s',a4 G J env ρ j f4 s'→aL X ρ s.heap ρ s'.heap→Q () s'):wpAny (model G.prog G.w) A (assign t env u) Q E s:=by
 cases im with
 |de an=>show aX fun _ done=>?_;show ud an fun k ak AT=>?_;obtain rfl:=bx Y;show done ?_;show xN C ad S ak AT sB q
 |mC a1=>show aX fun _ done=>?_;obtain⟨l,rfl,bi,Y⟩:=EF Y;show sA (a1.Xb (G:=G) (P:=P) (d:=d) (env:=env) ad) fun eG lE kr=>?_;show d5 sB fun a vs n cl io ar=>?_;subst cl;show done ?_;show PyProof.Rows.assign_Tuple_tuple it (px io) (kr.trans ((xJ Y).trans (ar.length.symm.trans iM))) lE fun h' ge=>?_;show c4 (S.dv (h':=h') (fun b o iW=>ge b o (Nat.ne_of_lt (Heap.lt_size iW)) iW) s.toks) fun s5 hm=>?_;show JA eG C s5 (ar.bb hm) Y fun lo is no=>q lo is ((hm.aK fun b Y=>S.fo b (ad.le b Y)).trans no)
theorem N3{α go:Type}{f g:α→Option go}:∀{l:List α},(∀x∈l,f x=g x)→l.filterMap f=l.filterMap g:=by
 intro ca;induction ca with
 |nil=>intro _;show rfl
 |cons a l ap=>intro h;rw[List.filterMap_cons,List.filterMap_cons,h a dF,ap fun x ad=>h x (dE _ ad)]
theorem TS(C:cq G P d aaa A J env){x:Str}{k:NameKind}(h:aaa.lookup x=some k):∃gl,env.kindOf x=some gl∧w0 k gl:=by show b6 (List.mem_iff_getElem?.mp (mem_of_lookup h)) fun af dl=>?_;show C.lq dl fun gl _ O bn=>?_;show⟨gl,O,bn⟩
end
noncomputable def jI(q:Str×Pos):Expr:=.Name q.1 q.2
theorem Ut{F:Expr→Option Str}:∀{l:List (Str×Pos)},(∀q∈l,F (jI q)=some q.1)→(l.map jI).filterMap F=l.map (·.1):=by
 intro ca;induction ca with
 |nil=>intro _;show rfl
 |cons q l ap=>intro h;rw[List.map_cons,List.filterMap_cons_some (h q dF),ap fun x ad=>h x (dE _ ad),List.map_cons]
def u7(aaa:List (Str×NameKind))(t value:Expr):Prop:=(∀env,swappedStores [t] value env=pure none)∨∃(l:List (Str×Pos))(k:_)(p:Pos),t=.Tuple (l.map jI) k p∧(∀q∈l,aaa.lookup q.1=some .local)∧∀env:Env,env.blockKind=.function→(∀q∈l,env.kindOf q.1=some .local)→swappedStores [t] value env=pure (some (l.map (·.1)))
noncomputable def tM:Expr→Bool
 |.Tuple .. =>false
 |_=>true
theorem W9{ts:List Expr}{k}{p:Pos}{value:Expr}(h:tM value=true)(env:Env):swappedStores [.Tuple ts k p] value env=pure none:=by cases value<;>first|rfl|cases h
set_option backward.match.sparseCases true in
theorem W_{env:Env}(ak:env.blockKind=.function){l:List (Str×Pos)}{vs:List Expr}{k gl}{p jp:Pos}(V:∀q∈l,env.kindOf q.1=some .local)(be:∀q∈l,q.2.line=((l.map jI).head?.map (·.pos.line)).getD 0)(dZ:(l.length==2||l.length==3)=true)(fu:vs.length=l.length)(h7:vs.any (fun|.Starred .. =>true|_=>false)=false)(qp:(l.map (·.1)).eraseDups.length=(l.map (·.1)).length)(qq:vs.all (foldedForSure 8)=false)(yX:vs.all (constantsAlone 8)=false):swappedStores [.Tuple (l.map jI) k p] (.Tuple vs gl jp) env=pure (some (l.map (·.1))):=by
 have cd:(l.map jI).length=l.length:=bD _;have ex:(l.map (·.1)).length=l.length:=bD _
 have N':=Ut (l:=l) (F:=fun
  |.Name id pos=>if env.kindOf id==some .local&&pos.line==((l.map jI).head?.map (·.pos.line)).getD 0 then some id else none
  |_=>none) fun q ne=>aF (by rw[V q ne,be q ne,beq_self_eq_true,beq_self_eq_true];rfl)
 unfold swappedStores;show(aM ?_).trans ((aM ?_).trans ?_);·rw[cd,dZ,fu,ak,bne_self_eq_false,bne_self_eq_false];show kG
 ·show fun e=>kG (h7.symm.trans e)
 ·dsimp only;generalize Qj:List.filterMap _ (l.map jI)=K1;obtain rfl:K1=l.map (·.1):=Qj.symm.trans N';show(aM ?_).trans ((aM ?_).trans (aM ?_));·rw[cd,ex,qp,ex,bne_self_eq_false];show kG
  ·rw[qq];show kG
  ·rw[yX];show kG
noncomputable def Jo(aaa:List (Str×NameKind)):(bd:List Expr)→Option {o0:List Nat//j2 aaa bd o0}
 |[]=>some ⟨[],.nil⟩
 |t::ts=>(match t with
  |.Name x _=>(match h:kv aaa x with
   |some i=>(Jo aaa ts).map fun o0=>⟨i::o0.1,.cons h o0.2⟩
   |none=>none)
  |_=>none)
noncomputable def xV(aaa:List (Str×NameKind))(t:Expr):Option {o0:List Nat//jj aaa t o0}:=match t with
 |.Name x _=>(match h:kv aaa x with
  |some i=>some ⟨[i],.de h⟩
  |none=>none)
 |.Tuple bd _ _=>(match Jo aaa bd with
  |some ⟨i::af::o0,h⟩=>some ⟨i::af::o0,.mC h⟩
  |_=>none)
 |_=>none
noncomputable def H9:(ts:List Expr)→Option {l:List (Str×Pos)//ts=l.map jI}
 |[]=>some ⟨[],rfl⟩
 |t::ts=>(match t with
  |.Name x p=>(H9 ts).map fun l=>⟨(x,p)::l.1,congrArg (Expr.Name x p::·) l.2⟩
  |_=>none)
set_option backward.match.sparseCases true in
noncomputable def W8(aaa:List (Str×NameKind))(t value:Expr):Option (PLift (u7 aaa t value)):=match t with
 |.Name _ _=>some ⟨.inl fun _=>rfl⟩
 |.Attribute _ _ _=>some ⟨.inl fun _=>rfl⟩
 |.Subscript _ _ _=>some ⟨.inl fun _=>rfl⟩
 |.Tuple ts k p=>if h:tM value=true then some ⟨.inl (W9 h)⟩else(match value with
  |.Tuple vs gl jp=>(H9 ts).bind fun⟨l,V⟩=>if am:(∀q∈l,aaa.lookup q.1=some .local)∧(∀q∈l,q.2.line=((l.map jI).head?.map (·.pos.line)).getD 0)then if dZ:(l.length==2||l.length==3)=true then if fu:vs.length=l.length then if h7:vs.any (fun|.Starred .. =>true|_=>false)=false then if qp:(l.map (·.1)).eraseDups.length=(l.map (·.1)).length then if qq:vs.all (foldedForSure 8)=false then if yX:vs.all (constantsAlone 8)=false then some ⟨.inr ⟨l,k,p,by rw[V],am.1,fun env ak ne=>by rw[V];show W_ ak ne am.2 dZ fu h7 qp qq yX⟩⟩else none else none else none else none else none else none else none
  |_=>none)
 |_=>none
end
section
set_option backward.match.sparseCases true
section
variable{prog:Program}{w:World}{A:Around}{E:Value→Shared→Prop}{s:Shared}
theorem Wh{l:Addr}{gR:Array Value}{k:Int}{t:Tok}{v:Value}{Q:Unit→Shared→Prop}(V:s.heap.IsList l gR)(am:k<0)(I:-(gR.size:Int)≤k)(sT:-(2^63)≤k)(Ix:Q () {s with heap:=s.heap.update l (Obj.mapSeq (·.setIfInBounds (k+gR.size).toNat v))}):wpAny (model prog w) A (setItem (.ref l) (.int k t) v) Q E s:=by
 obtain⟨o,ci,Z,CB,hd⟩:=id V;unfold setItem;try with_reducible show wpAny_holding ?_
 first|show aU (bz ?_)|skip
 show aU (wpAny_sequenceKey V.typeIs (by decide) ?_);show aU (wpAny_callSpecial?_slot (name:=Str.ofString "__setitem__") V.typeIs slot_list_setitem (wpAny_call_entry slot_list_setitem V.typeIs entry_list_setitem ?_ (args_list_setitem _ _ _)));change wpAny _ _ (Builtin.List.listSubscript? (.int k t)>>=_) _ _ s;show aU (wpAny_listSubscript_int (fitsIndex_neg am sT) ?_);clear sT;have GB:=seqIndex_neg am I;have dl:(k+gR.size).toNat<gR.size:=by show ai [[1,0,1,0,0,1],[1,0,1,0,1,1]] [_,_] [_] [.au .x .o,.ax (.g (.c .y)) .x,.cz .x (.a .x (.c .y))] (.lt .x .y) ah am I (cS _)
 obtain⟨af,rfl⟩:∃af:Nat,k=Int.negSucc af:=by
  clear I Ix GB dl;cases k with
  |ofNat n=>show absurd am (Int.not_lt.mpr (Int.ofNat_nonneg n))
  |negSucc n=>show⟨n,rfl⟩
 have ad:gR[(Int.negSucc af+gR.size).toNat]?=some gR[(Int.negSucc af+gR.size).toNat]:=Array.getElem?_eq_getElem dl;change wpAny _ _ ((Builtin.List.listItems (.ref l)>>=fun xs=>pure ((seqIndex? (Int.negSucc af) xs.size).bind fun i=>xs[i]?.map (i,·)))>>=_) _ _ s;show aU (aU ?_);change wpAny _ _ (seqItems? (.ref l)>>=_) _ _ s;show aU (wpAny_seqItems ci hd (bz (bz ?_)));rw[GB];simp only[Option.bind_some,ad,Option.map_some];change wpAny _ _ (setSeqItemAt l _ v>>=_) _ _ s;show aU (wpAny_setSeqItemAt ci hd ?_)
 first
  |show aU (bz (bz ⟨.none,rfl,bz Ix⟩))
  |show bz ⟨.none,rfl,bz Ix⟩
theorem Wi{l:Addr}{gR:Array Value}{k:Int}{t:Tok}{v:Value}{Q:Unit→Shared→Prop}(V:s.heap.IsList l gR)(am:0≤k)(sT:k<2^63)(bi:k<gR.size)(Ix:Q () {s with heap:=s.heap.update l (Obj.mapSeq (·.setIfInBounds k.toNat v))}):wpAny (model prog w) A (setItem (.ref l) (.int k t) v) Q E s:=by
 obtain⟨o,ci,Z,CB,hd⟩:=id V;unfold setItem;try with_reducible show wpAny_holding ?_
 first|show aU (bz ?_)|skip
 show aU (wpAny_sequenceKey V.typeIs (by decide) ?_);show aU (wpAny_callSpecial?_slot (name:=Str.ofString "__setitem__") V.typeIs slot_list_setitem (wpAny_call_entry slot_list_setitem V.typeIs entry_list_setitem ?_ (args_list_setitem _ _ _)));change wpAny _ _ (Builtin.List.listSubscript? (.int k t)>>=_) _ _ s;show aU (wpAny_listSubscript_int (fitsIndex_of am sT) ?_);clear sT;have KE:=Int.eq_ofNat_of_zero_le am;clear am Z;obtain⟨af,rfl⟩:=KE;have dl:af<gR.size:=by show ai [[1,1]] [_,_] [] [.au (.c .x) (.c .y)] (.lt .x .y) ah bi
 have pn:gR[af]?=some gR[af]:=Array.getElem?_eq_getElem dl;change wpAny _ _ ((seqItemAt l af>>=fun r=>pure (r.map (af,·)))>>=_) _ _ s;show aU (aU (wpAny_seqItemAt ci hd (bz ?_)));rw[pn];change wpAny _ _ (setSeqItemAt l af v>>=_) _ _ s;show aU (wpAny_setSeqItemAt ci hd ?_)
 first
  |show aU (bz (bz ⟨.none,rfl,bz Ix⟩))
  |show bz ⟨.none,rfl,bz Ix⟩
end
section
variable{G:br}{P:aY}{d:Nat}{aaa:List (Str×NameKind)}{A:Around}{J:List Env}{env:Env}{ρ:aN}{j:ae}{z:aq}{s:Shared}{E:Value→Shared→Prop}
theorem Vp(S:a4 G J env ρ j z s){x i v:ag}{u af aa:Value}{H:ae}(ii:aR ρ s.heap x u)(pO:aR ρ s.heap i af)(sB:aR ρ s.heap v aa)(h:rr j x i v=some H){Q:Unit→Shared→Prop}(q:∀s',a4 G J env ρ H z s'→aL b4 ρ s.heap ρ s'.heap→Q () s'):wpAny (model G.prog G.w) A (setItem u af aa) Q E s:=by
 show aX fun _ done=>?_;show c5 h fun k ak h=>?_;show c5 h fun i3 an h=>?_;show c5 h fun l V h=>?_;show wW h fun jx h=>?_;show eF h fun m ac e=>?_;subst e;show t7 ii ak fun p be cl=>?_;subst cl;show ks pO an fun t cl=>?_;subst cl;show done ?_;show aX fun _ done=>?_;show S.w9 (pD V) fun jp vs n IN io ar ge=>?_;clear h ii pO;obtain rfl:=bx (be.symm.trans IN);have nb:=lF ar;have v4:=S.seq (f:=(·.setIfInBounds m aa)) (s0:=l.set m v) (pD V) be io ge (by rw[Array.toList_setIfInBounds];show ar.set sB);have rt:=q _ v4.1 v4.2;show done ?_;unfold i_ at ac;by_cases am:0≤i3;·rw[aF am]at ac;obtain⟨I,ac⟩:=gP ac;cases ac;show Wi (hq io) am (by show ai [[1,1,1]] [_] [_] [.lt .x .L,.au .x (.c .x)] (.au .x .D) ah jx I) (by rw[nb];show I) rt
 ·rw[aM am]at ac;obtain⟨I,ac⟩:=gP ac;cases ac;show Wh (hq io) (by show uR am) (by show ai [[1,1,0,1]] [_,_] [_] [.eq .x .y,.ax .o (.a .x (.c .y))] (.ax (.g (.c .x)) .x) ah nb I) (by show ai [[1,1,1]] [_] [_] [.lt .x .L,.ax .o (.a .x (.c .x))] (.ax .E .x) ah jx I) ?_;rw[nb];show rt
def bo(G:br)(J:List Env)(env:Env)(ρ:aN)(h:Heap)(r:bH)(Q:Flow→Shared→Prop)(E:Value→Shared→Prop):Prop:=match r with
 |.next f4 H=>∀bm s',a4 G J env bm H f4 s'→aL (e3 env) ρ h bm s'.heap→Q .next s'
 |.ret v f4 H=>∀bm s' u,a4 G J env bm H f4 s'→aL (e3 env) ρ h bm s'.heap→aR bm s'.heap v u→Q (.ret u) s'
 |.a6 k f4 H=>∀bm s' e,a4 G J env bm H f4 s'→aL (e3 env) ρ h bm s'.heap→je G bm H s'.heap k e→E e s'
 |.aS=>False
theorem bo.eY{r:bH}{Q:Flow→Shared→Prop}{h:Heap}(p:bo G J env ρ h r Q E){bm:aN}{h':Heap}(x:aL (e3 env) ρ h bm h'):bo G J env bm h' r Q E:=by
 cases r with
 |next z j=>show fun fr a2 S X=>p fr a2 S (x.trans X)
 |ret v z j=>show fun fr a2 u S X r=>p fr a2 u S (x.trans X) r
 |a6 k z j=>show fun fr a2 e S X r=>p fr a2 e S (x.trans X) r
 |aS=>show p
theorem bo.bb{r:bH}{Q sp:Flow→Shared→Prop}{p7:Value→Shared→Prop}{h:Heap}(p:bo G J env ρ h r Q E)(Ix:∀f s,Q f s→sp f s)(zs:∀e s,E e s→p7 e s):bo G J env ρ h r sp p7:=by
 cases r with
 |next z j=>show fun fr a2 S X=>Ix _ _ (p fr a2 S X)
 |ret v z j=>show fun fr a2 u S X r=>Ix _ _ (p fr a2 u S X r)
 |a6 k z j=>show fun fr a2 e S X r=>zs _ _ (p fr a2 e S X r)
 |aS=>show p
theorem bo.bind{x:bH}{f:aq→ae→bH}{Q sp:Flow→Shared→Prop}{h:Heap}(p:bo G J env ρ h (x.bind f) Q E)(ar:∀u s,Q (.ret u) s→sp (.ret u) s)(k:∀P3 f2 fr a2,x=.next P3 f2→a4 G J env fr f2 P3 a2→aL (e3 env) ρ h fr a2.heap→bo G J env fr a2.heap (f P3 f2) Q E→sp .next a2):bo G J env ρ h x sp E:=by
 cases x with
 |next z j=>show fun fr a2 S X=>k z j fr a2 rfl S X (p.eY X)
 |ret v z j=>show fun fr a2 u S X r=>ar _ _ (p fr a2 u S X r)
 |a6 gl z j=>show p
 |aS=>show p
theorem bo.km{α go:Type}{R:aN→Heap→α→go→Prop}{x:aG α}{f:α→ae→bH}{Q:Flow→Shared→Prop}{sp:go→Shared→Prop}(S:a4 G J env ρ j z s)(p:bo G J env ρ s.heap (x.toS z f) Q E)(k:∀a f2 fr a2 v,x=.ok a f2→a4 G J env fr f2 z a2→aL b4 ρ s.heap fr a2.heap→R fr a2.heap a v→bo G J env fr a2.heap (f a f2) Q E→sp v a2):a3 G J env z ρ s.heap R x sp E:=by
 cases x with
 |ok a j=>show fun fr a2 v he X r=>k a j fr a2 v rfl he X r (bo.eY p (X.aK S.fo))
 |a6 gl j=>show fun fr a2 e he X r=>p fr a2 e he (X.aK S.fo) r
 |aS=>show p
theorem bo.i8{P3:aq}{Q:Flow→Shared→Prop}{h:Heap}(p:bo G J env ρ h (.next P3 j) Q E){bm:aN}{s':Shared}(S:a4 G J env bm j P3 s')(X:aL (e3 env) ρ h bm s'.heap):Q .next s':=p bm s' S X
def dt(G:br)(P:aY)(d:Nat)(aaa:List (Str×NameKind))(t:Stmt)(i:kJ):Prop:=∀(A:Around)(J:List Env)(env:Env)(ρ:aN)(j:ae)(z:aq)(s:Shared)(Q:Flow→Shared→Prop)(E:Value→Shared→Prop),cq G P d aaa A J env→a4 G J env ρ j z s→bo G J env ρ s.heap (qz P i z j) Q E→aD (model G.prog G.w) A (exec t env) Q E s
def g'(G:br)(P:aY)(d:Nat)(aaa:List (Str×NameKind))(ts:List Stmt)(i:bZ):Prop:=∀(A:Around)(J:List Env)(env:Env)(ρ:aN)(j:ae)(z:aq)(s:Shared)(Q:Flow→Shared→Prop)(E:Value→Shared→Prop),cq G P d aaa A J env→a4 G J env ρ j z s→bo G J env ρ s.heap (dB P i z j) Q E→aD (model G.prog G.w) A (execs ts env) Q E s
theorem g'.nil:g' G P d aaa [] .nil:=fun A J env ρ j z s Q E C S p=>by show bw (p.i8 S (aL.refl _ _ _))
theorem g'.cons{t:Stmt}{ts:List Stmt}{i:kJ}{o0:bZ}(h:dt G P d aaa t i)(a1:g' G P d aaa ts o0):g' G P d aaa (t::ts) (.cons i o0):=fun A J env ρ j z s Q E C S p=>by change aD _ _ (exec t env>>=fun f=>match f with|.next=>execs ts env|f=>pure f) _ _ _;show aB (h A J env ρ j z s _ E C S (p.bind (fun u s' q=>bw q) fun P3 f2 fr a2 _ he lv kt=>?_));show a1 A J env fr f2 P3 a2 Q E C he kt
theorem UK(C:cq G P d aaa A J env):interactive env=false:=by unfold interactive;rw[C.cL.kind];rfl
theorem dt.bB{e:Expr}{pos:Pos}{i:a0}(ge:a' G P d aaa e i)(Z:Il e=true):dt G P d aaa (.Expr e pos) (.bB i):=fun A J env ρ j z s Q E C S p=>by
 have a1:swapsWith e none pos.line env=pure false:=by cases e<;>first|rfl|cases Z
 rw[exec_Expr env e pos (UK C) a1];show aB (cH (aB (ge A J env ρ j z s _ E C S (bo.km S p fun a f2 fr a2 v _ he lv mt kt=>?_))));show bk (wpAny_dropValue (kt.i8 he (aL.refl _ _ _)))
theorem dt.ret{e:Expr}{pos:Pos}{i:a0}(ge:a' G P d aaa e i):dt G P d aaa (.Return (some e) pos) (.ret i):=fun A J env ρ j z s Q E C S p=>by change aD _ _ (standAt pos>>=fun _=>eval e env>>=fun v=>(pure (Flow.ret v):Sem Flow)) _ _ _;show aB (cH (aB (ge A J env ρ j z s _ E C S (bo.km S p fun a f2 fr a2 v _ he lv mt kt=>?_))));show bw (kt fr a2 v he (aL.refl _ _ _) mt)
theorem bo.xn{x:aG ag}{Tk jq:ae→bH}{h:Heap}{Q:Flow→Shared→Prop}(p:bo G J env ρ h (x.toS z fun v j=>kS (ck v) (Tk j) (jq j)) Q E):bo G J env ρ h ((x.bind fun a j=>aG.bg ((ck a).map fun _=>a) j).toS z fun v j=>kS (ck v) (Tk j) (jq j)) Q E:=by
 cases x with
 |ok v f2=>
  show(?_:bo G J env ρ h ((aG.bg ((ck v).map fun _=>v) f2).toS z _) Q E);have p:bo G J env ρ h (kS (ck v) (Tk f2) (jq f2)) Q E:=p;cases im:ck v with
  |none=>rw[im]at p;show p
  |some b=>show p
 |a6 k f2=>show p
 |aS=>show p
theorem bo.eb{α:Type}{x:Option α}{f:α→bH}{h:Heap}{Q:Flow→Shared→Prop}(p:bo G J env ρ h (eb x f) Q E):∃a,x=some a∧bo G J env ρ h (f a) Q E:=by
 cases x with
 |none=>show p.elim
 |some a=>show⟨a,rfl,p⟩
theorem bo.mH{α:Type}{x:Option α}{f:α→bH}{h:Heap}{Q:Flow→Shared→Prop}(p:bo G J env ρ h (Mine.Internal.eb x f) Q E){re:Prop}(gl:∀a,x=some a→bo G J env ρ h (f a) Q E→re):re:=aW (bo.eb p) gl
theorem bo.ite{c:Prop}[Decidable c]{x:bH}{h:Heap}{Q:Flow→Shared→Prop}(p:bo G J env ρ h (if c then x else .aS) Q E):c∧bo G J env ρ h x Q E:=by
 by_cases Z:c;·rw[aF Z]at p;show⟨Z,p⟩
 ·rw[aM Z]at p;show p.elim
theorem bo.eD{c:Prop}[Decidable c]{x:bH}{h:Heap}{Q:Flow→Shared→Prop}(p:bo G J env ρ h (if c then x else .aS) Q E){re:Prop}(gl:c→bo G J env ρ h x Q E→re):re:=c4 (bo.ite p) gl
theorem bo.hd{b:Bool}{x:bH}{h:Heap}{Q:Flow→Shared→Prop}(p:bo G J env ρ h (if !b then .aS else x) Q E):b=true∧bo G J env ρ h x Q E:=by
 cases b with
 |true=>show⟨rfl,p⟩
 |false=>show p.elim
theorem bo.mi{b:Bool}{x:bH}{h:Heap}{Q:Flow→Shared→Prop}(p:bo G J env ρ h (if !b then .aS else x) Q E){re:Prop}(gl:b=true→bo G J env ρ h x Q E→re):re:=c4 (bo.hd p) gl
theorem SO{α:Type}{x:Option (Option α)}{a:α}(h:x.join=some a):x=some (some a):=match x,h with
 |some _,h=>congrArg some h
 |none,h=>cf h
theorem dt.ite{c:Expr}{a b:List Stmt}{pos:Pos}{i:a0}{af k:bZ}(Z:cB G P d aaa c i)(ds:g' G P d aaa a af)(Y:g' G P d aaa b k):dt G P d aaa (.If c a b pos) (.ite i af k):=fun A J env ρ j z s Q E C S p=>by
 change aD _ _ (standAt pos>>=fun _=>isTrue c env (eval c env)>>=fun t=>if t=true then execs a env else execs b env) _ _ _;have p:=bo.xn p;show aB (cH (aB (Z A J env ρ j z s _ E C S (bo.km S p fun v f2 fr a2 t _ he lv mt kt=>?_))));have mt:ck v=some t:=mt;rw[mt]at kt;clear S p lv mt;cases t with
 |true=>show ds A J env fr f2 z a2 Q E C he kt
 |false=>show Y A J env fr f2 z a2 Q E C he kt
theorem Sa{a b:Int}{t u:Tok}{Q:Value→Shared→Prop}(q:∀t,Q (.int (a+b) t) {s with toks:=s.toks+1}):wpAny (model G.prog G.w) A (inplaceOp .Add (.int a t) (.int b u)) Q E s:=PySem.AutoIntOps.iadd_0 (q _)
theorem dt.m8{x:Str}{pF pos:Pos}{e:Expr}{af:Nat}{i:a0}(dl:kv aaa x=some af)(ge:a' G P d aaa e i)(ad:(x==("__classdict__":Str))=false):dt G P d aaa (.AugAssign (.Name x pF) .Add e pos) (.m8 af i):=fun A J env ρ j z s Q E C S p=>by change aD _ _ (standAt pF>>=fun _=>loadName env x>>=fun old=>holding [old] (eval e env)>>=fun v=>standAt pos>>=fun _=>operate [old,v] (inplaceOp .Add old v)>>=fun new=>standAt pF>>=fun _=>bindName env x new>>=fun _=>(pure Flow.next:Sem Flow)) _ _ _;show aX fun _ done=>?_;show ud dl fun k ak AT=>?_;show p.mH fun a ds p=>?_;show c5 ds fun w f0 ds=>?_;show done ?_;show aB (cH (aB (bk (HN C S ak (AT.imp id .inl) (SO f0) (fun u np=>?_) ad))));show aB (cp (ge A J env ρ j z s _ E C S (bo.km S p fun b f2 fr a2 v _ he lv mt kt=>?_)));show kt.mH fun b Y kt=>?_;show ks np ds fun t cl=>?_;subst cl;obtain⟨h1,rfl⟩:=rx mt Y;show aB (cH (aB (p1 (bk (Sa fun Y8=>?_)))));have is:=he.dW (a2.toks+1);show aB (cH (aB (bk (va C (gE.all _ _) is ak AT iB fun lo is no=>?_))));show bw (kt.i8 is no)
end
end
section
structure eU(a9 h h':Heap)(a:Addr):Prop where
 keep:∀b o,h.get? b=some o→b≠a→o.cls≠.type "traceback"→(∀bd n,o.data≠.dict bd n)→h'.get? b=some o
 iT:∀b c d g1,bp h b c d g1→(∀vs,g1≠.fields vs)→bp h' b c d g1
 cls:∀b o,h.get? b=some o→∃o',h'.get? b=some o'∧o'.cls=o.cls
 a9:a9.StaysIn h'
 a6:∀c d vs,bp h a c d (.fields vs)→∃GM,bp h' a c d (.fields GM)∧GM.size=vs.size
theorem eU.refl{a9 h:Heap}(Y:a9.StaysIn h)(a:Addr):eU a9 h h a:=⟨fun _ _ e _ _ _=>e,fun _ _ _ _ x _=>x,fun _ o e=>⟨o,e,rfl⟩,Y,fun _ _ vs x=>⟨vs,x,rfl⟩⟩
theorem eU.trans{a9 h s4 XL:Heap}{a:Addr}(x:eU a9 h s4 a)(y:eU a9 s4 XL a):eU a9 h XL a where
 keep b o e n c d:=y.keep b o (x.keep b o e n c d) n c d
 iT b c d g1 e n:=y.iT b c d g1 (x.iT b c d g1 e n) n
 cls b o e:=by show aW (x.cls b o e) fun tU zA qy=>?_;show aW (y.cls b tU zA) fun hv zB vk=>?_;show b' hv zB (vk.trans qy)
 a9:=y.a9
 a6 c d vs e:=by show aW (x.a6 c d vs e) fun XA zA a2=>?_;show aW (y.a6 c d XA zA) fun XB zB lo=>?_;show⟨XB,zB,lo.trans a2⟩
theorem eU.push{a9 h:Heap}(Y:a9.StaysIn h)(o:Obj)(a:Addr):eU a9 h (h.push o) a where
 keep b o' e _ _ _:=eH o e
 iT b c d g1 e _:=e.push o
 cls b o' e:=⟨o',eH o e,rfl⟩
 a9:=Di Y o
 a6 c d vs e:=⟨vs,e.push o,rfl⟩
theorem eU.field{a9 h:Heap}{a b:Addr}{o:Obj}{vs:Array Value}(Y:a9.StaysIn h)(ci:h.get? b=some o)(hd:o.data=.fields vs)(nB:a9.get? b=none)(AJ:b=a∨o.cls=.type "traceback")(i:Nat)(v:Value):eU a9 h (h.update b (Obj.mapFields (·.setIfInBounds i v))) a:=by
 have mj:=Obj.data_mapFields hd (·.setIfInBounds i v);have a1:=jX (Obj.mapFields (·.setIfInBounds i v)) ci (Obj.isFreed_of_fields mj);have iz:∀c,c≠b→(h.update b (Obj.mapFields (·.setIfInBounds i v))).get? c=h.get? c:=fun c Z=>Heap.get?_update_other _ _ (Ne.symm Z);show⟨fun c o' e n Z _=>?_,fun c dJ d g1 x n=>?_,fun c o' e=>?_,fun c o' e=>?_,fun dJ d to x=>?_⟩
 ·by_cases q:c=b
  ·clear nB mj a1 iz;subst q;rw[ci]at e;obtain rfl:=bx e;rcases AJ with h|h
   ·show absurd h n
   ·show absurd h Z
  ·show(iz c q).trans e
 ·show b6 x fun co x=>?_;by_cases q:c=b;·clear nB iz;subst q;rw[ci]at x;clear mj ci AJ a1;obtain rfl:=bx x;show absurd hd (n vs)
  ·show⟨co,(iz c q).trans x⟩
 ·by_cases q:c=b;·subst q;rw[ci]at e;obtain rfl:=bx e;show b' _ a1 (Obj.cls_mapFields _ _)
  ·show b' o' ((iz c q).trans e) rfl
 ·have q:c≠b:=fun aa=>by subst aa;rw[nB]at e;cases e
  show(iz c q).trans (Y c o' e)
 ·obtain⟨co,x⟩:=x;by_cases q:a=b;·subst q;rw[ci]at x;obtain rfl:=bx x;clear iz mj ci AJ;cases hd;show b' (vs.setIfInBounds i v) ⟨co,a1⟩ (by simp)
  ·show⟨to,⟨co,(iz a q).trans x⟩,rfl⟩
theorem eU.slots{a9 h h':Heap}{S:List Addr}(a:Addr)(Y:a9.StaysIn h)(x:Heap.SlotsOnly S h h')(hf:∀b∈S,a9.get? b=none∧∃o,h.get? b=some o∧∃bd n,o.data=.dict bd n):eU a9 h h' a where
 keep b o e _ _ bi:=(x.2.1 b fun ac=>by obtain⟨_,o',st,bd,n,hd⟩:=hf b ac;rw[e]at st;obtain rfl:=bx st;show bi bd n hd).trans e
 iT b c d g1 e _:=by show b6 e fun co e=>?_;obtain⟨GE,st⟩:=x.2.2 b _ e;show⟨GE,st⟩
 cls b o e:=by show b6 (x.2.2 b _ e) fun GE st=>?_;show b' _ st rfl
 a9 b o e:=(x.2.1 b fun ac=>by rw[(hf b ac).1]at e;cases e).trans (Y b o e)
 a6 c d vs e:=by show b6 e fun co e=>?_;obtain⟨GE,st⟩:=x.2.2 a _ e;show⟨vs,⟨GE,st⟩,rfl⟩
section
variable{G:br}{P:aY}{d:Nat}{aaa:List (Str×NameKind)}{A:Around}{J:List Env}{env:Env}{ρ:aN}{j:ae}{z:aq}{s:Shared}{E:Value→Shared→Prop}
theorem HR.CI(S:HR G J ρ j s){h':Heap}{k:Nat}{C:Addr}{dL:c9}{p:Addr×Addr}(ak:j[k]?=some (.cX C dL))(be:ρ[k]?=some p)(N:eU G.a9 s.heap h' p.1)(t:Nat):HR G J ρ j {s with heap:=h',toks:=t}∧aL b4 ρ s.heap ρ h':=by
 have X:aL b4 ρ s.heap ρ h':={
  pre:=fun _ p h=>⟨p,h,rfl⟩
  cc:=fun b _ Y=>by
   cases q:s.heap.get? b with
   |none=>show absurd q Y
   |some o=>obtain⟨o',e,_⟩:=N.cls b o q;rw[e];show fun aa=>ns aa
  cls:=fun b o _ e=>N.cls b o e
  new:=fun _ q=>.inl q
  keep:=fun b c d g1 a hd _ _=>N.iT b c d g1 a hd
  f3:=fun b o e I O ci _=>N.keep b o e (fun q=>ci (q▸(nZ be).1)) I O
  av:=fun b vs n a=>N.iT b _ _ _ a (by intro vs aa;cases aa)}
 show⟨S.step (s':={s with heap:=h',toks:=t}) X (fun _ _ _ _ f=>f) N.a9 rfl rfl S.len (fun af o q I O=>?_) S.hj,X⟩;have r:=S.objs af o q I O;cases o with
 |list l=>
  show r.ext X fun b c d g1 e y=>by
   obtain⟨vs,n,a,_,st⟩:=r;have:b=q.1:=by rcases e with e|e;show e;show e.trans st
   clear l I e left st;subst this;show N.iT _ _ _ _ y fun to aa=>?_;subst aa;have:=(y.pV a).2.2;cases this
 |bS l=>
  show r.ext X fun b c d g1 e y=>by
   obtain⟨vs,a,_,st⟩:=r;have:b=q.1:=by rcases e with e|e;show e;show e.trans st
   clear l I e left st;subst this;show N.iT _ _ _ _ y fun to aa=>?_;subst aa;have:=(y.pV a).2.2;cases this
 |b_ D qN=>obtain⟨a,f⟩:=r;show⟨N.iT _ _ _ _ a (by intro vs aa;cases aa),f.ext X fun bd n y=>N.iT _ _ _ _ y (by intro vs aa;cases aa)⟩
 |a6 D qN=>
  have li:af≠k:=fun aa=>by subst aa;rw[ak]at I;cases I
  have ne:q.1≠p.1:=(zk S.hj O be li).1;have hs:∀c d g1,bp s.heap q.1 (.ref c) d g1→(∀bd n,g1≠.dict bd n)→bp h' q.1 (.ref c) d g1:=fun c d g1 ⟨co,y⟩ bi=>⟨co,N.keep _ _ y ne (by intro aa;cases aa) bi⟩;rcases r with⟨vs,a,aa,f⟩|⟨cd,ex,vs,a,aa⟩
  ·show .inl ⟨vs,hs _ _ _ a (by intro bd n aa;cases aa),aa,f.ext X fun bd n y=>N.iT _ _ _ _ y (by intro vs aa;cases aa)⟩
  ·show .inr ⟨cd,ex,vs,hs _ _ _ a (by intro bd n aa;cases aa),aa⟩
 |cX D qN=>
  have hs:∀c d vs,bp s.heap q.1 (.ref c) d (.fields vs)→∃GM,bp h' q.1 (.ref c) d (.fields GM)∧GM.size=vs.size:=fun c d vs y=>by
   by_cases ne:q.1=p.1;·rw[ne]at y⊢;show N.a6 _ _ _ y
   ·show b6 y fun co y=>?_;show b' vs ⟨co,N.keep _ _ y ne (by intro aa;cases aa) (by intro bd n aa;cases aa)⟩ rfl
  rcases r with⟨vs,a,aa,f⟩|⟨cd,ex,vs,a,aa⟩
  ·show aX fun _ done=>?_;show aW (hs _ _ _ a) fun GM pc a1=>?_;show done ?_;show .inl ⟨GM,pc,by show yh aa a1,f.ext X fun bd n y=>N.iT _ _ _ _ y (by intro vs aa;cases aa)⟩
  ·show aW (hs _ _ _ a) fun GM pc a1=>?_;show .inr ⟨cd,ex,GM,pc,by show yh aa a1⟩
theorem HR.PC(S:HR G J ρ j s):s.heap.FunFrames G.a9 J:=by
 have h:=S.frames;generalize ch:J=l at h;clear ch;induction l with
 |nil=>trivial
 |cons e r ap=>show aX fun _ done=>?_;obtain⟨ak,L,c,d,bd,n,cd,ex,_,co,a⟩:=h e dF;show done ?_;show⟨ak,⟨L,_,cd,ex,a,fun vs aa=>by cases aa⟩,ap fun st AU=>h st (dE _ AU)⟩
theorem HR.PA(S:HR G J ρ j s):∀b∈J.filterMap (·.frame),G.a9.get? b=none∧∃o,s.heap.get? b=some o∧∃bd n,o.data=.dict bd n:=by intro b Y;show aX fun _ done=>?_;show aW (List.mem_filterMap.mp Y) fun e ge ch=>?_;obtain⟨ak,L,c,d,bd,n,cd,ex,_,co,a⟩:=S.frames e ge;rw[ch]at cd;obtain rfl:=bx cd;show done ?_;show⟨ex,_,a,bd,n,rfl⟩
theorem Pz{Q:Value→Shared→Prop}(Wp:A.frames=some J)(wn:∃v0 v6,J=v0::v6∧v0.frame=env.frame∧env.frame.isSome=true)(S:HR G J ρ j s)(h:∀v h',Heap.SlotsOnly (J.filterMap (·.frame)) s.heap h'→Q v {s with heap:=h'}):wpAny (model G.prog G.w) A (PySem.frameOf env) Q E s:=by
 show dR wn fun v0 v6 cl Gw By=>?_;subst cl;obtain⟨L,Ty⟩:=Option.isSome_iff_exists.mp By;have QN:=S.PC;unfold PySem.frameOf;show aU (wpAny_frameEnvs Wp ?_);have QJ:((v0::v6).dropWhile fun x=>x.frame !=env.frame)=v0::v6:=by simp[List.dropWhile,Gw]
 rw[QJ];unfold frameObject;show aU (aU (wpAny_readyFrames_fun QN fun s4 te=>bz ?_));rw[Gw,Ty];show bz (h _ s4 te)
theorem Fs{Q:Unit→Shared→Prop}{a L:Addr}{rl:Obj}{vs:Array Value}{v5:Value}{Ql:Bool}(Wp:A.frames=some J)(wn:∃v0 v6,J=v0::v6∧v0.frame=env.frame∧env.frame.isSome=true)(S:HR G J ρ j s)(ge:s.heap.get? a=some rl)(hd:rl.data=.fields vs)(ik:1<vs.size)(vY:G.a9.get? a=none)(q:∀h',eU G.a9 s.heap h' a→(∃T d ts,(∃ln to,h'.get? a=some ln∧ln.data=.fields to∧to[1]?=some (.ref T))∧T≠a∧bp h' T (.type "traceback") d (.fields ts)∧3<ts.size∧s.heap.get? T=none)→Q () {s with heap:=h'}):wpAny (model G.prog G.w) A (do let x←PySem.frameOf env;let fh←entryPlaceOf L Ql;let b←EntryCells.newEntry v5 x .none (rawInt L) .none fh;setField (.ref a) 1 b) Q E s:=by
 show aU (Pz Wp wn S fun v s4 te=>?_);show aU (wpAny_entryPlaceOf fun fh lh=>?_);unfold EntryCells.newEntry newFields;show aU (wpAny_newObj_type ?_ (lh.sizeOk5 _ _ _ _ _));have DZ:=eU.slots a S.a9 te S.PA;have vX:∃tU,s4.get? a=some tU∧tU.data=.fields vs:=by show b6 (te.2.2 a rl ge) fun co e=>?_;show b' _ e hd
 show aW vX fun tU vX AS=>?_;have D0:=DZ.trans (eU.push DZ.a9 {cls:=.type "traceback",dict:=none,data:=.fields ([v5,v,.none,rawInt L,.none]++(if fh.isEmpty then List.replicate 6 Value.none else fh)).toArray} a);have AL:=eH (h:=s4) {cls:=.type "traceback",dict:=none,data:=.fields ([v5,v,.none,rawInt L,.none]++(if fh.isEmpty then List.replicate 6 Value.none else fh)).toArray} vX;have Qf:=iO s4 (o:={cls:=.type "traceback",dict:=none,data:=.fields ([v5,v,.none,rawInt L,.none]++(if fh.isEmpty then List.replicate 6 Value.none else fh)).toArray}) rfl;show wpAny_setField AL AS ik (q _ (D0.trans (eU.field D0.a9 AL AS vY (.inl rfl) 1 _)) ?_);have Ge:s4.objs.size≠a:=Nat.ne_of_gt (Heap.lt_size vX);have mj:=Obj.data_mapFields AS (·.setIfInBounds 1 (Value.ref s4.objs.size));show Uq s4.objs.size none _ ⟨_,_,jX _ AL (Obj.isFreed_of_fields mj),mj,by simp[ik]⟩ Ge ⟨_,(Heap.get?_update_other _ _ (Ne.symm Ge)).trans Qf⟩ ?_ ?_;·simp only[List.size_toArray,cA,hF,List.length_nil];show ai [[1]] [_] [] [] (.lt .c (.a (.a (.a (.a (.a (.a .o .l) .l) .l) .l) .l) .x)) ah
 ·rw[te.1];show fH _
theorem HR.FV(S:HR G J ρ j s){T:Addr}(h:s.heap.get? T=none):G.a9.get? T=none∧¬Mine.Internal.cg ρ T:=by
 show⟨?_,fun q=>S.mI q h⟩;cases e:G.a9.get? T with
 |none=>rfl
 |some o=>rw[S.a9 _ _ e]at h;cases h
theorem xi{Q:Unit→Shared→Prop}{k:Nat}{e:Value}(Wp:A.frames=some J)(wn:∃v0 v6,J=v0::v6∧v0.frame=env.frame∧env.frame.isSome=true)(S:HR G J ρ j s)(x:je G ρ j s.heap k e)(q:∀h',HR G J ρ j {s with heap:=h'}→aL b4 ρ s.heap ρ h'→e1 G ρ j h' k e→Q () {s with heap:=h'}):wpAny (model G.prog G.w) A (noteFrame e env) Q E s:=by
 show aX fun _ done=>?_;obtain⟨C,dL,p,d,vs,I,O,rfl,lc,nl,wf⟩:=x;have Bz:=wn;show dR Bz fun v0 v6 _ _ By=>?_;obtain⟨L,Ty⟩:=Option.isSome_iff_exists.mp By;have vY:=S.jr _ (nZ O).1;show done ?_;unfold noteFrame;show b6 (id lc) fun co a7=>?_;rw[Ty];have v4:∀(pu:Heap),eU G.a9 s.heap pu p.1→∀h',eU G.a9 pu h' p.1→(∃T d ts,(∃ln to,h'.get? p.1=some ln∧ln.data=.fields to∧to[1]?=some (.ref T))∧T≠p.1∧bp h' T (.type "traceback") d (.fields ts)∧3<ts.size∧pu.get? T=none)→Q () {s with heap:=h'}:=by
  intro pu DY h' N ⟨T,l6,ts,⟨ln,to,cd,ex,sc⟩,py,iS,RY,bi⟩;have yJ:=DY.trans N;show c4 (S.CI I O yJ s.toks) fun s5 hm=>?_;show aW (yJ.a6 _ _ _ lc) fun GM pc fY=>?_;have R4:GM=to:=by obtain⟨co,pc⟩:=pc;rw[cd]at pc;obtain rfl:=bx pc;cases ex;rfl
  clear N ln cd ex yJ;subst R4;have fD:s.heap.get? T=none:=by
   cases e:s.heap.get? T with
   |none=>rfl
   |some o=>obtain⟨o',st,_⟩:=DY.cls _ _ e;rw[bi]at st;cases st
  show c4 (S.FV fD) fun ia l'=>?_;show q h' s5 hm ⟨C,dL,p,d,GM,I,O,rfl,pc,by show yh nl fY,T,l6,ts,sc,py,iS,RY,ia,l'⟩
 rcases wf with wf|⟨T,l6,ts,cd,ex,sc,wT,gH,l8⟩
 ·show aU (wpAny_field a7 rfl wf ?_);rw[aM (by decide)];show Fs Wp wn S a7 rfl (by show ai [[1,1]] [_] [] [.lt (.n 5) .x] (.lt .l .x) ah nl) vY fun h' N t=>v4 s.heap (eU.refl S.a9 _) h' N t
 ·show aU (wpAny_field a7 rfl cd ?_);show b6 sc fun uc iS=>?_;rw[aF (show(Value.ref T !=Value.none)=true from by simp)];show aU (wpAny_field iS rfl (x:=ts[3]) (by simp[wT]) ?_);by_cases Z:(ts[3]==rawInt L)=true;·rw[aF Z];show bz ?_;show q s.heap S (aL.refl _ _ _) ⟨C,dL,p,d,vs,I,O,rfl,lc,nl,T,l6,ts,cd,ex,⟨uc,iS⟩,wT,gH,l8⟩
  ·rw[aM Z];show aU (wpAny_setField iS rfl wT ?_);have N:=eU.field S.a9 iS rfl gH (a:=p.1) (.inr rfl) 3 .none;show c4 (S.CI I O N s.toks) fun s5 hm=>?_;have K2:=(Heap.get?_update_other s.heap (Obj.mapFields (·.setIfInBounds 3 .none)) ex).trans a7;show Fs (s:={s with heap:=s.heap.update T (Obj.mapFields (·.setIfInBounds 3 .none))}) Wp wn s5 K2 rfl (by show ai [[1,1]] [_] [] [.lt (.n 5) .x] (.lt .l .x) ah nl) vY fun h' u5 t=>v4 _ N h' u5 t
theorem sF{Q:Unit→Shared→Prop}{k:Nat}{e:Value}{f:Option Addr}(S:HR G J ρ j s)(x:e1 G ρ j s.heap k e)(q:∀h',HR G J ρ j {s with heap:=h'}→aL b4 ρ s.heap ρ h'→e1 G ρ j h' k e→Q () {s with heap:=h'}):wpAny (model G.prog G.w) A (setFlight e f) Q E s:=by show aX fun _ done=>?_;obtain⟨C,dL,p,d,vs,I,O,rfl,lc,nl,T,l6,ts,cd,ex,sc,wT,gH,l8⟩:=x;show b6 (id lc) fun co a7=>?_;show b6 sc fun uc iS=>?_;show done ?_;unfold setFlight;show aU (wpAny_field a7 rfl cd ?_);rw[aF (show(Value.ref T !=Value.none)=true from by simp)];have N:=eU.field S.a9 iS rfl gH (a:=p.1) (.inr rfl) 3 (f.elim .none fun f=>rawInt f);obtain⟨s5,hm⟩:=S.CI I O N s.toks;show wpAny_setField iS rfl wT (q _ s5 hm ?_);have mj:=Obj.data_mapFields (o:=⟨.type "traceback",l6,.fields ts,uc⟩) rfl (·.setIfInBounds 3 (f.elim Value.none fun f=>rawInt f));show⟨C,dL,p,d,vs,I,O,rfl,⟨co,(Heap.get?_update_other _ _ ex).trans a7⟩,nl,T,l6,_,cd,ex,⟨_,jX _ iS (Obj.isFreed_of_fields mj)⟩,by simpa using wT,gH,l8⟩
theorem Gq{k:Nat}{e:Value}{α:Type}{f:Value→Sem α}{Q:α→Shared→Prop}(x:e1 G ρ j s.heap k e)(q:∀v,(v==Value.none)=false→wpAny (model G.prog G.w) A (f v) Q E s):wpAny (model G.prog G.w) A (field e 1>>=f) Q E s:=by show aX fun _ done=>?_;obtain⟨C,dL,p,d,vs,I,O,rfl,⟨co,a7⟩,nl,T,l6,ts,cd,_⟩:=x;show done ?_;show aU (wpAny_field a7 rfl cd (q _ (by simp)))
theorem Vb{α:Type}{XD:String}{Q:α→Shared→Prop}{k:Nat}{e:Value}(S:HR G J ρ j s)(x:e1 G ρ j s.heap k e)(q:∀h',HR G J ρ j {s with heap:=h'}→aL b4 ρ s.heap ρ h'→e1 G ρ j h' k e→E e {s with heap:=h'}):wpAny (model G.prog G.w) A (PySem.passOn XD e env:Sem α) Q E s:=by unfold PySem.passOn;show Gq x fun v al=>?_;rw[aM (by rw[al];decide)];show aU (sF S x fun h' s5 hm KT=>wpAny_throw (q h' s5 hm KT))
theorem Tw{Q:Unit→Shared→Prop}{k:Nat}{e:Value}(Wp:A.frames=some J)(wn:∃v0 v6,J=v0::v6∧v0.frame=env.frame∧env.frame.isSome=true)(S:HR G J ρ j s)(x:je G ρ j s.heap k e)(q:∀h',HR G J ρ j {s with heap:=h'}→aL b4 ρ s.heap ρ h'→e1 G ρ j h' k e→Q () {s with heap:=h'}):wpAny (model G.prog G.w) A (leaving env e) Q E s:=by unfold leaving;show aU (xi Wp wn S x fun h' s5 hm KT=>?_);show sF s5 KT fun fz jh iR p3=>q fz jh (hm.trans iR) p3
end
end
section
def Rsd(G:br)(J:List Env)(E:Value→Shared→Prop)(e:Value)(s:Shared):Prop:=∃k ρ j,HR G J ρ j s∧je G ρ j s.heap k e∧∀h',HR G J ρ j {s with heap:=h'}→aL b4 ρ s.heap ρ h'→e1 G ρ j h' k e→E e {s with heap:=h'}
def yL(G:br)(J:List Env)(E:Value→Shared→Prop)(e:Value)(s:Shared):Prop:=∃k ρ j,HR G J ρ j s∧e1 G ρ j s.heap k e∧∀h',HR G J ρ j {s with heap:=h'}→aL b4 ρ s.heap ρ h'→e1 G ρ j h' k e→E e {s with heap:=h'}
def kL(G:br)(J:List Env)(Q:Flow→Shared→Prop)(E:Value→Shared→Prop):Result→Shared→Prop
 |.ok f,s=>Q f s
 |.error e,s=>yL G J E e s
section
variable{G:br}{P:aY}{d:Nat}{aaa:List (Str×NameKind)}{A:Around}{J:List Env}{env:Env}{ρ:aN}{j:ae}{z:aq}{s:Shared}{E:Value→Shared→Prop}{Q:Flow→Shared→Prop}
theorem Rsd.of{k:Nat}{e:Value}(S:a4 G J env ρ j z s)(x:je G ρ j s.heap k e){YZ:aq}{fL:ae}{v2:aN}{pu:Heap}(X:aL (e3 env) v2 pu ρ s.heap)(V:∀b,e3 env b→pu.get? b≠none)(p:bo G J env v2 pu (.a6 k z j) Q E):Rsd G J E e s:=⟨k,ρ,j,S.toHR,x,fun h' Fr hm KT=>p ρ {s with heap:=h'} e ⟨Fr,S.toFR.aK S.toHR hm⟩ (X.trans (hm.aK S.fo)) KT.d7⟩
theorem UM{t:Sem Fin}{sp:Fin→Shared→Prop}(Wp:A.frames=some J)(wn:∃v0 v6,J=v0::v6∧v0.frame=env.frame∧env.frame.isSome=true)(h:aD (model G.prog G.w) A t sp (Rsd G J E) s):aD (model G.prog G.w) A (t.onRaise (fun x=>do noteFrame x env;theTreesLotGoes x)) sp (yL G J E) s:=by show uG (en h (fun _ _ q=>q) fun e s' r=>bk ?_);show d5 r fun k bm H Fr x zs=>?_;show aU (xi Wp wn Fr x fun h' oj hm KT=>?_);show wpAny_theTreesLotGoes ⟨k,bm,H,oj,KT,fun fz rQ M2 p5=>?_⟩;show zs fz rQ (hm.trans M2) p5
theorem xC{c:Code}{hd:Option Value}(Z:dK (model G.prog G.w) (A.mark hd) c (kL G J Q E) s)(pf:hd≠some byPass):aD (model G.prog G.w) A (runOwn c env hd) Q E s:=by
 unfold runOwn;show uG (J4 (vf Z fun r s' q=>?_) pf);cases r with
 |ok f=>show q
 |error e=>show d5 q fun k bm H Fr x zs=>?_;show bk (Gq x fun v al=>?_);rw[aM (by rw[al];decide)];show sF Fr x fun h' oj hm KT=>zs h' oj hm KT
theorem vg{c:Code}{t:Sem Fin}(Y:j4 c=false)(np:A.under c=A)(hd:(model G.prog G.w).den c=t.onRaise (fun x=>do noteFrame x env;theTreesLotGoes x))(Wp:A.frames=some J)(wn:∃v0 v6,J=v0::v6∧v0.frame=env.frame∧env.frame.isSome=true)(h:aD (model G.prog G.w) A t (fun v4 s'=>match v4 with|.done f=>Q f s'|.again h0=>h0.quiet=true∧dK (model G.prog G.w) A h0 (kL G J Q E) s') (Rsd G J E) s):dK (model G.prog G.w) A c (kL G J Q E) s:=by show j8 Y ?_;rw[np,hd];show en (UM Wp wn h) (fun v4 s' q=>by cases v4<;>show q) fun _ _ q=>q
end
end
section
section
variable{G:br}{P:aY}{d:Nat}{aaa:List (Str×NameKind)}{A:Around}{J:List Env}{env:Env}{ρ:aN}{j:ae}{z:aq}{s:Shared}{E:Value→Shared→Prop}{Q:Flow→Shared→Prop}
theorem bo.cX{r:bH}{h:Heap}(p:bo G J env ρ h r Q E):bo G J env ρ h r Q (Rsd G J E):=by
 cases r with
 |next z j=>show p
 |ret v z j=>show p
 |a6 k z j=>show fun bm s' e S X x=>⟨k,bm,j,S.toHR,x,fun h' Fr hm KT=>p bm {s' with heap:=h'} e ⟨Fr,S.toFR.aK S.toHR hm⟩ (X.trans (hm.aK S.fo)) KT.d7⟩
 |aS=>show p
theorem a3.cX{α go:Type}{R:aN→Heap→α→go→Prop}{r:aG α}{h:Heap}{Q:go→Shared→Prop}(p:a3 G J env z ρ h R r Q E):a3 G J env z ρ h R r Q (Rsd G J E):=by
 cases r with
 |ok v j=>show p
 |a6 k j=>show fun bm s' e S X x=>⟨k,bm,j,S.toHR,x,fun h' Fr hm KT=>p bm {s' with heap:=h'} e ⟨Fr,S.toFR.aK S.toHR hm⟩ (X.trans hm) KT.d7⟩
 |aS=>show p
theorem XE{c:Expr}{b:List Stmt}{i:a0}{af:bZ}(Z:cB G P d aaa c i)(Y:g' G P d aaa b af)(C:cq G P d aaa A J env):∀(n:Nat)(ρ:aN)(j:ae)(z:aq)(s:Shared),a4 G J env ρ j z s→bo G J env ρ s.heap (rN (fun z j=>den P i z j) (fun z j=>dB P af z j) n z j) Q E→dK (model G.prog G.w) A (.whileLoop c b [] env) (kL G J Q E) s:=by
 intro ca;induction ca with
 |zero=>intro _ _ _ _ _ p;show p.elim
 |succ n ap=>
  intro ρ j z s S p;show vg (t:=whileTurn c b [] env) rfl rfl rfl C.frames C.cL.stack ?_;unfold whileTurn;show aB (Z A J env ρ j z s _ _ C S (a3.cX (bo.km S (bo.xn p) fun v f2 fr a2 t _ he lv mt kt=>?_)));have mt:ck v=some t:=mt;rw[mt]at kt;clear p lv mt;cases t with
  |true=>rw[aF rfl];show aB (Y A J env fr f2 z a2 _ _ C he (bo.cX (bo.bind kt (fun u s' q=>bw q) fun TZ s1 nw lo _ is no g2=>?_)));show bw ⟨rfl,ap nw s1 TZ lo is g2⟩
  |false=>rw[aM kG];show aB (bw (bw ?_));show kt.i8 he (aL.refl _ _ _)
theorem dt.iJ{c:Expr}{b:List Stmt}{pos:Pos}{i:a0}{af:bZ}(Z:cB G P d aaa c i)(Y:g' G P d aaa b af):dt G P d aaa (.While c b [] pos) (.iJ i af):=fun A J env ρ j z s Q E C S p=>by rw[exec_While];show aB (cH (xC (XE Z Y C P.N ρ j z s S p.hd.2) nofun))
end
end
section
noncomputable def xg:Expr→Bool
 |.Set .. =>false
 |_=>true
def j1(G:br)(P:aY)(d:Nat)(aaa:List (Str×NameKind))(bV:Expr)(bW:Bool)(i:a0):Prop:=(bW=false∧xg bV=true∧a' G P d aaa bV i)∨(bW=true∧∃(e:Expr)(Ok pos:Pos),bV=.Call (.Name ("range":Str) Ok) [e] [] pos∧f7 [e]=true∧(∃af:Nat,aaa[af]?=some (("range":Str),NameKind.globalImplicit))∧a' G P d aaa e i)
section
variable{G:br}{P:aY}{d:Nat}{aaa:List (Str×NameKind)}{A:Around}{J:List Env}{env:Env}{ρ:aN}{j:ae}{z:aq}{s:Shared}{E:Value→Shared→Prop}{Q:Flow→Shared→Prop}
def r1(G:br)(pu:Heap)(ρ:aN)(h:Heap)(db:d8)(aJ:Addr):Prop:=ef G ρ h aJ db 0∧G.a9.get? aJ=none∧pu.get? aJ=none
theorem FJ{bV:Expr}(h:xg bV=true)(x:Value):foldedSetIterable bV env x=pure x:=by cases bV<;>first|rfl|cases h
theorem qm(S:HR G J ρ j s){T:Addr}(h:s.heap.get? T=none):G.a9.get? T=none:=(S.FV h).1
theorem aL.vn{bm:aN}{h h':Heap}(x:aL b4 ρ h bm h'){b:Addr}(e:h'.get? b=none):h.get? b=none:=by
 cases q:h.get? b with
 |none=>rfl
 |some o=>show absurd e (x.cc b (fun f=>f) (by rw[q];show fun aa=>ns aa))
theorem Hr{α:Type}{bV:Expr}{bW:Bool}{i:a0}(an:j1 G P d aaa bV bW i)(C:cq G P d aaa A J env)(S:a4 G J env ρ j z s){K W:Value→Sem α}{Q:α→Shared→Prop}(No:∀x s,aD (model G.prog G.w) A (holding [x] (pyIter x)>>=K) Q E s→aD (model G.prog G.w) A (W x) Q E s)(p:a3 G J env z ρ s.heap (r1 G s.heap) ((den P i z j).bind fun v j=>aG.bg (d6 j bW v) j) (fun aJ a2=>aD (model G.prog G.w) A (K (.ref aJ)) Q E a2) E):aD (model G.prog G.w) A (eval bV env>>=W) Q E s:=by
 rcases an with⟨rfl,bi,ge⟩|⟨rfl,e,Ok,pos,rfl,lh,⟨af,dl⟩,ge⟩
 ·show aB (ge A J env ρ j z s _ E C S (a3.bind p fun v f2 fr a2 u _ he lv mt kt=>?_));show kt.iu fun db a1 kt=>?_;show No _ _ (aB (cp ?_));show bk (ef.WR C.dc he mt a1 fun h' ak s5 tt=>?_);show kt.cM s5 (aL.dv _ ak) ⟨tt,qm he.toHR (fH _),lv.vn (fH _)⟩
 ·have V:gc G P d aaa [e] (.cons i .nil):=gc.E7 ge gc.Ig lh;show C.lq dl fun gl ZB SC UV=>?_;have AT:gl=.globalImplicit:=by
   rcases UV with rfl|⟨h,_⟩
   ·rfl
   ·cases h
  subst AT;have k_:s.heap.Ns env.globals G.dO:=by rw[C.cL.js];show C.ok.T.g.keeps S.a9
  have oY:s.heap.Ns env.builtins G.fF:=by rw[C.cL.blt];show C.ok.T.b.keeps S.a9
  show aB ?_;change aD _ _ (eval (.Name ("range":Str) Ok) env>>=fun v=>callWith pos v [] (backTo pos (starEach [e] env)) []) _ _ _;show aB (bk (Name_function_global C.cL.kind SC (loadGlobal_builtin k_ C.dc.bW.1 oY C.dc.bW.2 ?_) (by decide)));show sf (r9 lh) ?_;show V A J env pos ρ j z s _ E C S ?_;show(?_:a3 G J env z ρ s.heap ba ((den P i z j).bind fun x j=>.ok [x] j) _ E);cases ad:den P i z j with
  |aS=>rw[ad]at p;show p
  |a6 k f2=>rw[ad]at p;show p
  |ok v f2=>rw[ad]at p;intro fr a2 vs he lv mt;obtain⟨u,mX,rfl,mt,TW⟩:=mt;subst TW;show⟨⟨.machine,.inr (.inl rfl),Looks.of_pure rfl⟩,?_⟩;show aX fun _ done=>?_;show a3.iu (a:=d6 f2 true v) (a3.eY p lv) fun db a1 kt=>?_;show c5 a1 fun n bi a1=>?_;show qO a1 fun Y a1=>?_;subst a1;show ks mt bi fun t cl=>?_;subst cl;show done ?_;show bk (ef.range he Y.1 Y.2 fun o Do ak is k'=>?_);show No _ _ (aB (cp (bk (wpAny_mono k' (fun v s' it=>?_) fun _ _ f=>f.elim))));show oM it fun o' cl Nv Os tt=>?_;subst cl;subst Nv;show kt.cM Os (aL.dv _ fun b x e=>eH _ (ak b x e)) ⟨tt,qm is.toHR (fH _),lv.vn ((aL.dv fr ak).vn (fH _))⟩
theorem j1.jJ{bV:Expr}{bW:Bool}{i:a0}(an:j1 G P d aaa bV bW i):xg bV=true:=by
 rcases an with⟨_,h,_⟩|⟨_,_,_,_,rfl,_⟩
 ·show h
 ·rfl
theorem SH{α:Type}{bV:Expr}{bW:Bool}{i:a0}(an:j1 G P d aaa bV bW i)(C:cq G P d aaa A J env)(S:a4 G J env ρ j z s){K:Value→Sem α}{Q:α→Shared→Prop}(p:a3 G J env z ρ s.heap (r1 G s.heap) ((den P i z j).bind fun v j=>aG.bg (d6 j bW v) j) (fun aJ a2=>aD (model G.prog G.w) A (K (.ref aJ)) Q E a2) E):aD (model G.prog G.w) A (eval bV env>>=fun XW=>foldedSetIterable bV env XW>>=fun x=>standAt bV.pos>>=fun _=>holding [x] (pyIter x)>>=K) Q E s:=Hr an C S (K:=K) (fun x s h=>by rw[FJ an.jJ];show aB (bw (aB (cH h)))) p
end
end
section
set_option backward.match.sparseCases true
section
variable{G:br}{P:aY}{d:Nat}{aaa:List (Str×NameKind)}{A:Around}{J:List Env}{env:Env}{ρ:aN}{j:ae}{z:aq}{s:Shared}{E:Value→Shared→Prop}{Q:Flow→Shared→Prop}
theorem Iu {aJ : Addr} {t : Expr} {v : Value} {Q : Unit → Shared → Prop} {T : String} {dd : Option Addr} {vs : Array Value} {co : Array (Option Value)} (ga : s.heap.get? aJ = some ⟨.type T, dd, .fields vs, co⟩) (im : tT.contains T = false) (q : Q () s) :
    wpAny (model G.prog G.w) A (letOwnedTupleGo t (.ref aJ) v) Q E s := by
  have body : wpAny (model G.prog G.w) A (match (Value.ref aJ, v) with
    | (.ref r, .ref a) => (do
      let o ← load r
      match o.cls, o.data with
      | .type n, .fields vs =>
        if tT.contains n && vs[0]? == some (rawInt a) then
          rule "for.unpacks-the-owned-tuple"
          updateField r 0 .none
      | _, _ => pure () : Sem Unit)
    | _ => pure ()) Q E s := by
    cases v <;> first | show bz q | skip
    show aU (wpAny_load ga ?_)
    dsimp only
    rw [im]
    show bz q
  cases t with
  | Tuple ts k p => first | show body | show bz q
  | List ts k => first | show body | show bz q
  | _ => show bz q
theorem Ea(S:a4 G J env ρ j z s)(b:Addr)(o:Obj)(e:s.heap.get? b=some o)(_:o.cls≠.type "traceback")(I:∀bd n,o.data≠.dict bd n)(O:∀w,o.data≠.cell w)(_:¬cg ρ b):¬e3 env b:=by
 rintro(rfl|⟨x,ad⟩);·show aW S.aw fun m ac _=>?_;show sC (rj ac) fun c dd bd ww co a=>?_;rw[e]at a;clear O e;obtain rfl:=bx a;show I _ _ rfl
 ·obtain⟨⟨EQ,Z⟩,_⟩:=S.jm x b ad;show oN (sh Z) fun k dd co a=>?_;rw[e]at a;obtain rfl:=bx a;show O _ rfl
theorem aL.after{gd:Addr→Prop}{v2 fr nw:aN}{pu s4 XL:Heap}{aJ:Addr}(x:aL gd v2 pu fr s4)(y:aL (fun b=>b=aJ) fr s4 nw XL)(ga:pu.get? aJ=none)(oW:∀b,gd b→s4.get? b≠none):aL gd v2 pu nw XL where
 pre k p h:=by show aW (x.pre k p h) fun jp h' e=>?_;show aW (y.pre k jp h') fun tV fz st=>?_;show b' tV fz (st.trans e)
 cc b po Y:=y.cc b (fun q=>Y (q▸ga)) (x.cc b po Y)
 cls b o po e:=by show aW (x.cls b o po e) fun o' st c=>?_;show aW (y.cls b o' (fun q=>by subst q;rw[ga]at e;cases e) st) fun tO sz h0=>?_;show b' tO sz (h0.trans c)
 new b Y:=(y.new b Y).elim (x.new b) fun q=>.inr (by
  have bi:¬gd b:=fun aa=>oW b aa q.1;show⟨?_,bi⟩;cases e:pu.get? b with
  |none=>rfl
  |some o=>show absurd q.1 (x.cc b bi (by rw[e];show fun aa=>ns aa)))
 keep b c d g1 a hd ci po:=y.keep b c d g1 (x.keep b c d g1 a hd ci po) hd (fun q=>(x.new b q).elim ci fun aa=>absurd aa.1 a.cc) (fun q=>a.cc (q▸ga))
 f3 b o e I O ci po:=y.f3 b o (x.f3 b o e I O ci po) I O (fun q=>(x.new b q).elim ci fun aa=>by have aa:=aa.1;rw[e]at aa;cases aa) (fun q=>by subst q;rw[ga]at e;cases e)
 av b vs n a:=y.av b vs n (x.av b vs n a)
theorem bo.LU{x:bH}{f:aq→ae→bH}{Q sp:Flow→Shared→Prop}{pu h:Heap}{v2:aN}(p:bo G J env v2 pu (x.bind f) Q E)(X:aL (e3 env) v2 pu ρ h)(ar:∀u s,Q (.ret u) s→sp (.ret u) s)(k:∀P3 f2 fr a2,x=.next P3 f2→a4 G J env fr f2 P3 a2→aL (e3 env) ρ h fr a2.heap→bo G J env v2 pu (f P3 f2) Q E→sp .next a2):bo G J env ρ h x sp E:=by
 cases x with
 |next z j=>show fun fr a2 S hm=>k z j fr a2 rfl S hm p
 |ret v z j=>show fun fr a2 u S hm r=>ar _ _ (p fr a2 u S (X.trans hm) r)
 |a6 gl z j=>show fun fr a2 e S hm r=>p fr a2 e S (X.trans hm) r
 |aS=>show p
theorem Pu{t:Expr}{b:List Stmt}{o0:List Nat}{af:bZ}(im:jj aaa t o0)(Y:g' G P d aaa b af)(C:cq G P d aaa A J env)(it:P.hd=true){db:d8}{aJ:Addr}(nA:G.a9.get? aJ=none){v2:aN}{pu:Heap}(am:pu.get? aJ=none):∀(n i:Nat)(ρ:aN)(j:ae)(z:aq)(s:Shared),a4 G J env ρ j z s→ef G ρ s.heap aJ db i→aL (e3 env) v2 pu ρ s.heap→bo G J env v2 pu (kX (fun(x:ag)(z:aq)(j:ae)=>eb (dY z o0 x) fun z=>dB P af z j) db n i z j) Q E→dK (model G.prog G.w) A (.forLoop t (.ref aJ) b [] env) (kL G J Q E) s:=by
 intro ca;induction ca with
 |zero=>intro sK Ev Da FM hg SB j6 kT p;show p.elim
 |succ n ap=>
  intro i ρ j z s S tt Eb p;show vg (t:=forTurn t (.ref aJ) b [] env) rfl rfl rfl C.frames C.cL.stack ?_;rw[FK]at p;unfold forTurn;have sU:=C.hd it;cases an:gQ db i j with
  |none=>rw[an]at p;show p.elim
  |some r=>
   rw[an]at p;have p:bo G J env v2 pu (Ax (fun(x:ag)(z:aq)(j:ae)=>eb (dY z o0 x) fun z=>dB P af z j) db n i z j r) Q E:=p;show aB (cH (aB (bk (wpAny_onRaise (ef.next S tt nA sU an fun a2 he lv=>⟨fun x ar v sB tu=>?_,fun ar=>?_⟩)))))
   ·clear an;show aX fun _ done=>?_;subst ar;have Ec:=Eb.after lv am S.fo;show c4 (ef.q9 tu) fun v1 _=>?_;show Fm v1 fun T dd vs co fS f' pU lM=>?_;show done ?_;show aB (bk (Iu fS lM.1 ?_));cases o1:dY z o0 x with
    |none=>rw[FL,o1]at p;show p.elim
    |some P3=>rw[FL,o1]at p;show aB (bk (Dp (gE.all _ _) im C sU he sB o1 fun lo is no=>?_));have BV:=tu.ext no (Ea he);show aB (Y A J env ρ j P3 lo _ _ C is (bo.cX (bo.LU p (Ec.trans no) (fun u s' q=>bw q) fun T1 jS jc lL _ Os M2 kq=>?_)));show bw ⟨rfl,ap (i+1) jc jS T1 lL Os (BV.ext M2 (Ea is)) ((Ec.trans no).trans M2) kq⟩
   ·subst ar;show bw ⟨rfl,?_⟩;show vg (t:=(do return .done (←execs [] env))) rfl rfl rfl C.frames C.cL.stack ?_;show aB (bw (bw ?_));show p.i8 he (Eb.after lv am S.fo)
theorem dt.fx{t bV:Expr}{b:List Stmt}{pos:Pos}{o0:List Nat}{bW:Bool}{i:a0}{af:bZ}(im:jj aaa t o0)(an:j1 G P d aaa bV bW i)(Y:g' G P d aaa b af):dt G P d aaa (.For t bV b [] pos) (.fx o0 i bW af):=fun A J env ρ j z s Q E C S p=>by
 show p.mi fun it p=>?_;show XF (exec_For ..) (aB (cH ?_));show SH (K:=fun tt=>runOwn (.forLoop t tt b [] env) env) an C S ?_;have p:bo G J env ρ s.heap ((den P i z j).toS z fun v j=>eb (d6 j bW v) fun db=>kX (fun(x:ag)(z:aq)(j:ae)=>eb (dY z o0 x) fun z=>dB P af z j) db P.N 0 z j) Q E:=p;cases ad:den P i z j with
 |aS=>rw[ad]at p;show p
 |a6 k f2=>rw[ad]at p;show bo.km (R:=r1 G s.heap) (x:=aG.a6 k f2) (f:=fun(_:d8) _=>bH.aS) S p fun _ _ _ _ _ h=>nomatch h
 |ok v f2=>rw[ad]at p;show bo.mH (x:=d6 f2 bW v) p fun db a1 p=>?_;show(?_:a3 G J env z ρ s.heap (r1 G s.heap) (aG.bg (d6 f2 bW v) f2) _ E);rw[a1];intro fr a2 aJ he lv ⟨tt,nA,am⟩;show xC (Pu im Y C it nA am P.N 0 fr f2 z a2 he tt (lv.aK S.fo) p) nofun
end
end
section
noncomputable def j7(env:Env):List (Str×NameKind)→List (Str×Addr)→List (Str×Addr)
 |[],pr=>pr
 |(x,k)::r,pr=>j7 env r (if k==NameKind.free then(match env.cells.lookup x with|some c=>(x,c)::pr|none=>pr)else pr)
theorem qt{env:Env}{x:Str}{k:NameKind}{r:List (Str×NameKind)}{pr:List (Str×Addr)}:j7 env ((x,k)::r) pr=j7 env r (if k==NameKind.free then(match env.cells.lookup x with|some c=>(x,c)::pr|none=>pr)else pr):=rfl
theorem MS{env:Env}:∀(l:List (Str×NameKind))(pr:List (Str×Addr)),(∀x k,(x,k)∈l→k=.free→∃c,env.cells.lookup x=some c)→(forIn l pr fun(x:Str×NameKind) r=>(if x.2==NameKind.free then(do let c←cellOf env x.1;pure (ForInStep.yield ((x.1,c)::r)))else pure (ForInStep.yield r):Sem _))=pure (j7 env l pr):=by
 intro ca;induction ca with
 |nil=>intro pr _;rfl
 |cons t1 r ap=>
  obtain⟨x,k⟩:=t1;intro pr h;rw[List.forIn_cons];by_cases ak:k=.free
  ·subst ak;obtain⟨c,Z⟩:=h x _ dF rfl;have e:cellOf env x=pure c:=by unfold cellOf;rw[Z]
   simp only[beq_self_eq_true,if_true,e,qt,Z];change(forIn r _ _:Sem _)=_;show ap _ fun y gl ac=>h y gl (dE _ ac)
  ·have Y:(k==NameKind.free)=false:=by simpa using ak
   simp only[Y,gy,if_false,qt];change(forIn r _ _:Sem _)=_;show ap _ fun y gl ac=>h y gl (dE _ ac)
theorem MR{env:Env}{aab:Scope}(h:∀x k,(x,k)∈aab.names→k=.free→∃c,env.cells.lookup x=some c):closureFor aab env=pure (j7 env aab.names []):=by have:=MS aab.names [] h;change((forIn aab.names [] fun(x:Str×NameKind) r=>(if x.2==NameKind.free then(do let c←cellOf env x.1;pure (ForInStep.yield ((x.1,c)::r)))else pure (ForInStep.yield r):Sem _))>>=fun r=>pure r)=_;rw[this];rfl
theorem E0{env:Env}:∀{l:List (Str×NameKind)}{pr:List (Str×Addr)}{x:Str}{c:Addr},(x,c)∈j7 env l pr→(x,c)∈pr∨env.cells.lookup x=some c:=by
 intro ca;induction ca with
 |nil=>intro _ _ _ h;show .inl h
 |cons t1 r ap=>
  obtain⟨y,k⟩:=t1;intro pr x c h;rw[qt]at h;rcases ap h with h|h
  ·split at h
   ·split at h
    ·rename_i e;rcases ep.mp h with h|h
     ·cases h;show .inr e
     ·show .inl h
    ·show .inl h
   ·show .inl h
  ·show .inr h
theorem MP{env:Env}:∀{l:List (Str×NameKind)}{pr:List (Str×Addr)}{p:Str×Addr},p∈pr→p∈j7 env l pr:=by
 intro ca;induction ca with
 |nil=>intro _ _ h;show h
 |cons t1 r ap=>
  obtain⟨y,k⟩:=t1;intro pr p h;rw[qt];show ap ?_;split
  ·split;·show dE _ h
   ·show h
  ·show h
theorem MO{env:Env}:∀{l:List (Str×NameKind)}{pr:List (Str×Addr)}{x:Str}{c:Addr},(x,NameKind.free)∈l→env.cells.lookup x=some c→(x,c)∈j7 env l pr:=by
 intro ca;induction ca with
 |nil=>intro _ _ _ h _;show nm h
 |cons t1 r ap=>
  obtain⟨y,k⟩:=t1;intro pr x c h e;rw[qt];show Or.elim (ep.mp h) (fun h=>?_) fun h=>?_;·cases h;simp only[beq_self_eq_true,if_true,e];show MP dF
  ·show ap h e
theorem MN{env:Env}(ds:env.cells.Pairwise fun x y=>x.2≠y.2):∀{l:List (Str×NameKind)}{pr:List (Str×Addr)},(l.map (·.1)).Nodup→pr.Pairwise (fun x y=>x.2≠y.2)→(∀y c,(y,c)∈pr→env.cells.lookup y=some c∧y∉l.map (·.1))→(j7 env l pr).Pairwise fun x y=>x.2≠y.2:=by
 intro ca;induction ca with
 |nil=>intro _ _ h _;show h
 |cons t1 r ap=>
  obtain⟨y,k⟩:=t1;intro pr bi h Z;rw[qt];show c4 (List.nodup_cons.mp bi) fun I O=>?_;have s3:∀aa c,(aa,c)∈pr→env.cells.lookup aa=some c∧aa∉r.map (·.1):=fun aa c ac=>⟨(Z aa c ac).1,fun q=>(Z aa c ac).2 (dE _ q)⟩;split
  ·split
   ·rename_i c e;show ap O (List.pairwise_cons.mpr ⟨fun p be=>?_,h⟩) fun aa h0 ac=>?_;·obtain⟨aa,h0⟩:=p;intro q;dsimp only at q;subst q;have:=name_of_addr ds (mem_of_lookup e) (mem_of_lookup (Z aa _ be).1);subst this;show(Z y _ be).2 dF
    ·rcases ep.mp ac with ac|ac
     ·cases ac;show⟨e,I⟩
     ·show s3 aa h0 ac
   ·show ap O h s3
  ·show ap O h s3
theorem TU{α go:Type}[BEq α][LawfulBEq α]:∀{l:List (α×go)}{x:α}{c:go},(x,c)∈l→(∀h0,(x,h0)∈l→h0=c)→l.lookup x=some c:=by
 intro ca;induction ca with
 |nil=>intro _ _ h _;show nm h
 |cons t1 r ap=>
  obtain⟨y,d⟩:=t1;intro x c h np;rw[List.lookup_cons];by_cases e:x=y;·clear h;subst e;rw[beq_self_eq_true];dsimp only;rw[np d dF]
  ·have Y:(x==y)=false:=by simpa using e
   rw[Y];show Or.elim (ep.mp h) (fun h=>?_) fun h=>?_;·clear np Y;cases h;show absurd rfl e
   ·show ap h fun h0 ac=>np h0 (dE _ ac)
theorem ES{v6:List (Str×NameKind)}:∀{l:List (Str×NameKind)}{n:Nat}{pr:List (Nat×Nat)},nf v6 n l=some pr→∀i af,(i,af)∈pr→∃x,n≤i∧l[i-n]?=some (x,NameKind.free)∧gu v6 x=some af:=by
 intro ca;induction ca with
 |nil=>intro _ _ h i af ac;cases h;cases ac
 |cons t1 r ap=>
  obtain⟨x,k⟩:=t1;intro n pr h i af ac;rw[MH]at h;have iD:∀sq,nf v6 (n+1) r=some sq→(i,af)∈sq→∃y,n≤i∧((x,k)::r)[i-n]?=some (y,NameKind.free)∧gu v6 y=some af:=fun sq h' BT=>by
   show eA (ap h' i af BT) fun y I O bn=>?_;show iv y (by show ai [[1,1]] [_,_] [] [.le (.a .x .l) .y] (.le .x .y) ah I) ?_ bn;have e:i-n=(i-(n+1))+1:=by show ai [[1,0,1,0,0,0,1],[0,1,0,0,1],[1,0,1,0,0,0,1,1],[0,0,0,0,1,0,0,1],[1,0,0,1,0,1],[1,0,0,0,0,1],[1,1,0,0,0,1],[1,0,0,0,0,1]] [_,_,_,_] [] [.le (.a .aa .l) .w,.cG .x .w .aa,.cG .y .w (.a .aa .l)] (.eq .x (.a .y .l)) ah I (cy _ _) (cy _ _)
   rw[e,List.getElem?_cons_succ];show O
  split at h
  ·rename_i ak;show c5 h fun wY dl h=>?_;show eF h fun sq Z cl=>?_;subst cl;rcases ep.mp ac with ac|ac
   ·clear iD h;cases ac;show iv x (cm _) (by simp;simpa using ak) dl
   ·show iD sq Z ac
  ·show iD pr h ac
theorem ME{z:aq}:∀{pr:List (Nat×Nat)}{r:aq}{i:Nat}{v:ag},(e5 z pr r)[i]?=some (some v)→r[i]?=some (some v)∨∃af,(i,af)∈pr∧z[af]?=some (some v):=by
 intro ca;induction ca with
 |nil=>intro _ _ _ h;show .inl h
 |cons t1 pr ap=>
  obtain⟨a,b⟩:=t1;intro r i v h;rw[MD]at h;rcases ap h with h|⟨af,dl,h⟩
  ·by_cases e:i=a
   ·subst e;by_cases V:i<r.length
    ·rw[kE V]at h;simp only[Option.some.injEq]at h;show .inr ⟨b,dF,?_⟩;cases q:z[b]? with
     |none=>rw[q]at h;cases h
     |some y=>rw[q]at h;simp at h;rw[h]
    ·rw[List.getElem?_eq_none_iff.mpr (by rw[List.length_set];show rR V)]at h;show cf h
   ·rw[eP (Ne.symm e)]at h;show .inl h
  ·show .inr ⟨af,dE _ dl,h⟩
theorem ER{z:aq}{pr:List (Nat×Nat)}{n i:Nat}{v:ag}(h:(e5 z pr (List.replicate n none))[i]?=some (some v)):∃af,(i,af)∈pr∧z[af]?=some (some v):=by
 show Or.elim (ME h) (fun h=>?_) fun h=>?_;·rw[List.getElem?_replicate]at h;split at h<;>cases h
 ·show h
section
variable{G:br}{P:aY}{d:Nat}{aaa:List (Str×NameKind)}{A:Around}{J:List Env}{env:Env}{ρ:aN}{j:ae}{z:aq}{s:Shared}{E:Value→Shared→Prop}{Q:Value→Shared→Prop}
noncomputable abbrev hL(aab:Scope)(L:Addr)(env:Env):Env:=compEnvC aab (j7 env aab.names []) L env
structure kP(aaa:List (Str×NameKind))(aab:Scope):Prop where
 kind:aab.kind=.function
 nV:(aab.names.map (·.1)).Nodup
 cell:∀(i:Nat)(x:Str),aab.names[i]? ≠some (x,NameKind.cell)
 free:∀(x:Str),(x,NameKind.free)∈aab.names→aaa.lookup x=some .cell∨aaa.lookup x=some .free
theorem I'{aab:Scope}(h:xH aaa aab=true):kP aaa aab:=by
 unfold xH at h;simp only[fM,dw,gz,jd]at h;obtain⟨⟨I,O⟩,bn⟩:=h;show⟨I,O,fun i x e=>?_,fun x e=>?_⟩;·have:=(bn _ (eZ e)).1;simp at this
 ·have:=(bn _ e).2;simpa using this
theorem I4{aab:Scope}{i:Nat}{x:Str}{k:NameKind}(h:(relabel aab env).names[i]?=some (x,k)):∃k0,aab.names[i]?=some (x,k0)∧(k=k0∨(k0=.free∧k=.cell)):=by
 change ∃k0,aab.names[i]?=some (x,k0)∧_;have h:(aab.names.map fun(n,k)=>if(k==.free&&env.scope.kind==.function&&env.kindOf n==some .cell)then(n,NameKind.cell)else(n,k))[i]?=some (x,k):=h;rw[eQ]at h;show eF h fun p be e=>?_;obtain⟨n,k0⟩:=p;dsimp only at e;split at e;·rename_i Z;simp only[fM,dw]at Z;clear h;cases e;show b' k0 be (.inr ⟨Z.1.1,rfl⟩)
 ·cases e;show⟨k,be,.inl rfl⟩
theorem VV(aab:Scope):(relabel aab env).names.map (·.1)=aab.names.map (·.1):=by change(aab.names.map _).map _=_;rw[List.map_map];show List.map_congr_left fun p _=>?_;obtain⟨n,k⟩:=p;dsimp only[Function.comp];split<;>rfl
theorem VW(aab:Scope):rY aab.names (relabel aab env).names:=fun af x k h=>by
 change ∃gl,(aab.names.map _)[af]?=some (x,gl)∧_;rw[eQ,h];dsimp only[Option.map_some];split;·rename_i Z;simp only[fM,dw]at Z;show⟨.cell,rfl,.inr ⟨Z.1.1,rfl⟩⟩
 ·show⟨k,rfl,.inl rfl⟩
theorem FQ(C:cq G P d aaa A J env)(F:FR G env ρ z s.heap){aab:Scope}(a1:kP aaa aab){x:Str}(ad:(x,NameKind.free)∈aab.names):∃(wY:Nat)(gl:NameKind)(c:Addr)(EQ:Option Value),env.scope.names[wY]?=some (x,gl)∧env.cells.lookup x=some c∧s.heap.IsCell c EQ∧G.a9.get? c=none∧∀v,z[wY]?=some (some v)→∃u,EQ=some u∧aR ρ s.heap v u:=by
 show aX fun _ done=>?_;have:∃k0,aaa.lookup x=some k0∧(k0=.cell∨k0=.free):=by
  rcases a1.free x ad with h|h
  ·show⟨_,h,.inl rfl⟩
  ·show⟨_,h,.inr rfl⟩
 show aW this fun k0 am A3=>?_;obtain⟨af,dl⟩:=List.mem_iff_getElem?.mp (mem_of_lookup am);show C.lq dl fun gl I O bn=>?_;have AT:gl=.cell∨gl=.free:=by
  clear ad am af dl I O;rcases bn with rfl|⟨_,rfl⟩
  ·show A3
  ·show .inl rfl
 show iV (F.iU af x gl I AT) fun c EQ cd ex sc wT=>?_;show done ?_;show⟨af,gl,c,EQ,I,cd,ex,sc,wT⟩
theorem MQ(C:cq G P d aaa A J env)(F:FR G env ρ z s.heap){aab:Scope}(a1:kP aaa aab):closureFor aab env=pure (j7 env aab.names []):=MR fun x k ac ak=>by subst ak;show vr (FQ C F a1 ac) fun _ _ c _ _ h _=>?_;show⟨c,h⟩
theorem MG(C:cq G P d aaa A J env)(F:FR G env ρ z s.heap){aab:Scope}(a1:kP aaa aab){ut:List (Nat×Nat)}(Z:ng aaa aab.names=some ut){L:Addr}{m:Str→Option Value}(bi:s.heap.Ns L m)(hO:G.a9.get? L=none)(oU:¬cg ρ L):FR G (hL aab L env) ρ (e5 z ut (List.replicate aab.names.length none)) s.heap where
 aw:=⟨m,bi,fun i x v I O=>by show aW (I4 I) fun k0 bn lc=>?_;show aX fun _ done=>?_;show aW (ER O) fun af dl _=>?_;show eA (ES Z i af dl) fun y _ f1 _=>?_;simp only[Nat.sub_zero]at f1;rw[f1]at bn;cases bn;show done ?_;rcases lc with lc|⟨_,lc⟩<;>cases lc⟩
 iU i x k I O:=by
  show aW (I4 I) fun k0 bn lc=>?_;have A3:k0=.free:=by
   rcases lc with rfl|⟨h,_⟩
   ·clear m bi hO oU I;rcases O with rfl|rfl
    ·show absurd bn (a1.cell i x)
    ·rfl
   ·show h
  subst A3;have qZ:=eZ bn;show Fn (FQ C F a1 qZ) fun wY gl c EQ ZB SC UV nv sG=>?_;show nT c EQ (TU (MO qZ SC) (fun h0 ac=>?_)) UV nv (fun v al=>?_)
  ·rcases E0 ac with ac|ac
   ·show nm ac
   ·rw[SC]at ac;show(bx ac).symm
  ·show aW (ER al) fun af dl V=>?_;show aX fun _ done=>?_;show eA (ES Z i af dl) fun y _ f1 fb=>?_;simp only[Nat.sub_zero]at f1;rw[bn]at f1;cases f1;obtain⟨hs,Q9⟩:=F2 fb;show C.lq Q9 fun YU cd _ _=>?_;have:=xf C.cL cd ZB;subst this;show done ?_;show sG v V
 lV:=hO
 eT:=oU
 jm x c ac:=by
  rcases E0 ac with ac|ac
  ·show nm ac
  ·show F.jm x c (mem_of_lookup ac)
theorem MF(C:cq G P d aaa A J env){aab:Scope}(a1:kP aaa aab)(L:Addr):cq G P d aab.names A J (hL aab L env)where
 ok:=C.ok
 dc:=C.dc
 cv:=C.cv
 frames:=C.frames
 guards:=C.guards
 keep:=C.keep
 cL:=⟨a1.kind,C.cL.js,C.cL.blt,by change((relabel aab env).names.map (·.1)).Nodup;rw[VV];show a1.nV,C.cL.stack,MN C.cL.apart a1.nV List.Pairwise.nil (fun _ _ h=>nm h)⟩
 tK:=VW aab
 hd:=C.hd
 sa:=C.sa
 ns:=C.ns
 d':=C.d'
 depth:=C.depth
 units:=C.units
end
end
section
section
variable{prog:Program}{w:World}{A:Around}{E:Value→Shared→Prop}{s:Shared}
theorem SG{aJ:Addr}{T:String}{Q:Value→Shared→Prop}(py:s.TypeIs (.ref aJ) T)(im:rC.contains T=true)(h:Q (.ref aJ) s):wpAny (model prog w) A (pyIter (.ref aJ)) Q E s:=by
 have key:∀{id:String}{r:Value}{T:String},s.TypeIs (.ref aJ) T→Slot T "__iter__" id→entryFor table id=some Builtin.«dict_keyiterator.__iter__»→argsOk id ⟨[.ref aJ],[]⟩→typeLookup (.type T) "__next__"=pure (some r)→wpAny (model prog w) A (pyIter (.ref aJ)) Q E s:=by intro id r T py I O bn lc;show wpAny_pyIter_slot py I (wpAny_call_entry I py O ?_ bn);change wpAny _ _ (ret (.ref aJ)) _ _ s;show bz ⟨_,rfl,T,_,py,lc,h⟩
 have im:T="list_iterator"∨T="tuple_iterator"∨T="range_iterator"∨T="str_ascii_iterator"∨T="str_iterator":=by simp only[rC,List.contains_cons,List.contains_nil,Bool.or_false,Bool.or_eq_true,dw]at im;show im
 rcases im with rfl|rfl|rfl|rfl|rfl
 ·show key py slot_listiter_iter entry_listiter_iter (args_listiter_iter _) slot_listiter_next.lookup
 ·show key py PySem.F.slot_tuple_iterator_iter PySem.F.entry_tuple_iterator_iter (PySem.F.args_tuple_iterator_iter_1 _) PySem.F.slot_tuple_iterator_next.lookup
 ·show key py PySem.F.slot_range_iterator_iter PySem.F.entry_range_iterator_iter (PySem.F.args_range_iterator_iter_1 _) PySem.F.slot_range_iterator_next.lookup
 ·show key py PySem.F.slot_str_ascii_iterator_iter PySem.F.entry_str_ascii_iterator_iter (PySem.F.args_str_ascii_iterator_iter_1 _) PySem.F.slot_str_ascii_iterator_next.lookup
 ·show key py PySem.F.slot_str_iterator_iter PySem.F.entry_str_iterator_iter (PySem.F.args_str_iterator_iter_1 _) PySem.F.slot_str_iterator_next.lookup
end
structure gB(G:br)(J:List Env)(env:Env)(z:aq)(v2:aN)(pu:Heap)(L cu:Addr)(Pv:Nat)(ρ:aN)(j:ae)(s:Shared):Prop where
 ar:HR G J ρ j s
 bF:FR G env ρ z s.heap
 ns:∃m,s.heap.Ns L m
 eT:¬cg ρ L
 ext:aL b4 v2 pu ρ s.heap
 cu:∃p,ρ[Pv]?=some p∧p.1=cu
section
variable{G:br}{P:aY}{d:Nat}{aaa:List (Str×NameKind)}{A:Around}{J:List Env}{env:Env}{ρ:aN}{j:ae}{z:aq}{s:Shared}{E:Value→Shared→Prop}{Q:Value→Shared→Prop}
variable{v2:aN}{pu:Heap}{L cu:Addr}{Pv:Nat}
theorem gB.xM(c:gB G J env z v2 pu L cu Pv ρ j s):a4 G J env ρ j z s:=⟨c.ar,c.bF⟩
theorem gB.aK(c:gB G J env z v2 pu L cu Pv ρ j s){bm:aN}{H:ae}{s':Shared}(ar:HR G J bm H s')(x:aL b4 ρ s.heap bm s'.heap):gB G J env z v2 pu L cu Pv bm H s' where
 ar:=ar
 bF:=c.bF.aK c.ar x
 ns:=by obtain⟨m,ac⟩:=c.ns;show⟨m,xj ac fun dJ dd g1 a hd=>x.keep _ _ _ _ a hd c.eT fun f=>f⟩
 eT q:=(x.new L q).elim c.eT fun aa=>by obtain⟨m,ac⟩:=c.ns;show iw ac fun _ _ _ _ a=>?_;show absurd aa.1 a.cc
 ext:=c.ext.trans x
 cu:=by show aW c.cu fun p be e=>?_;show aW (x.pre _ _ be) fun jp IN st=>?_;show⟨jp,IN,st.trans e⟩
theorem gB.de(c:gB G J env z v2 pu L cu Pv ρ j s){eS:Addr}{bm:aN}{H:ae}{s':Shared}(ar:HR G J bm H s')(x:aL (fun b=>b=eS) ρ s.heap bm s'.heap)(sL:pu.get? eS=none)(P7:eS≠env.locals)(P6:∀a v,s.heap.IsCell a v→a≠eS)(fD:∃m,s'.heap.Ns L m):gB G J env z v2 pu L cu Pv bm H s' where
 ar:=ar
 bF:=c.bF.ext c.ar x (fun q=>P7 q.symm) P6
 ns:=fD
 eT q:=(x.new L q).elim c.eT fun aa=>by obtain⟨m,ac⟩:=c.ns;show iw ac fun _ _ _ _ a=>?_;show absurd aa.1 a.cc
 ext:=c.ext.after x sL fun _ f=>f.elim
 cu:=by show aW c.cu fun p be e=>?_;show aW (x.pre _ _ be) fun jp IN st=>?_;show⟨jp,IN,st.trans e⟩
theorem CJ{h:Heap}{aJ:Addr}{m:Str→Option Value}(ac:h.Ns L m){o:Obj}{vs:Array Value}(e:h.get? aJ=some o)(hd:o.data=.fields vs):L≠aJ:=fun q=>by subst q;show sC (rj ac) fun _ _ bd ww co a=>?_;rw[e]at a;clear ac e;obtain rfl:=bx a;cases hd
theorem tN{h:Heap}{m:Str→Option Value}(ac:h.Ns L m){c:Addr}{v:Option Value}(Z:h.IsCell c v):c≠L:=fun q=>by subst q;show sC (rj ac) fun _ _ bd ww co a=>?_;show oN (sh Z) fun k dd GE pc=>?_;rw[a]at pc;cases pc
theorem Lb{A:Around}{x:ag}{v:Value}{p:Addr×Addr}{H:ae}{E:Value→Shared→Prop}(S:a4 G J env ρ j z s)(be:ρ[Pv]?=some p)(sB:aR ρ s.heap x v)(Y:lD Pv x j=some H){Q:Value→Shared→Prop}(q:∀bm s',a4 G J env bm H z s'→aL b4 ρ s.heap bm s'.heap→Q .none s'):aD (model G.prog G.w) A (call (.builtin "list.append") [.ref p.1,v]) Q E s:=by show c5 Y fun l V Y=>?_;show qO Y fun jx e=>?_;clear Y;subst e;show HJ S (pD V) be (ba.cons sB ba.nil) ?_;show(?_:a3 _ _ _ _ _ _ aR (if l.length<aP then _ else _) _ _);rw[aF jx];show fun bm s' _ s5 hm r=>by subst r;show q bm s' s5 hm
def r0(G:br)(J:List Env)(env:Env)(z:aq)(v2:aN)(pu:Heap)(L cu:Addr)(Pv:Nat)(r:aG Unit)(kM:Flow→Shared→Prop)(kH:Value→Shared→Prop):Prop:=match r with
 |.ok _ H=>∀bm s',gB G J env z v2 pu L cu Pv bm H s'→kM .next s'
 |.a6 k H=>∀bm s' e,gB G J env z v2 pu L cu Pv bm H s'→e1 G bm H s'.heap k e→kH e s'
 |.aS=>False
theorem M3{u8 KM bV:Expr}{aab:Scope}{pos:Pos}{t:List Nat}{Ps:a0}{ut:List (Nat×Nat)}{aJ:Addr}{db:d8}{kM:Flow→Shared→Prop}{kH:Value→Shared→Prop}(a1:kP aaa aab)(Z:ng aaa aab.names=some ut)(im:jj aab.names KM t)(ge:a' G P d aab.names u8 Ps)(C:cq G P d aaa A J env)(it:P.hd=true)(nA:G.a9.get? aJ=none)(F':pu.get? aJ=none)(md:pu.get? L=none)(hO:G.a9.get? L=none)(k4:L≠env.locals):∀(n i:Nat)(ρ:aN)(j:ae)(s:Shared),gB G J env z v2 pu L cu Pv ρ j s→ef G ρ s.heap aJ db i→r0 G J env z v2 pu L cu Pv (gG (fun(x:ag)(j:ae)=>bL (dY (e5 z ut (List.replicate aab.names.length none)) t x) fun f4=>den P Ps f4 j) Pv db n i j) kM kH→dK (model G.prog G.w) A (.compLoop (.ListComp u8 [⟨KM,bV,[],0⟩] aab pos) 0 (.ref aJ) (.ref cu) (hL aab L env)) (kL G J kM kH) s:=by
 intro ca;induction ca with
 |zero=>intro _ _ _ _ _ _ p;show p.elim
 |succ n ap=>
  intro i ρ j s c tt p;have m3:=MF C a1 L;show vg (env:=hL aab L env) (t:=compTurn (.ListComp u8 [⟨KM,bV,[],0⟩] aab pos) 0 (.ref aJ) (.ref cu) (hL aab L env)) rfl rfl rfl C.frames m3.cL.stack ?_;rw[compTurn_list1];rw[E4]at p;have sU:=C.hd it;cases an:gQ db i j with
  |none=>rw[an]at p;show p.elim
  |some r=>
   rw[an]at p;have p:r0 G J env z v2 pu L cu Pv (zb (fun(x:ag)(j:ae)=>bL (dY (e5 z ut (List.replicate aab.names.length none)) t x) fun f4=>den P Ps f4 j) Pv db n i j r) kM kH:=p;show aB (cH (aB (bk (ef.next c.xM tt nA sU an fun a2 he lv=>?_))));show aX fun _ done=>?_;obtain⟨⟨T,dd,vs,co,fS,f',pU,lM,Dm⟩,ki⟩:=ef.q9 tt;obtain⟨m,ac⟩:=c.ns;have AI:L≠aJ:=CJ ac fS rfl;have wk:a2.heap.Ns L m:=xj ac fun dJ dd g1 a hd=>lv.keep _ _ _ _ a hd c.eT AI;have Ga:aJ≠env.locals:=fun q=>by show aW c.bF.aw fun jG BT _=>?_;show CJ (L:=env.locals) BT fS rfl q.symm
   have qy:=c.de he.toHR lv F' Ga (fun a v ds q=>by clear nA F' tt lv ki AI Ga;subst q;show oN (sh ds) fun k sv GE pc=>?_;rw[fS]at pc;cases pc) ⟨m,wk⟩;show done ?_;show⟨fun x ar v sB tu=>?_,fun ar=>?_⟩
   ·clear an;subst ar;show aX fun _ done=>?_;obtain⟨⟨T,dd,vs,co,Nr,f',pU,lM,Dm⟩,_⟩:=ef.q9 tu;show done ?_;show aB (bk (Iu Nr lM ?_));clear ac AI;cases o1:dY (e5 z ut (List.replicate aab.names.length none)) t x with
    |none=>rw[E5,o1]at p;show p.elim
    |some P3=>
     rw[E5,o1]at p;have p:r0 G J env z v2 pu L cu Pv ((den P Ps P3 j).bind _) kM kH:=p;have cn:a4 G J (hL aab L env) ρ j (e5 z ut (List.replicate aab.names.length none)) a2:=⟨he.toHR,MG C qy.bF a1 Z wk hO qy.eT⟩;show aB (bk (Dp (gE.K9 (hL aab L env) a1.cell) im m3 sU cn sB o1 fun lo is no=>?_));show aW is.aw fun H6 Bd _=>?_;have Bd:lo.heap.Ns L H6:=Bd;have no:aL (fun b=>b=L) ρ a2.heap ρ lo.heap:=no;have vk:=qy.de is.toHR no md k4 (fun a v ds=>tN wk ds) ⟨H6,Bd⟩;have BV:=tu.ext no (fun b o e _ I _ _ q=>by subst q;clear md hO k4;show sC (rj wk) fun _ _ bd ww co a=>?_;rw[e]at a;obtain rfl:=bx a;show I _ _ rfl);show aB (aB (ge A J (hL aab L env) ρ j P3 lo _ _ m3 is ?_));cases ad:den P Ps P3 j with
     |aS=>rw[ad]at p;show p.elim
     |a6 k jS=>rw[ad]at p;intro jc lL e Os M2 p5;show nU k jc jS Os.toHR p5 (fun h' Fr hm KT=>p jc {lL with heap:=h'} e ((vk.aK Os.toHR M2).aK (s':={lL with heap:=h'}) Fr hm) KT)
     |ok y jS=>
      rw[ad]at p;have p:r0 G J env z v2 pu L cu Pv (bL (lD Pv y jS) _) kM kH:=p;intro jc lL u Os M2 pP;have E':=vk.aK Os.toHR M2;cases Bg:lD Pv y jS with
      |none=>rw[Bg]at p;show p.elim
      |some X3=>rw[Bg]at p;show aW E'.cu fun Go jz Gh=>?_;rw[←Gh];show aB (Lb Os jz pP Bg fun X1 xR r5 ou=>?_);rw[Gh];show bw (bw ⟨rfl,?_⟩);show ap (i+1) X1 X3 xR (E'.aK r5.toHR ou) ((BV.ext M2 fun _ _ _ _ _ _ _ f=>f).ext ou fun _ _ _ _ _ _ _ f=>f) p
   ·subst ar;show bw (p ρ a2 qy)
theorem M4{u8 KM bV:Expr}{aab:Scope}{pos:Pos}{aJ:Addr}{T:String}{kM:Flow→Shared→Prop}{kH:Value→Shared→Prop}(py:s.TypeIs (.ref aJ) T)(im:rC.contains T=true){cenv:Env}(h:dK (model G.prog G.w) A (.compLoop (.ListComp u8 [⟨KM,bV,[],0⟩] aab pos) 0 (.ref aJ) (.ref cu) cenv) (kL G J kM kH) s):dK (model G.prog G.w) A (.compStart (.ListComp u8 [⟨KM,bV,[],0⟩] aab pos) 0 (.ref aJ) (.ref cu) cenv) (kL G J kM kH) s:=by
 show j8 rfl ?_;change aD _ A ((compStart (.ListComp u8 [⟨KM,bV,[],0⟩] aab pos) 0 (.ref aJ) (.ref cu) cenv).onRaise (fun x=>do noteFrame x cenv;standAt theWindowsPlace)) _ _ s;show uG ?_;unfold compStart;change aD _ _ (ask>>=_) _ _ s;show cV (wpAny_askSetting (XG ?_));split
 ·first
   |show aB (bw (bw (And.intro rfl h)))
   |show bw (And.intro rfl h)
 ·have k:aD (model G.prog G.w) A (pyIter (.ref aJ)) (fun BS s'=>(BS=.ref aJ∧s'=s)) (fun _ _=>False) s:=bk (SG py im ⟨rfl,rfl⟩)
  first
   |show aB (x3 (aB (cH (aB (en k (fun BS s' h'=>by obtain⟨rfl,rfl⟩:=h';show bw (And.intro rfl h)) fun _ _ f=>f.elim)))))
   |(show aB (x3 ?_);change aD _ _ (standAt bV.pos>>=_) _ _ s;show aB (cH (aB (en k (fun BS s' h'=>by obtain⟨rfl,rfl⟩:=h';show bw (And.intro rfl h)) fun _ _ f=>f.elim))))
end
end
section
section
variable{G:br}{P:aY}{d:Nat}{aaa:List (Str×NameKind)}{A:Around}{J:List Env}{env:Env}{ρ:aN}{j:ae}{z:aq}{s:Shared}{E:Value→Shared→Prop}
theorem HG{cenv:Env}{MJ:List (Str×NameKind)→List Value}{vs:List (Str×NameKind)}{m:Str→Option Value}{Q:Unit→Shared→Prop}(Q8:cenv.scope.kind=.function)(al:∀x∈vs,x.2=.local→cenv.kindOf x.1=some .local)(S:a4 G J env ρ j z s)(ac:s.heap.Ns cenv.locals m)(Y:G.a9.get? cenv.locals=none)(ci:¬cg ρ cenv.locals)(li:cenv.locals≠env.locals)(q:∀h',a4 G J env ρ j z {s with heap:=h'}→aL (fun b=>b=cenv.locals) ρ s.heap ρ h'→(∀b,b≠cenv.locals→h'.get? b=s.heap.get? b)→Q () {s with heap:=h'}):wpAny (model G.prog G.w) A (comprehension.letGo cenv MJ vs) Q E s:=by show wpAny_comp_letGo Q8 vs s m al ac fun h' jG BT a1=>?_;show aX fun _ done=>?_;show iw ac fun c dd bd ww a=>?_;show iw BT fun h0 sv SZ zx pc=>?_;show c4 (S.toHR.cg a pc (.inr ⟨_,_,rfl⟩) (by intro vs n aa;cases aa) ci Y (fun b x bi e=>(a1.2 b bi).trans e) s.toks) fun Fr hm=>?_;show done ?_;show q h' ⟨Fr,S.toFR.ext S.toHR hm (fun aa=>li aa.symm) (fun b v Z=>tN ac Z)⟩ hm fun b bi=>a1.2 b bi
theorem e1.de{eS:Addr}{k:Nat}{e:Value}{bm:aN}{h h':Heap}(x:e1 G ρ j h k e)(be:∀(af:Nat)(p:Addr×Addr),ρ[af]?=some p→bm[af]?=some p)(bi:∀b,cg bm b→cg ρ b)(ak:∀b o,b≠eS→h.get? b=some o→h'.get? b=some o)(sL:∀o,h.get? eS=some o→∀vs,o.data≠.fields vs):e1 G bm j h' k e:=by
 show aX fun _ done=>?_;obtain⟨C,dL,p,dd,vs,I,O,bn,⟨co,a⟩,nl,T,l6,ts,cd,ex,⟨uc,iS⟩,wT,gH,l8⟩:=x;have li:∀b o vs,h.get? b=some o→o.data=.fields vs→b≠eS:=fun b o vs e hd q=>by subst q;show sL o e vs hd
 show done ?_;show⟨C,dL,p,dd,vs,I,be _ _ O,bn,⟨co,ak _ _ (li _ _ _ a rfl) a⟩,nl,T,l6,ts,cd,ex,⟨uc,ak _ _ (li _ _ _ iS rfl) iS⟩,wT,gH,fun q=>l8 (bi _ q)⟩
theorem XI{α:Type}{c:Prop}[Decidable c]{M:Model}{pos:Pos}{k:PUnit→Sem α}{Q:α→Shared→Prop}(h:aD M A (k ()) Q E s):aD M A (if c then(standAt pos>>=k)else k ()) Q E s:=by
 split;·show aB (cH h)
 ·show h
def Kn(G:br)(A:Around)(J:List Env)(env:Env)(z:aq)(v2:aN)(pu:Heap)(Pv:Nat)(H:ae)(pW:Option (Value→Sem Unit))(Q:Value→Shared→Prop)(E:Value→Shared→Prop):Prop:=match pW with
 |none=>∀bm s' cu,a4 G J env bm H z s'→aL b4 v2 pu bm s'.heap→(∃p,bm[Pv]?=some p∧p.1=cu)→Q (.ref cu) s'
 |some u=>∀bm s' L cu,pu.get? L=none→G.a9.get? L=none→L≠env.locals→gB G J env z v2 pu L cu Pv bm H s'→aD (model G.prog G.w) A (u (.ref cu)) (fun _ f_=>∃m,f_.heap.Ns L m∧∀h' jG,h'.Ns L jG→Heap.SameBut L f_.heap h'→Q .none {f_ with heap:=h'}) E s'
def Km(G:br)(A:Around)(J:List Env)(env:Env)(z:aq)(v2:aN)(pu:Heap)(Pv:Nat)(pW:Option (Value→Sem Unit))(Q:Value→Shared→Prop)(E:Value→Shared→Prop)(r:aG Unit):Prop:=match r with
 |.ok _ H=>Kn G A J env z v2 pu Pv H pW Q E
 |.a6 k H=>∀bm s' e,a4 G J env bm H z s'→aL b4 v2 pu bm s'.heap→je G bm H s'.heap k e→E e s'
 |.aS=>False
theorem E6{u8 KM bV:Expr}{aab:Scope}{pos:Pos}{t:List Nat}{Ps i:a0}{bW:Bool}{ut:List (Nat×Nat)}{pW:Option (Value→Sem Unit)}{Q:Value→Shared→Prop}(a1:kP aaa aab)(Z:ng aaa aab.names=some ut)(im:jj aab.names KM t)(an:j1 G P d aaa bV bW i)(ge:a' G P d aab.names u8 Ps)(C:cq G P d aaa A J env)(it:P.hd=true)(S:a4 G J env ρ j z s)(wn:∀k f2,den P i z j=.a6 k f2→∀bm s' e,a4 G J env bm f2 z s'→aL b4 ρ s.heap bm s'.heap→je G bm f2 s'.heap k e→E e s')(gM:den P i z j≠.aS)(ev:∀v f2,den P i z j=.ok v f2→∃db,d6 f2 bW v=some db∧Km G A J env z ρ s.heap f2.length pW Q E (gG (fun(x:ag)(j:ae)=>bL (dY (e5 z ut (List.replicate aab.names.length none)) t x) fun f4=>den P Ps f4 j) f2.length db P.N 0 (f2++([.list []]:ae)))):aD (model G.prog G.w) A (comprehension (.ListComp u8 [⟨KM,bV,[],0⟩] aab pos) aab env bV.pos (newList []) false (eval bV env) pW) Q E s:=by
 show Hr (K:=?K) an C S (fun x s h=>?No) ?p;case No=>show aB (cH ?_);show(?_:aD _ _ (foldedSetIterable bV env x>>=_) _ _ _);rw[FJ an.jJ];show aB (bw ?_);show h
 case p=>
  cases ad:den P i z j with
  |aS=>show absurd ad gM
  |a6 k f2=>show wn k f2 ad
  |ok v f2=>
   show aW (ev v f2 ad) fun db q7 sS=>?_;show(?_:a3 G J env z ρ s.heap (r1 G s.heap) (aG.bg (d6 f2 bW v) f2) _ E);rw[q7];intro fr a2 aJ he lv ⟨tt,nA,am⟩;show XI ?_;obtain⟨is,no⟩:=he.newList (l:=[]) (vs:=[]) ba.nil a2.toks;show aB (bk (wpAny_newList ?_));rw[MQ C is.toFR a1];show aB (bw (aB (bk (wpAny_newFunctionEnv (fun x ad ak=>?_) (fun x ad=>nm ad) (fun h' fD wA=>?_) a1.kind))));·obtain⟨af,dl⟩:=List.mem_iff_getElem?.mp ad;show a1.cell af x.1 (by rw[dl,←ak])
   generalize Yz:a2.heap.push {cls:=.type "list",data:=.seq ([]:List Value).toArray}=g_ at is no fD wA⊢;show aX fun _ done=>?_;have o_:∀b o,g_.get? b=some o→h'.get? b=some o:=fun b o e=>(wA.2 b (Nat.ne_of_lt (Heap.lt_size e))).trans (eH _ e);show c4 (is.dv (h':=h') o_ (a2.toks+([]:List (Str×Value)).length)) fun Os M2=>?_;have md:=(lv.trans no).vn (fH _);have hO:=qm is.toHR (fH _);have k4:g_.objs.size≠env.locals:=fun q=>by show aW is.aw fun m ac _=>?_;show iw ac fun _ _ _ _ a=>?_;show a.cc (q▸fH _)
   have oU:=fun q=>is.mI q (fH _);have c:gB G J env z ρ s.heap g_.objs.size a2.heap.objs.size f2.length (fr++[(a2.heap.objs.size,a2.heap.objs.size)]) (f2++[.list []]) {a2 with heap:=h',toks:=a2.toks+([]:List (Str×Value)).length}:=⟨Os.toHR,Os.toFR,⟨_,fD⟩,oU,(lv.trans no).trans M2,⟨(a2.heap.objs.size,a2.heap.objs.size),by rw[←he.len];simp,rfl⟩⟩;have Hs:=(tt.ext no fun _ _ _ _ _ _ _ f=>f).ext M2 fun _ _ _ _ _ _ _ f=>f;obtain⟨⟨T,dd,vs,co,fS,f',pU,lM,Dm⟩,_⟩:=ef.q9 Hs;show done ?_;generalize ta:gG (fun(x:ag)(j:ae)=>bL (dY (e5 z ut (List.replicate aab.names.length none)) t x) fun f4=>den P Ps f4 j) f2.length db P.N 0 (f2++([.list []]:ae))=dC at sS;have mf:dK (model G.prog G.w) A (.compStart (.ListComp u8 [⟨KM,bV,[],0⟩] aab pos) 0 (.ref aJ) (.ref a2.heap.objs.size) (hL aab g_.objs.size env)) (kL G J (fun _ s'=>∃H bm,dC=.ok () H∧gB G J env z ρ s.heap g_.objs.size a2.heap.objs.size f2.length bm H s') (fun e s'=>∃k H bm,dC=.a6 k H∧gB G J env z ρ s.heap g_.objs.size a2.heap.objs.size f2.length bm H s'∧e1 G bm H s'.heap k e)) {a2 with heap:=h',toks:=a2.toks+([]:List (Str×Value)).length}:=by
    show M4 ⟨_,fS,rfl⟩ Dm (M3 a1 Z im ge C it nA am md hO k4 P.N 0 _ _ _ c Hs ?_);have key:∀aa,aa=dC→r0 G J env z ρ s.heap g_.objs.size a2.heap.objs.size f2.length aa (fun _ s'=>∃H bm,dC=.ok () H∧gB G J env z ρ s.heap g_.objs.size a2.heap.objs.size f2.length bm H s') (fun e s'=>∃k H bm,dC=.a6 k H∧gB G J env z ρ s.heap g_.objs.size a2.heap.objs.size f2.length bm H s'∧e1 G bm H s'.heap k e):=by
     rintro aa rfl;cases aa with
     |ok a H=>show fun bm s' h0=>⟨H,bm,rfl,h0⟩
     |a6 k H=>show fun bm s' e h0 KT=>⟨k,H,bm,rfl,h0,KT⟩
     |aS=>show sS
    show key _ ta
   have al:∀x∈(aab.names.filter fun x=>(x.2==.local||x.2==.cell)&&x.1 !=(".0":Str)).reverse,x.2=.local→(hL aab g_.objs.size env).kindOf x.1=some .local:=fun x ad V=>lookup_relabel_local (by have ac:=(List.mem_filter.mp (List.mem_reverse.mp ad)).1;obtain⟨af,dl⟩:=List.mem_iff_getElem?.mp ac;rw[tH a1.nV dl,V]);have R1:∀x∈(aab.names.filter fun x=>(x.2==.local||x.2==.cell)&&x.1 !=(".0":Str)).reverse.drop 1++(aab.names.filter fun x=>(x.2==.local||x.2==.cell)&&x.1 !=(".0":Str)).reverse.take 1,x.2=.local→(hL aab g_.objs.size env).kindOf x.1=some .local:=fun x ad V=>by
    show Or.elim (List.mem_append.mp ad) (fun I=>?_) fun I=>?_;·show al x (List.mem_of_mem_drop I) V
    ·show al x (List.mem_of_mem_take I) V
   show cp (aB (DB (cp (J4 (vf mf fun r s' ar=>?_) nofun))));cases r with
   |ok f=>
    show aX fun _ done=>?_;show h9 ar fun H bm cl h0=>?_;subst cl;obtain⟨jG,BT⟩:=h0.ns;show done ?_;clear wn gM ev;cases pW with
    |none=>show aB (cp (bk (HG (cenv:=hL aab g_.objs.size env) a1.kind al h0.xM BT hO h0.eT k4 fun fz jh iR _=>bw ?_)));show aX fun _ done=>?_;show aW h0.cu fun Go be e=>?_;show aW (iR.pre _ _ be) fun Vl IN st=>?_;show done ?_;show sS bm _ _ jh (h0.ext.after iR md fun _ f=>f.elim) ⟨Vl,IN,st.trans e⟩
    |some u=>show aB (x3 (aB (cp (en (sS bm s' _ _ md hO k4 h0) (fun _ f_ ne=>?_) fun _ _ aa=>aa))));show aX fun _ done=>?_;show aW ne fun T6 s8 ne=>?_;show done ?_;show aB (bk (wpAny_comp_letGo (cenv:=hL aab g_.objs.size env) a1.kind _ f_ T6 R1 s8 fun bn T9 fW hS=>bw (ne bn T9 fW hS)))
   |error x=>show aX fun _ done=>?_;show d5 ar fun k Zh H1 ae KT zs=>?_;show d5 (zs s'.heap ae (aL.refl _ _ _) KT) fun gl H bm cl h0 p3=>?_;subst cl;obtain⟨jG,BT⟩:=h0.ns;show done ?_;show aB (cp (bk (HG (cenv:=hL aab g_.objs.size env) a1.kind al h0.xM BT hO h0.eT k4 fun fz jh iR Q4=>bk ?_)));have XX:e1 G bm H fz gl x:=p3.de (eS:=g_.objs.size) (fun _ _ h=>h) (fun _ h=>h) (fun b o bi e=>(Q4 b bi).trans e) fun o e vs hd=>CJ BT e hd rfl;show Vb (env:=hL aab g_.objs.size env) jh.toHR XX fun lc Kp D' XY=>?_;show sS bm _ x ⟨Kp,jh.toFR.aK jh.toHR D'⟩ ((h0.ext.after iR md fun _ f=>f.elim).trans D') XY.d7
end
end
section
section
variable{G:br}{P:aY}{d:Nat}{aaa:List (Str×NameKind)}{A:Around}{J:List Env}{env:Env}{ρ:aN}{j:ae}{z:aq}{s:Shared}{E:Value→Shared→Prop}
theorem a3.dU{α go:Type}{R:aN→Heap→α→go→Prop}{k:Nat}{H:ae}{h:Heap}{Q:go→Shared→Prop}(p:a3 G J env z ρ h R (.a6 k H) Q E):∀bm s' e,a4 G J env bm H z s'→aL b4 ρ h bm s'.heap→je G bm H s'.heap k e→E e s':=p
noncomputable def y'(P:aY)(Ps:a0)(t:List Nat)(bW:Bool)(n:Nat)(ut:List (Nat×Nat))(z:aq)(v:ag)(j:ae):aG ag:=bL (d6 j bW v) fun db=>(gG (fun(x:ag)(j:ae)=>bL (dY (e5 z ut (List.replicate n none)) t x) fun f4=>den P Ps f4 j) j.length db P.N 0 (j++([.list []]:ae))).bind fun _ H=>.ok (.ref j.length) H
theorem a'.comp{u8 KM bV:Expr}{aab:Scope}{pos:Pos}{t:List Nat}{Ps i:a0}{bW:Bool}{ut:List (Nat×Nat)}(a1:kP aaa aab)(Z:ng aaa aab.names=some ut)(im:jj aab.names KM t)(an:j1 G P d aaa bV bW i)(ge:a' G P d aab.names u8 Ps):a' G P d aaa (.ListComp u8 [⟨KM,bV,[],0⟩] aab pos) (.comp Ps t i bW aab.names.length ut):=fun A J env ρ j z s Q E C S p=>by
 show p.mi fun it p=>?_;show(?_:aD _ _ (comprehension (.ListComp u8 [⟨KM,bV,[],0⟩] aab pos) aab env bV.pos (newList []) false (eval bV env) none) _ _ _);have p:a3 G J env z ρ s.heap aR ((den P i z j).bind (y' P Ps t bW aab.names.length ut z)) Q E:=p;show E6 a1 Z im an ge C it S (fun k f2 ad=>?_) (fun ad=>?_) fun v f2 ad=>?_;·rw[ad]at p;show p.dU
 ·rw[ad]at p;show p
 ·rw[ad]at p;show a3.ec (x:=d6 f2 bW v) p fun db q7 p=>?_;show b' db q7 ?_;generalize gG (fun(x:ag)(j:ae)=>bL (dY (e5 z ut (List.replicate aab.names.length none)) t x) fun f4=>den P Ps f4 j) f2.length db P.N 0 (f2++([.list []]:ae))=aa at p;cases aa with
  |ok u H=>show fun bm s' cu s5 hm h=>h.elim fun Go h=>p bm s' _ s5 hm (h.2▸C5 h.1)
  |a6 k H=>show p.dU
  |aS=>show p
theorem dt.Xx{u8 KM bV:Expr}{aab:Scope}{l5 pF pos:Pos}{t:List Nat}{Ps i:a0}{bW:Bool}{ut:List (Nat×Nat)}{x:Str}{af:Nat}{Q:Flow→Shared→Prop}(a1:kP aaa aab)(Z:ng aaa aab.names=some ut)(im:jj aab.names KM t)(an:j1 G P d aaa bV bW i)(ge:a' G P d aab.names u8 Ps)(dl:kv aaa x=some af)(C:cq G P d aaa A J env)(S:a4 G J env ρ j z s)(f0:swapsWith (.ListComp u8 [⟨KM,bV,[],0⟩] aab l5) (some (.Name x pF)) pos.line env=pure true)(p:bo G J env ρ s.heap (qz P (.a5 (.aw af) (.comp Ps t i bW aab.names.length ut)) z j) Q E):aD (model G.prog G.w) A (exec (.Assign [.Name x pF] (.ListComp u8 [⟨KM,bV,[],0⟩] aab l5) pos) env) Q E s:=by
 have p:bo G J env ρ s.heap ((if !P.hd then .aS else(den P i z j).bind (y' P Ps t bW aab.names.length ut z)).toS z fun v j=>.next (dg z af v) j) Q E:=p;cases it:P.hd with
 |false=>rw[it]at p;show p.elim
 |true=>
 show ud dl fun k ak AT=>?_;rw[it]at p;rw[exec_Assign_Name_used _ _ _ _ f0];show aB (cH (aB ?_));show(?_:aD _ _ (comprehension (.ListComp u8 [⟨KM,bV,[],0⟩] aab l5) aab env bV.pos (newList []) false (eval bV env) (some (assign (.Name x pF) env))>>=fun _=>pure ()) _ _ _);show aB ?_;have p:bo G J env ρ s.heap (((den P i z j).bind (y' P Ps t bW aab.names.length ut z)).toS z fun v j=>.next (dg z af v) j) Q E:=p;show E6 a1 Z im an ge C it S (fun k f2 ad=>?_) (fun ad=>?_) fun v f2 ad=>?_;·rw[ad]at p;show fun bm s' e s5 hm KT=>p bm s' e s5 (hm.aK S.fo) KT
 ·rw[ad]at p;show p
 ·rw[ad]at p;cases q7:d6 f2 bW v with
  |none=>have p:bo G J env ρ s.heap ((bL (d6 f2 bW v) _).toS z _) Q E:=p;rw[q7]at p;show p.elim
  |some db=>
   have p:bo G J env ρ s.heap ((bL (d6 f2 bW v) _).toS z _) Q E:=p;rw[q7]at p;have p:bo G J env ρ s.heap (((gG (fun(x:ag)(j:ae)=>bL (dY (e5 z ut (List.replicate aab.names.length none)) t x) fun f4=>den P Ps f4 j) f2.length db P.N 0 (f2++([.list []]:ae))).bind fun _ H=>.ok (.ref f2.length) H).toS z fun v j=>.next (dg z af v) j) Q E:=p;show b' db rfl ?_;generalize gG (fun(x:ag)(j:ae)=>bL (dY (e5 z ut (List.replicate aab.names.length none)) t x) fun f4=>den P Ps f4 j) f2.length db P.N 0 (f2++([.list []]:ae))=aa at p;cases aa with
   |ok u H=>
    intro bm s' L cu md hO k4 c;show aW c.cu fun Go be e=>?_;show bk (xN C (gE.all _ _) c.xM ak AT (v:=.ref f2.length) ⟨Go,be,by rw[e]⟩ fun f_ jh iR=>?_);obtain⟨m,ac⟩:=c.ns;have P9:¬e3 env L:=by
     rintro(q|⟨y,f1⟩);·show k4 q
     ·obtain⟨⟨EQ,QF⟩,_⟩:=c.bF.jm y L f1;show tN ac QF rfl
    have s8:f_.heap.Ns L m:=xj ac fun dJ dd g1 a hd=>iR.keep _ _ _ _ a hd c.eT P9;have P':¬cg bm L:=c.eT;show b' m s8 (fun h' jG nF wA=>?_);show aX fun _ done=>?_;show iw s8 fun _ _ bd ww a=>?_;show iw nF fun _ _ SZ zx pc=>?_;obtain⟨Fr,hm⟩:=jh.toHR.cg a pc (.inr ⟨_,_,rfl⟩) (by intro vs n aa;cases aa) P' hO (fun b x bi e=>(wA.2 b bi).trans e) f_.toks;have Kj:=jh.toFR.ext jh.toHR hm (fun aa=>k4 aa.symm) (fun b v Z=>tN s8 Z);show done ?_;show bw (bw (p.i8 ⟨Fr,Kj⟩ (((c.ext.aK S.fo).trans iR).after hm md jh.fo)))
   |a6 k H=>show fun bm s' e s5 hm KT=>p bm s' e s5 (hm.aK S.fo) KT
   |aS=>show p
inductive kO(G:br)(P:aY)(d:Nat)(aaa:List (Str×NameKind)):Expr→eI→Prop
 |aw {x:Str} {Ok:Pos} {i:Nat}:kv aaa x=some i→kO G P d aaa (.Name x Ok) (.aw i)
 |fe {bd:List Expr} {k} {p:Pos} {l:List Nat}:jj aaa (.Tuple bd k p) l→kO G P d aaa (.Tuple bd k p) (.fe l)
 |bO {o:Expr} {f:c8} {p:Pos} {a:a0}:a' G P d aaa o a→kO G P d aaa (.Attribute o f.str p) (.bO a f)
 |sub {o wX:Expr} {p:Pos} {a af:a0}:xh wX=true→a' G P d aaa o a→a' G P d aaa wX af→kO G P d aaa (.Subscript o wX p) (.sub a af)
theorem Lj{t:Expr}{T:eI}(im:kO G P d aaa t T)(C:cq G P d aaa A J env)(S:a4 G J env ρ j z s){v:ag}{u:Value}(sB:aR ρ s.heap v u){Q:Flow→Shared→Prop}(p:bo G J env ρ s.heap (Dj P T v z j) Q E):aD (model G.prog G.w) A (assign t env u) (fun _ s'=>Q .next s') E s:=by
 cases im with
 |aw an=>show ud an fun k ak AT=>?_;show bk (xN C (gE.all _ _) S ak AT sB fun s' s5 hm=>p.i8 s5 hm)
 |fe V=>show p.mi fun it p=>?_;show p.mH fun f4 Y p=>?_;show bk (Dp (gE.all _ _) V C (C.hd it) S sB Y fun s' s5 hm=>p.i8 s5 hm)
 |@bO o f Uf a ci=>rw[assign_Attribute];show aB (cp (ci A J env ρ j z s _ E C S (bo.km S p fun x f2 fr a2 w _ he lv mt kt=>?_)));show kt.mH fun s1 be kt=>?_;show aB (cH ?_);show aB (cp (bk (Wk C.ok C.cv he mt (sB.bb lv) be fun nw lo is no=>?_)));show x2 (kt.i8 is (no.aK he.fo))
 |@sub o wX g4 a af bi ci ad=>rw[assign_Subscript];show aB (cp (ci A J env ρ j z s _ E C S (bo.km S p fun x f2 fr a2 w _ he lv mt kt=>?_)));show aB (cp (ad A J env fr f2 z a2 _ E C he (bo.km he kt fun y s1 nw lo aa _ is no TW g2=>?_)));show g2.mH fun jS be g2=>?_;show aB (cH ?_);show aB (cp (bk (Vp is (mt.bb no) TW ((sB.bb lv).bb no) be fun lL Os M2=>?_)));show x2 (g2.i8 Os (M2.aK is.fo))
theorem j2.Jz{X:Addr→Prop}(ad:gE aaa env X):∀{l:List (Str×Pos)}{o0:List Nat},j2 aaa (l.map jI) o0→hI G P d aaa env X ((l.map (·.1)).map fun n=>bindName env n) o0
 |[],_,.nil=>.nil
 |_::_,_,.cons an h=>let⟨_,ak,AT⟩:=Jk an;.cons (fun _ _ _ _ _ _ _ _ _ _ C S sB q=>va C ad S ak AT sB q) (j2.Jz ad h)
theorem ba.reverse{h:Heap}:∀{vs:List ag}{to:List Value},ba ρ h vs to→ba ρ h vs.reverse to.reverse:=by
 intro ca;induction ca with
 |nil=>intro _ r;subst r;show ba.nil
 |cons x vs ap=>intro _ r;show dR r fun w Zf cl f0 ar=>?_;subst cl;rw[List.reverse_cons,List.reverse_cons];show(ap ar).b2 (ba.cons f0 ba.nil)
noncomputable def IC:Expr→Bool
 |.ListComp .. =>false
 |.SetComp .. =>false
 |.DictComp .. =>false
 |_=>true
theorem r8{t e:Expr}{pos:Pos}{T:eI}{i:a0}{Q:Flow→Shared→Prop}(im:kO G P d aaa t T)(ge:a' G P d aaa e i)(ar:u7 aaa t e)(C:cq G P d aaa A J env)(S:a4 G J env ρ j z s)(f0:swapsWith e (some t) pos.line env=pure false)(p:bo G J env ρ s.heap (qz P (.a5 T i) z j) Q E):aD (model G.prog G.w) A (exec (.Assign [t] e pos) env) Q E s:=by
 rw[PyProof.Rows.exec_Assign];show aB (cH ?_);have cd:swapsWithSole [t] e pos.line env=pure false:=f0;rw[cd];show aB (bw ?_);rw[aM (by decide)];show aB (ge A J env ρ j z s _ E C S (bo.km S p fun v f2 fr a2 u _ he lv mt kt=>?_));clear f0 lv;rcases ar with I|⟨l,k,Zb,rfl,O,I⟩
 ·rw[I];show aB (bw ?_);have ex:(assignEach [t] env).map (·.2)=[assign t env]:=by cases im<;>rfl
  rw[ex];change aD _ _ (assign t env u>>=fun _=>pure Flow.next) _ _ _;show aB (en (Lj im C he mt kt) (fun _ _ q=>bw q) fun _ _ aa=>aa)
 ·have ak:env.blockKind=.function:=by unfold Env.blockKind;rw[C.cL.kind];rfl
  rw[I env ak fun q ne=>by
   show aW (TS C (O q ne)) fun gl cd ex=>?_;rcases ex with rfl|⟨e,_⟩
   ·show cd
   ·cases e]
  show aB (bw ?_);cases im with
  |@fe bd hs Y5 o0 V=>
   have key:∃i af Sp,o0=i::af::Sp∧j2 aaa (l.map jI) o0:=by
    cases V with
    |mC h=>show HZ _ _ _ rfl h
   show aX fun _ done=>?_;clear O I ak p;show Fj key fun wK SI o0 cl V=>?_;subst cl;show kt.hd.2.mH fun f4 Y kq=>?_;show eA (EF Y) fun vs cl Rn td=>?_;subst cl;show done ?_;have wn:=V.Jz (G:=G) (P:=P) (d:=d) (env:=env) (gE.all aaa env);generalize l.map (·.1)=CE at wn⊢;have it:=kt.hd.1;clear kt;show d5 mt fun a mX n cl io wz=>?_;subst cl;have ik:CE.length=mX.size:=by have:=wn.length;rw[bD]at this;show this.trans ((xJ td).trans (wz.length.symm.trans iM))
   change aD _ _ (rule "assign.swapped-stores">>=fun _=>unpackItems (.ref a) CE.length none>>=fun gR=>assignInOrder (CE.reverse.map fun n=>bindName env n) gR.reverse>>=fun _=>pure Flow.next) _ _ _;show aB (x3 ?_);rw[ik];show aB (bk (unpackItems_tuple (C.hd it) (px io) fun h' AU=>?_));show c4 (he.dv (h':=h') (fun b o iW=>AU b o (Nat.ne_of_lt (Heap.lt_size iW)) iW) a2.toks) fun s5 hm=>?_;have wn:=wn.reverse;rw[←List.map_reverse]at wn;have RG:ba fr h' vs.reverse mX.toList.reverse:=(wz.bb hm).reverse;show aB (bk (JA wn C s5 RG (Wf Rn td) fun lo is no=>bw ?_));show kq.i8 is ((hm.aK he.fo).trans no)
end
end
section
section
variable{G:br}{P:aY}{d:Nat}{aaa:List (Str×NameKind)}{A:Around}{J:List Env}{env:Env}{ρ:aN}{j:ae}{z:aq}{s:Shared}{E:Value→Shared→Prop}
theorem fs.toRsd{h:Heap}{p:Addr×Addr}{C:Addr}{dL:c9}(r:fs ρ h p (.a6 C dL)):fs ρ h p (.cX C dL):=by
 rcases r with⟨vs,a,⟨aa,_⟩,f⟩|⟨cd,ex,vs,a,aa,_⟩
 ·show .inl ⟨vs,a,aa,f⟩
 ·show .inr ⟨cd,ex,vs,a,aa⟩
theorem HR.ru(S:HR G J ρ j s){k:Nat}{C:Addr}{dL:c9}(ak:j[k]?=some (.a6 C dL)):HR G J ρ (j.set k (.cX C dL)) s where
 a9:=S.a9
 gens:=S.gens
 os:=S.os
 len:=by rw[List.length_set];show S.len
 objs af o p I O:=by
  by_cases q:af=k;·subst q;rw[kE (c7.mp ak).1]at I;obtain rfl:=bx I;show(S.objs af _ p ak O).toRsd
  ·rw[eP (Ne.symm q)]at I;show S.objs af o p I O
 hj:=S.hj
 jr:=S.jr
 frames:=S.frames
theorem Xw(A:Around)(C:Addr)(bh:List Value):A.under (.builtin "type.__call__" ⟨.ref C::bh,[]⟩)={A with depth:=A.depth+1,units:=A.units+1}:=JU A C bh
theorem NO{o:aI}{x:Addr×c9}(h:zz o=some x):o=.a6 x.1 x.2:=by
 cases o with
 |a6 C dL=>cases h;rfl
 |_=>show cf h
theorem Uy(C:cq G P d aaa A J env){lf:Addr}{xs:List ag}{ls:List Value}{Q:Flow→Shared→Prop}{sp:Value→Shared→Prop}{nm q:Str}{N:Addr}{bs:List Value}{hd:Bool}{sn:List Str}{sub:List Value}{ab:Bool}{col:Option Bool}{dd:Option Addr}{k0 k1 k2 k3 k5:Option Value}(ny:G.K.lookup lf=some (excClassObj nm q lf N bs kR hd sn sub ab col dd k0 k1 k2 k3 k5 "Exception.__new__"))(S:a4 G J env ρ j z s)(ii:ba ρ s.heap xs ls)(it:P.hd=true)(mc:cD lf=true)(jx:xs.length<aP)(p:bo G J env ρ s.heap ((P.d' (gN lf) (.ref j.length::xs) (j++[.a6 lf []])).toS z (ru lf j.length z)) Q E)(rt:∀e vs wS co s',G.a9.StaysIn s'.heap→s'.heap.get? e=some ⟨.ref lf,wS,.fields vs,co⟩→vs[1]?=some .none→E (.ref e) s'→sp (.ref e) s'):aD (model G.prog G.w) A (call (.ref lf) ls) sp E s:=by
 have X:G.K.In s.heap:=C.ok.fq.keeps S.a9;have nr:=C.cv.a6 lf mc;show lR (T_ (X _ _ ny) (looks_findIn X nr.2.2.2.1) (fun self=>bind_fn X self (dw.mp nr.2.2.2.2)) (by rw[ii.length];show gb jx) ?_);rw[Xw];have ak:∀b o,s.heap.get? b=some o→((s.heap.push {cls:=.type "tuple",data:=.seq ls.toArray}).push (l_ lf s.heap.objs.size)).get? b=some o:=fun b o e=>eH _ (eH _ e);have ad:((s.heap.push {cls:=.type "tuple",data:=.seq ls.toArray}).push (l_ lf s.heap.objs.size)).get? (s.heap.objs.size+1)=some (l_ lf s.heap.objs.size):=by heap_get
 generalize(s.heap.push {cls:=.type "tuple",data:=.seq ls.toArray}).push (l_ lf s.heap.objs.size)=O at ak ad⊢;have hf:=S.toHR.xd (s':=⟨O,s.gens,s.drawn,s.toks,s.os⟩) (o:=.a6 lf []) (p:=(s.heap.objs.size+1,s.heap.objs.size+1)) (aL.dv ρ ak) (CF _) (CF _) (fun b o e=>ak b o (S.a9 b o e)) rfl rfl (fun _ _ _ _ _ y=>y.keeps ak) fun bm _ _=>Or.inr ⟨rfl,rfl,_,⟨_,ad⟩,(by decide:5<6),rfl⟩;have ua:aR (ρ++[(s.heap.objs.size+1,s.heap.objs.size+1)]) O (.ref j.length) (.ref (s.heap.objs.size+1)):=by show C5 (p:=(s.heap.objs.size+1,s.heap.objs.size+1)) ?_;rw[←S.len,og (cm _),Nat.sub_self];rfl
 have hm:=hf.2;show sg C it (by rfl) (by rfl) (by rfl) (by show cm _) (by show Nat.add_le_add_left (by decide) _) hf.1 (ba.cons ua (ii.bb hm)) ?_;clear hf ak ad ii;generalize P.d' (gN lf) (.ref j.length::xs) (j++[.a6 lf []])=r at p;cases r with
 |aS=>show p.elim
 |a6 k H=>show fun nw lo e ae no r=>p nw lo e ⟨ae,S.toFR.aK S.toHR (hm.trans no)⟩ ((hm.trans no).aK S.fo) r
 |ok v H=>show fun nw lo xY ae no r=>?_;show aX fun _ done=>?_;show bo.eD p fun al p=>?_;obtain rfl:=tr al;show p.mH fun v1 Fk p=>?_;obtain⟨m3,dL⟩:=v1;show p.eD fun v1 On=>?_;obtain⟨e,_⟩:=v1;clear p;cases(show m3=lf from e);show aW (ua.bb no) fun Go jz NF=>?_;have BK:H[j.length]?=some (.a6 lf dL):=(hC.mp Fk).elim fun o h=>h.1.trans (congrArg some (NO h.2));show d5 (FA (ae.objs _ _ _ BK jz)) fun wS vs co ds lm bi=>?_;show done ?_;show And.intro r ?_;rw[NF];show rt Go.1 vs wS co lo ae.a9 ds bi (On nw lo _ ⟨ae.ru BK,S.toFR.aK S.toHR (hm.trans no)⟩ ((hm.trans no).aK S.fo) ⟨lf,dL,Go,wS,vs,kE (c7.mp BK).1,jz,rfl,⟨co,ds⟩,lm,.inl bi⟩)
theorem Vw{c:Str}{as:List Expr}{Ok hi pos:Pos}{lf:Addr}{l:b5}{Q:Flow→Shared→Prop}(V:gc G P d aaa as l)(be:f7 as=true)(ak:∃af:Nat,aaa[af]?=some (c,NameKind.globalImplicit))(Z:oQ c=some (.fn lf))(mc:cD lf=true)(hd:(c==("__debug__":Str))=false)(C:cq G P d aaa A J env)(S:a4 G J env ρ j z s)(p:bo G J env ρ s.heap (qz P (.dV lf l) z j) Q E):aD (model G.prog G.w) A (exec (.Raise (some (.Call (.Name c Ok) as [] hi)) none pos) env) Q E s:=by
 show b6 ak fun af dl=>?_;show p.mi fun it p=>?_;show(?_:aD _ _ (standAt pos>>=fun _=>raiseStmt env (some (eval (.Call (.Name c Ok) as [] hi) env>>=fun v=>standAt pos>>=fun _=>pure v)) none) _ _ _);show aB (cH ?_);show aX fun _ done=>?_;obtain⟨nm,q,N,bs,sn,sub,ab,col,dd,k0,k1,k2,k3,k5,ny⟩:=C.cv.Fz lf mc;show done ?_;show Vx (C:=lf) (nm:=nm) (q:=q) (N:=N) (bs:=bs) (hdct:=true) (sn:=sn) (sub:=sub) (ab:=ab) (col:=col) (dd:=dd) (k0:=k0) (k1:=k1) (k2:=k2) (k3:=k3) (k5:=k5) (C.hd it) (aB ?_);show(?_:aD _ _ (eval (.Name c Ok) env>>=fun v=>callWith hi v [] (backTo hi (starEach as env)) []) _ _ _);show aB (bk (a'.js C S dl hd Z fun fr a2 v he lv r=>?_));subst r;show sf (r9 be) ?_;show V A J env hi fr j z a2 _ E C he (bo.km he (p.eY (lv.aK S.fo)) fun xs f2 nw lo ls _ is no ii kt=>?_);show⟨keeps_K (C.cv.Hw lf (by rw[mc,Bool.or_true])) _ (C.ok.fq.keeps is.a9),?_⟩;have kt:bo G J env nw lo.heap (if aP≤xs.length then .aS else(P.d' (gN lf) (.ref f2.length::xs) (f2++[.a6 lf []])).toS z (ru lf f2.length z)) Q E:=kt;by_cases jx:aP≤xs.length;·rw[aF jx]at kt;show kt.elim
 ·rw[aM jx]at kt;show Uy C ny is ii it mc (Nat.lt_of_not_le jx) kt fun e vs wS co s' Y ge I zs=>?_;show aB (cH (bw ⟨e,vs,wS,co,rfl,C.ok.fq.keeps Y _ _ ny,ge,I,zs⟩))
end
end
section
section
variable{G:br}{P:aY}{d:Nat}{aaa:List (Str×NameKind)}{A:Around}{J:List Env}{env:Env}{ρ:aN}{j:ae}{z:aq}{s:Shared}{E:Value→Shared→Prop}
theorem Jb{z:aq}{i af:Nat}{w:ag}(h:(z.set i none)[af]?=some (some w)):af≠i∧z[af]?=some (some w):=by
 by_cases e:af=i
 ·subst e;by_cases V:af<z.length;·rw[kE V]at h;show nomatch h
  ·rw[List.getElem?_eq_none_iff.mpr (by rw[List.length_set];show rR V)]at h;show cf h
 ·rw[eP (Ne.symm e)]at h;show⟨e,h⟩
theorem Wt{x:Str}{i:Nat}(h:Jj aaa x=some i):aaa[i]?=some (x,NameKind.local):=(hC.mp h).elim fun k e=>sH (q_ e.2).2 ((q_ e.2).1▸e.1)
theorem EG(C:cq G P d aaa A J env)(S:a4 G J env ρ j z s){i:Nat}{x:Str}{pos:Pos}(bi:aaa[i]?=some (x,NameKind.local)){Q:Unit→Shared→Prop}(q:∀s',a4 G J env ρ j (z.set i none) s'→aL (e3 env) ρ s.heap ρ s'.heap→Q () s'):wpAny (model G.prog G.w) A (bindName env x .none>>=fun _=>unbindBehindTheSuite env x pos) Q E s:=by
 show C.lq bi fun gl I O bn=>?_;have AT:gl=.local:=by
  rcases bn with rfl|⟨h,_⟩
  ·rfl
  ·cases h
 subst AT;have k9:(env.scope.kind==.class||(env.scope.kind==.module&&env.locals !=env.globals))=false:=by rw[C.cL.kind];rfl
 show aW S.aw fun m ac V=>?_;show iw ac fun c dd bd ww ov=>?_;show aU (wpAny_bindName (wpAny_storeName_local O ac (fun h' nF a1=>?_) k9));show wpAny_onRaise (wpAny_unbindName_local O nF (v:=.none) (by simp) k9 fun fz u GS RK=>?_);have xz:Heap.SameBut env.locals s.heap fz:=a1.trans RK;show iw GS fun h0 sv SZ zx yR=>?_;clear bi O nF;show c4 (S.toHR.cg ov yR (.inr ⟨_,_,rfl⟩) (by intro vs n aa;cases aa) S.eT S.lV (fun b x li e=>(xz.2 b li).trans e) (s.toks+1)) fun Fr hm=>?_;have cells:∀b v,s.heap.IsCell b v→fz.IsCell b v:=fun b v Z=>Z.sameBut xz (tN ac Z);show q {s with heap:=fz,toks:=s.toks+1} ⟨Fr,⟨⟨_,GS,fun af y w cd ex=>?_⟩,fun af y hs cd ex=>?_,S.lV,S.eT,fun y b f1=>?_⟩⟩ (hm.x1 (fun b _ e=>.inl e) S.fo)
 ·show c4 (Jb ex) fun li ex=>?_;show aW (V af y w cd ex) fun g6 sc wT=>?_;have f1:y≠x:=fun aa=>by subst aa;show li (xf C.cL cd I)
  show b' g6 (by simp[f1,sc]) (wT.bb hm)
 ·show iV (S.iU af y hs cd ex) fun dZ EQ sc wT gH l8=>?_;show nT dZ EQ sc (cells _ _ wT) gH (fun w f0=>?_);show c4 (Jb f0) fun _ f0=>?_;show aW (l8 w f0) fun g6 zp zq=>?_;show b' g6 zp (zq.bb hm)
 ·obtain⟨⟨EQ,Z⟩,Y⟩:=S.jm y b f1;show⟨⟨EQ,cells _ _ Z⟩,Y⟩
theorem cq.mark(C:cq G P d aaa A J env)(e:Value):cq G {P with hd:=false} d aaa (A.mark (some e)) J env where
 ok:=C.ok
 dc:=C.dc
 cv:=C.cv
 frames:=C.frames
 guards:=C.guards
 keep:=C.keep
 cL:=C.cL
 tK:=C.tK
 hd h:=by cases h
 sa:=C.sa
 ns:=C.ns
 d':=C.d'
 depth:=C.depth
 units:=C.units
theorem UL{t:Sem Flow}{sp:Flow→Shared→Prop}(Wp:A.frames=some J)(wn:∃v0 v6,J=v0::v6∧v0.frame=env.frame∧env.frame.isSome=true)(h:aD (model G.prog G.w) A t sp (Rsd G J E) s):aD (model G.prog G.w) A (t.onRaise (fun x=>do noteFrame x env;theTreesLotGoes x)) sp (yL G J E) s:=by show uG (en h (fun _ _ q=>q) fun e s' r=>bk ?_);show d5 r fun k bm H Fr x zs=>?_;show aU (xi Wp wn Fr x fun h' oj hm KT=>?_);show wpAny_theTreesLotGoes ⟨k,bm,H,oj,KT,fun fz rQ M2 p5=>?_⟩;show zs fz rQ (hm.trans M2) p5
theorem E2{e:Value}{a1:List ExceptHandler}{Q:Flow→Shared→Prop}(Wp:A.frames=some J)(wn:∃v0 v6,J=v0::v6∧v0.frame=env.frame∧env.frame.isSome=true)(h:aD (model G.prog G.w) A (handleWith e env a1) Q (Rsd G J E) s):dK (model G.prog G.w) A (.handlers e a1 env) (kL G J Q E) s:=by show j8 rfl ?_;change aD _ A ((handleWith e env a1).onRaise (fun x=>do noteFrame x env;theTreesLotGoes x)>>=fun f=>pure (Fin.done f)) _ _ s;show aB (en (UL Wp wn h) (fun _ _ q=>bw q) fun _ _ q=>q)
inductive qi(G:br)(P:aY)(d:Nat)(aaa:List (Str×NameKind)):List ExceptHandler→h4→Prop
 |nil:qi G P d aaa [] .nil
 |cons {c:Str} {Ok pos:Pos} {x:Str} {lf:Addr} {i:Nat} {b:List Stmt} {af:bZ} {r:List ExceptHandler} {wO:h4}:oQ c=some (.fn lf)→cD lf=true→(c==("__debug__":Str))=false→(∃af:Nat,aaa[af]?=some (c,NameKind.globalImplicit))→aaa[i]?=some (x,NameKind.local)→g' G {P with hd:=false} d aaa b af→qi G P d aaa r wO→qi G P d aaa (.ExceptHandler (some (.Name c Ok)) (some x) b pos::r) (.cons lf i af wO)
theorem PR(C:cq G P d aaa A J env)(S:a4 G J env ρ j z s){c:Str}{Ok:Pos}{lf:Addr}(ak:∃af:Nat,aaa[af]?=some (c,NameKind.globalImplicit))(Z:oQ c=some (.fn lf))(hd:(c==("__debug__":Str))=false){Q:Value→Shared→Prop}(q:Q (.ref lf) s):wpAny (model G.prog G.w) A (eval (.Name c Ok) env) Q E s:=by
 show aX fun _ done=>?_;show b6 ak fun af dl=>?_;show C.lq dl fun gl ZB SC UV=>?_;have AT:gl=.globalImplicit:=by
  rcases UV with rfl|⟨h,_⟩
  ·rfl
  ·cases h
 subst AT;show aW (C.dc.js c _ Z) fun u np ac=>?_;have RZ:=np ρ s.heap S.a9;clear ZB UV np;subst RZ;have k_:s.heap.Ns env.globals G.dO:=by rw[C.cL.js];show C.ok.T.g.keeps S.a9
 have oY:s.heap.Ns env.builtins G.fF:=by rw[C.cL.blt];show C.ok.T.b.keeps S.a9
 show done ?_;rcases ac with ac|⟨ac,Y⟩
 ·show Name_function_global C.cL.kind SC (loadGlobal_global k_ ac q) hd
 ·show Name_function_global C.cL.kind SC (loadGlobal_builtin k_ ac oY Y q) hd
theorem Qr{a1:List ExceptHandler}{ap:h4}(it:qi G P d aaa a1 ap):∀{ρ:aN}{j:ae}{z:aq}{s:Shared}{k:Nat}{e:Value}{D:Addr}{dL:c9}{Q:Flow→Shared→Prop},cq G P d aaa A J env→a4 G J env ρ j z s→e1 G ρ j s.heap k e→j[k]?=some (.cX D dL)→cD D=true→bo G J env ρ s.heap (j_ P ap D k z j) Q E→aD (model G.prog G.w) A (handleBy e env a1) Q E s:=by
 induction it with
 |nil=>intro _ _ _ _ _ _ _ _ _ C S x ak fA p;show p.elim
 |@cons c Ok pos x lf i b af r wO Z mc hd dl bi Y ar ap=>
  intro ρ j z s k e D dL Q C S Ka ak fA p;have DK:=Ka;show aX fun _ done=>?_;obtain⟨fN,Az,Go,wS,vs,cd,ex,sc,⟨co,a⟩,_⟩:=Ka;rw[ak]at cd;cases cd;have pf:(some e:Option Value)≠some byPass:=by rw[sc];intro q;cases q
  have IU:aR ρ s.heap (.ref k) e:=b' Go ex sc;have p:bo G J env ρ s.heap (if lf=D then Bp i (dB {P with hd:=false} af (dg z i (.ref k)) j)else j_ P wO D k z j) Q E:=p;show done ?_;rw[handleBy];have bN:aD (model G.prog G.w) A (runOwn (.handlers e [.ExceptHandler (some (.Name c Ok)) none [] pos] env) env (some e)) (fun f s'=>f=(if(lf==D)=true then Flow.brk else Flow.next)∧s'=s) E s:=by show xC (J:=J) ?_ pf;show E2 (A:=A.mark (some e)) C.frames C.cL.stack ?_;change aD _ _ (standAt pos>>=fun _=>eval (.Name c Ok) env>>=fun Xk=>standAt pos>>=fun _=>excMatches e Xk>>=fun t=>pure (if t=true then Flow.brk else Flow.next)) _ _ _;show aB (cH (aB (bk ?_)));show PR (C.mark e) S dl Z hd ?_;show aB (cH (aB (bk ?_)));rw[sc];have X:G.K.In s.heap:=C.ok.fq.keeps S.a9;show(exm_one (M:=model G.prog G.w) X ((Looks.ld a).andThen .now) (C.cv.NU lf D mc fA)).here (bw ⟨rfl,rfl⟩)
  show aB (m:=_) (f:=_) ?_;dsimp only;show cp (en bN (fun f s' ch=>?_) fun _ _ aa=>aa);obtain⟨rfl,rfl⟩:=ch;by_cases AG:lf=D
  ·subst AG;rw[aF rfl]at p;rw[aF (by simp)];show aB (bw ?_);rw[aM (by decide)];have run:aD (model G.prog G.w) A (runOwn (.handlers e [.ExceptHandler none (some x) b pos] env) env (some e)) (fun f s'=>aD (model G.prog G.w) A (bindName env x .none>>=fun _=>unbindBehindTheSuite env x pos) (fun _ f_=>Q f f_) E s') E s':=by
    show xC (J:=J) ?_ pf;show E2 (A:=A.mark (some e)) C.frames C.cL.stack ?_;change aD _ _ (standAt pos>>=fun _=>setFlight e none>>=fun _=>bindName env x e>>=fun _=>(execs b env).attempt>>=_) _ _ _;show aB (cH (aB (bk (sF S.toHR DK fun s4 DW lv DL=>?_))));have he:a4 G J env ρ j z {s' with heap:=s4}:=⟨DW,S.toFR.aK S.toHR lv⟩;show aB (bk (va (C.mark e) (gE.all _ _) he bi (.inl rfl) (IU.bb lv) fun lo is no=>?_));have Ed:=(lv.aK S.fo).trans no;show aB (DB (Y (A.mark (some e)) J env ρ j (dg z i (.ref k)) lo _ _ (C.mark e) is ?_));generalize ar:dB {P with hd:=false} af (dg z i (.ref k)) j=r at p;clear pf S DK right IU ak fA a bN s4 DW lv DL he is no ar;cases r with
    |aS=>show p.elim
    |a6 gl f4 H=>show p.elim
    |next f4 H=>intro jc lL Os M2;show bw ?_;show bk (EG C Os bi fun xR r5 ou=>?_);show p.i8 r5 ((Ed.trans M2).trans ou)
    |ret v f4 H=>intro jc lL u Os M2 pP;show bw ?_;show bk (EG C Os bi fun xR r5 ou=>?_);show p jc xR u r5 ((Ed.trans M2).trans ou) (pP.bb ou)
   show aB (cp (en run (fun f f_ ch=>?_) fun _ _ aa=>aa));show aB (cp (en ch (fun _ _ q=>bw q) fun _ _ aa=>aa))
  ·rw[aM AG]at p;rw[aM (by simpa using AG)];show aB (bw ?_);rw[aF (by decide)];show ap C S DK ak fA p
noncomputable def Xg(P:aY)(ap:h4)(r:bH):bH:=match r with
 |.a6 k z j=>eb ((j[k]?).bind t') fun C=>if cD C=true then j_ P ap C k z j else .aS
 |r=>r
theorem V6{o:aI}{C:Addr}(h:t' o=some C):∃dL,o=.cX C dL:=by
 cases o with
 |cX D dL=>show⟨dL,congrArg (aI.cX · dL) (bx h)⟩
 |_=>show cf h
theorem dt.n9{b:List Stmt}{pu:ExceptHandler}{a1:List ExceptHandler}{pos:Pos}{af:bZ}{ap:h4}(Y:g' G P d aaa b af)(it:qi G P d aaa (pu::a1) ap):dt G P d aaa (.Try b (pu::a1) [] [] pos) (.n9 af ap):=fun A J env ρ j z s Q E C S p=>by
 have p:bo G J env ρ s.heap (Xg P ap (dB P af z j)) Q E:=p.hd.2;rw[arm_exec_Try];show aB (cH ?_);unfold tryStmt;dsimp only[List.isEmpty_nil,if_true,List.isEmpty_cons,Bool.false_and,gy,if_false];show aB (DB (Y A J env ρ j z s _ _ C S ?_));generalize ar:dB P af z j=r at p;clear Y S ar;cases r with
 |aS=>show p.elim
 |next P3 f2=>intro fr a2 he lv;show bw (p.i8 he lv)
 |ret v P3 f2=>intro fr a2 u he lv mt;show bw (p fr a2 u he lv mt)
 |a6 k P3 f2=>intro fr a2 e he lv DL;show aB (bk (xi C.frames C.cL.stack he.toHR DL fun XL Kq no XZ=>?_));show aB (bk (sF Kq XZ fun wJ rQ M2 p5=>?_));have Os:a4 G J env fr f2 P3 {a2 with heap:=wJ}:=⟨rQ,he.toFR.aK he.toHR (no.trans M2)⟩;show aX fun _ done=>?_;show bo.mH (x:=(f2[k]?).bind t') p fun D fA p=>?_;show p.eD fun zs p=>?_;show c5 fA fun o ci fA=>?_;show b6 (V6 fA) fun dL cl=>?_;subst cl;show done ?_;show Qr it C Os p5 ci zs (p.eY (lv.trans ((no.trans M2).aK he.fo)))
end
end
section
abbrev eJ:=List (Str×NameKind)
theorem qK{aaa:eJ}{x:Str}{k:NameKind}(h:aaa.lookup x=some k):∃af:Nat,aaa[af]?=some (x,k):=List.mem_iff_getElem?.mp (mem_of_lookup h)
abbrev uL(aaa:eJ)(e:Expr):={i:a0//∀(G:br)(P:aY)(d:Nat),a' G P d aaa e i}
abbrev Kf(aaa:eJ)(e:Expr):={i:a0//∀(G:br)(P:aY)(d:Nat),cB G P d aaa e i}
abbrev DQ(aaa:eJ)(bd:List Expr):={i:b5//(∀(G:br)(P:aY)(d:Nat),gc G P d aaa bd i)∧∀(P:aY) z j xs H,hM P i z j=.ok xs H→xs.length=bd.length}
abbrev x9(aaa:eJ)(e:Expr):={i:a0×Bool//∀(G:br)(P:aY)(d:Nat),j1 G P d aaa e i.2 i.1}
theorem Uw{i:Expr}(h:xh i=true):∀x y aa p,i≠.Slice x y aa p:=by rintro x y aa p rfl;cases h
theorem Nf{P:aY}{i:a0}{af:b5}{k:Nat}(O:∀z j xs H,hM P af z j=.ok xs H→xs.length=k)(z:aq)(j:ae)(xs:List ag)(H:ae)(h:hM P (.cons i af) z j=.ok xs H):xs.length=k+1:=by
 have h:((den P i z j).bind fun x j=>(hM P af z j).bind fun xs j=>.ok (x::xs) j)=.ok xs H:=h;cases ad:den P i z j with
 |aS=>rw[ad]at h;cases h
 |a6 k f2=>rw[ad]at h;cases h
 |ok x f2=>
  rw[ad,aG.yU]at h;cases f1:hM P af z f2 with
  |aS=>rw[f1]at h;cases h
  |a6 k s1=>rw[f1]at h;cases h
  |ok ys s1=>rw[f1,aG.yU]at h;cases h;show congrArg (·+1) (O z f2 ys _ f1)
theorem Vz{G:br}{P:aY}{d:Nat}{aaa:eJ}{f:Str}{Ok pos:Pos}{r:Expr}{i:a0}(ch:f=("range":Str))(ak:aaa.lookup f=some NameKind.globalImplicit)(be:f7 [r]=true)(h:a' G P d aaa r i):j1 G P d aaa (.Call (.Name f Ok) [r] [] pos) true i:=by subst ch;show .inr ⟨rfl,_,_,_,rfl,be,qK ak,h⟩
noncomputable def Mu(aaa:eJ)(x:Str)(pos:Pos):Option (uL aaa (.Name x pos)):=if hd:(x==("__debug__":Str))=false then if Z:(x==("__classdict__":Str))=false then match ak:aaa.lookup x with
 |some .local=>(match dl:gu aaa x with
  |some af=>some ⟨.aw af,fun _ _ _ _ _ _ _ _ _ _ _ _ C S p=>bk (a'.aw C S (sH dl ak) (.inl rfl) hd Z p)⟩
  |none=>none)
 |some .cell=>(match dl:gu aaa x with
  |some af=>some ⟨.aw af,fun _ _ _ _ _ _ _ _ _ _ _ _ C S p=>bk (a'.aw C S (sH dl ak) (.inr (.inl rfl)) hd Z p)⟩
  |none=>none)
 |some .free=>(match dl:gu aaa x with
  |some af=>some ⟨.aw af,fun _ _ _ _ _ _ _ _ _ _ _ _ C S p=>bk (a'.aw C S (sH dl ak) (.inr (.inr rfl)) hd Z p)⟩
  |none=>none)
 |some .globalImplicit=>(match al:oQ x with
  |some v=>some ⟨.aC v,fun _ _ _ _ _ _ _ _ _ _ _ _ C S p=>let⟨_,dl⟩:=qK ak;bk (a'.js C S dl hd al p)⟩
  |none=>none)
 |_=>none
 else none else none
noncomputable def Mv(aaa:eJ)(a:Expr)(op:Operator)(b:Expr)(pos:Pos):Option (uL aaa (.BinOp a op b pos)):=match a,op,b with
 |.List [.Constant (.int _) _ _] _,.Mult,.Constant (.int k) _ _=>if ak:0<k∧k<100 then some ⟨_,fun _ _ _=>a'.lG ak⟩else none
 |_,_,_=>none
noncomputable def Mt(aaa:eJ)(o:Expr)(m:Str)(Uf:Pos)(as:List Expr)(hi:Pos)(l:DQ aaa as)(be:f7 as=true)(I:(Uf.endLine==hi.line)=true)(O:as.length<29):Option (uL aaa (.Call (.Attribute o m Uf) as [] hi)):=if ac:m=("__init__":Str)then match o with
 |.Name c _=>if ak:aaa.lookup c=some .globalImplicit then if Z:c=("WasmFault":Str)then some ⟨.init e4 l.1,fun G P d=>ac▸a'.init (l.2.1 G P d) be (.inl ⟨Z,rfl⟩) (qK ak) I O⟩else if Z:c=("Exception":Str)then some ⟨.init 0 l.1,fun G P d=>ac▸a'.init (l.2.1 G P d) be (.inr ⟨Z,rfl⟩) (qK ak) I O⟩else none else none
 |_=>none
 else none
mutual
noncomputable def da:Nat→(aaa:eJ)→(e:Expr)→Option (uL aaa e)
 |0,_,_=>none
 |n+1,aaa,e=>match e with
  |.Constant c _ _=>(match c with
   |.none=>some ⟨_,fun _ _ _=>a'.M_⟩
   |.bool _=>some ⟨_,fun _ _ _=>a'.M8⟩
   |.int _=>some ⟨_,fun _ _ _=>a'.M9⟩
   |.str _=>some ⟨_,fun _ _ _=>a'.M'⟩
   |_=>none)
  |.Name x p=>Mu aaa x p
  |.BinOp a op b p=>(Mv aaa a op b p).or ((da n aaa a).bind fun a=>(da n aaa b).map fun b=>⟨_,fun G P d=>a'.aV (a.2 G P d) (b.2 G P d)⟩)
  |.UnaryOp op a p=>(match op with
   |.USub=>(da n aaa a).map fun a=>⟨_,fun G P d=>a'.neg (a.2 G P d)⟩
   |_=>none)
  |.Compare a CM bs p=>(match CM,bs with
   |[_],[b]=>if h:jJ b=true then(da n aaa a).bind fun a=>(da n aaa b).map fun b=>⟨_,fun G P d=>a'.aQ h (a.2 G P d) (b.2 G P d)⟩else none
   |[_,_],[b,c]=>if h:jJ c=true then(da n aaa a).bind fun a=>(da n aaa b).bind fun b=>(da n aaa c).map fun c=>⟨_,fun G P d=>a'.jk h (a.2 G P d) (b.2 G P d) (c.2 G P d)⟩else none
   |_,_=>none)
  |.IfExp c a b p=>(j9 n aaa c).bind fun c=>(da n aaa a).bind fun a=>(da n aaa b).map fun b=>⟨_,fun G P d=>a'.ite (c.2 G P d) (a.2 G P d) (b.2 G P d)⟩
  |.Tuple bd k p=>if h:bd.length<1000 then(sm n aaa bd).map fun l=>⟨_,fun G P d=>a'.av (l.2.1 G P d) h (l.2.2 P)⟩else none
  |.List bd p=>(sm n aaa bd).map fun l=>⟨_,fun G P d=>a'.bM (l.2.1 G P d)⟩
  |.Subscript v i p=>(da n aaa v).bind fun v=>(match i with
   |.Slice (some z) none none _=>(da n aaa z).map fun a=>⟨_,fun G P d=>a'.Wn (v.2 G P d) (a.2 G P d)⟩
   |.Slice none (some an) none _=>(da n aaa an).map fun a=>⟨_,fun G P d=>a'.Wo (v.2 G P d) (a.2 G P d)⟩
   |i=>if h:xh i=true then(da n aaa i).map fun i=>⟨_,fun G P d=>a'.sub (v.2 G P d) (i.2 G P d) (Uw h)⟩else none)
  |.Attribute v f p=>if h:tL v=true then(match ch:qF f with
   |some _=>(da n aaa v).map fun v=>⟨_,fun G P d=>a'.bO (v.2 G P d) ch h⟩
   |none=>none)else none
  |.Call f as kw hi=>(match kw with
   |[]=>if be:f7 as=true then(sm n aaa as).bind fun l=>(match f with
    |.Attribute o m Uf=>if I:(Uf.endLine==hi.line)=true then if O:as.length<29 then(Mt aaa o m Uf as hi l be I O).or (if a1:tL o=true then(match ac:H5 m with
     |some _=>(da n aaa o).map fun o=>⟨_,fun G P d=>a'.bq (o.2 G P d) (l.2.1 G P d) be ac a1 I O⟩
     |none=>none)else none)else none else none
    |f=>if h:Ik f=true then(da n aaa f).map fun f=>⟨_,fun G P d=>a'.call (f.2 G P d) (l.2.1 G P d) be h⟩else none)else none
   |_=>none)
  |.ListComp u8 qN aab p=>(match qN with
   |[⟨KM,bV,[],0⟩]=>if a1:xH aaa aab=true then(match xV aab.names KM,Z:ng aaa aab.names with
    |some im,some _=>(za n aaa bV).bind fun tt=>(da n aab.names u8).map fun nq=>⟨_,fun G P d=>a'.comp (I' a1) Z im.2 (tt.2 G P d) (nq.2 G P d)⟩
    |_,_=>none)else none
   |_=>none)
  |_=>none
noncomputable def sm:Nat→(aaa:eJ)→(bd:List Expr)→Option (DQ aaa bd)
 |0,_,_=>none
 |n+1,aaa,bd=>match bd with
  |[]=>some ⟨.nil,fun _ _ _=>gc.Ig,fun P z j xs H h=>by cases(show aG.ok [] j=.ok xs H from h);rfl⟩
  |e::r=>if h:f7 (e::r)=true then(da n aaa e).bind fun a=>(sm n aaa r).map fun l=>⟨.cons a.1 l.1,fun G P d=>gc.E7 (a.2 G P d) (l.2.1 G P d) h,fun P=>Nf (l.2.2 P)⟩else none
noncomputable def j9:Nat→(aaa:eJ)→(e:Expr)→Option (Kf aaa e)
 |0,_,_=>none
 |n+1,aaa,e=>match e with
  |.UnaryOp op a p=>(match op with
   |.Not=>(j9 n aaa a).map fun a=>⟨_,fun G P d=>cB.not (a.2 G P d)⟩
   |op=>if h:xo (.UnaryOp op a p)=true then(da n aaa (.UnaryOp op a p)).map fun a=>⟨_,fun G P d=>cB.plain (a.2 G P d) h⟩else none)
  |.BoolOp op l p=>(match op,l with
   |.And,[a,b]=>(j9 n aaa a).bind fun a=>(j9 n aaa b).map fun b=>⟨_,fun G P d=>cB.K_ (a.2 G P d) (b.2 G P d)⟩
   |.And,[a,b,c]=>(j9 n aaa a).bind fun a=>(j9 n aaa b).bind fun b=>(j9 n aaa c).map fun c=>⟨_,fun G P d=>cB.K' (a.2 G P d) (b.2 G P d) (c.2 G P d)⟩
   |.Or,[a,b]=>(j9 n aaa a).bind fun a=>(j9 n aaa b).map fun b=>⟨_,fun G P d=>cB.U4 (a.2 G P d) (b.2 G P d)⟩
   |_,_=>none)
  |.Compare a CM bs p=>(match CM,bs with
   |[_],[b]=>if h:jJ b=true then(da n aaa a).bind fun a=>(da n aaa b).map fun b=>⟨_,fun G P d=>cB.aQ h (a.2 G P d) (b.2 G P d)⟩else none
   |[_,_],[b,c]=>if h:jJ c=true then(da n aaa a).bind fun a=>(da n aaa b).bind fun b=>(da n aaa c).map fun c=>⟨_,fun G P d=>cB.jk h (a.2 G P d) (b.2 G P d) (c.2 G P d)⟩else none
   |_,_=>none)
  |e=>if h:xo e=true then(da n aaa e).map fun a=>⟨_,fun G P d=>cB.plain (a.2 G P d) h⟩else none
noncomputable def za:Nat→(aaa:eJ)→(e:Expr)→Option (x9 aaa e)
 |0,_,_=>none
 |n+1,aaa,e=>Option.or (α:=x9 aaa e) (match(motive:=(e:Expr)→Option (x9 aaa e)) e with
  |.Call (.Name f _) [r] [] _=>if ch:f=("range":Str)then if ak:aaa.lookup f=some NameKind.globalImplicit then if be:f7 [r]=true then(da n aaa r).map fun r=>⟨(r.1,true),fun G P d=>Vz ch ak be (r.2 G P d)⟩else none else none else none
  |_=>none) (if h:xg e=true then(da n aaa e).map fun a=>⟨(a.1,false),fun G P d=>.inl ⟨rfl,h,a.2 G P d⟩⟩else none)
end
end
section
section
variable{G:br}{P:aY}{d:Nat}{aaa:List (Str×NameKind)}
theorem N8{x:Str}{f:c8}(h:qF x=some f):f.str=x:=by unfold qF at h;have:=List.find?_some h;simpa using this
theorem dt.a5{t e:Expr}{pos:Pos}{T:eI}{i:a0}(im:kO G P d aaa t T)(ge:a' G P d aaa e i)(ar:u7 aaa t e)(al:IC e=true):dt G P d aaa (.Assign [t] e pos) (.a5 T i):=fun A J env ρ j z s Q E C S p=>by show r8 im ge ar C S ?_ p;cases e<;>first|rfl|cases al
theorem dt.Li{t u8 KM bV:Expr}{aab:Scope}{l5 pos:Pos}{T:eI}{ah:List Nat}{Ps i:a0}{bW:Bool}{ut:List (Nat×Nat)}(RV:kO G P d aaa t T)(a1:kP aaa aab)(Z:ng aaa aab.names=some ut)(im:jj aab.names KM ah)(an:j1 G P d aaa bV bW i)(ge:a' G P d aab.names u8 Ps)(ar:u7 aaa t (.ListComp u8 [⟨KM,bV,[],0⟩] aab l5)):dt G P d aaa (.Assign [t] (.ListComp u8 [⟨KM,bV,[],0⟩] aab l5) pos) (.a5 T (.comp Ps ah i bW aab.names.length ut)):=fun A J env ρ j z s Q E C S p=>by
 have zs:=a'.comp (pos:=l5) a1 Z im an ge;cases RV with
 |@aw x Ok af dl=>
  have:∃b:Bool,swapsWith (.ListComp u8 [⟨KM,bV,[],0⟩] aab l5) (some (.Name x Ok)) pos.line env=pure b:=⟨_,rfl⟩;show b6 this fun b Y=>?_;cases b with
  |true=>show dt.Xx a1 Z im an ge dl C S Y p
  |false=>show r8 (.aw dl) zs ar C S Y p
 |fe h=>show r8 (.fe h) zs ar C S rfl p
 |bO h=>show r8 (.bO h) zs ar C S rfl p
 |sub I O bn=>show r8 (.sub I O bn) zs ar C S rfl p
theorem EY{c:Str}{C:Addr}(h:sk c=some C):oQ c=some (.fn C)∧cD C=true∧(c==("__debug__":Str))=false:=by
 unfold sk at h;split at h;·rename_i e;rw[dw]at e;subst e;show aX fun _ done=>?_;obtain rfl:=bx h;show done ?_;show⟨rfl,by decide,by decide⟩
 ·split at h;·rename_i e;rw[dw]at e;subst e;obtain rfl:=bx h;show⟨rfl,by decide,by decide⟩
  ·split at h;·rename_i e;rw[dw]at e;subst e;obtain rfl:=bx h;show⟨rfl,by decide,by decide⟩
   ·show cf h
theorem dt.dV{c:Str}{as:List Expr}{Ok hi pos:Pos}{lf:Addr}{l:b5}(V:gc G P d aaa as l)(be:f7 as=true)(ak:∃af:Nat,aaa[af]?=some (c,NameKind.globalImplicit))(Z:sk c=some lf):dt G P d aaa (.Raise (some (.Call (.Name c Ok) as [] hi)) none pos) (.dV lf l):=fun A J env ρ j z s Q E C S p=>let⟨I,O,bn⟩:=EY Z;Vw V be ak I O bn C S p
end
abbrev Kg(aaa:eJ)(e:Expr):={i:eI//∀(G:br)(P:aY)(d:Nat),kO G P d aaa e i}
abbrev DR(aaa:eJ)(e:Stmt):={i:kJ//∀(G:br)(P:aY)(d:Nat),dt G P d aaa e i}
abbrev DS(aaa:eJ)(e:List Stmt):={i:bZ//∀(G:br)(P:aY)(d:Nat),g' G P d aaa e i}
abbrev Ke(aaa:eJ)(e:List ExceptHandler):={i:h4//∀(G:br)(P:aY)(d:Nat),qi G P d aaa e i}
theorem Xd{G:br}{P:aY}{d:Nat}{aaa:eJ}{o:Expr}{f:Str}{fw:c8}{p:Pos}{a:a0}(ch:qF f=some fw)(h:a' G P d aaa o a):kO G P d aaa (.Attribute o f p) (.bO a fw):=by obtain rfl:_=_:=N8 ch;show .bO h
noncomputable def M1(n:Nat)(aaa:eJ)(t:Expr):Option (Kg aaa t):=match t with
 |.Name x _=>(match h:kv aaa x with
  |some _=>some ⟨_,fun _ _ _=>.aw h⟩
  |none=>none)
 |.Tuple bd k p=>(xV aaa (.Tuple bd k p)).map fun h=>⟨_,fun _ _ _=>.fe h.2⟩
 |.Attribute o f _=>(match ch:qF f with
  |some _=>(da n aaa o).map fun o=>⟨_,fun G P d=>Xd ch (o.2 G P d)⟩
  |none=>none)
 |.Subscript o i _=>if h:xh i=true then(da n aaa o).bind fun o=>(da n aaa i).map fun i=>⟨_,fun G P d=>.sub h (o.2 G P d) (i.2 G P d)⟩else none
 |_=>none
noncomputable def MZ(n:Nat)(aaa:eJ)(t e:Expr)(pos:Pos):Option (DR aaa (.Assign [t] e pos)):=(W8 aaa t e).bind fun ar=>(M1 n aaa t).bind fun t=>(match e with
 |.ListComp u8 qN aab l5=>(match qN with
  |[⟨KM,bV,[],0⟩]=>if a1:xH aaa aab=true then(match xV aab.names KM,Z:ng aaa aab.names with
   |some im,some _=>(za n aaa bV).bind fun tt=>(da n aab.names u8).map fun nq=>⟨_,fun G P d=>dt.Li (t.2 G P d) (I' a1) Z im.2 (tt.2 G P d) (nq.2 G P d) ar.down⟩
   |_,_=>none)else none
  |_=>none)
 |e=>if h:IC e=true then(da n aaa e).map fun e=>⟨_,fun G P d=>dt.a5 (t.2 G P d) (e.2 G P d) ar.down h⟩else none)
mutual
noncomputable def M0:Nat→(aaa:eJ)→(t:Stmt)→Option (DR aaa t)
 |0,_,_=>none
 |n+1,aaa,t=>match t with
  |.Expr e _=>if h:Il e=true then(da n aaa e).map fun e=>⟨_,fun G P d=>dt.bB (e.2 G P d) h⟩else none
  |.Return e _=>(match e with
   |some e=>(da n aaa e).map fun e=>⟨_,fun G P d=>dt.ret (e.2 G P d)⟩
   |none=>none)
  |.Assign ts e p=>(match ts with
   |[t]=>MZ n aaa t e p
   |_=>none)
  |.AugAssign x op e _=>(match x,op with
   |.Name x _,.Add=>if ad:(x==("__classdict__":Str))=false then(match dl:kv aaa x with
    |some _=>(da n aaa e).map fun e=>⟨_,fun G P d=>dt.m8 dl (e.2 G P d) ad⟩
    |none=>none)else none
   |_,_=>none)
  |.If c a b _=>(j9 n aaa c).bind fun c=>(ni n aaa a).bind fun a=>(ni n aaa b).map fun b=>⟨_,fun G P d=>dt.ite (c.2 G P d) (a.2 G P d) (b.2 G P d)⟩
  |.While c b sD _=>(match sD with
   |[]=>(j9 n aaa c).bind fun c=>(ni n aaa b).map fun b=>⟨_,fun G P d=>dt.iJ (c.2 G P d) (b.2 G P d)⟩
   |_=>none)
  |.For t tt b sD _=>(match sD with
   |[]=>(match xV aaa t with
    |some im=>(za n aaa tt).bind fun tt=>(ni n aaa b).map fun b=>⟨_,fun G P d=>dt.fx im.2 (tt.2 G P d) (b.2 G P d)⟩
    |none=>none)
   |_=>none)
  |.Raise e c _=>(match e,c with
   |some (.Call (.Name c _) as [] _),none=>if ak:aaa.lookup c=some NameKind.globalImplicit then if be:f7 as=true then(match on:sk c with
    |some _=>(sm n aaa as).map fun l=>⟨_,fun G P d=>dt.dV (l.2.1 G P d) be (qK ak) on⟩
    |none=>none)else none else none
   |_,_=>none)
  |.Try b a1 sD v4 _=>(match a1,sD,v4 with
   |h::a1,[],[]=>(ni n aaa b).bind fun b=>(E3 n aaa (h::a1)).map fun a1=>⟨_,fun G P d=>dt.n9 (b.2 G P d) (a1.2 G P d)⟩
   |_,_,_=>none)
  |_=>none
noncomputable def ni:Nat→(aaa:eJ)→(ts:List Stmt)→Option (DS aaa ts)
 |0,_,_=>none
 |n+1,aaa,ts=>match ts with
  |[]=>some ⟨.nil,fun _ _ _=>g'.nil⟩
  |t::r=>(M0 n aaa t).bind fun t=>(ni n aaa r).map fun r=>⟨_,fun G P d=>g'.cons (t.2 G P d) (r.2 G P d)⟩
noncomputable def E3:Nat→(aaa:eJ)→(a1:List ExceptHandler)→Option (Ke aaa a1)
 |0,_,_=>none
 |n+1,aaa,a1=>match a1 with
  |[]=>some ⟨.nil,fun _ _ _=>.nil⟩
  |.ExceptHandler (some (.Name c _)) (some x) b _::r=>if ak:aaa.lookup c=some NameKind.globalImplicit then(match on:sk c,an:Jj aaa x with
   |some _,some _=>(ni n aaa b).bind fun b=>(E3 n aaa r).map fun r=>⟨_,fun G P d=>let⟨I,O,bn⟩:=EY on;.cons I O bn (qK ak) (Wt an) (b.2 G _ d) (r.2 G P d)⟩
   |_,_=>none)else none
  |_=>none
end
end
section
set_option backward.match.sparseCases true
theorem TV{α go:Type}[BEq α][LawfulBEq α]:∀{ns:List α}{vs:List go}{n:α},ns.length=vs.length→n∈ns→∃v,(ns.zip vs).lookup n=some v:=by
 intro ca;induction ca with
 |nil=>intro sK Ev Da h;show nm h
 |cons m ns ap=>
  intro FM n V h;cases FM with
  |nil=>simp at V
  |cons v vs=>
   rw[List.zip_cons_cons,List.lookup_cons];by_cases e:n=m;·clear V h;subst e;show⟨v,by simp⟩
   ·have Y:(n==m)=false:=by simpa using e
    rw[Y];rcases ep.mp h with h|h
    ·show absurd h e
    ·show ap (by simpa using V) h
theorem N4{α go:Type}[BEq α][LawfulBEq α]:∀{ns:List α}{vs:List go},ns.Nodup→ns.length=vs.length→(ns.filterMap fun n=>((ns.zip vs).lookup n).map (n,·))=ns.zip vs:=by
 intro ca;induction ca with
 |nil=>intro sK Ev Da;show rfl
 |cons m ns ap=>
  intro FM bi V;cases FM with
  |nil=>simp at V
  |cons v vs=>
   obtain⟨I,O⟩:=List.nodup_cons.mp bi;rw[List.zip_cons_cons,List.filterMap_cons];simp only[List.lookup_cons,beq_self_eq_true,Option.map_some];congr 1;have ap:=ap O (show ns.length=vs.length by simpa using V);show(N3 fun x ad=>?_).trans ap;have Y:(x==m)=false:=by
    cases q:x==m with
    |false=>rfl
    |true=>rw[dw.mp q]at ad;show absurd ad I
   rw[Y]
theorem Pt{α go:Type}{f:α→go→Sem (ForInStep go)}(c:go):∀{l:List α},(∀x∈l,f x c=pure (.yield c))→forIn l c f=pure c:=by
 intro ca;induction ca with
 |nil=>intro _;show rfl
 |cons x l ap=>intro h;rw[List.forIn_cons,h x dF,pure_bind];show ap fun y f1=>h y (dE _ f1)
theorem LV{s:Shared}{fw:FuncData}{as:List Arg}{tA:List (Option Expr)}{sx:List Expr}{ls:List Value}(be:fw.params=⟨[],as,none,[],tA,none,sx⟩)(V:as.length=ls.length)(bi:(as.map (·.arg)).Nodup)(hd:∀(M:Model)(A:Around)(E:Value→Shared→Prop)(Q:Option (Array Value)→Shared→Prop),(∀r,Q r s)→wpAny M A (seqItems? fw.defaults) Q E s):BindsTo s fw ⟨ls,[]⟩ ((as.map (·.arg)).zip ls):=by
 obtain⟨nm,iA,params,body,x0,qJ,dJ,kV,i5,jn,jL,aA,code,oG,b0⟩:=fw;subst be;intro M A E Q ne;have A_:(as.map (·.arg)).length=ls.length:=(bD _).trans V;have lm:∀n∈as.map (·.arg),(((as.map (·.arg)).zip ls).lookup n).isNone=false:=fun n ac=>by show b6 (TV A_ ac) fun v al=>?_;rw[al];rfl
 unfold bindArgs;show aU (bz ?_);show aU (hd M A E _ fun r=>?_);show bm_if_false ?_ (bm_if_false ?_ (aU (ey (Pt ((as.map (·.arg)).zip ls) fun x ad=>?_) (aU (bz (bz ?_))))));·show congrArg (·&&true) (cE (A_▸Nat.lt_irrefl _):decide (ls.length>(as.map (·.arg)).length)=false)
 ·show congrArg (fun l:List Str=>!l.isEmpty) (List.filter_eq_nil_iff.mpr fun n ac e=>kG ((lm n (List.mem_of_mem_take ac)).symm.trans e))
 ·show aM (fun e=>kG ((lm x.1 (List.mem_of_mem_drop (List.of_mem_zip (a:=x.1) (b:=x.2) ad).1)).symm.trans e))
 ·have e:((as.map Arg.arg)++[]).filterMap (fun n=>(((as.map Arg.arg).zip ls).lookup n).map (n,·))=(as.map Arg.arg).zip ls:=by rw[eo,N4 bi A_]
  show(congrArg (Q · s) e).mpr ne
def DP(ρ:aN)(h:Heap)(aaa:List (Str×NameKind))(z:aq)(m qu:Str→Option Value):Prop:=∀(af:Nat)(x:Str)(k:NameKind)(v:ag),aaa[af]?=some (x,k)→z[af]?=some (some v)→(k=.local→∃u,m x=some u∧aR ρ h v u)∧(k≠.local→∃u,qu x=some u∧aR ρ h v u)
theorem UA{aaa:List (Str×NameKind)}(bi:(aaa.map (·.1)).Nodup){i af:Nat}{x:Str}{k gl:NameKind}(I:aaa[i]?=some (x,k))(O:aaa[af]?=some (x,gl)):i=af:=by
 obtain⟨an,zt⟩:=c7.mp I;obtain⟨dl,zu⟩:=c7.mp O;have cd:(aaa.map (·.1))[i]'(by rw[bD];show an)=x:=by rw[List.getElem_map,zt]
 have ex:(aaa.map (·.1))[af]'(by rw[bD];show dl)=x:=by rw[List.getElem_map,zu]
 show(List.getElem_inj bi).mp (cd.trans ex.symm)
theorem L5{ρ:aN}{h:Heap}{aaa:List (Str×NameKind)}(bi:(aaa.map (·.1)).Nodup){kindOf:Str→Option NameKind}(ak:∀x,kindOf x=aaa.lookup x):∀(as:List Str)(aZ:List Nat)(ls:List Value)(xs:List ag)(z f4:aq)(m qu:Str→Option Value),as.mapM (gu aaa)=some aZ→gs z aZ xs=some f4→ba ρ h xs ls→DP ρ h aaa z m qu→DP ρ h aaa f4 (bindL kindOf (as.zip ls) m) (bindC kindOf (as.zip ls) qu):=by
 intro ca;induction ca with
 |nil=>
  intro aZ ls xs z f4 m qu e a1 r b;obtain rfl:=bx e;clear ak r;cases xs with
  |nil=>cases a1;show b
  |cons _ _=>show cf a1
 |cons n as ap=>
  intro aZ ls xs z f4 m qu e a1 r b;rw[List.mapM_cons]at e;show c5 e fun i an e=>?_;show c5 e fun IG hR e=>?_;obtain rfl:=bx e;cases xs with
  |nil=>show cf a1
  |cons x xs=>
   obtain⟨v,vs,rfl,sB,jM⟩:=r;obtain⟨k,AT⟩:=F2 an;have GQ:kindOf n=some k:=(ak n).trans (tH bi AT);rw[List.zip_cons_cons];unfold bindL bindC;show ap IG vs xs _ f4 _ _ hR a1 jM fun af y gl w I O=>?_;rcases rD O with⟨rfl,rfl⟩|⟨li,O⟩
   ·rw[AT]at I;cases I;show⟨fun V=>?_,fun V=>?_⟩;·clear xs vs jM an e AT a1 O;subst V;rw[aF GQ];show⟨v,by simp,sB⟩
    ·rw[aM (by rw[GQ];intro q;show V (bx q))];show⟨v,by simp,sB⟩
   ·have f1:y≠n:=fun q=>by subst q;show li (UA bi I AT)
    obtain⟨dQ,gF⟩:=b af y gl w I O;show⟨fun V=>?_,fun V=>?_⟩
    ·obtain⟨u,np,rz⟩:=dQ V;show⟨u,?_,rz⟩;split;·simp only[f1,if_false];show np
     ·show np
    ·obtain⟨u,np,rz⟩:=gF V;show⟨u,?_,rz⟩;split;·show np
     ·simp only[f1,if_false];show np
theorem HQ{α:Type}{l:List (Str×α)}(bi:(l.map (·.1)).Nodup){x:Str}{c:α}(h:(x,c)∈l):l.lookup x=some c:=by show b6 (List.mem_iff_getElem?.mp h) fun af dl=>?_;show tH bi dl
theorem MI:∀(l:List (Str×NameKind))(n:Nat)(cu:List (Str×Addr)),(l.map (·.1)).Nodup→(cu.map (·.1)).Nodup→(∀p∈cu,p.1∉l.map (·.1))→((cellsFrom n l cu).map (·.1)).Nodup∧(∀p∈cu,p∈cellsFrom n l cu)∧∀x,(x,NameKind.cell)∈l→∃c,(x,c)∈cellsFrom n l cu:=by
 intro ca;induction ca with
 |nil=>intro n cu _ h _;show⟨h,fun _ be=>be,fun _ ac=>nm ac⟩
 |cons t1 r ap=>
  obtain⟨y,k⟩:=t1;intro n cu bi ds hd;obtain⟨I,O⟩:=List.nodup_cons.mp bi;unfold cellsFrom;split
  ·rename_i ak;have ak:k=.cell:=by simpa using ak
   clear bi;subst ak;obtain⟨ZB,SC,UV⟩:=ap (n+1) ((y,n)::cu) O (List.nodup_cons.mpr ⟨fun q=>aW (List.mem_map.mp q) fun p be e=>hd p be (e▸dF),ds⟩) (fun p be=>by
    rcases ep.mp be with rfl|be
    ·show I
    ·show fun q=>hd p be (dE _ q))
   show⟨ZB,fun p be=>SC p (dE _ be),fun x ad=>?_⟩;show Or.elim (ep.mp ad) (fun ad=>?_) fun ad=>?_;·cases ad;show⟨n,SC _ dF⟩
   ·show UV x ad
  ·rename_i ak;show sA (ap n cu O ds (fun p be q=>hd p be (dE _ q))) fun ZB SC UV=>?_;show⟨ZB,SC,fun x ad=>?_⟩;show Or.elim (ep.mp ad) (fun ad=>?_) fun ad=>?_;·clear hd I;cases ad;show absurd rfl ak
   ·show UV x ad
section
variable{G:br}{A:Around}{J:List Env}{env:Env}{ρ:aN}{j:ae}{z:aq}{s:Shared}{E:Value→Shared→Prop}
theorem HR.enter(S:HR G J ρ j s)(f:p9 G ρ s.heap env):HR G (env::J) ρ j s:=⟨S.a9,S.gens,S.os,S.len,S.objs,S.hj,S.jr,fun e ge=>by
 rcases ep.mp ge with rfl|ge
 ·show f
 ·show S.frames e ge⟩
theorem HR.Cc(S:HR G (env::J) ρ j s):HR G J ρ j s:=⟨S.a9,S.gens,S.os,S.len,S.objs,S.hj,S.jr,fun e ge=>S.frames e (dE _ ge)⟩
theorem aL.yS{gd X:Addr→Prop}{v2 fr nw:aN}{pu s4 XL:Heap}(x:aL gd v2 pu fr s4)(y:aL X fr s4 nw XL)(po:∀b,X b→pu.get? b=none)(oW:∀b,gd b→s4.get? b≠none):aL gd v2 pu nw XL where
 pre k p h:=by show aW (x.pre k p h) fun jp h' e=>?_;show aW (y.pre k jp h') fun tV fz st=>?_;show b' tV fz (st.trans e)
 cc b bi Y:=y.cc b (fun q=>Y (po b q)) (x.cc b bi Y)
 cls b o bi e:=by show aW (x.cls b o bi e) fun o' st c=>?_;show aW (y.cls b o' (fun q=>by rw[po b q]at e;cases e) st) fun tO sz h0=>?_;show b' tO sz (h0.trans c)
 new b Y:=(y.new b Y).elim (x.new b) fun q=>.inr (by
  have bi:¬gd b:=fun aa=>oW b aa q.1;show⟨?_,bi⟩;cases e:pu.get? b with
  |none=>rfl
  |some o=>show absurd q.1 (x.cc b bi (by rw[e];show fun aa=>ns aa)))
 keep b c d g1 a hd ci bi:=y.keep b c d g1 (x.keep b c d g1 a hd ci bi) hd (fun q=>(x.new b q).elim ci fun aa=>absurd aa.1 a.cc) (fun q=>a.cc (po b q))
 f3 b o e I O ci bi:=y.f3 b o (x.f3 b o e I O ci bi) I O (fun q=>(x.new b q).elim ci fun aa=>by have aa:=aa.1;rw[e]at aa;cases aa) (fun q=>by rw[po b q]at e;cases e)
 av b vs n a:=y.av b vs n (x.av b vs n a)
theorem bo.Xe{r:bH}{R:Result→Shared→Prop}{pu:Heap}{v2:aN}(S:a4 G (env::J) env ρ j z s)(X:aL b4 v2 pu ρ s.heap)(po:∀b,e3 env b→pu.get? b=none)(p:hH G J v2 pu r.dU R):bo G (env::J) env ρ s.heap r (fun f s'=>R (.ok (.ret (match f with|.ret v=>v|_=>.none))) s') (fun e s'=>∃k bm H,HR G (env::J) bm H s'∧je G bm H s'.heap k e∧∀h',HR G (env::J) bm H {s' with heap:=h'}→aL b4 bm s'.heap bm h'→e1 G bm H h' k e→R (.error e) {s' with heap:=h'}):=by
 cases r with
 |aS=>show p
 |next f4 H=>show fun bm s' s5 hm=>p bm s' .none s5.toHR.Cc (X.yS hm po fun _ f=>f.elim) mN
 |ret v f4 H=>show fun bm s' u s5 hm r=>p bm s' u s5.toHR.Cc (X.yS hm po fun _ f=>f.elim) r
 |a6 k f4 H=>show fun bm s' e s5 hm KT=>⟨k,bm,H,s5.toHR,KT,fun h' Fr iR p3=>p bm {s' with heap:=h'} e Fr.Cc ((X.yS hm po fun _ f=>f.elim).trans iR) p3.d7⟩
theorem Ua{f:Str→Option Nat}:∀{l:List Arg}{r:List Nat},(l.map (·.arg)).mapM f=some r→r.length=l.length:=by
 intro ca;induction ca with
 |nil=>intro r e;cases e;rfl
 |cons x l ap=>intro r e;rw[List.map_cons,List.mapM_cons]at e;show c5 e fun i an e=>?_;show c5 e fun IG hR e=>?_;obtain rfl:=bx e;show congrArg (·+1) (ap hR)
theorem Of{M:Model}{A:Around}{E:Value→Shared→Prop}{s:Shared}{Q:Fin→Shared→Prop}{self c:Addr}{nm iA:Str}{aZ:Arguments}{body:List Stmt}{x0:Scope}{qJ b0:Addr}{dJ:List (Str×Addr)}{kV i5 jn jL oG:Value}{aA:Option Addr}{args:Args}{l4:Obj}{vs:Array Value}{t:Tok}{EH:List (Str×Value)}(hk:s.heap.get? c=some l4)(oS:l4.data=.fields vs)(Tl:vs[1]?=some (.str iA t))(SC:x0.isCoroutine=false)(UV:x0.isGenerator=false)(Tm:BindsTo s ⟨nm,iA,aZ,.stmts body,x0,qJ,dJ,kV,i5,jn,jL,aA,.ref c,oG,b0⟩ args EH)(q:wpAny M A (newFunctionEnv x0 qJ dJ EH (iA++".<locals>.") (some self) (.ref c) none b0>>=fun env=>enterFrame>>=fun _=>again (.func body env)) Q E s):wpAny M A (callFunction self ⟨nm,iA,aZ,.stmts body,x0,qJ,dJ,kV,i5,jn,jL,aA,.ref c,oG,b0⟩ args) Q E s:=by unfold callFunction;show aU (m:=field (.ref c) 1) (wpAny_field hk oS Tl (aU (bz (aU (Tm _ _ _ _ ?_)))));dsimp only;rw[SC,UV];show q
theorem Nj{K:Frag}{h:Heap}{v:Value}(X:K.In h)(g:v=.none∨∃jP mW n_ cz,v=.ref jP∧K.lookup jP=some mW∧mW.data=.seq n_ cz){M:Model}{A:Around}{E:Value→Shared→Prop}{s:Shared}{Q:Option (Array Value)→Shared→Prop}(a1:s.heap=h)(q:∀r,Q r s):wpAny M A (seqItems? v) Q E s:=by
 subst a1;rcases g with e|⟨jP,mW,n_,cz,cd,ex,sc⟩
 ·show e▸ey (a:=none) rfl (q _)
 ·show cd▸wpAny_seqItems (X _ _ ex) sc (q _)
theorem Oe{d:Nat}{a:Addr}{kB:Addr→List ag→ae→aG ag}{N:Nat}{mG od pH nm iA as tA sx body x0 kV i5 jn jL aA c oG}(ok:G.b8)(dc:kK G)(cv:jY G.K)(I:G.K.lookup a=some ⟨mG,od,.func ⟨nm,iA,⟨[],as,none,[],tA,none,sx⟩,.stmts body,x0,mainGlobals,[],kV,i5,jn,jL,aA,.ref c,oG,builtinsNs⟩,pH⟩){aZ:List Nat}(hR:(as.map (·.arg)).mapM (gu x0.names)=some aZ)(b:DS x0.names body){l4:Obj}{E_:Array Value}{Na:Tok}(hk:G.K.lookup c=some l4)(oS:l4.data=.fields E_)(Tl:E_[1]?=some (.str iA Na))(ZB:x0.kind=.function)(SC:x0.isCoroutine=false)(UV:x0.isGenerator=false)(nv:(x0.names.map (·.1)).Nodup)(sG:(x0.names.all fun p=>p.2 !=.free)=true)(AB:(as.map (·.arg)).Nodup)(PE:(as.all fun p=>x0.names.lookup p.arg==some .local||x0.names.lookup p.arg==some .cell)=true)(PF:kV=.none∨∃jP mW n_ cz,kV=.ref jP∧G.K.lookup jP=some mW∧mW.data=.seq n_ cz)(Q6:∀a xs j,kB a xs j≠.aS→keepIn G.K (.ref a)=true)(BJ:uO G d kB){xs:List ag}{ls:List Value}{R:Result→Shared→Prop}{z:aq}(Wp:A.frames=some J)(pp:A.guards=some [])(it:A.handled=none)(hd:A.depth+4*(d+1)+4<recursionLimit)(np:A.units+30*(d+1)+100<cLine)(S:HR G J ρ j s)(ii:ba ρ s.heap xs ls)(Y:gs (List.replicate x0.names.length none) aZ xs=some z)(p:hH G J ρ s.heap (dB ⟨N,G.sa,G.ns,true,kB⟩ b.1 z j).dU R):dK (model G.prog G.w) A (.call (.ref a) ⟨ls,[]⟩) R s:=by
 have X:G.K.In s.heap:=ok.fq.keeps S.a9;have ci:=X _ _ I;have QD:=X _ _ hk;have Rp:s.heap.NoLimit:=ok.T.nolimit.keeps S.a9;have nb:as.length=ls.length:=(Ua hR).symm.trans ((xJ Y).trans ii.length.symm);have Tm:BindsTo s ⟨nm,iA,⟨[],as,none,[],tA,none,sx⟩,.stmts body,x0,mainGlobals,[],kV,i5,jn,jL,aA,.ref c,oG,builtinsNs⟩ ⟨ls,[]⟩ ((as.map (·.arg)).zip ls):=LV rfl nb AB fun M A E Q q=>Nj X PF rfl q;show j8 rfl (bk ?_);change wpAny _ A.in1 (callAny (.ref a) ⟨ls,[]⟩) _ _ s;show aU (wpAny_load ci (Of QD oS Tl SC UV Tm ?_));have A6:=MI x0.names (s.heap.objs.size+1) [] nv List.nodup_nil (fun _ h=>nomatch h);have Gl:∀x,x0.names.lookup x=some .cell→∃c,(cellsFrom (s.heap.objs.size+1) x0.names []).lookup x=some c:=fun x ad=>by show b6 (A6.2.2 x (mem_of_lookup ad)) fun h0 s3=>?_;show⟨h0,HQ A6.1 s3⟩
 show aU (wpAny_newFunctionEnv_cells ZB (fun x ad=>?_) fun env ge s' x=>?_)
 ·have ac:x.1∈as.map (·.arg):=(List.of_mem_zip (a:=x.1) (b:=x.2) ad).1;show aW (List.mem_map.mp ac) fun K8 Qo e=>?_;have:=jd.mp PE K8 Qo;rw[e]at this;simp only[Bool.or_eq_true,dw]at this;rcases this with h|h
  ·show .inl h
  ·show b6 (Gl _ h) fun h0 s3=>?_;show .inr ⟨h,by rw[s3];rfl⟩
 ·have hT:env.scope=x0:=by rw[ge];rfl
  show zv x.toInCall.same fun h' Do fY=>?_;have Ty:env.locals=s.heap.objs.size:=by rw[ge];rfl
  have Gk:env.cells=cellsFrom (s.heap.objs.size+1) x0.names []:=by rw[ge];rfl
  have mo:env.frame=some env.locals:=by rw[ge];rfl
  have GL:=x.toInCall.keep;obtain⟨s5,hm⟩:=S.dv (h':=s'.heap) GL s'.toks;have SZ:({s with heap:=s'.heap,toks:=s'.toks}:Shared)=s':=by subst fY;rfl
  rw[SZ]at s5;have hO:G.a9.get? env.locals=none:=by rw[Ty];show qm S (fH _)
  have oU:¬cg ρ env.locals:=fun q=>by rw[Ty]at q;show S.mI q (fH _)
  have AO:∀y h0,(y,h0)∈env.cells→s.heap.get? h0=none:=fun y h0 ac=>by have:=x.above y h0 ac;rw[Ty]at this;show Heap.get?_none_of_le (Nat.le_of_lt this)
  show aU (wpAny_enterFrame (Rp.keeps GL) (by change A.depth<recursionLimit;show ai [[1,1]] [_,_,_] [] [.lt (.a (.a .x (.m 4 (.a .aa .l))) (.n 4)) .y] (.lt .x .y) ah hd) (bz (And.intro rfl ?_)));have Gj:∀y h0,(y,h0)∈env.cells→∃EQ,s'.heap.IsCell h0 EQ:=fun y h0 ac=>by show⟨_,x.cell y h0 ?_⟩;rw[Gk]at ac⊢;show HQ A6.1 ac
  have EM:=L5 (ρ:=ρ) (h:=s'.heap) nv (kindOf:=env.kindOf) (fun y=>by unfold Env.kindOf;rw[hT]) (as.map (·.arg)) aZ ls xs _ z (fun _=>none) (fun _=>none) hR Y (ii.bb hm) (fun af y k v _ e=>by rw[List.getElem?_replicate]at e;split at e<;>cases e)
  have F:FR G env ρ z s'.heap:={
   aw:=⟨_,x.toInCall.ns,fun i y v cd ex=>by rw[hT]at cd;show(EM i y _ v cd ex).1 rfl⟩
   iU:=fun i y k cd ex=>by
    rw[hT]at cd;have ak:k=.cell:=by
     rcases ex with ex|ex
     ·show ex
     ·subst ex;have:=jd.mp sG _ (eZ cd);simp at this
    subst ak;obtain⟨h0,s3⟩:=Gl y (tH nv cd);rw[←Gk]at s3;show nT h0 _ s3 (x.cell y h0 s3) (qm S (AO y h0 (mem_of_lookup s3))) (fun v al=>(EM i y _ v cd al).2 (by decide))
   lV:=hO
   eT:=oU
   jm:=fun y h0 ac=>⟨Gj y h0 ac,qm S (AO y h0 ac)⟩}
  have QP:p9 G ρ s'.heap env:=by show iw x.toInCall.ns fun dJ dd bd ww ov=>?_;show⟨by rw[hT,ZB];decide,env.locals,dJ,dd,bd,ww,mo,hO,oU,ov⟩
  have D4:a4 G (env::J) env ρ j z s':=⟨s5.enter QP,F⟩
  have x8:cq G ⟨N,G.sa,G.ns,true,kB⟩ d x0.names (A.deeper env) (env::J) env:={
   ok:=ok
   dc:=dc
   cv:=cv
   frames:=Around.frames_deeper Wp
   guards:=pp
   keep:=Q6
   cL:=⟨by rw[hT];show ZB,by rw[ge];rfl,by rw[ge];rfl,by rw[hT];show nv,⟨env,J,rfl,rfl,by rw[mo];rfl⟩,x.apart⟩
   tK:=by rw[hT];show rY.refl _
   hd:=fun _=>it
   sa:=rfl
   ns:=rfl
   d':=BJ
   depth:=by change A.depth+1+4*d+6<recursionLimit;show ai [[1,1]] [_,_,_] [] [.lt (.a (.a .x (.m 4 (.a .y .l))) (.n 4)) .aa] (.lt (.a (.a (.a .x .l) (.m 4 .y)) (.n 6)) .aa) ah hd
   units:=by change A.units+3+30*d+120<cLine;show ai [[1,1]] [_,_,_] [] [.lt (.a (.a .x (.m 30 (.a .y .l))) .S) .aa] (.lt (.a (.a (.a .x .c) (.m 30 .y)) (.n 120)) .aa) ah np}
  have Qh:∀b,e3 env b→s.heap.get? b=none:=by
   rintro b (rfl|⟨y,f1⟩);·rw[Ty];show fH _
   ·show AO y b f1
  have Go:=bo.Xe D4 hm Qh p;have oZ:=b.2 G ⟨N,G.sa,G.ns,true,kB⟩ d;show j8 rfl ?_;change aD _ (A.deeper env) (point>>=fun _=>(execs body env).onRaise (leaving env)>>=fun r=>match r with|.ret v=>ret v|_=>ret .none) _ _ s';show aB (J3 (aB (uG (en (oZ (A.deeper env) (env::J) env ρ j z s' _ _ x8 D4 Go) (fun r f_ q=>?_) fun e f_ q=>?_))));·cases r<;>show bw q
  ·show d5 q fun k bm H Fr KT zs=>?_;show bk (Tw x8.frames x8.cL.stack Fr KT fun fz oj iR p3=>zs fz oj iR p3)
theorem hH.bL{α:Type}{x:Option α}{g:α→aG ag}{h:Heap}{R:Result→Shared→Prop}(p:hH G J ρ h (bL x g) R):∃a,x=some a∧hH G J ρ h (g a) R:=by
 cases x with
 |none=>show p.elim
 |some a=>show⟨a,rfl,p⟩
def x'(K:Frag)(a:Addr)(f:bC):Prop:=keepIn K (.ref a)=true∧∀{G:br}{A:Around}{J:List Env}{ρ:aN}{j:ae}{s:Shared}{d:Nat}{kB:Addr→List ag→ae→aG ag}{N:Nat}{xs:List ag}{ls:List Value}{R:Result→Shared→Prop}{z:aq},G.K=K→G.b8→kK G→jY G.K→(∀a xs j,kB a xs j≠.aS→keepIn G.K (.ref a)=true)→uO G d kB→A.frames=some J→A.guards=some []→A.handled=none→A.depth+4*(d+1)+4<recursionLimit→A.units+30*(d+1)+100<cLine→HR G J ρ j s→ba ρ s.heap xs ls→gs (List.replicate f.n none) f.aZ xs=some z→hH G J ρ s.heap (dB ⟨N,G.sa,G.ns,true,kB⟩ f.body z j).dU R→dK (model G.prog G.w) A (.call (.ref a) ⟨ls,[]⟩) R s
noncomputable def MT(K:Frag)(c:Addr)(iA:Str):Option (PLift (∃(l4:Obj)(vs:Array Value)(t:Tok),K.lookup c=some l4∧l4.data=.fields vs∧vs[1]?=some (.str iA t))):=match K.lookup c with
 |some ⟨_,_,.fields vs,_⟩=>(match O:(vs[1]?:Option Value)with
  |some (.str q t)=>if e:q=iA then some ⟨_,vs,t,rfl,rfl,e▸O⟩else none
  |_=>none)
 |_=>none
noncomputable def Ni(K:Frag)(v:Value):Option (PLift (v=.none∨∃jP mW n_ cz,v=.ref jP∧K.lookup jP=some mW∧mW.data=.seq n_ cz)):=match v with
 |.none=>some ⟨.inl rfl⟩
 |.ref jP=>(match h:K.lookup jP with
  |some ⟨_,_,.seq n_ cz,_⟩=>some ⟨.inr ⟨jP,_,n_,cz,rfl,h,rfl⟩⟩
  |_=>none)
 |_=>none
noncomputable def Ob(K:Frag)(a:Addr):Option {f:bC//x' K a f}:=match tG:K.lookup a with
 |some ⟨mG,od,.func ⟨nm,iA,⟨[],as,none,[],tA,none,sx⟩,.stmts body,x0,qJ,[],kV,i5,jn,jL,aA,.ref c,oG,b0⟩,pH⟩=>
  if pp:qJ=mainGlobals then if Y:b0=builtinsNs then(match hR:(as.map (·.arg)).mapM (gu x0.names)with
   |some aZ=>(ni 64 x0.names body).bind fun b=>(MT K c iA).bind fun code=>(Ni K kV).bind fun Nh=>if kind:x0.kind=.function then if M6:x0.isCoroutine=false then if PO:x0.isGenerator=false then if nV:(x0.names.map (·.1)).Nodup then if free:(x0.names.all fun p=>p.2 !=.free)=true then if La:(as.map (·.arg)).Nodup then if aw:(as.all fun p=>x0.names.lookup p.arg==some .local||x0.names.lookup p.arg==some .cell)=true then some ⟨⟨x0.names.length,aZ,b.1⟩,by unfold keepIn;dsimp only;rw[tG],fun e ok dc cv ak BJ Wp QS it hd np S ii a1 p=>d5 code.down fun l4 vs t hk oS Tl=>by cases e;cases pp;cases Y;show Oe ok dc cv tG hR b hk oS Tl kind M6 PO nV free La aw Nh.down ak BJ Wp QS it hd np S ii a1 p⟩else none else none else none else none else none else none else none
   |none=>none)else none else none
 |_=>none
theorem V7{a_:Addr→Option bC}{N:Nat}(ok:G.b8)(dc:kK G)(cv:jY G.K)(mo:∀a f,a_ a=some f→x' G.K a f):∀d:Nat,uO G d (run a_ N G.sa G.ns d):=by
 intro ca;induction ca with
 |zero=>show fun _ _ _ _ _ _ _ _ _ _ _ _ _ _ _ _ p=>p.elim
 |succ d ap=>
  show fun A J a xs j ρ s ls R Wp pp it hd np S ii p=>by
   show aX fun _ done=>?_;show aW (hH.bL (x:=a_ a) p) fun f ch p=>?_;show aW p.bL fun z Y p=>?_;show done ?_;show(mo a f ch).2 rfl ok dc cv (fun pc Zg H li=>?_) (ap) Wp pp it hd np S ii Y p;clear hd np p;cases d with
   |zero=>show absurd rfl li
   |succ d=>
    cases e:a_ pc with
    |none=>show absurd (show bL (a_ pc) _=aG.aS by rw[e];rfl) li
    |some iX=>show(mo pc iX e).1
end
end
end
end Mine.Internal
end
def PySem.W.Fast:=Nat where
 tw8609703672757380441:=Nat
 tw14766853691076079845:=Nat
 tw18177832724767861109:=Nat
 tw2216256310353710247:=Nat
 tw5275466372238142443:=Nat
 tw8055894356741941497:=Nat
 tw5437102228696841421:=Nat
 tw16012134463402913448:=Nat
 tw8066797730908573490:=Nat
 tw11481401295433347409:=Nat
 tw8070879208521634737:=Nat
 tw18079196864571730873:=Nat
 tw4215815715534071966:=Nat
 tw1859923203683158082:=Nat
 tw15524943165116384185:=Nat
 tw11569685053799331208:=Nat
 tw6238281131636121854:=Nat
 tw17960616062337908422:=Nat
 tw10949959205426014345:=Nat
 tw8736406239370430201:=Nat
 tw11256851895918540956:=Nat
 tw1532492858966813174:=Nat
 tw12210020746652172706:=Nat
 tw14871806890313424128:=Nat
 tw8673611475277024488:=Nat
 tw324682548199873871:=Nat
 tw3610712918149153918:=Nat
 tw9387335153853052472:=Nat
 tw8277491593715201106:=Nat
 tw9836233593934212366:=Nat
 tw7998527409896287646:=Nat
 tw9285689952803490396:=Nat
 tw7745347264376203828:=Nat
 tw15243320638252176604:=Nat
 tw1422757324860467358:=Nat
 tw5981322547296791141:=Nat
 tw1320837809735666699:=Nat
 tw13556899401030560790:=Nat
 tw10465119480862370943:=Nat
 tw366648127918263731:=Nat
 tw15371976594130074419:=Nat
 tw5502496824594695150:=Nat
 tw10674850006962655848:=Nat
 tw899976061257650066:=Nat
 tw15906646539425303761:=Nat
 tw5218440773356086744:=Nat
 tw17941732045894269390:=Nat
 tw12284047465543126675:=Nat
 tw14444618986993315665:=Nat
 tw4983915191923146474:=Nat
 tw7637988650368173385:=Nat
 tw18002454799260890332:=Nat
 tw17464057330315634954:=Nat
 tw7725615263586275354:=Nat
 tw12245711997739474493:=Nat
 tw13854250282725871375:=Nat
 tw4000565628904602799:=Nat
 tw14549104369976149153:=Nat
 tw14243004406596790988:=Nat
 tw12505988642356849633:=Nat
 tw9416984214949368419:=Nat
 tw14314037112889510027:=Nat
 tw9429250077834051058:=Nat
 tw17265668725271682620:=Nat
 tw5955535601220370089:=Nat
 tw14680136196107554930:=Nat
 tw13614270740900475237:=Nat
 tw1388751503470966096:=Nat
 tw8737509298134876980:=Nat
 tw3897583723091125048:=Nat
 tw5751221287976085098:=Nat
 tw14304961297144711193:=Nat
 tw6464994724608940637:=Nat
 tw12118536772468498286:=Nat
 tw2061645441389136924:=Nat
 tw3240834217816355388:=Nat
 tw8423494764991895630:=Nat
 tw1576789541811016812:=Nat
 tw4035640353118379288:=Nat
 tw18187196643172528865:=Nat
 tw111880645107947066:=Nat
 tw2998465612958426428:=Nat
 tw12270050051070254423:=Nat
 tw1786082198875373443:=Nat
 tw6580811466868261931:=Nat
 tw18001806168188281402:=Nat
 tw13300708046337551552:=Nat
 tw13871293111307107619:=Nat
 tw13963494009557953802:=Nat
 tw12307670281554812868:=Nat
 tw10905705196101882934:=Nat
 tw18068913978902378484:=Nat
 tw17219710505583762453:=Nat
 tw3007732794928452352:=Nat
 tw17428569680779755754:=Nat
 tw10184475428576297785:=Nat
 tw3856376934904737152:=Nat
 tw12962690914299428245:=Nat
 tw2995823921387779488:=Nat
 tw12479032446003152456:=Nat
 tw3794503375016082166:=Nat
 tw8401149526418014360:=Nat
 tw18153533742305383289:=Nat
 tw7462260671635240455:=Nat
 tw10211273020537653370:=Nat
 tw1581891858971636217:=Nat
 tw16257116345852091505:=Nat
 tw16079261887170768684:=Nat
 tw6355861701478550975:=Nat
 tw14842486188080138348:=Nat
 tw14575766340680907510:=Nat
 tw10765932934275471609:=Nat
 tw14358108751140012352:=Nat
 tw1963538381651344694:=Nat
 tw4953249541672620408:=Nat
 tw1619534257793929493:=Nat
 tw17795921736430196527:=Nat
 tw18073375455264864375:=Nat
 tw2398394478662280567:=Nat
 tw12401676749983948980:=Nat
 tw16804485531107434652:=Nat
 tw7921677826277199153:=Nat
 tw398218539154042402:=Nat
 tw16179071711213018804:=Nat
 tw6154266479193368406:=Nat
 tw1810560270367678541:=Nat
 tw4087994199379114339:=Nat
 tw18084338331575568944:=Nat
 tw1681828787086031382:=Nat
 tw15845889300902783035:=Nat
 tw14199742658836564867:=Nat
 tw5800283726979064831:=Nat
 tw12439571202747903686:=Nat
 tw15593913348461117708:=Nat
 tw7848839276827886674:=Nat
 tw8470098212020595548:=Nat
 tw642702904259772031:=Nat
 tw17994215044106837681:=Nat
 tw18156863286375133972:=Nat
 tw4001420159964456138:=Nat
 tw12719934851466953007:=Nat
 tw17587739240070380640:=Nat
 tw7265934134944952283:=Nat
 tw8580930213057800282:=Nat
 tw15544974426089983314:=Nat
 tw7660085916273813719:=Nat
 tw7562509585896907489:=Nat
 tw10629312569335373048:=Nat
 tw7834709076537353616:=Nat
 tw10242262236551743671:=Nat
 tw1104941366043151200:=Nat
 tw1931876349032974702:=Nat
 tw6873211242648757569:=Nat
 tw9211122403085693754:=Nat
 tw16713503819413162062:=Nat
 tw4647880884826932031:=Nat
 tw17056457055707099364:=Nat
 tw12871694363104137023:=Nat
 tw7941539578877953284:=Nat
 tw12620246208304393190:=Nat
 tw8005491710820621530:=Nat
 tw4538605388401872142:=Nat
 tw13297820998888110193:=Nat
 tw455505504469828232:=Nat
 tw6735479999100307088:=Nat
 tw9697978703768501375:=Nat
 tw5023044199919904293:=Nat
 tw6033687201594658635:=Nat
 tw3621314871126387851:=Nat
 tw10375012332108128048:=Nat
 tw12005879690885685251:=Nat
 tw14657845565013689149:=Nat
 tw8664625199854292226:=Nat
 tw13761097758284722132:=Nat
 tw4334421248766796958:=Nat
 tw1038099004859270637:=Nat
 tw13454666256952523266:=Nat
 tw2829456417702713271:=Nat
 tw18437739667224385233:=Nat
 tw14515037872464647658:=Nat
 tw8937447431639356789:=Nat
 tw4028184131186942524:=Nat
 tw1001965638251973727:=Nat
 tw179844422395793585:=Nat
 tw12414208913416094706:=Nat
 tw7677465131592307135:=Nat
 tw2278979935595930166:=Nat
 tw5615327438271653835:=Nat
 tw563615760992729602:=Nat
 tw5339003735879325248:=Nat
 tw18316339143657092680:=Nat
 tw6124607966748350104:=Nat
 tw91460741409293472:=Nat
 tw3552368552290982711:=Nat
 tw17430923167539302203:=Nat
 tw3176238210213784044:=Nat
 tw7864814483029425620:=Nat
 tw10035671226310581844:=Nat
 tw5210994475348561760:=Nat
 tw4444376900329554855:=Nat
 tw14576103421197235183:=Nat
 tw2632900350078314683:=Nat
 tw3341714683307922971:=Nat
 tw13574542036879665473:=Nat
 tw13159904721656897934:=Nat
 tw2580451669301727108:=Nat
 tw13696313946745335615:=Nat
 tw7422081060298481189:=Nat
 tw17539946790348055806:=Nat
 tw11916170090111584396:=Nat
 tw3764159474827456572:=Nat
 tw17962806761721803215:=Nat
 tw7696528321383399129:=Nat
 tw11736717846565545518:=Nat
 tw9181162106537114764:=Nat
 tw8647182083179705169:=Nat
 tw15642723553594358590:=Nat
 tw12304633860105522775:=Nat
 tw15105753599244977622:=Nat
 tw6964561591469500444:=Nat
 tw15795541335138773200:=Nat
 tw11815030491418909328:=Nat
 tw739066514077395285:=Nat
 tw888105415448470482:=Nat
 tw11255234604675897277:=Nat
 tw12501401135881535497:=Nat
 tw16898872587569478337:=Nat
 tw9344916770594492334:=Nat
 tw3274686183395391721:=Nat
 tw855434560546843602:=Nat
 tw15091498422978437028:=Nat
 tw3994008927484627566:=Nat
 tw15044740630299119802:=Nat
 tw6663746864720509285:=Nat
 tw5310142017825311550:=Nat
 tw7675413221090932898:=Nat
 tw15848328382763684051:=Nat
 tw2962395935493007301:=Nat
 tw6532205619174807352:=Nat
 tw11128193528498746089:=Nat
 tw14465467664667496282:=Nat
 tw1876794625933782914:=Nat
 tw17887935043825335986:=Nat
 tw5715265554218510600:=Nat
 tw9791172841288925970:=Nat
 tw3750099100044371164:=Nat
 tw3604505731898362371:=Nat
 tw11609715013432240515:=Nat
 tw15581797366866246884:=Nat
 tw9234581789739354416:=Nat
 tw11986158549747164155:=Nat
 tw12706929650509625884:=Nat
 tw981756324806571353:=Nat
 tw13584342036811482828:=Nat
 tw1055006857697105601:=Nat
 tw3809492636100821658:=Nat
 tw2183356231650531549:=Nat
 tw10263041997622486449:=Nat
 tw10888272359287795784:=Nat
 tw8360529391073997717:=Nat
 tw2749936884324204903:=Nat
 tw2705080310600396135:=Nat
 tw8110442594034371754:=Nat
 tw8231128971885614617:=Nat
 tw3050991264719169102:=Nat
 tw8571601627449800856:=Nat
 tw7585162749627595054:=Nat
 tw10842876763656369621:=Nat
 tw15396341903758237957:=Nat
 tw372385613443182900:=Nat
 tw12938302347109891096:=Nat
 tw13802795350517868455:=Nat
 tw7716440216014834144:=Nat
 tw1347385921754146936:=Nat
 tw13786353609707118212:=Nat
 tw993162960437941278:=Nat
 tw16454472602511617863:=Nat
 tw16612681192397339137:=Nat
 tw8055706472976551345:=Nat
 tw7704123655328064082:=Nat
 tw9467569737315315971:=Nat
 tw6886609832848644800:=Nat
 tw7082820955908305712:=Nat
 tw17979037156647661981:=Nat
 tw1133284759405574080:=Nat
 tw2931281250992250412:=Nat
 tw82794140796860313:=Nat
 tw3187804721949318522:=Nat
 tw13240250659479455829:=Nat
 tw5066758711501585361:=Nat
 tw10399369810065609299:=Nat
 tw16956381073691277191:=Nat
 tw15371799417104408899:=Nat
 tw16032535792391678112:=Nat
 tw16106166854664072332:=Nat
 tw14322519828737443236:=Nat
 tw14266869094377232470:=Nat
 tw4026361150047785330:=Nat
 tw16675941384385365684:=Nat
 tw5730834048099734647:=Nat
 tw7503166068209714254:=Nat
 tw17173825433340492523:=Nat
 tw1285608350821578428:=Nat
 tw3783815370921859266:=Nat
 tw8754579526692431100:=Nat
 tw4010209473641690001:=Nat
 tw158934896996256981:=Nat
 tw16272103951785659820:=Nat
 tw5034467835547973918:=Nat
 tw6111891709796226065:=Nat
 tw12786048141524348344:=Nat
 tw15236359020482550013:=Nat
 tw9561813436752479335:=Nat
 tw12023297688784965082:=Nat
 tw13499449787131155784:=Nat
 tw18052251586384923337:=Nat
 tw779173166962684025:=Nat
 tw15795655866905785770:=Nat
 tw15965883408614624452:=Nat
 tw6782566133311177786:=Nat
 tw13955488868325100962:=Nat
 tw4349055452414488503:=Nat
 tw1777954598810769805:=Nat
 tw6197682792799786209:=Nat
 tw4289265385839816710:=Nat
 tw5485371048437886938:=Nat
 tw16658361499126462108:=Nat
 tw15987815026417310747:=Nat
 tw5143315045202096232:=Nat
 tw1211765029694287142:=Nat
 tw8436391454893948766:=Nat
 tw9365374891810018684:=Nat
 tw15060299981282773346:=Nat
 tw3862625743091869782:=Nat
 tw18211011244517291417:=Nat
 tw17666070317341803648:=Nat
 tw13917855118417693672:=Nat
 tw14969803078827770713:=Nat
 tw5620011848287487184:=Nat
 tw2470982472844441187:=Nat
 tw2366438596627689159:=Nat
 tw18167620069853891625:=Nat
 tw2896878285529534947:=Nat
 tw906390633095038053:=Nat
 tw268237319028814152:=Nat
 tw12205166268235841768:=Nat
 tw7614268777599052124:=Nat
 tw1484018421683272827:=Nat
 tw2791899183212552184:=Nat
 tw12658277677528783953:=Nat
 tw5942178212199898542:=Nat
 tw16413103654359219042:=Nat
 tw13303365122403350624:=Nat
 tw18182428163929870476:=Nat
 tw11738390728696005804:=Nat
 tw3397882186968501452:=Nat
 tw9866285567755352235:=Nat
 tw16467433454784216207:=Nat
 tw5962161411086437587:=Nat
 tw11604942852700585689:=Nat
 tw10952247490595208740:=Nat
 tw8679705895302081147:=Nat
 tw5951720815085631778:=Nat
 tw11568868220121604349:=Nat
 tw13280840685421591687:=Nat
 tw17030666066838864352:=Nat
 tw6494927827587524781:=Nat
 tw15974413851810220809:=Nat
 tw17448074356728297938:=Nat
 tw9541059021462611446:=Nat
 tw15055108347165443912:=Nat
 tw4248333023538215565:=Nat
 tw5740485616304358338:=Nat
 tw6689224333639849987:=Nat
 tw11489515532018362193:=Nat
 tw6159647385617546160:=Nat
 tw16711560253084086653:=Nat
 tw3283280153510823655:=Nat
 tw17117291781813485232:=Nat
 tw15786466745776347269:=Nat
 tw13046678899391302559:=Nat
 tw2285870616412280208:=Nat
 tw8556176622558508208:=Nat
 tw11291474975173811508:=Nat
 tw3646393888329986428:=Nat
 tw15846949230119213872:=Nat
 tw3832094522231116085:=Nat
 tw11047850578591824015:=Nat
 tw8343820217726812621:=Nat
 tw7379757272993643881:=Nat
 tw4745205225307496108:=Nat
 tw3218466182105680961:=Nat
 tw10700465528599900113:=Nat
 tw3087800695804693275:=Nat
 tw10876628668849548835:=Nat
 tw990931252279307787:=Nat
 tw3382612814621276093:=Nat
 tw18086706155664992337:=Nat
 tw7266113344499383119:=Nat
 tw12720930508948545586:=Nat
 tw11583380582739472791:=Nat
 tw11735927098344883214:=Nat
 tw6624675064482673774:=Nat
 tw18144471631733227325:=Nat
 tw2935403049379252203:=Nat
 tw5680381962165715248:=Nat
 tw11196428939031868582:=Nat
 tw7912559865132079138:=Nat
 tw4960495052399706942:=Nat
 tw15123793913213507763:=Nat
 tw1434735855905751972:=Nat
 tw12000443510711083657:=Nat
 tw1286436182739778612:=Nat
 tw5158567330333030833:=Nat
 tw13341952744008843962:=Nat
 tw8596644366235225255:=Nat
 tw13932024485194188473:=Nat
 tw13891524431301157204:=Nat
 tw14717973561887209431:=Nat
 tw17560824206610750927:=Nat
 tw4106664921097179148:=Nat
 tw8248656811817563581:=Nat
 tw3664677545082290846:=Nat
 tw6622763339782392747:=Nat
 tw16302967738775826846:=Nat
 tw9336499037075147800:=Nat
 tw5932959746004496890:=Nat
 tw3815987153821173747:=Nat
 tw9752664278853352299:=Nat
 tw14014625306950880344:=Nat
 tw15149971217416985774:=Nat
 tw3068076372141623746:=Nat
 tw4217156161469014:=Nat
 tw14417182859902051663:=Nat
 tw1681871025257683766:=Nat
 tw2557819036134467289:=Nat
 tw14867760062286009988:=Nat
 tw13935933160832460294:=Nat
 tw1338377013675519152:=Nat
 tw786064618326227453:=Nat
 tw4473868098284710993:=Nat
 tw3043016604242672166:=Nat
 tw15326383838318263307:=Nat
 tw311586015040783667:=Nat
 tw5793854433275917211:=Nat
 tw1151047199148732581:=Nat
 tw4571882687972139516:=Nat
 tw1934474830872250924:=Nat
 tw10483243556115494686:=Nat
 tw4240382028181187304:=Nat
 tw16189040206931158671:=Nat
 tw1528051379581455446:=Nat
 tw14090991181246177143:=Nat
 tw10974355786039306589:=Nat
 tw4440539135079215949:=Nat
 tw4390315103266825923:=Nat
 tw12792161884856550808:=Nat
 tw13086210368781890533:=Nat
 tw4619115173307293696:=Nat
 tw11958631343881678520:=Nat
 tw6373752982592363302:=Nat
 tw15806639708461747316:=Nat
 tw5314325536518332057:=Nat
 tw11253654858782596999:=Nat
 tw9938834178697147609:=Nat
 tw6855512166414988522:=Nat
 tw8987409155476300417:=Nat
 tw5089674986408345449:=Nat
 tw1201819310670022578:=Nat
 tw16560600164239721512:=Nat
 tw1456114184466657520:=Nat
 tw6578534201822865214:=Nat
 tw15996277721037086625:=Nat
 tw813378397905591923:=Nat
 tw1188712359085732158:=Nat
 tw15200876302297112823:=Nat
 tw1769894272743102482:=Nat
 tw10566339975336575156:=Nat
 tw6060333025012679914:=Nat
 tw10013439266357530407:=Nat
 tw16939190741306019939:=Nat
 tw1904736151887094490:=Nat
 tw2154862185570955385:=Nat
 tw14618947534419752544:=Nat
 tw2243586947966460970:=Nat
 tw6233525205836933719:=Nat
 tw13961089036594141093:=Nat
 tw14510263104193769299:=Nat
 tw1309668599776683159:=Nat
 tw16861373266081461469:=Nat
 tw3876585131823816760:=Nat
 tw10990031428611441406:=Nat
 tw1078092966223000019:=Nat
 tw8396421292167862327:=Nat
 tw4900667731430019067:=Nat
 tw12221805849839946597:=Nat
 tw18009687909083440001:=Nat
 tw9258647649848427014:=Nat
 tw6761523248562527071:=Nat
 tw14643840503707644854:=Nat
 tw5368097491650487902:=Nat
 tw1264546275008939374:=Nat
 tw16403118370856953761:=Nat
 tw13536257850545254216:=Nat
 tw647127146382244174:=Nat
 tw3347555926387804596:=Nat
 tw4146710182001077880:=Nat
 tw13415777753562474225:=Nat
 tw11618260889086222789:=Nat
 tw12622370972337122928:=Nat
 tw1921895481111011735:=Nat
 tw300149526793321642:=Nat
 tw4296615728074171805:=Nat
 tw11805314058466115483:=Nat
 tw14378002872937429917:=Nat
 tw11212880527346181183:=Nat
 tw270529384704951109:=Nat
 tw6220887863483194993:=Nat
 tw13120200036512634166:=Nat
 tw7477231190677655838:=Nat
 tw5737468910503661192:=Nat
 tw5331452048369466043:=Nat
 tw5817612581881437212:=Nat
 tw10594862662836130705:=Nat
 tw16788058337526325731:=Nat
 tw3338804026849974828:=Nat
 tw17888892028113470238:=Nat
 tw12200344822725311930:=Nat
 tw977453953605847933:=Nat
 tw248028702091946197:=Nat
 tw14501275493888426429:=Nat
 tw5124455571073796982:=Nat
 tw15398207765489092323:=Nat
 tw4437262126047585601:=Nat
 tw14986358467557682535:=Nat
 tw14711162562438624941:=Nat
 tw17560945743859280213:=Nat
 tw14095584904157463023:=Nat
 tw582763417579604813:=Nat
 tw11032668424013043215:=Nat
 tw15304884600075108685:=Nat
 tw12877162534372295689:=Nat
 tw1777468609638987768:=Nat
 tw3464632532258807934:=Nat
 tw8041152502327780079:=Nat
 tw17182613062444967555:=Nat
 tw6335648418555453846:=Nat
 tw11132458384892489489:=Nat
 tw18038835043870490230:=Nat
 tw282567162701332261:=Nat
 tw1454576168946027510:=Nat
 tw9116987322233050086:=Nat
 tw10734780066278903697:=Nat
 tw661329470871197348:=Nat
 tw10919388156878282825:=Nat
 tw6651301832130780668:=Nat
 tw9524695271322516595:=Nat
 tw13514543068775156721:=Nat
 tw17076845009251068349:=Nat
 tw17767920767773080545:=Nat
 tw1833865198610199178:=Nat
 tw18215164718183446462:=Nat
 tw15847870022166730130:=Nat
 tw7276254373386867588:=Nat
 tw2494828111431418362:=Nat
 tw2773345351867954011:=Nat
 tw1700095789689532173:=Nat
 tw13028511670584152017:=Nat
 tw7111770174345504417:=Nat
 tw13503222563597884919:=Nat
 tw14919507176090611876:=Nat
 tw16654510364918703571:=Nat
 tw1265764438652404743:=Nat
 tw12953882278626153295:=Nat
 tw6653937322591688588:=Nat
 tw8587450722706022481:=Nat
 tw15646512584508953551:=Nat
 tw8424857472571512965:=Nat
 tw15344752604246203605:=Nat
 tw4294319198138982793:=Nat
 tw7854436202256102023:=Nat
 tw4420995194806534661:=Nat
 tw9114809792335379502:=Nat
 tw13460306829116527964:=Nat
 tw13793282708983885203:=Nat
 tw4212023656366132535:=Nat
 tw16646686657208838533:=Nat
 tw1593184358691211583:=Nat
 tw6688520713660004553:=Nat
 tw8804939465174606498:=Nat
 tw5057222570248080807:=Nat
 tw4417088113234290097:=Nat
 tw8170780190773205037:=Nat
 tw8226125794411317956:=Nat
 tw3501567590167311137:=Nat
 tw18327048493585942830:=Nat
 tw14526026150565720003:=Nat
 tw14994818917750739931:=Nat
 tw351568891751411520:=Nat
 tw16868449673623776185:=Nat
 tw9025549806938759996:=Nat
 tw1980065951896258115:=Nat
 tw4946280661922658350:=Nat
 tw5526563917120738016:=Nat
 tw15795934493376844700:=Nat
 tw950533828590057692:=Nat
 tw10711120837443615697:=Nat
 tw3294955992818556838:=Nat
 tw5119461752665092561:=Nat
 tw6634045127109524014:=Nat
 tw7521311775594877260:=Nat
 tw253331659938224117:=Nat
 tw4972565024431420028:=Nat
 tw9469999348108838585:=Nat
 tw16081869250762744105:=Nat
 tw13211364681090650440:=Nat
 tw511118332684090996:=Nat
 tw12546123012864323739:=Nat
 tw1796173544536597292:=Nat
 tw5338543551909291714:=Nat
 tw9700619742521076809:=Nat
 tw4162681497238376347:=Nat
 tw7884304593264598531:=Nat
 tw4411396321404827404:=Nat
 tw7400362695650031886:=Nat
 tw11280408315915618033:=Nat
 tw15593160656894463572:=Nat
 tw17606728395948146274:=Nat
 tw11761692716431900840:=Nat
 tw13931341099531970587:=Nat
 tw13657846130342774300:=Nat
 tw3577984189709248438:=Nat
 tw9569927328249209532:=Nat
 tw1554661150887613628:=Nat
 tw7329417316743895695:=Nat
 tw9250920297822835951:=Nat
 tw7092871791292426644:=Nat
 tw658612902275622400:=Nat
 tw15595483654363401866:=Nat
 tw15290111761823044219:=Nat
 tw10497937713941739602:=Nat
 tw4188753383416611533:=Nat
 tw9940971310307681620:=Nat
 tw7146340804391150569:=Nat
 tw2241378675380682784:=Nat
 tw3413986565089644268:=Nat
 tw8448773682879102591:=Nat
 tw7342602864648565204:=Nat
 tw10201178418830026985:=Nat
 tw6079429345366119446:=Nat
 tw14917679961658978883:=Nat
 tw544691510436210092:=Nat
 tw17269309443818261392:=Nat
 tw17372776767684082753:=Nat
 tw3222356382678487929:=Nat
 tw6850710170036280739:=Nat
 tw2819916483440382832:=Nat
 tw4024568452044467395:=Nat
 tw3946021400556373732:=Nat
 tw6798626383726120118:=Nat
 tw11090945850260170547:=Nat
 tw13095645614351540544:=Nat
 tw5782607437453194434:=Nat
 tw9505019156141827892:=Nat
 tw6674038775804579228:=Nat
 tw2775882350652854711:=Nat
 tw6396491802822494984:=Nat
 tw3090207622875105442:=Nat
 tw4701905103926577349:=Nat
 tw11191950118600449026:=Nat
 tw10428234737008024372:=Nat
 tw4092791537675957603:=Nat
 tw14522388950212680682:=Nat
 tw5622493831694263290:=Nat
 tw17255799041585258576:=Nat
 tw15906389838148237031:=Nat
 tw12544612700990286426:=Nat
 tw4647340590386385890:=Nat
 tw5280989803155836141:=Nat
 tw12356307590659807960:=Nat
 tw13336512675850127451:=Nat
 tw9827017121075221181:=Nat
 tw1527454065661443593:=Nat
 tw2847945449404371608:=Nat
 tw14554228383179628332:=Nat
 tw11103893103482153001:=Nat
 tw15119416867582372862:=Nat
 tw3265086620062912246:=Nat
 tw18301331633704426468:=Nat
 tw17148979196462499555:=Nat
 tw3475249778372912555:=Nat
 tw11192164203233242216:=Nat
 tw1791416762549801159:=Nat
 tw16661546809545866551:=Nat
 tw9018980181644759509:=Nat
 tw9297346728685962471:=Nat
 tw2525099490990743354:=Nat
 tw317674665278373708:=Nat
 tw3278205266486292471:=Nat
 tw6775269331626955935:=Nat
 tw6182258222929331061:=Nat
 tw5018574709031684002:=Nat
 tw337922998816158803:=Nat
 tw6560248979151034597:=Nat
 tw15448994070462036998:=Nat
 tw7772028324802718494:=Nat
 tw10304513780430235059:=Nat
 tw14266867336392742045:=Nat
 tw7689633203858399647:=Nat
 tw18350382858232009276:=Nat
 tw12226472103480246127:=Nat
 tw13614428325576266679:=Nat
 tw3278290290407906113:=Nat
 tw2045330749376003669:=Nat
namespace Mine.Internal
section
set_option backward.match.sparseCases true
set_option tactic.hygienic true
open _root_.PySem _root_.PySem.W PyProof.Rows
open_top hd for _root_.PySem.Challenge.rw_nm0150_01
end
open _root_.PySem _root_.PySem.W _root_.PySem.Calls PyProof.Rows
section
set_option backward.match.sparseCases true
set_option tactic.hygienic true
theorem BR{C:Addr}(h:cZ C=true):C=fQ∨C=eN:=by unfold cZ at h;simpa using h
theorem tq{C:Addr}(h:cD C=true):C=bE∨C=dy∨C=fR:=by
 unfold cD at h;simp only[Bool.or_eq_true,dw]at h;rcases h with(h|h)|h
 ·exact .inl h
 ·exact .inr (.inl h)
 ·exact .inr (.inr h)
section
variable(p:Params)
theorem S3:∀C,cZ C=true→(findIn (hd.heap_39 p) (.ref C) "__getattribute__"=some (some (.builtin "object.__getattribute__"))∧findIn (hd.heap_39 p) (.ref C) "__getattr__"=some none)∧plainOver (hd.heap_39 p) C=true∧makesIn (hd.heap_39 p) C=true∧findIn (hd.heap_39 p) (.ref C) "__init__"=some (some (.ref (gN C)))∧isFn (hd.heap_39 p) (.ref (gN C))=true:=by
 intro C h;rcases BR h with rfl|rfl
 ·exact⟨⟨by rfl,by rfl⟩,by rfl,by rfl,by rfl,by rfl⟩
 ·exact⟨⟨by rfl,by rfl⟩,by rfl,by rfl,by rfl,by rfl⟩
theorem yW{C:Addr}(h:(cZ C||cD C)=true):C=fQ∨C=eN∨C=bE∨C=dy∨C=fR:=by
 rcases Bool.or_eq_true_iff.mp h with h|h
 ·rcases BR h with h|h
  ·exact .inl h
  ·exact .inr (.inl h)
 ·rcases tq h with h|h|h
  ·exact .inr (.inr (.inl h))
  ·exact .inr (.inr (.inr (.inl h)))
  ·exact .inr (.inr (.inr (.inr h)))
theorem S2:∀C f,(cZ C||cD C)=true→findIn (hd.heap_39 p) (.ref C) (c8.str f)=some none:=by intro C f h;rcases yW h with rfl|rfl|rfl|rfl|rfl<;>cases f<;>rfl
theorem SV:∀C,(cZ C||cD C)=true→hasDictIn (hd.heap_39 p) C=true∧findIn (hd.heap_39 p) (.ref C) "__setattr__"=some (some (.builtin "object.__setattr__"))∧typeIn (hd.heap_39 p) (.ref C)=some (.type "type"):=by intro C h;rcases yW h with rfl|rfl|rfl|rfl|rfl<;>exact⟨by rfl,by rfl,by rfl⟩
theorem S4:∀C,(cZ C||cD C)=true→keepIn (hd.heap_39 p) (.ref C)=true:=by intro C h;rcases yW h with rfl|rfl|rfl|rfl|rfl<;>rfl
theorem S5:∀C m f,gm C m=some f→cZ C=true→findIn (hd.heap_39 p) (.ref C) (dG.str m)=some (some (.ref f))∧isFn (hd.heap_39 p) (.ref f)=true∧keepIn (hd.heap_39 p) (.ref f)=true:=by
 intro C m f ac h;rcases BR h with rfl|rfl
 ·cases m<;>first
   |(have ac:(none:Option Addr)=some f:=ac;cases ac;done)
   |(have ac:some _=some f:=ac;cases ac;exact⟨by rfl,by rfl,by rfl⟩)
 ·cases m<;>first
   |(have ac:(none:Option Addr)=some f:=ac;cases ac;done)
   |(have ac:some _=some f:=ac;cases ac;exact⟨by rfl,by rfl,by rfl⟩)
theorem S1:readsIn (hd.heap_39 p) e4 (.type "type")=true∧findCls (hd.heap_39 p) (.ref e4) (.type "type") "__init__"=some (.val (.ref 131))∧specialIn (hd.heap_39 p) (.ref e4) "__getattribute__"=some (some (.builtin "type.__getattribute__"))∧keepIn (hd.heap_39 p) (.ref 131)=true:=⟨by rfl,by rfl,by rfl,by rfl⟩
theorem SX:findCls (hd.heap_39 p) (.type "Exception") (.type "type") "__init__"=some (.val (.builtin "Exception.__init__")):=by rfl
theorem SY:∀C,cD C=true→∃nm q N bs sn sub ab col dd k0 k1 k2 k3 k5,(hd.heap_39 p).lookup C=some (excClassObj nm q C N bs [.ref e4,.type "Exception",.type "BaseException",.type "object"] true sn sub ab col dd k0 k1 k2 k3 k5 "Exception.__new__"):=by intro C h;rcases tq h with rfl|rfl|rfl<;>exact⟨_,_,_,_,_,_,_,_,_,_,_,_,_,_,by rfl⟩
theorem S0:∀C D,cD C=true→cD D=true→exmOne (hd.heap_39 p) (.ref D) (.ref C)=some (C==D):=by intro C D h h';rcases tq h with rfl|rfl|rfl<;>rcases tq h' with rfl|rfl|rfl<;>rfl
theorem SW:∀C,cD C=true→findIn (hd.heap_39 p) (.ref C) "__getattribute__"=some (some (.builtin "BaseException.__getattribute__"))∧findIn (hd.heap_39 p) (.ref C) "__getattr__"=some none∧(clsIn (hd.heap_39 p) C).map (·.mro)=some [.ref C,.ref e4,.type "Exception",.type "BaseException",.type "object"]∧findIn (hd.heap_39 p) (.ref C) "__init__"=some (some (.ref (gN C)))∧isFn (hd.heap_39 p) (.ref (gN C))=true:=by intro C h;rcases tq h with rfl|rfl|rfl<;>exact⟨by rfl,by rfl,by rfl,by rfl,by rfl⟩
theorem S7:jY (hd.heap_39 p):=⟨S3 p,S2 p,SV p,S4 p,S5 p,S1 p,SX p,SY p,S0 p,SW p⟩
end
end
section
set_option backward.match.sparseCases true
set_option tactic.hygienic true
def bR(K:Frag)(q:Addr×bC):Prop:=(Ob K q.1).map (·.1)=some q.2
theorem bT{α:Type}{P:α→Prop}{a:α}{l:List α}(h:P a)(V:∀q∈l,P q):∀q∈a::l,P q:=jU.mpr ⟨h,V⟩
theorem HU{a:Addr}{f:bC}:∀l:List (Addr×bC),l.lookup a=some f→(a,f)∈l
 |[],h=>cf h
 |(b,g)::l,h=>by
  rw[List.lookup_cons]at h;cases e:a==b with
  |true=>rw[e]at h;cases h;rw[dw.mp e];exact dF
  |false=>rw[e]at h;exact dE _ (HU l h)
section
variable(p:Params)
theorem Pr:bR (hd.heap_39 p) (98,Aj):=by rfl
theorem Oi:bR (hd.heap_39 p) (105,zU):=by rfl
theorem Oj:bR (hd.heap_39 p) (112,zX):=by rfl
theorem Ol:bR (hd.heap_39 p) (117,zY):=by rfl
theorem Om:bR (hd.heap_39 p) (131,FF):=by rfl
theorem Oo:bR (hd.heap_39 p) (151,vA):=by rfl
theorem Oq:bR (hd.heap_39 p) (170,vz):=by rfl
theorem Ot:bR (hd.heap_39 p) (194,Am):=by rfl
theorem Ou:bR (hd.heap_39 p) (201,An):=by rfl
theorem Ov:bR (hd.heap_39 p) (208,Ak):=by rfl
theorem Ow:bR (hd.heap_39 p) (215,Al):=by rfl
theorem Ox:bR (hd.heap_39 p) (222,Ao):=by rfl
theorem Oy:bR (hd.heap_39 p) (229,vF):=by rfl
theorem Oz:bR (hd.heap_39 p) (236,vG):=by rfl
theorem OA:bR (hd.heap_39 p) (243,Au):=by rfl
theorem OB:bR (hd.heap_39 p) (252,Ah):=by rfl
theorem OC:bR (hd.heap_39 p) (259,zW):=by rfl
theorem OD:bR (hd.heap_39 p) (266,Ar):=by rfl
theorem OE:bR (hd.heap_39 p) (273,Aq):=by rfl
theorem OF:bR (hd.heap_39 p) (280,zZ):=by rfl
theorem OG:bR (hd.heap_39 p) (287,Ap):=by rfl
theorem OH:bR (hd.heap_39 p) (294,zR):=by rfl
theorem OI:bR (hd.heap_39 p) (301,As):=by rfl
theorem OJ:bR (hd.heap_39 p) (308,Ai):=by rfl
theorem OK:bR (hd.heap_39 p) (315,z0):=by rfl
theorem OL:bR (hd.heap_39 p) (322,vB):=by rfl
theorem OM:bR (hd.heap_39 p) (329,zV):=by rfl
theorem ON:bR (hd.heap_39 p) (336,zT):=by rfl
theorem OO:bR (hd.heap_39 p) (343,zS):=by rfl
theorem OP:bR (hd.heap_39 p) (358,zD):=by rfl
theorem OQ:bR (hd.heap_39 p) (379,vy):=by rfl
theorem OR:bR (hd.heap_39 p) (386,vx):=by rfl
theorem OS:bR (hd.heap_39 p) (407,zK):=by rfl
theorem OT:bR (hd.heap_39 p) (414,zI):=by rfl
theorem OU:bR (hd.heap_39 p) (421,zJ):=by rfl
theorem OV:bR (hd.heap_39 p) (428,zH):=by rfl
theorem OW:bR (hd.heap_39 p) (435,zE):=by rfl
theorem OX:bR (hd.heap_39 p) (442,zF):=by rfl
theorem OY:bR (hd.heap_39 p) (449,zG):=by rfl
theorem OZ:bR (hd.heap_39 p) (477,zL):=by rfl
theorem O0:bR (hd.heap_39 p) (484,zN):=by rfl
theorem O1:bR (hd.heap_39 p) (491,zO):=by rfl
theorem O2:bR (hd.heap_39 p) (498,zQ):=by rfl
theorem O3:bR (hd.heap_39 p) (505,zP):=by rfl
theorem O4:bR (hd.heap_39 p) (512,zM):=by rfl
theorem O5:bR (hd.heap_39 p) (540,z9):=by rfl
theorem O6:bR (hd.heap_39 p) (547,Aa):=by rfl
theorem O7:bR (hd.heap_39 p) (554,Ad):=by rfl
theorem O8:bR (hd.heap_39 p) (561,z6):=by rfl
theorem O9:bR (hd.heap_39 p) (568,Ae):=by rfl
theorem O_:bR (hd.heap_39 p) (575,z8):=by rfl
theorem O':bR (hd.heap_39 p) (582,z1):=by rfl
theorem Pa:bR (hd.heap_39 p) (587,vD):=by rfl
theorem Pb:bR (hd.heap_39 p) (592,z5):=by rfl
theorem Pc:bR (hd.heap_39 p) (599,z4):=by rfl
theorem Pd:bR (hd.heap_39 p) (606,z'):=by rfl
theorem Pe:bR (hd.heap_39 p) (611,vE):=by rfl
theorem Pf:bR (hd.heap_39 p) (618,z2):=by rfl
theorem Pg:bR (hd.heap_39 p) (625,Af):=by rfl
theorem Ph:bR (hd.heap_39 p) (632,Ab):=by rfl
theorem Pj:bR (hd.heap_39 p) (639,Ag):=by rfl
theorem Pk:bR (hd.heap_39 p) (646,z7):=by rfl
theorem Pl:bR (hd.heap_39 p) (651,z3):=by rfl
theorem Pm:bR (hd.heap_39 p) (658,Ac):=by rfl
theorem Pn:bR (hd.heap_39 p) (665,z_):=by rfl
theorem Po:bR (hd.heap_39 p) (672,vC):=by rfl
theorem Pq:bR (hd.heap_39 p) (677,e7):=by rfl
theorem Od:∀q∈Dn,bR (hd.heap_39 p) q:=bT (Pr p)<|bT (Oi p)<|bT (Oj p)<|bT (Ol p)<|bT (Om p)<|bT (Oo p)<|bT (Oq p)<|bT (Ot p)<|bT (Ou p)<|bT (Ov p)<|bT (Ow p)<|bT (Ox p)<|bT (Oy p)<|bT (Oz p)<|bT (OA p)<|bT (OB p)<|bT (OC p)<|bT (OD p)<|bT (OE p)<|bT (OF p)<|bT (OG p)<|bT (OH p)<|bT (OI p)<|bT (OJ p)<|bT (OK p)<|bT (OL p)<|bT (OM p)<|bT (ON p)<|bT (OO p)<|bT (OP p)<|bT (OQ p)<|bT (OR p)<|bT (OS p)<|bT (OT p)<|bT (OU p)<|bT (OV p)<|bT (OW p)<|bT (OX p)<|bT (OY p)<|bT (OZ p)<|bT (O0 p)<|bT (O1 p)<|bT (O2 p)<|bT (O3 p)<|bT (O4 p)<|bT (O5 p)<|bT (O6 p)<|bT (O7 p)<|bT (O8 p)<|bT (O9 p)<|bT (O_ p)<|bT (O' p)<|bT (Pa p)<|bT (Pb p)<|bT (Pc p)<|bT (Pd p)<|bT (Pe p)<|bT (Pf p)<|bT (Pg p)<|bT (Ph p)<|bT (Pj p)<|bT (Pk p)<|bT (Pl p)<|bT (Pm p)<|bT (Pn p)<|bT (Po p)<|bT (Pq p)<|fun _ h=>nm h
theorem Og(a:Addr)(f:bC)(h:a_ a=some f):x' (hd.heap_39 p) a f:=(Option.map_eq_some_iff.mp (Od p (a,f) (HU Dn h))).elim fun D e=>(show D.1=f from e.2)▸D.2
end
end
section
set_option backward.match.sparseCases true
set_option tactic.hygienic true
abbrev r4(K:Frag)(a:ag)(v:Value):Prop:=∀(ρ:aN)(h:Heap),K.In h→aR ρ h a v
abbrev u6(K:Frag)(l:List ag)(vs:List Value):Prop:=∀(ρ:aN)(h:Heap),K.In h→ba ρ h l vs
theorem WN{K:Frag}{i af:Int}{t:Tok}(e:i=af):r4 K (.int i) (.int af t):=fun ρ h _=>by subst e;exact iB
theorem WM{K:Frag}{a:Addr}{v:Value}(e:v=.ref a):r4 K (.fn a) v:=fun ρ h _=>by exact e
theorem WQ{K:Frag}{l:List ag}{a:Addr}{T:String}{vs:Array Value}{n:Nat}{co:Array (Option Value)}(V:K.lookup a=some ⟨.type T,none,.seq vs n,co⟩)(e:T="tuple")(r:u6 K l vs.toList):r4 K (.av l) (.ref a):=fun ρ h X=>by subst e;exact(⟨_,_,_,rfl,⟨_,X _ _ V⟩,r ρ h X⟩:∃a vs n,_=Value.ref a∧bp h a (.type "tuple") none (.seq vs n)∧ba ρ h l vs.toList)
mutual
noncomputable def EX(K:Frag):Nat→(a:ag)→(v:Value)→Option (PLift (r4 K a v))
 |0,_,_=>none
 |n+1,a,v=>match a with
  |.int i=>(match v with
   |.int af _=>if e:i=af then some ⟨WN e⟩else none
   |_=>none)
  |.fn a=>if e:v=.ref a then some ⟨WM e⟩else none
  |.av l=>(match v with
   |.ref a=>(match V:K.lookup a with
    |some ⟨.type T,none,.seq vs _,_⟩=>if e:T="tuple"then(y2 K n l vs.toList).map fun r=>⟨WQ V e r.down⟩else none
    |_=>none)
   |_=>none)
  |_=>none
noncomputable def y2(K:Frag):Nat→(l:List ag)→(vs:List Value)→Option (PLift (u6 K l vs))
 |0,_,_=>none
 |n+1,l,vs=>match l with
  |[]=>(match vs with
   |[]=>some ⟨fun _ _ _=>ba.nil⟩
   |_=>none)
  |a::l=>(match vs with
   |v::vs=>(EX K n a v).bind fun r=>(y2 K n l vs).map fun rs=>⟨fun ρ h X=>ba.cons (r.down ρ h X) (rs.down ρ h X)⟩
   |_=>none)
end
theorem tR{P:Prop}:∀{o:Option (PLift P)},o.isSome=true→P
 |some p,_=>p.down
structure oh(l:List (Int×ag))(bd:List DictEntry):Prop where
 key:∀e∈bd,∃k t,e.key=.int k t∧e.hash=hashInt k
 FH:∀k,((bd.find? fun e=>Value.isInt k e.key).map (·.val)).isSome=(l.lookup k).isSome
 str:∀k x,l.lookup k=some (.str x)→∃t,(bd.find? fun e=>Value.isInt k e.key).map (·.val)=some (.str x t)
theorem oh.cons{k:Int}{t:Tok}{v:ag}{val:Value}{l:List (Int×ag)}{bd:List DictEntry}(al:∀x,v=.str x→∃t,val=.str x t)(h:oh l bd):oh ((k,v)::l) (⟨hashInt k,.int k t,val⟩::bd):=by
 have fw:∀gl,((⟨hashInt k,.int k t,val⟩:DictEntry)::bd).find? (fun e=>Value.isInt gl e.key)=if k=gl then some ⟨hashInt k,.int k t,val⟩else bd.find? fun e=>Value.isInt gl e.key:=fun gl=>by
  rw[List.find?_cons];show(match(k==gl)with|true=>_|false=>_)=_;by_cases e:k=gl;·rw[aF e,dw.mpr e]
  ·rw[aM e,g8.mpr e]
 have tG:∀gl,List.lookup gl ((k,v)::l)=if k=gl then some v else l.lookup gl:=fun gl=>by
  rw[List.lookup_cons];by_cases e:k=gl;·rw[aF e,dw.mpr e.symm]
  ·rw[aM e,g8.mpr (Ne.symm e)]
 refine⟨fun e ge=>?_,fun gl=>?_,fun gl x ad=>?_⟩
 ·rcases ep.mp ge with rfl|ge
  ·exact⟨_,_,rfl,rfl⟩
  ·exact h.key e ge
 ·rw[fw,tG];by_cases e:k=gl;·rw[aF e,aF e];rfl
  ·rw[aM e,aM e];exact h.FH gl
 ·rw[tG]at ad;rw[fw];by_cases e:k=gl;·rw[aF e]at ad⊢;exact(al x (bx ad)).imp fun t e=>congrArg some e
  ·rw[aM e]at ad⊢;exact h.str gl x ad
noncomputable def WW(v:ag)(val:Value):Option (PLift (∀x,v=.str x→∃t,val=.str x t)):=match v with
 |.str x=>(match val with
  |.str y t=>if e:x=y then some ⟨fun _ h=>⟨t,by cases h;rw[e]⟩⟩else none
  |_=>none)
 |.none=>some ⟨fun _ h=>nomatch h⟩
 |_=>none
noncomputable def EW:(l:List (Int×ag))→(bd:List DictEntry)→Option (PLift (oh l bd))
 |[],bd=>(match bd with
  |[]=>some ⟨⟨(fun _ h=>nm h),fun _=>rfl,(fun _ _ h=>cf h)⟩⟩
  |_=>none)
 |(k,v)::l,bd=>(match bd with
  |⟨it,.int af t,val⟩::bd=>if e:af=k then if ex:it=hashInt k then(WW v val).bind fun al=>(EW l bd).map fun h=>⟨by subst e;subst ex;exact h.down.cons al.down⟩else none else none
  |_=>none)
abbrev ya(K:Frag)(x:Str)(v:ag):Prop:=∀(h:Heap)(dO fF:Str→Option Value),K.In h→h.Ns mainGlobals dO→(∀x:Str,x≠"__name__"→fF x=bootBuiltins x)→∃u,(∀(ρ:aN)(h':Heap),h.StaysIn h'→aR ρ h' v u)∧(dO x=some u∨(dO x=none∧fF x=some u))
theorem PI{K:Frag}{x:Str}{b:gA}(cd:nsIn K mainGlobals x=some none)(ex:bootBuiltins x=some b.val)(sc:x≠"__name__"):ya K x (.b0 b):=fun h dO fF X _ hb=>⟨b.val,fun ρ h' a1=>(rfl:b.val=b.val),.inr ⟨mg_none_of X ‹_› cd,(hb x sc).trans ex⟩⟩
theorem PN{K:Frag}{x:Str}{v:ag}{u:Value}(np:nsIn K mainGlobals x=some (some u))(r:r4 K v u):ya K x v:=fun h dO fF X PG _=>⟨u,fun ρ h' a1=>r ρ h' (X.keeps a1),.inl (mg_of X PG np)⟩
noncomputable def ML(K:Frag)(x:Str)(v:ag):Option (PLift (ya K x v)):=match v with
 |.b0 b=>if cd:nsIn K mainGlobals x=some none then if ex:bootBuiltins x=some b.val then if sc:x≠"__name__"then some ⟨PI cd ex sc⟩else none else none else none
 |v=>(match np:nsIn K mainGlobals x with
  |some (some u)=>(EX K 50 v u).map fun r=>⟨PN np r.down⟩
  |_=>none)
noncomputable def zj(K:Frag)(a:Addr)(l:List (Int×ag)):Option (PLift (∃od bd ww co,K.lookup a=some ⟨.type "dict",od,.dict bd ww,co⟩∧oh l bd.toList)):=match V:K.lookup a with
 |some ⟨.type T,od,.dict bd ww,co⟩=>if e:T="dict"then(EW l bd.toList).map fun r=>⟨od,bd,ww,co,by rw[←e],r.down⟩else none
 |_=>none
noncomputable def TK(K:Frag)(a:Addr)(l:List ag):Option (PLift (∃od vs n co,K.lookup a=some ⟨.type "list",od,.seq vs n,co⟩∧vs.size<aP∧u6 K l vs.toList)):=match V:K.lookup a with
 |some ⟨.type T,od,.seq vs n,co⟩=>if e:T="list"then if h:vs.size<aP then(y2 K 50 l vs.toList).map fun r=>⟨od,vs,n,co,by rw[←e],h,r.down⟩else none else none
 |_=>none
section
variable(p:Params)
theorem PH:(F4.all fun q=>(ML (hd.heap_39 p) q.1 q.2).isSome)=true:=by rfl
theorem PK:nsIn (hd.heap_39 p) mainGlobals "WasmFault"=some (some (.ref e4)):=by rfl
theorem PJ:nsIn (hd.heap_39 p) mainGlobals "Exception"=some none:=by rfl
theorem PM:nsIn (hd.heap_39 p) mainGlobals "range"=some none:=by rfl
theorem LB:bootBuiltins "Exception"=some (.type "Exception"):=by rfl
theorem LC:bootBuiltins "range"=some (.type "range"):=by rfl
theorem Nd(a:Addr)(l:List (Int×ag))(h:oH a=some l):∃od bd ww co,(hd.heap_39 p).lookup a=some ⟨.type "dict",od,.dict bd ww,co⟩∧oh l bd.toList:=by
 unfold oH at h;by_cases cd:a=22;·rw[aF cd]at h;cases h;cases cd;exact tR (o:=zj (hd.heap_39 p) 22 _) rfl
 ·rw[aM cd]at h;by_cases ex:a=35;·rw[aF ex]at h;cases h;cases ex;exact tR (o:=zj (hd.heap_39 p) 35 _) rfl
  ·rw[aM ex]at h;by_cases sc:a=52;·rw[aF sc]at h;cases h;cases sc;exact tR (o:=zj (hd.heap_39 p) 52 _) rfl
   ·rw[aM sc]at h;cases h
theorem Ta(a:Addr)(l:List ag)(h:w8 a=some l):∃od vs n co,(hd.heap_39 p).lookup a=some ⟨.type "list",od,.seq vs n,co⟩∧vs.size<aP∧u6 (hd.heap_39 p) l vs.toList:=by
 unfold w8 at h;by_cases e:a=51;·rw[aF e]at h;cases h;cases e;exact tR (o:=TK (hd.heap_39 p) 51 _) rfl
 ·rw[aM e]at h;cases h
end
end
section
set_option backward.match.sparseCases true
set_option tactic.hygienic true
theorem Nk{h:Heap}{a:Addr}{od:Option Addr}{bd:Array DictEntry}{ww:Nat}{co:Array (Option Value)}{l:List (Int×ag)}(g:h.get? a=some ⟨.type "dict",od,.dict bd ww,co⟩)(D:oh l bd.toList):∃f,h.IntMap a f∧(∀k,(f k).isSome=(l.lookup k).isSome)∧∀k x,l.lookup k=some (.str x)→∃t,f k=some (.str x t):=by have e:∀k,findBy Value.isInt bd k=(bd.toList.find? fun e=>Value.isInt k e.key).map (·.val):=fun k=>congrArg (Option.map _) Array.find?_toList.symm;exact⟨fun k=>findBy Value.isInt bd k,⟨_,bd,ww,g,rfl,rfl,fun e ge=>D.key e (Array.mem_toList_iff.mpr ge),fun _=>rfl⟩,fun k=>(congrArg Option.isSome (e k)).trans (D.FH k),fun k x ad=>(D.str k x ad).imp fun t im=>(e k).trans im⟩
theorem S_{G:br}{p:Params}(ny:G.K=hd.heap_39 p)(X:G.K.In G.a9)(T:TopRead G.uC G.loose G.dO G.fF G.a9):kK G:=by
 rw[ny]at X
 exact{
  vH:=mg_of X T.g (PK p)
  a6:=⟨mg_none_of X T.g (PJ p),(T.builtins _ (by decide)).trans LB⟩
  bW:=⟨mg_none_of X T.g (PM p),(T.builtins _ (by decide)).trans LC⟩
  js:=fun x v h=>tR (jd.mp (PH p) (x,v) (mem_of_lookup h)) _ _ _ X T.g T.builtins
  dict:=fun a l h=>Nz (Nd p a l h) fun _ _ _ _ I O=>Nk (X _ _ I) O
  list:=fun a l h=>vr (Ta p a l h) fun _ vs n _ I O bn=>⟨vs,⟨_,X _ _ I,rfl,n,rfl⟩,O,fun ρ h' a1=>bn ρ h' (X.keeps a1)⟩}
theorem Sn:∀{xs:List WData},WShape.hasItems [] xs .int=true→∃ns:List Int,xs=ns.map WData.int:=by
 intro xs;induction xs with
 |nil=>exact fun _=>⟨[],rfl⟩
 |cons x xs ap=>intro h;have h':=hD.mp h;obtain⟨i,rfl⟩:=hasW_int h'.1;obtain⟨ns,rfl⟩:=ap h'.2;exact⟨i::ns,rfl⟩
theorem VN{dJ:Str→Option Addr}{h:Heap}:∀{ns:List Int}{vs:List Value}{as:List Addr},ReadsAllW [] dJ h vs (ns.map WData.int) as→IntsAre vs ns:=by
 intro ns;induction ns with
 |nil=>intro vs as r;cases r;exact .nil
 |cons n ns ap=>
  intro vs as r;cases r with
  |cons eG lE=>cases eG;exact .cons _ _ (ap lE)
theorem PL(p:Params):nsIn (hd.heap_39 p) mainGlobals "law"=some (some (.ref 677)):=by rfl
def D2:Prop:=∀(ns:List Int)(sa:Addr),ns.length≤63→∃H,run a_ 100000 sa ns 40 677 [.fn sa] []=.ok (.bool true) H
theorem Vn:∀b:Bool,WTm.holds [] (.and (.not (.lit (.bool b))) (.lit (.bool true))) {args:=[]}=true→b=false
 |false,_=>rfl
 |true,h=>fy h
theorem Vm{ns:List Int}(iY:WTm.holds [] (.and (.not (.lt (.lit (.int 63)) (.len (.arg 0)))) (.lit (.bool true))) {args:=[.list (ns.map .int)]}=true):ns.length≤63:=bD (as:=ns) WData.int▸Int.ofNat_le.mp (Int.not_lt.mp (of_decide_eq_false (Vn (decide ((63:Int)<((ns.map WData.int).length:Nat))) iY)))
theorem Vj(x:WData):(WShape.has [] (.bool true) .bool&&WTm.holds [] (.eq .res (.lit (.bool true))) {args:=[x],res:=some (.bool true),after:=[x]})=true:=by kernel_rfl
theorem M7{prog uC:Program}{w:World}{a2:Shared}{dO fF:Str→Option Value}{loose:List Str}{sa Tk:Addr}{ns:List Int}{vs:List Value}(be:D2)(fq:(hd.heap_39 w.params).In a2.heap)(T:TopRead uC loose dO fF a2.heap)(V:a2.heap.IsList sa vs.toArray)(ga:IntsAre vs ns)(nb:ns.length≤63)(pp:a2.gens=#[])(wj:dO "law"=some (.ref Tk)):aD (model prog w) callerA (call (.ref Tk) [.ref sa]) (fun v s'=>v=.bool true∧a2.heap.StaysIn s'.heap∧s'.os=a2.os∧s'.gens=#[]) (fun _ _=>False) a2:=by
 let G:br:=⟨prog,uC,w,hd.heap_39 w.params,a2.heap,a2.os,sa,ns,dO,fF,loose⟩;have ok:G.b8:=⟨fq,T,⟨vs,V,ga⟩,by show ns.length<aP;exact hE nb (by decide)⟩;have dc:kK G:=S_ rfl fq T;have cv:jY G.K:=S7 w.params;have QM:Tk=677:=by have:=mg_of fq T.g (PL w.params);rw[this]at wj;cases wj;rfl
 subst QM;obtain⟨H,RI⟩:=be ns sa nb;have S:HR G [] [] [] a2:=⟨fun _ _ e=>e,pp,rfl,rfl,(fun k o p h=>by simp at h),List.Pairwise.nil,(fun b h=>by obtain⟨p,be,_⟩:=h;cases be),(fun e ge=>nm ge)⟩;have ii:ba [] a2.heap [.fn sa] [.ref sa]:=ba.cons (rfl:Value.ref sa=_) ba.nil;refine lR (V7 (a_:=a_) (N:=100000) ok dc cv (Og w.params) 40 _ [] 677 [.fn sa] [] [] a2 [.ref sa] _ rfl rfl rfl (by decide) (by decide) S ii ?_);show hH G [] [] a2.heap (run a_ 100000 sa ns 40 677 [.fn sa] []) _;rw[RI];intro bm s' v ae X r;have r:=(r:_=_);exact⟨r,ae.a9,ae.os,ae.gens⟩
theorem Tp(be:D2):_root_.PySem.Challenge.rw_nm0150_01.Holds:=hd (by
 intro w mV a2 dO fF Ko gd Tk o jL Id jn su tx ci o4 Gj fA wj pp args ls as lj s6 Bj YO ul;have fq:=kIn_of gd;obtain⟨io,iY⟩:=pre_splitW lj;obtain⟨d,r,rfl,I,O⟩:=hasAllW_cons io;have:=hasAllW_nil O;subst this;obtain⟨xs,rfl,bn⟩:=hasW_list I;obtain⟨ns,rfl⟩:=Sn bn;have nb:ns.length≤63:=Vm iY;cases Bj with
 |@cons v GM _ _ X6 X7 jA jB=>
 cases jB;cases jA with
 |@list sa o' vs n _ X8 cd ex sc wT=>
 have ga:=VN wT;refine en (M7 be fq (topRead_of Ko.T) ⟨_,cd,ex,_,sc⟩ ga nb pp wj) (fun v s' h=>?_) fun _ _ f=>f.elim;obtain⟨rfl,ak,q2,A2⟩:=h;refine⟨.inl ⟨.bool true,.bool true,[],rfl,fun _=>rfl,.bool true,Vj _,fun _=>⟨List.nodup_nil,fun _ h=>nm h⟩⟩,OldK.of_keep ak,q2,AllBare.of_eq A2⟩)
end
end Mine.Internal
theorem PySem.Challenge.cw_nm0150_01_holds : PySem.Challenge.rw_nm0150_01.Holds :=
 Mine.Internal.Tp Mine.Internal.Pp.Vo
