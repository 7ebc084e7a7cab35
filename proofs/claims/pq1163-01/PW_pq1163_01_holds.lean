import PyProof.Rows.All
import Wide.All
import OpenK.AllK
import Wide.FinOn
import Lean
import PySem.Challenge.RW_pq1163_01
open PySem PySem.W PySem.Calls PySem.Spec PyProof.Rows PySem.SeqAt
set_option Elab.async false
set_option linter.all false
set_option autoImplicit true
set_option genSizeOf false
set_option compiler.extract_closed false
set_option maxRecDepth 100000
set_option maxHeartbeats 8000000
noncomputable section
namespace Mine
def aD:=@Option.some.inj
def am:=@wpAny_bind
def aC:=@wpAny_pure
def bq:=@List.not_mem_nil
def bH:=@Nat.le_of_ble_eq_true
def bK:=@Heap.get?_push_size
def cA:=@Heap.get?_push_of_some
def bY:=@List.mem_cons_self
def cQ:=@List.mem_cons_of_mem
def dy:=@List.mem_append_right
def dE:=@List.mem_append_left
def dc:=@Nat.lt_of_le_of_lt
def d7:=@List.mem_of_getElem?
def bT:=@Prod.mk.inj
def dO:=@wpAny_execs_cons
def bN:=@wpAny_mono
def fG:=@of_decide_eq_true
def eX:=@wpAny_Call_NameR
def ba:=@Nat.le_trans
def fj:=@wpAny_truthy_bool
theorem aH{a b:α}(h:a∈[b]):a=b:=List.mem_singleton.mp h
theorem aU{a b:α}{l:List α}(h:a∈b::l):a=b∨a∈l:=List.mem_cons.mp h
theorem bC{a:α}{l m:List α}(h:a∈l++m):a∈l∨a∈m:=List.mem_append.mp h
theorem cI{a b:Nat}(h:a∈List.range b):a<b:=List.mem_range.mp h
theorem eH{a b:Bool}(h:(a&&b)=true):a=true∧b=true:=Bool.and_eq_true_iff.mp h
theorem xA  {C:Prop}(h:p0∧p1)(k:p0→p1→C):C:=k h.1 h.2
theorem xE {p0:α0→Prop}{C:Prop}(h:∃a0,p0 a0)(k:∀a0,p0 a0→C):C:=h.elim k
theorem qh  {C:Prop}(h:p0∧p1∧p2)(k:p0→p1→p2→C):C:=xA h.2 (k h.1)
theorem HS {p1:α0→Prop}{C:Prop}(h:p0∧∃a0,p1 a0)(k:p0→∀a0,p1 a0→C):C:=xE h.2 (k h.1)
theorem aW {p0 p1:α0→Prop}{C:Prop}(h:∃a0,p0 a0∧p1 a0)(k:∀a0,p0 a0→p1 a0→C):C:=h.elim λa h=>xA h (k a)
theorem fy {p0:α0→α1→Prop}{C:Prop}(h:∃a0 a1,p0 a0 a1)(k:∀a0 a1,p0 a0 a1→C):C:=h.elim λa h=>xE h (k a)
theorem l3  {C:Prop}(h:p0∧p1∧p2∧p3)(k:p0→p1→p2→p3→C):C:=qh h.2 (k h.1)
theorem Hj {p2:α0→Prop}{C:Prop}(h:p0∧p1∧∃a0,p2 a0)(k:p0→p1→∀a0,p2 a0→C):C:=HS h.2 (k h.1)
theorem Hk {p1 p2:α0→Prop}{C:Prop}(h:p0∧∃a0,p1 a0∧p2 a0)(k:p0→∀a0,p1 a0→p2 a0→C):C:=aW h.2 (k h.1)
theorem dm {p0 p1 p2:α0→Prop}{C:Prop}(h:∃a0,p0 a0∧p1 a0∧p2 a0)(k:∀a0,p0 a0→p1 a0→p2 a0→C):C:=h.elim λa h=>qh h (k a)
theorem cU {p0 p1:α0→α1→Prop}{C:Prop}(h:∃a0 a1,p0 a0 a1∧p1 a0 a1)(k:∀a0 a1,p0 a0 a1→p1 a0 a1→C):C:=h.elim λa h=>aW h (k a)
theorem td {p0:α0→α1→α2→Prop}{C:Prop}(h:∃a0 a1 a2,p0 a0 a1 a2)(k:∀a0 a1 a2,p0 a0 a1 a2→C):C:=h.elim λa h=>fy h (k a)
theorem GH  {C:Prop}(h:p0∧p1∧p2∧p3∧p4)(k:p0→p1→p2→p3→p4→C):C:=l3 h.2 (k h.1)
theorem xX {p3:α0→Prop}{C:Prop}(h:p0∧p1∧p2∧∃a0,p3 a0)(k:p0→p1→p2→∀a0,p3 a0→C):C:=Hj h.2 (k h.1)
theorem xY {p0 p1 p2 p3:α0→Prop}{C:Prop}(h:∃a0,p0 a0∧p1 a0∧p2 a0∧p3 a0)(k:∀a0,p0 a0→p1 a0→p2 a0→p3 a0→C):C:=h.elim λa h=>l3 h (k a)
theorem xZ {p0 p1:α0→Prop}{p2:α0→α1→Prop}{C:Prop}(h:∃a0,p0 a0∧p1 a0∧∃a1,p2 a0 a1)(k:∀a0,p0 a0→p1 a0→∀a1,p2 a0 a1→C):C:=h.elim λa h=>Hj h (k a)
theorem V1 {p0:α0→Prop}{p1 p2:α0→α1→Prop}{C:Prop}(h:∃a0,p0 a0∧∃a1,p1 a0 a1∧p2 a0 a1)(k:∀a0,p0 a0→∀a1,p1 a0 a1→p2 a0 a1→C):C:=h.elim λa h=>Hk h (k a)
theorem aS {p0 p1 p2:α0→α1→Prop}{C:Prop}(h:∃a0 a1,p0 a0 a1∧p1 a0 a1∧p2 a0 a1)(k:∀a0 a1,p0 a0 a1→p1 a0 a1→p2 a0 a1→C):C:=h.elim λa h=>dm h (k a)
theorem da {p0 p1:α0→α1→α2→Prop}{C:Prop}(h:∃a0 a1 a2,p0 a0 a1 a2∧p1 a0 a1 a2)(k:∀a0 a1 a2,p0 a0 a1 a2→p1 a0 a1 a2→C):C:=h.elim λa h=>cU h (k a)
theorem x0 {p0:α0→α1→α2→α3→Prop}{C:Prop}(h:∃a0 a1 a2 a3,p0 a0 a1 a2 a3)(k:∀a0 a1 a2 a3,p0 a0 a1 a2 a3→C):C:=h.elim λa h=>td h (k a)
theorem EB  {C:Prop}(h:p0∧p1∧p2∧p3∧p4∧p5)(k:p0→p1→p2→p3→p4→p5→C):C:=GH h.2 (k h.1)
theorem TO {p0 p1 p2 p3 p4:α0→Prop}{C:Prop}(h:∃a0,p0 a0∧p1 a0∧p2 a0∧p3 a0∧p4 a0)(k:∀a0,p0 a0→p1 a0→p2 a0→p3 a0→p4 a0→C):C:=h.elim λa h=>GH h (k a)
theorem br {p0 p1 p2 p3:α0→α1→Prop}{C:Prop}(h:∃a0 a1,p0 a0 a1∧p1 a0 a1∧p2 a0 a1∧p3 a0 a1)(k:∀a0 a1,p0 a0 a1→p1 a0 a1→p2 a0 a1→p3 a0 a1→C):C:=h.elim λa h=>xY h (k a)
theorem gn {p0 p1 p2:α0→α1→α2→Prop}{C:Prop}(h:∃a0 a1 a2,p0 a0 a1 a2∧p1 a0 a1 a2∧p2 a0 a1 a2)(k:∀a0 a1 a2,p0 a0 a1 a2→p1 a0 a1 a2→p2 a0 a1 a2→C):C:=h.elim λa h=>aS h (k a)
theorem xd {p0 p1:α0→α1→α2→α3→Prop}{C:Prop}(h:∃a0 a1 a2 a3,p0 a0 a1 a2 a3∧p1 a0 a1 a2 a3)(k:∀a0 a1 a2 a3,p0 a0 a1 a2 a3→p1 a0 a1 a2 a3→C):C:=h.elim λa h=>da h (k a)
theorem TP {p0:α0→α1→α2→α3→α4→Prop}{C:Prop}(h:∃a0 a1 a2 a3 a4,p0 a0 a1 a2 a3 a4)(k:∀a0 a1 a2 a3 a4,p0 a0 a1 a2 a3 a4→C):C:=h.elim λa h=>x0 h (k a)
theorem RA  {C:Prop}(h:p0∧p1∧p2∧p3∧p4∧p5∧p6)(k:p0→p1→p2→p3→p4→p5→p6→C):C:=EB h.2 (k h.1)
theorem wC {p0 p1 p2 p3 p4 p5:α0→Prop}{C:Prop}(h:∃a0,p0 a0∧p1 a0∧p2 a0∧p3 a0∧p4 a0∧p5 a0)(k:∀a0,p0 a0→p1 a0→p2 a0→p3 a0→p4 a0→p5 a0→C):C:=h.elim λa h=>EB h (k a)
theorem RB {p0 p1 p2 p3 p4:α0→α1→Prop}{C:Prop}(h:∃a0 a1,p0 a0 a1∧p1 a0 a1∧p2 a0 a1∧p3 a0 a1∧p4 a0 a1)(k:∀a0 a1,p0 a0 a1→p1 a0 a1→p2 a0 a1→p3 a0 a1→p4 a0 a1→C):C:=h.elim λa h=>TO h (k a)
theorem eO {p0 p1 p2 p3:α0→α1→α2→Prop}{C:Prop}(h:∃a0 a1 a2,p0 a0 a1 a2∧p1 a0 a1 a2∧p2 a0 a1 a2∧p3 a0 a1 a2)(k:∀a0 a1 a2,p0 a0 a1 a2→p1 a0 a1 a2→p2 a0 a1 a2→p3 a0 a1 a2→C):C:=h.elim λa h=>br h (k a)
theorem pp {p0 p1 p2:α0→α1→α2→α3→Prop}{C:Prop}(h:∃a0 a1 a2 a3,p0 a0 a1 a2 a3∧p1 a0 a1 a2 a3∧p2 a0 a1 a2 a3)(k:∀a0 a1 a2 a3,p0 a0 a1 a2 a3→p1 a0 a1 a2 a3→p2 a0 a1 a2 a3→C):C:=h.elim λa h=>gn h (k a)
theorem RC {p0 p1:α0→α1→α2→α3→α4→Prop}{C:Prop}(h:∃a0 a1 a2 a3 a4,p0 a0 a1 a2 a3 a4∧p1 a0 a1 a2 a3 a4)(k:∀a0 a1 a2 a3 a4,p0 a0 a1 a2 a3 a4→p1 a0 a1 a2 a3 a4→C):C:=h.elim λa h=>xd h (k a)
theorem Qa  {C:Prop}(h:p0∧p1∧p2∧p3∧p4∧p5∧p6∧p7)(k:p0→p1→p2→p3→p4→p5→p6→p7→C):C:=RA h.2 (k h.1)
theorem Qb {p0 p1 p2 p3 p4 p5:α0→α1→Prop}{C:Prop}(h:∃a0 a1,p0 a0 a1∧p1 a0 a1∧p2 a0 a1∧p3 a0 a1∧p4 a0 a1∧p5 a0 a1)(k:∀a0 a1,p0 a0 a1→p1 a0 a1→p2 a0 a1→p3 a0 a1→p4 a0 a1→p5 a0 a1→C):C:=h.elim λa h=>wC h (k a)
theorem ru {p0 p1 p2 p3 p4:α0→α1→α2→Prop}{C:Prop}(h:∃a0 a1 a2,p0 a0 a1 a2∧p1 a0 a1 a2∧p2 a0 a1 a2∧p3 a0 a1 a2∧p4 a0 a1 a2)(k:∀a0 a1 a2,p0 a0 a1 a2→p1 a0 a1 a2→p2 a0 a1 a2→p3 a0 a1 a2→p4 a0 a1 a2→C):C:=h.elim λa h=>RB h (k a)
theorem CU {p0 p1 p2 p3:α0→α1→α2→α3→Prop}{C:Prop}(h:∃a0 a1 a2 a3,p0 a0 a1 a2 a3∧p1 a0 a1 a2 a3∧p2 a0 a1 a2 a3∧p3 a0 a1 a2 a3)(k:∀a0 a1 a2 a3,p0 a0 a1 a2 a3→p1 a0 a1 a2 a3→p2 a0 a1 a2 a3→p3 a0 a1 a2 a3→C):C:=h.elim λa h=>eO h (k a)
theorem CV {p0 p1 p2:α0→α1→α2→α3→α4→Prop}{C:Prop}(h:∃a0 a1 a2 a3 a4,p0 a0 a1 a2 a3 a4∧p1 a0 a1 a2 a3 a4∧p2 a0 a1 a2 a3 a4)(k:∀a0 a1 a2 a3 a4,p0 a0 a1 a2 a3 a4→p1 a0 a1 a2 a3 a4→p2 a0 a1 a2 a3 a4→C):C:=h.elim λa h=>pp h (k a)
theorem lG {p0 p1:α0→α1→α2→α3→α4→α5→Prop}{C:Prop}(h:∃a0 a1 a2 a3 a4 a5,p0 a0 a1 a2 a3 a4 a5∧p1 a0 a1 a2 a3 a4 a5)(k:∀a0 a1 a2 a3 a4 a5,p0 a0 a1 a2 a3 a4 a5→p1 a0 a1 a2 a3 a4 a5→C):C:=h.elim λa h=>RC h (k a)
theorem O1  {C:Prop}(h:p0∧p1∧p2∧p3∧p4∧p5∧p6∧p7∧p8)(k:p0→p1→p2→p3→p4→p5→p6→p7→p8→C):C:=Qa h.2 (k h.1)
theorem O4 {p0 p1 p2 p3 p4 p5:α0→α1→α2→Prop}{C:Prop}(h:∃a0 a1 a2,p0 a0 a1 a2∧p1 a0 a1 a2∧p2 a0 a1 a2∧p3 a0 a1 a2∧p4 a0 a1 a2∧p5 a0 a1 a2)(k:∀a0 a1 a2,p0 a0 a1 a2→p1 a0 a1 a2→p2 a0 a1 a2→p3 a0 a1 a2→p4 a0 a1 a2→p5 a0 a1 a2→C):C:=h.elim λa h=>Qb h (k a)
theorem Ck {p0 p1 p2 p3 p4:α0→α1→α2→α3→Prop}{C:Prop}(h:∃a0 a1 a2 a3,p0 a0 a1 a2 a3∧p1 a0 a1 a2 a3∧p2 a0 a1 a2 a3∧p3 a0 a1 a2 a3∧p4 a0 a1 a2 a3)(k:∀a0 a1 a2 a3,p0 a0 a1 a2 a3→p1 a0 a1 a2 a3→p2 a0 a1 a2 a3→p3 a0 a1 a2 a3→p4 a0 a1 a2 a3→C):C:=h.elim λa h=>ru h (k a)
theorem Cl {p0 p1 p2 p3:α0→α1→α2→α3→α4→Prop}{C:Prop}(h:∃a0 a1 a2 a3 a4,p0 a0 a1 a2 a3 a4∧p1 a0 a1 a2 a3 a4∧p2 a0 a1 a2 a3 a4∧p3 a0 a1 a2 a3 a4)(k:∀a0 a1 a2 a3 a4,p0 a0 a1 a2 a3 a4→p1 a0 a1 a2 a3 a4→p2 a0 a1 a2 a3 a4→p3 a0 a1 a2 a3 a4→C):C:=h.elim λa h=>CU h (k a)
theorem NT {p0 p1 p2 p3 p4 p5 p6 p7 p8:α0→Prop}{C:Prop}(h:∃a0,p0 a0∧p1 a0∧p2 a0∧p3 a0∧p4 a0∧p5 a0∧p6 a0∧p7 a0∧p8 a0)(k:∀a0,p0 a0→p1 a0→p2 a0→p3 a0→p4 a0→p5 a0→p6 a0→p7 a0→p8 a0→C):C:=h.elim λa h=>O1 h (k a)
theorem BB {p0 p1 p2 p3 p4 p5:α0→α1→α2→α3→Prop}{C:Prop}(h:∃a0 a1 a2 a3,p0 a0 a1 a2 a3∧p1 a0 a1 a2 a3∧p2 a0 a1 a2 a3∧p3 a0 a1 a2 a3∧p4 a0 a1 a2 a3∧p5 a0 a1 a2 a3)(k:∀a0 a1 a2 a3,p0 a0 a1 a2 a3→p1 a0 a1 a2 a3→p2 a0 a1 a2 a3→p3 a0 a1 a2 a3→p4 a0 a1 a2 a3→p5 a0 a1 a2 a3→C):C:=h.elim λa h=>O4 h (k a)
theorem M9 {p0 p1 p2 p3 p4 p5 p6 p7 p8:α0→α1→Prop}{C:Prop}(h:∃a0 a1,p0 a0 a1∧p1 a0 a1∧p2 a0 a1∧p3 a0 a1∧p4 a0 a1∧p5 a0 a1∧p6 a0 a1∧p7 a0 a1∧p8 a0 a1)(k:∀a0 a1,p0 a0 a1→p1 a0 a1→p2 a0 a1→p3 a0 a1→p4 a0 a1→p5 a0 a1→p6 a0 a1→p7 a0 a1→p8 a0 a1→C):C:=h.elim λa h=>NT h (k a)
theorem Mn {p0 p1 p2 p3 p4 p5 p6 p7 p8:α0→α1→α2→Prop}{C:Prop}(h:∃a0 a1 a2,p0 a0 a1 a2∧p1 a0 a1 a2∧p2 a0 a1 a2∧p3 a0 a1 a2∧p4 a0 a1 a2∧p5 a0 a1 a2∧p6 a0 a1 a2∧p7 a0 a1 a2∧p8 a0 a1 a2)(k:∀a0 a1 a2,p0 a0 a1 a2→p1 a0 a1 a2→p2 a0 a1 a2→p3 a0 a1 a2→p4 a0 a1 a2→p5 a0 a1 a2→p6 a0 a1 a2→p7 a0 a1 a2→p8 a0 a1 a2→C):C:=h.elim λa h=>M9 h (k a)
theorem Lz {p0 p1 p2 p3 p4 p5 p6 p7 p8:α0→α1→α2→α3→Prop}{C:Prop}(h:∃a0 a1 a2 a3,p0 a0 a1 a2 a3∧p1 a0 a1 a2 a3∧p2 a0 a1 a2 a3∧p3 a0 a1 a2 a3∧p4 a0 a1 a2 a3∧p5 a0 a1 a2 a3∧p6 a0 a1 a2 a3∧p7 a0 a1 a2 a3∧p8 a0 a1 a2 a3)(k:∀a0 a1 a2 a3,p0 a0 a1 a2 a3→p1 a0 a1 a2 a3→p2 a0 a1 a2 a3→p3 a0 a1 a2 a3→p4 a0 a1 a2 a3→p5 a0 a1 a2 a3→p6 a0 a1 a2 a3→p7 a0 a1 a2 a3→p8 a0 a1 a2 a3→C):C:=h.elim λa h=>Mn h (k a)
theorem KU {p0 p1 p2 p3 p4 p5 p6 p7 p8:α0→α1→α2→α3→α4→Prop}{C:Prop}(h:∃a0 a1 a2 a3 a4,p0 a0 a1 a2 a3 a4∧p1 a0 a1 a2 a3 a4∧p2 a0 a1 a2 a3 a4∧p3 a0 a1 a2 a3 a4∧p4 a0 a1 a2 a3 a4∧p5 a0 a1 a2 a3 a4∧p6 a0 a1 a2 a3 a4∧p7 a0 a1 a2 a3 a4∧p8 a0 a1 a2 a3 a4)(k:∀a0 a1 a2 a3 a4,p0 a0 a1 a2 a3 a4→p1 a0 a1 a2 a3 a4→p2 a0 a1 a2 a3 a4→p3 a0 a1 a2 a3 a4→p4 a0 a1 a2 a3 a4→p5 a0 a1 a2 a3 a4→p6 a0 a1 a2 a3 a4→p7 a0 a1 a2 a3 a4→p8 a0 a1 a2 a3 a4→C):C:=h.elim λa h=>Lz h (k a)
theorem au {x:α}{P:Prop}(h:none=some x):P:=nomatch h
theorem ft {P:Prop}(h:false=true):P:=nomatch h
theorem mj {x:α}{P:Prop}(h:some x=none):P:=nomatch h
theorem dD {α β:Type _}{a c:α}{b d:β}(h:some (a,b)=some (c,d)):a=c∧b=d:=bT (aD h)
theorem aw {o:Option α}{f:α→Option β}{b:β}{C:Prop}(h:o.bind f=some b)(k:∀a,o=some a→f a=some b→C):C:=match o,h,k with | some a,h,k=>k a rfl h
theorem cr {o:Option α}{f:α→β}{b:β}{C:Prop}(h:o.map f=some b)(k:∀a,o=some a→f a=b→C):C:=match o,h,k with | some a,h,k=>k a rfl (aD h)
theorem yU {α β:Type _}{P:α→β→Prop}{a x:α}{b y:β}(q:some (a,b)=some (x,y))(k:P a b):P x y:=(dD q).1▸(dD q).2▸k
theorem cR {α β:Type _}{P:α→β→Prop}{a x:α}{b y:β}(q:(a,b)=(x,y))(k:P a b):P x y:=(bT q).1▸(bT q).2▸k
noncomputable def Ok {α:Type _}(o:Option α)(P:α→Prop):Prop:=∃a,o=some a∧P a
theorem Ok.get {a:α}{P:α→Prop}(h:Ok (some a) P):P a:=match h with | ⟨_,e,p⟩=>aD e▸p
theorem Ok.imp {o:Option α}{P Q:α→Prop}(h:Ok o P)(k:∀a,P a→Q a):Ok o Q:=Exists.imp (λa q=>⟨q.1,k a q.2⟩) h
theorem Ok.bind {o:Option α}{f:α→Option β}{P:β→Prop}(h:Ok (o.bind f) P):Ok o λa=>Ok (f a) P:=match o,h with | some a,h=>⟨a,rfl,h⟩ | none,⟨_,e,_⟩=>au e
theorem Ok.map {o:Option α}{f:α→β}{P:β→Prop}(h:Ok (o.map f) P):Ok o λa=>P (f a):=match o,h with | some a,h=>⟨a,rfl,h.get⟩ | none,⟨_,e,_⟩=>au e
theorem Ok.no {P:α→Prop}{C:Prop}(h:Ok none P):C:=match h with | ⟨_,e,_⟩=>au e
theorem Ok.ite {α:Type _}{c:Prop}[Decidable c]{o:Option α}{P:α→Prop}(h:Ok (if c then o else none) P):c∧Ok o P:=if hc:c then ⟨hc,by rwa [if_pos hc] at h⟩ else Ok.no (P:=P) (by rwa [if_neg hc] at h)
theorem fH {α:Type _}{c:Prop}[Decidable c]{o:Option α}{y:α}{P:Prop}(h:(if c then o else none)=some y)(k:c→o=some y→P):P:=if hc:c then k hc ((if_pos hc).symm.trans h) else au ((if_neg hc).symm.trans h)
theorem cJ {α:Type _}{c:Prop}[Decidable c]{x y:α}{P:Prop}(h:(if c then some x else none)=some y)(k:c→x=y→P):P:=fH h λhc e=>k hc (aD e)
theorem RG {l m:List α}{i:Nat}{x:α}(e:l[i]? =some x):(l ++m)[i]? =some x:=(List.getElem?_append_left (List.getElem?_eq_some_iff.mp e).1).trans e
theorem Ok.cond {x y:Option α}{P:α→Prop}{C:Prop}(h:Ok (bif c then x else y) P)(k1:c=true→Ok x P→C)(k2:c=false→Ok y P→C):C:=match c,h with | true,h=>k1 rfl h | false,h=>k2 rfl h
theorem oj {P Q:Prop}(h:b=true)(x:P):if b=true then P else Q:=(if_pos h).symm▸x
theorem ml {P Q:Prop}(h:b=false)(x:Q):if b=true then P else Q:=(if_neg (Bool.eq_false_iff.mp h)).symm▸x
theorem az {o:Option α}{f:α→Option β}{a:α}{r:Option β}(ho:o=some a)(h:f a=r):o.bind f=r:=ho▸h
theorem cB {o:Option α}{f:α→β}{a:α}{b:β}(ho:o=some a)(h:f a=b):o.map f=some b:=ho▸h▸rfl
theorem cw {α:Type _}{c:Prop}[Decidable c]{x y r:α}(hc:c)(h:x=r):(if c then x else y)=r:=(if_pos hc).trans h
theorem pU {P:Nat→Prop}(h0:P 0)(h1:∀k,P (k+1)):∀k,P k | 0=>h0 | k+1=>h1 k
theorem bL {o:Option α}{x:α}{P:Prop}(h:o=none)(k:o=some x):P:=nomatch h.symm.trans k
section
inductive AV where
 | none
 | bool (b:Bool)
 | int (i:Int)
 | str (x:Str)
 | tup (l:List AV)
 | lst (l:List AV)
 | obj (C:Addr) (fs:List (Nat × AV))
 | dct (es:List (Int × AV))
 | ref (k:Nat)
 | lit (v:Value)
 deriving Inhabited
structure GK where
 k:Int
 s1:Int
 s2:Int
 pk:Int
 n:Int
 deriving DecidableEq,Inhabited
inductive AO where
 | inst (C:Addr) (fs:List (Nat × AV))
 | list (l:List AV)
 | gdict (es:List (GK × AV))
 | idict (es:List (Int × AV))
 deriving Inhabited
structure Loc where
 a:Addr
 d:Option Addr
noncomputable abbrev ar:=List AO
noncomputable abbrev aG:=List Loc
noncomputable def Loc.own (l:Loc):List Addr:=l.a::l.d.toList
def own (J:aG):List Addr:=J.flatMap Loc.own
noncomputable def ey (h:Heap)(a:Addr):Prop:=∃o vs q t,h.get? a=some o∧o.data= .fields vs∧vs[1]? =some (.str q t)
theorem ol (e:h.get? a=some o)(hd:o.data= .fields vs)(hv:∀q t,vs[1]? ≠some (.str q t)): ¬ ey h a:=λ⟨o',vs',q,t,e',hd',hv'⟩=>hv q t (Data.fields.inj (hd.symm.trans (aD (e.symm.trans e')▸hd'))▸hv')
theorem jM (e:h.get? a=some o)(hd:∀vs,o.data≠ .fields vs): ¬ ey h a:=λ⟨o',vs',q,t,e',hd',hv'⟩=>hd _ (aD (e.symm.trans e')▸hd')
theorem sC (n:h.Ns a m): ¬ ey h a:=by
 obtain ⟨o,es,ep,e,hd,_⟩:=n
 exact jM e λvs q=>nomatch hd.symm.trans q
theorem RH (n:h.IsCell a v): ¬ ey h a:=by
 obtain ⟨o,e,hd⟩:=n
 exact jM e λvs q=>nomatch hd.symm.trans q
set_option genInjectivity false in
structure Gd where
 prog:Program
 w:World
 K:Frag
 g:Heap
 p:Program
 loose:List Str
 mean:ExcName→Option Value
 mg:Str→Option Value
 mb:Str→Option Value
 inK:K.In g
 top:Top p loose mean mg mb g
 mods:∃o,g.get? sysModules=some o
 nm:Nat→Str
 nmInj:∀i j,nm i=nm j→i=j
 TB:List Addr
 Tabs:Heap→Prop
 tabs:∀(h h':Heap) (X:List Addr),(∀b o,b∉X→h.get? b=some o→h'.get? b=some o)→(∀a∈TB,a∉X)→(∀a∈X,¬ ey h a)→Tabs h→Tabs h'
variable (G:Gd)
noncomputable def aX (k:GK):AV:= .tup [.int k.k, .tup [.int k.s1, .int k.s2], .int k.pk, .int k.n]
section
variable (R:List Addr) (J:aG) (h:Heap)
mutual
noncomputable def VRel:AV→Value→Prop
 | .none,v=>v= .none
 | .bool b,v=>v= .bool b
 | .int i,v=> ∃t,v= .int i t
 | .str x,v=> ∃t,v= .str x t
 | .tup l,v=> ∃a vs,v= .ref a∧a∉R∧h.IsTuple a (List.toArray vs)∧VRels l vs
 | .lst l,v=> ∃a vs,v= .ref a∧a∉R∧h.IsList a (List.toArray vs)∧VRels l vs
 | .obj C fs,v=> ∃a d es n,v= .ref a∧a∉R∧d∉R∧h.get? a=some (instObj C d)∧h.get? d=some (dictOf es n)∧FRel fs es
 | .dct es,v=> ∃a o kvs,v= .ref a∧a∉R∧h.get? a=some o∧o.IsDictOf (intKind G.prog G.w) kvs∧DRel es kvs
 | .ref k,v=> ∃l,J[k]? =some l∧v= .ref l.a
 | .lit w,v=>v=w
noncomputable def VRels:List AV→List Value→Prop
 | [],vs=>vs=[]
 | x::r,vs=> ∃v vs',vs=v::vs'∧VRel x v∧VRels r vs'
noncomputable def FRel:List (Nat × AV)→List DictEntry→Prop
 | [],es=>es=[]
 | (f,x)::r,es=> ∃t v es',es=⟨PyData.keyHash G.w.params (G.nm f), .str (G.nm f) t,v⟩::es'∧VRel x v∧FRel r es'
noncomputable def DRel:List (Int × AV)→List (Int × Value)→Prop
 | [],es=>es=[]
 | (k,x)::r,es=> ∃v es',es=(k,v)::es'∧VRel x v∧DRel r es'
end
end
section
variable {G} {R R':List Addr} {J J':aG} {h h':Heap}
mutual
theorem VRel.mono (hR:∀a o,a∉R→h.get? a=some o→a∉R'∧h'.get? a=some o)(hJ:∀(k:Nat) (l:Loc),J[k]? =some l→J'[k]? =some l):
  ∀(x:AV) (v:Value),VRel G R J h x v→VRel G R' J' h' x v
 | .none,v,e=>e
 | .bool b,v,e=>e
 | .int i,v,e=>e
 | .str x,v,e=>e
 | .tup l,v,e=>br e λa vs e1 e2 t e5=>t.elim λo q=>(hR a o e2 q.1).elim λq1 q2=>Exists.intro a ⟨vs,e1,q1,⟨o,q2,q.2⟩,VRels.mono hR hJ l vs e5⟩
 | .lst l,v,e=>br e λa vs e1 e2 t e5=>t.elim λo q=>(hR a o e2 q.1).elim λq1 q2=>Exists.intro a ⟨vs,e1,q1,⟨o,q2,q.2⟩,VRels.mono hR hJ l vs e5⟩
 | .obj C fs,v,e=>BB e λa d es n e1 e2 e3 e4 e5 e6=>(hR a _ e2 e4).elim λq1 q2=>(hR d _ e3 e5).elim λq3 q4=>Exists.intro a ⟨d,es,n,e1,q1,q3,q2,q4,FRel.mono hR hJ fs es e6⟩
 | .dct es,v,e=>ru e λa o kvs e1 e2 e3 e4 e5=>(hR a o e2 e3).elim λq1 q2=>Exists.intro a ⟨o,kvs,e1,q1,q2,e4,DRel.mono hR hJ es kvs e5⟩
 | .ref k,v,e=>aW e λl e1 e2=>Exists.intro l ⟨hJ k l e1,e2⟩
 | .lit w,v,e=>e
theorem VRels.mono (hR:∀a o,a∉R→h.get? a=some o→a∉R'∧h'.get? a=some o)(hJ:∀(k:Nat) (l:Loc),J[k]? =some l→J'[k]? =some l):
  ∀(x:List AV) (v:List Value),VRels G R J h x v→VRels G R' J' h' x v
 | [],v,e=>e
 | x::r,v,e=>aS e λy ys e1 e2 e3=>Exists.intro y ⟨ys,e1,VRel.mono hR hJ x y e2,VRels.mono hR hJ r ys e3⟩
theorem FRel.mono (hR:∀a o,a∉R→h.get? a=some o→a∉R'∧h'.get? a=some o)(hJ:∀(k:Nat) (l:Loc),J[k]? =some l→J'[k]? =some l):
  ∀(x:List (Nat × AV)) (v:List DictEntry),FRel G R J h x v→FRel G R' J' h' x v
 | [],v,e=>e
 | (f,x)::r,v,e=>gn e λt y ys e1 e2 e3=>Exists.intro t ⟨y,ys,e1,VRel.mono hR hJ x y e2,FRel.mono hR hJ r ys e3⟩
theorem DRel.mono (hR:∀a o,a∉R→h.get? a=some o→a∉R'∧h'.get? a=some o)(hJ:∀(k:Nat) (l:Loc),J[k]? =some l→J'[k]? =some l):
  ∀(x:List (Int × AV)) (v:List (Int × Value)),DRel G R J h x v→DRel G R' J' h' x v
 | [],v,e=>e
 | (f,x)::r,v,e=>aS e λy ys e1 e2 e3=>Exists.intro y ⟨ys,e1,VRel.mono hR hJ x y e2,DRel.mono hR hJ r ys e3⟩
end
theorem VRel.n:VRel G R J h .none .none:=rfl
theorem VRel.b {b:Bool}:VRel G R J h (.bool b) (.bool b):=rfl
theorem VRel.i {i:Int}:VRel G R J h (.int i) (.int i t):=Exists.intro t rfl
theorem VRel.r (e:J[k]? =some l):VRel G R J h (.ref k) (.ref l.a):=Exists.intro l ⟨e,rfl⟩
theorem VRels.nil:VRels G R J h [] []:=rfl
theorem VRels.cons (e:VRel G R J h x v)(f:VRels G R J h l vs):VRels G R J h (x::l) (v::vs):=Exists.intro v ⟨vs,rfl,e,f⟩
theorem VRels.one (e:VRel G R J h x v):VRels G R J h [x] [v]:= .cons e .nil
theorem VRel.lst (h1:a∉R)(h2:h.IsList a vs.toArray)(h3:VRels G R J h l vs):VRel G R J h (.lst l) (.ref a):=Exists.intro a ⟨vs,rfl,h1,h2,h3⟩
theorem VRel.tup (h1:a∉R)(h2:h.IsTuple a vs.toArray)(h3:VRels G R J h l vs):VRel G R J h (.tup l) (.ref a):=Exists.intro a ⟨vs,rfl,h1,h2,h3⟩
end
noncomputable def GRel (R:List Addr)(J:aG)(h:Heap):List (GK × AV)→List (GK × Addr × Value)→Prop
 | [],xs=>xs=[]
 | (k,x)::r,xs=> ∃a v xs',xs=(k,a,v)::xs'∧VRel G R J h (aX k) (.ref a)∧VRel G R J h x v∧GRel R J h r xs'
theorem GRel.mono {G:Gd}(hR:∀a o,a∉R→h.get? a=some o→a∉R'∧h'.get? a=some o)(hJ:∀(k:Nat) (l:Loc),J[k]? =some l→J'[k]? =some l):
  ∀(x:List (GK × AV)) (v:List (GK × Addr × Value)),GRel G R J h x v→GRel G R' J' h' x v
 | [],v,e=>e
 | (f,x)::r,v,e=>eO e λa y ys e1 e2 e3 e4=>Exists.intro a ⟨y,ys,e1,VRel.mono hR hJ _ _ e2,VRel.mono hR hJ x y e3,GRel.mono hR hJ r ys e4⟩
theorem GRel.keys {G:Gd}{P:GK→Addr→Prop}(hgk:∀{k a},VRel G R J h (aX k) (.ref a)→P k a):∀(x:List (GK × AV)) (v:List (GK × Addr × Value)),GRel G R J h x v→∀y∈v,P y.1 y.2.1
 | [],v,e,y,m=>absurd ((show v=[] from e)▸m) bq
 | (k,x)::r,v,e,y,m=>eO e λa u ys e1 e2 e3 e4=>(aU (e1▸m)).elim (λ(z:y=(k,a,u))=>z▸hgk e2) (GRel.keys hgk r ys e4 y)
noncomputable def OAt (gk:HeapKind G.prog G.w GK)(R:List Addr)(J:aG)(h:Heap)(l:Loc):AO→Prop
 | .inst C fs=> ∃d es n,l.d=some d∧h.get? l.a=some (instObj C d)∧h.get? d=some (dictOf es n)∧FRel G R J h fs es
 | .list xs=> ∃vs n,l.d=none∧h.get? l.a=some (listOf (List.toArray vs) n)∧VRels G R J h xs vs
 | .gdict es=> ∃xs,l.d=none∧h.DictOfH gk l.a xs∧GRel G R J h es xs
 | .idict es=> ∃o kvs,l.d=none∧h.get? l.a=some o∧o.IsDictOf (intKind G.prog G.w) kvs∧DRel G R J h es kvs
theorem OAt.mono {G:Gd}{gk:HeapKind G.prog G.w GK}(hgk:∀{h h' k a} (R:List Addr) (J:aG),(∀b o,b∉R→h.get? b=some o→h'.get? b=some o)→VRel G R J h (aX k) (.ref a)→gk.is h' k a)
  (hR:∀a o,a∉R→h.get? a=some o→a∉R'∧h'.get? a=some o)(hJ:∀(k:Nat) (l:Loc),J[k]? =some l→J'[k]? =some l)
  (hl:∀a∈l.own,∀o,h.get? a=some o→h'.get? a=some o):∀o,OAt G gk R J h l o→OAt G gk R' J' h' l o
 | .inst C fs,e=>eO e λd es n e1 e2 e3 e4=>Exists.intro d ⟨es,n,e1,hl _ (.head _) _ e2,hl d (.tail _ (e1▸ .head _)) _ e3,FRel.mono hR hJ _ _ e4⟩
 | .list xs,e=>aS e λvs n e1 e2 e3=>Exists.intro vs ⟨n,e1,hl _ (.head _) _ e2,VRels.mono hR hJ _ _ e3⟩
 | .gdict es,e=>dm e λxs e1 q e8=>q.elim λo q=>q.elim λes' q=>q.elim λep q=>Exists.intro xs ⟨e1,⟨o,es',ep,hl _ (.head _) _ q.1,q.2.1,q.2.2.1,q.2.2.2.1,GRel.keys (λe=>hgk R J (λb o hb ho=>(hR b o hb ho).2) e) es xs e8,q.2.2.2.2.2⟩,GRel.mono hR hJ _ _ e8⟩
 | .idict es,e=>br e λo kvs e1 e2 e3 e4=>Exists.intro o ⟨kvs,e1,hl _ (.head _) _ e2,e3,DRel.mono hR hJ _ _ e4⟩
noncomputable def cq:AV→Option Int
 | .int i=>some i
 | _=>none
noncomputable def sD:AV→Option Str
 | .str x=>some x
 | _=>none
noncomputable def rP:AV→Option Bool
 | .bool b=>some b
 | _=>none
noncomputable def kv:AV→Option (List AV)
 | .tup l=>some l
 | _=>none
noncomputable def jy:AV→Option (List AV)
 | .lst l=>some l
 | _=>none
noncomputable def jz:AV→Option Nat
 | .ref k=>some k
 | _=>none
theorem ig (h:cq v=some x):v= .int x:=by cases v <;> first | exact au h | exact congrArg _ (aD h)
theorem v6 (h:sD v=some x):v= .str x:=by cases v <;> first | exact au h | exact congrArg _ (aD h)
theorem BC (h:rP v=some x):v= .bool x:=by cases v <;> first | exact au h | exact congrArg _ (aD h)
theorem lD (h:kv v=some x):v= .tup x:=by cases v <;> first | exact au h | exact congrArg _ (aD h)
theorem mP (h:jy v=some x):v= .lst x:=by cases v <;> first | exact au h | exact congrArg _ (aD h)
theorem jh (h:jz v=some x):v= .ref x:=by cases v <;> first | exact au h | exact congrArg _ (aD h)
noncomputable def x6:AO→Option (Addr × List (Nat × AV))
 | .inst C fs=>some (C,fs)
 | _=>none
noncomputable def x7:AO→Option (List AV)
 | .list l=>some l
 | _=>none
noncomputable def gO:AO→Option (List (GK × AV))
 | .gdict es=>some es
 | _=>none
theorem Cm (h:x6 v=some x):v= .inst x.1 x.2:=by cases v <;> first | exact au h | exact aD h▸rfl
theorem Cn (h:x7 v=some x):v= .list x:=by cases v <;> first | exact au h | exact congrArg _ (aD h)
theorem rQ (h:gO v=some x):v= .gdict x:=by cases v <;> first | exact au h | exact congrArg _ (aD h)
end
section
mutual
noncomputable def fJ:AV→AV→Option Bool
 | .none, .none=>some true
 | .none, .int _=>some false
 | .none, .str _=>some false
 | .int _, .none=>some false
 | .str _, .none=>some false
 | .int a, .int b=>some (a == b)
 | .str a, .str b=>some (a == b)
 | .bool a, .bool b=>some (a == b)
 | .ref a, .ref b=>if a=b then some true else none
 | .tup l, .tup m=>lV l m
 | .lst l, .lst m=>if l.length=m.length then lV l m else some false
 | _,_=>none
noncomputable def lV:List AV→List AV→Option Bool
 | [],[]=>some true
 | x::r,y::q=>(fJ x y).bind λa=>(lV r q).bind λb=>some (a && b)
 | _,_=>some false
end
mutual
noncomputable def jD:AV→Nat
 | .tup l=>fE l+1
 | .lst l=>fE l+1
 | _=>0
noncomputable def fE:List AV→Nat
 | []=>0
 | x::r=>max (jD x) (fE r)
end
variable {G:Gd} {R:List Addr} {J:aG}
theorem VRels.length:∀{l:List AV} {vs:List Value},VRels G R J h l vs→l.length=vs.length
 | [],vs,e=>by simp only [VRels] at e;subst e;rfl
 | x::r,vs,e=>by simp only [VRels] at e;refine aS e λv vs' rf2 _ e2=> ?_;subst rf2;simp [VRels.length e2]
theorem VRels.get:∀{l:List AV} {vs:List Value} (i:Nat) {x:AV} {v:Value},VRels G R J h l vs→l[i]? =some x→vs[i]? =some v→VRel G R J h x v
 | [],vs,i,x,v,e,e1,e2=>by simp at e1
 | y::r,vs,i,x,v,e,e1,e2=>by
  simp only [VRels] at e
  refine aS e λu us rf2 q1 q2=> ?_;subst rf2
  cases i with
  | zero=>simp only [List.getElem?_cons_zero,Option.some.injEq] at e1 e2;subst e1 e2;exact q1
  | succ i=>simp only [List.getElem?_cons_succ] at e1 e2;exact VRels.get i q2 e1 e2
mutual
inductive EqV:AV→AV→Bool→Prop
 | nn:EqV .none .none true
 | ni {i}:EqV .none (.int i) false
 | ns {x}:EqV .none (.str x) false
 | iN {i}:EqV (.int i) .none false
 | sN {x}:EqV (.str x) .none false
 | ii {a b}:EqV (.int a) (.int b) (a == b)
 | ss {a b}:EqV (.str a) (.str b) (a == b)
 | bb {a b}:EqV (.bool a) (.bool b) (a == b)
 | rr {a}:EqV (.ref a) (.ref a) true
 | tt {l m b}:EqVs l m b→EqV (.tup l) (.tup m) b
 | ll {l m b}:l.length=m.length→EqVs l m b→EqV (.lst l) (.lst m) b
 | ln {l m}:l.length≠m.length→EqV (.lst l) (.lst m) false
inductive EqVs:List AV→List AV→Bool→Prop
 | nil:EqVs [] [] true
 | nc {y q}:EqVs [] (y::q) false
 | cn {x r}:EqVs (x::r) [] false
 | cons {x y r q a b}:EqV x y a→EqVs r q b→EqVs (x::r) (y::q) (a && b)
end
theorem so {α:Type}{P:α→Prop}{a b:α}(h:P a)(e:some a=some b):P b:=aD e▸h
mutual
theorem rR:∀(x y:AV) (b:Bool),fJ x y=some b→EqV x y b
 | .none,y,b,e=>by cases y <;> first | exact au e | exact so .nn e | exact so .ni e | exact so .ns e
 | .int _,y,b,e=>by cases y <;> first | exact au e | exact so .iN e | exact so .ii e
 | .str _,y,b,e=>by cases y <;> first | exact au e | exact so .sN e | exact so .ss e
 | .bool _,y,b,e=>by cases y <;> first | exact au e | exact so .bb e
 | .ref a,y,b,e=>by
  cases y <;> first | exact au e | skip
  rename_i c
  exact if h:a=c then h▸so .rr ((if_pos h).symm.trans e) else au ((if_neg h).symm.trans e)
 | .tup l,y,b,e=>by
  cases y <;> first | exact au e | exact .tt (wD l _ b e)
 | .lst l,y,b,e=>by
  cases y <;> first | exact au e | skip
  rename_i m
  exact if h:l.length=m.length then .ll h (wD l m b ((if_pos h).symm.trans e)) else so (.ln h) ((if_neg h).symm.trans e)
 | .obj C fs,y,b,e=>by cases y <;> exact au e
 | .dct es,y,b,e=>by cases y <;> exact au e
 | .lit w,y,b,e=>by cases y <;> exact au e
theorem wD:∀(l m:List AV) (b:Bool),lV l m=some b→EqVs l m b
 | [],[],_,e=>so .nil e
 | [],_::_,_,e=>so .nc e
 | _::_,[],_,e=>so .cn e
 | x::r,y::q,b,e=>aw e λa e1 e=>aw e λb e2 e=>so (.cons (rR x y a e1) (wD r q b e2)) e
end
theorem DE (e:Data.seq a n=Data.seq b m):a=b:=(Data.seq.inj e).1
theorem DF {h:Heap}{vs us:List Value}(x:h.IsTuple a vs.toArray)(y:h.IsTuple a us.toArray):us=vs:=
 x.elim λ_ p=>y.elim λ_ q=>p.2.2.elim λ_ d=>q.2.2.elim λ_ d'=>(List.toArray_inj (DE (d.symm.trans (aD (p.1.symm.trans q.1)▸d')))).symm
theorem wG {h:Heap}{vs us:List Value}(x:h.IsList a vs.toArray)(y:h.IsList a us.toArray):us=vs:=
 x.elim λ_ p=>y.elim λ_ q=>p.2.2.elim λ_ d=>q.2.2.elim λ_ d'=>(List.toArray_inj (DE (d.symm.trans (aD (p.1.symm.trans q.1)▸d')))).symm
theorem lJ (e:Value.ref a= .ref b):a=b:=Value.ref.inj e
theorem jk {α:Type}{a b:α}{l m:List α}{P:Prop}(e:a::l=b::m)(k:a=b→l=m→P):P:=k (List.cons.inj e).1 (List.cons.inj e).2
theorem EC {v:Value}{P:Prop}(h:v= .none)(k:v= .int i t):P:=nomatch h.symm.trans k
theorem ED {v:Value}{P:Prop}(h:v= .none)(k:v= .str x t):P:=nomatch h.symm.trans k
theorem CW {α:Type}{l r:List α}{x:α}{P:Prop}(h:l=[])(k:l=x::r):P:=nomatch h.symm.trans k
theorem CX (e:EqV x y b):∀v,VRel G R J h x v→VRel G R J h y v→b=true:=
 EqV.rec (motive_1:=λx y b _=> ∀v,VRel G R J h x v→VRel G R J h y v→b=true) (motive_2:=λl m b _=> ∀vs,VRels G R J h l vs→VRels G R J h m vs→b=true)
  (λ_ _ _=>rfl) (λ_ hx hy=>Exists.elim hy λ_ q=>EC hx q) (λ_ hx hy=>Exists.elim hy λ_ q=>ED hx q)
  (λ_ hx hy=>Exists.elim hx λ_ q=>EC hy q) (λ_ hx hy=>Exists.elim hx λ_ q=>ED hy q)
  (λ_ hx hy=>Exists.elim hx λ_ p=>Exists.elim hy λ_ q=>beq_iff_eq.mpr (Value.int.inj (p.symm.trans q)).1) (λ_ hx hy=>Exists.elim hx λ_ p=>Exists.elim hy λ_ q=>beq_iff_eq.mpr (Value.str.inj (p.symm.trans q)).1)
  (λ_ hx hy=>beq_iff_eq.mpr (Value.bool.inj (Eq.trans (Eq.symm hx) hy)))
  (λ_ _ _=>rfl)
  (λ_ ih _ hx hy=>br hx λa vs p _ t l=>br hy λc us q _ t' m=>ih vs l (DF t (lJ (p.symm.trans q)▸t')▸m))
  (λ_ _ ih _ hx hy=>br hx λa vs p _ t l=>br hy λc us q _ t' m=>ih vs l (wG t (lJ (p.symm.trans q)▸t')▸m))
  (λn _ hx hy=>br hx λa vs p _ t l=>br hy λc us q _ t' m=>(n (l.length.trans (wG t (lJ (p.symm.trans q)▸t')▸m.length.symm))).elim)
  (λ_ _ _=>rfl) (λvs hl hm=>aS hm λv vs' e _ _=>CW hl e) (λvs hl hm=>aS hl λv vs' e _ _=>CW hm e)
  (λ_ _ ih1 ih2 vs hl hm=>aS hl λv vs' e p1 p2=>aS hm λu us e' q1 q2=>jk (e.symm.trans e') λe1 e2=>by rw [ih1 v p1 (e1▸q1),ih2 vs' p2 (e2▸q2)];rfl) e
structure Kinds (A:Around) (s:Shared) (T:Value→Value→Bool→Prop):Prop where
 nn:T .none .none true
 ni:∀i t,T .none (.int i t) false
 ns:∀x t,T .none (.str x t) false
 iN:∀i t,T (.int i t) .none false
 sN:∀x t,T (.str x t) .none false
 ii:∀a t b u,T (.int a t) (.int b u) (a == b)
 ss:∀a t b u,T (.str a t) (.str b u) (a == b)
 bb:∀a b,T (.bool a) (.bool b) (a == b)
 tt:∀{a c:Addr} {vs us:Array Value} {f:Nat→Bool},s.heap.IsTuple a vs→s.heap.IsTuple c us→A.units< cLine→(∀j (h1:j< vs.size) (h2:j< us.size),EqAt A.in1 s vs[j] us[j] (f j))→(a=c→((List.range (min vs.size us.size)).all f && vs.size == us.size)=true)→T (.ref a) (.ref c) ((List.range (min vs.size us.size)).all f && vs.size == us.size)
 ll:∀{a c:Addr} {vs us:Array Value} {f:Nat→Bool},s.heap.IsList a vs→s.heap.IsList c us→vs.size=us.size→A.units< cLine→(∀j (h1:j< vs.size) (h2:j< us.size),EqAt A.in1 s vs[j] us[j] (f j))→(a=c→(List.range vs.size).all f=true)→T (.ref a) (.ref c) ((List.range vs.size).all f)
 ln:∀{a c:Addr} {vs us:Array Value},s.heap.IsList a vs→s.heap.IsList c us→(vs.size != us.size)=true→A.units< cLine→a≠c→T (.ref a) (.ref c) false
theorem DG (h:RcAt A s (.ref a) (.ref c) b)(q:a=c→b=true):EqAt A s (.ref a) (.ref c) b:=
 if e:a=c then e▸(q e).symm▸EqAt.same _ else .of_refs e h
theorem yV (A:Around)(s:Shared):Kinds A s (EqAt A s):=
 ⟨.same _, .none_int, .none_str, .int_none, .str_none, .int_int, .str_str, .bool_bool,λh1 h2 hu hf q=>DG (.tuples h1 h2 hu hf) q,λh1 h2 hn hu hf q=>DG (.lists h1 h2 hn hu hf) q,λh1 h2 hn hu q=> .of_refs q (.lists_lengths h1 h2 hn hu)⟩
theorem TQ (h:n=m)(f:Nat→Bool):((List.range (min n m)).all f && n == m)=(List.range n).all f:=by rw [← h,Nat.min_self,beq_self_eq_true,Bool.and_true]
noncomputable def cf (a:Bool)(f:Nat→Bool):Nat→Bool
 | 0=>a
 | j+1=>f j
theorem TR (a:Bool)(f:Nat→Bool)(n m:Nat):((List.range (min (n+1) (m+1))).all (cf a f) && n+1 == m+1)=(a && ((List.range (min n m)).all f && n == m)):=by
 haveI h:(n+1 == m+1)=(n == m):=by simp
 rw [Nat.succ_min_succ,List.range_succ_eq_map,List.all_cons,List.all_map,Bool.and_assoc,h];rfl
theorem xe {α:Type}{vs:List α}{P:Prop}(h:vs=[])(k:j< vs.length):P:=absurd (h▸k:j< ([]:List α).length) (Nat.not_lt_zero j)
theorem Xc {vs us:List Value}(h:vs=[])(k:us=[]):true=((List.range (min vs.length us.length)).all (λ_=>true) && vs.length == us.length):=by subst h k;rfl
theorem Xd {vs us:List Value}(h:vs=[])(k:us=u::r):false=((List.range (min vs.length us.length)).all (λ_=>true) && vs.length == us.length):=by subst h k;rfl
theorem Xe {vs us:List Value}(h:us=[])(k:vs=u::r):false=((List.range (min vs.length us.length)).all (λ_=>true) && vs.length == us.length):=by subst h k;rfl
theorem xf (e:EqV x y b):∀{A:Around} {T:Value→Value→Bool→Prop} (K:Kinds A s T) {v u:Value},VRel G R J s.heap x v→VRel G R J s.heap y u→A.units+jD x< cLine→(∀k,x= .ref k→∀w,T w w true)→T v u b:=
 EqV.rec (motive_1:=λx y b _=> ∀{A:Around} {T:Value→Value→Bool→Prop} (K:Kinds A s T) {v u:Value},VRel G R J s.heap x v→VRel G R J s.heap y u→A.units+jD x< cLine→(∀k,x= .ref k→∀w,T w w true)→T v u b)
  (motive_2:=λl m b _=> ∀{A:Around} {vs us:List Value},VRels G R J s.heap l vs→VRels G R J s.heap m us→A.units+fE l< cLine→∃f,b=((List.range (min vs.length us.length)).all f && vs.length == us.length)∧∀j (h1:j< vs.length) (h2:j< us.length),EqAt A s vs[j] us[j] (f j))
  (λK _ _ hx hy _ _=>hx▸hy▸K.nn) (λK _ _ hx hy _ _=>Exists.elim hy λ_ q=>hx▸q▸K.ni _ _) (λK _ _ hx hy _ _=>Exists.elim hy λ_ q=>hx▸q▸K.ns _ _)
  (λK _ _ hx hy _ _=>Exists.elim hx λ_ p=>p▸hy▸K.iN _ _) (λK _ _ hx hy _ _=>Exists.elim hx λ_ p=>p▸hy▸K.sN _ _)
  (λK _ _ hx hy _ _=>Exists.elim hx λ_ p=>Exists.elim hy λ_ q=>p▸q▸K.ii _ _ _ _) (λK _ _ hx hy _ _=>Exists.elim hx λ_ p=>Exists.elim hy λ_ q=>p▸q▸K.ss _ _ _ _)
  (λK _ _ hx hy _ _=>hx▸hy▸K.bb _ _)
  (λ_ _ _ hx hy _ hr=>aW hx λl p1 p2=>aW hy λl' q1 q2=>p2▸q2▸aD (p1.symm.trans q1)▸hr _ rfl _)
  (λe ih A T K v u hx hy hA _=>br hx λa vs p p0 t l=>br hy λc us q q0 t' m=>aW (ih (A:=A.in1) l m (dc (Nat.le_of_eq (Nat.succ_add _ _)) hA)) λf hb hf=>
   p▸q▸hb▸K.tt t t' (dc (Nat.le_add_right _ _) hA) hf λz=>hb▸CX (.tt e) _ ⟨a,vs,rfl,p0,t,l⟩ ⟨a,us,rfl,p0,z▸t',m⟩)
  (λn e ih A T K v u hx hy hA _=>br hx λa vs p p0 t l=>br hy λc us q q0 t' m=>aW (ih (A:=A.in1) l m (dc (Nat.le_of_eq (Nat.succ_add _ _)) hA)) λf hb hf=>
   have hn:vs.length=us.length:=l.length.symm.trans (n.trans m.length)
   haveI hb':=hb.trans (TQ hn f)
   p▸q▸hb'▸K.ll t t' hn (dc (Nat.le_add_right _ _) hA) hf λz=>hb'▸CX (.ll n e) _ ⟨a,vs,rfl,p0,t,l⟩ ⟨a,us,rfl,p0,z▸t',m⟩)
  (λn A T K v u hx hy hA _=>br hx λa vs p p0 t l=>br hy λc us q q0 t' m=>have hn:vs.length≠us.length:=λz=>n (l.length.trans (z.trans m.length.symm))
   p▸q▸K.ln t t' (bne_iff_ne.mpr hn) (dc (Nat.le_add_right _ _) hA) λz=>hn (congrArg List.length (wG t (z▸t'))).symm)
  (λhl hm _=>⟨λ_=>true,Xc hl hm,λj h1=>xe hl h1⟩) (λhl hm _=>aS hm λv vs' e _ _=>⟨λ_=>true,Xd hl e,λj h1=>xe hl h1⟩) (λhl hm _=>aS hl λv vs' e _ _=>⟨λ_=>true,Xe hm e,λj _ h1=>xe hm h1⟩)
  (@λx y r q a b e1 e2 ih1 ih2 A vs us hl hm hA=>aS hl λv vs' e p1 p2=>aS hm λu us' e' q1 q2=>aW (ih2 (A:=A) p2 q2 (dc (Nat.add_le_add_left (Nat.le_max_right _ _) _) hA)) λf hb hf=>
   ⟨cf a f,by subst e e';exact (congrArg (a && ·) hb).trans (TR a f _ _).symm,by
    subst e e'
    exact λj=>match j with
    | 0=>λ_ _=>ih1 (yV A s) p1 q1 (dc (Nat.add_le_add_left (Nat.le_max_left _ _) _) hA) λ_ _ _=> .same _
    | j+1=>λh1 h2=>hf j (Nat.lt_of_succ_lt_succ h1) (Nat.lt_of_succ_lt_succ h2)⟩) e
noncomputable abbrev om (h:Heap)(k:GK)(a:Addr):Prop:=VRel G [] [] h (aX k) (.ref a)
theorem cc {α:Type}{x:α}{l l' r:List α}(h:r=x::l)(e:l=l'):r=x::l':=e▸h
theorem oZ {P:Prop}(e:VRels G R J h (.int i::l) vs)(k:∀t us,vs= .int i t::us→VRels G R J h l us→P):P:=
 aS e λv us q p r=>Exists.elim p λt p=>k t us (p▸q) r
theorem jm (e:VRel G R J h (aX k) (.ref a)):∃b t1 t2 t3 t4 t5,
  h.IsTuple a #[.int k.k t1, .ref b, .int k.pk t2, .int k.n t3]∧h.IsTuple b #[.int k.s1 t4, .int k.s2 t5]:=
 br e λa' vs e1 _ e2 l=>oZ l λt1 r1 q1 l=>aS l λv r2 q2 p l=>oZ l λt2 r3 q3 l=>oZ l λt3 r4 q4 l=>
 br p λb us p1 _ p2 l'=>oZ l' λt4 r5 q5 l'=>oZ l' λt5 r6 q6 l'=>
  ⟨b,t1,t2,t3,t4,t5,(lJ e1).symm▸(cc q1 (cc (p1▸q2) (cc q3 (cc q4 l))):vs=_)▸e2,(cc q5 (cc q6 l'):us=_)▸p2⟩
theorem Co (e:h.IsTuple a #[.int k.k t1, .ref b, .int k.pk t2, .int k.n t3])(e2:h.IsTuple b #[.int k.s1 t4, .int k.s2 t5]):om (G:=G) h k a:=
 haveI b1:VRel G [] [] h (.tup [.int k.s1, .int k.s2]) (.ref b):=Exists.intro b ⟨[_,_],rfl,bq,e2,_,_,rfl,⟨_,rfl⟩,_,_,rfl,⟨_,rfl⟩,rfl⟩
 Exists.intro a ⟨[_,_,_,_],rfl,bq,e,_,_,rfl,⟨_,rfl⟩,_,_,rfl,b1,_,_,rfl,⟨_,rfl⟩,_,_,rfl,⟨_,rfl⟩,rfl⟩
theorem DH {h:Heap}{vs us:List Value}(x:h.IsTuple a vs.toArray)(y:h.IsTuple a us.toArray):vs=us:=(DF x y).symm
theorem RJ (hx:om (G:=G) h x a)(hy:om (G:=G) h y a):x=y:=
 lG (jm hx) λb t1 t2 t3 t4 t5 h1 h2=>lG (jm hy) λb' u1 u2 u3 u4 u5 k1 k2=>
  jk (DH (vs:=[_,_,_,_]) (us:=[_,_,_,_]) h1 k1) λe1 q=>jk q λe2 q=>jk q λe3 q=>jk q λe4 _=>
  jk (DH (vs:=[_,_]) (us:=[_,_]) h2 (lJ e2▸k2)) λe5 q=>jk q λe6 _=>by
   cases x;cases y
   exact (GK.mk.injEq ..).mpr ⟨(Value.int.inj e1).1,(Value.int.inj e5).1,(Value.int.inj e6).1,(Value.int.inj e3).1,(Value.int.inj e4).1⟩
theorem AI (x:h.IsTuple a vs)(ho:h.get? d=some o)(hd:o.data= .dict es ep)(hs:Heap.SameBut d h h'):h'.IsTuple a vs:=by
 refine xZ x λo' ho' hc n hd'=> ?_
 have hne:a≠d:=by
  rintro rfl
  obtain rfl:o'=o:=aD (ho'.symm.trans ho)
  rw [hd] at hd';exact nomatch hd'
 exact ⟨o',(hs.2 a hne).trans ho',hc,n,hd'⟩
theorem qH {s:Shared}(x:s.heap.IsTuple a vs):s.TypeIs (.ref a) "tuple":=let ⟨o,ho,hc,_⟩:=x;⟨o,ho,hc⟩
variable {prog:Program} {w:World}
noncomputable def HashAt (prog:Program)(w:World)(h:Heap)(v:Value)(m:Nat)(z:Int)(d:Nat):Prop:=
 ∀(A:Around) (E:Value→Shared→Prop) (s:Shared) (Q:Int→Shared→Prop),s.heap=h→A.units+m< cLine→Q z { s with toks:=s.toks+d }→wpAny (model prog w) A (pyHash v) Q E s
theorem HashAt.int (i:Int)(t:Tok)(m:Nat):HashAt prog w h (.int i t) m (hashInt i) 1:=λA E s Q _ _ q=>wpAny_pyHash_int q
noncomputable def pq (prog:Program)(w:World)(h:Heap)(m:Nat):List Value→List Int→Nat→Prop
 | [],zs,d=>zs=[]∧d=0
 | v::r,zs,d=> ∃z zs' d1 d2,zs=z::zs'∧d=d1+d2∧HashAt prog w h v m z d1∧pq prog w h m r zs' d2
theorem HashAt.tuple (ht:h.IsTuple a vs.toArray)(hv:pq prog w h m vs zs d):
  HashAt prog w h (.ref a) (m+1) (reduceHash (Builtin.Tuple.tupleHashOf zs)) (d+1):=by
 intro A E s Q hs hu hq
 subst hs
 haveI hT:=qH ht
 refine xZ ht λo ho _ n hd=> ?_
 unfold pyHash
 first | unfold pyHashByItsType | skip
 first | refine am (wpAny_cRoomFor_or (.inr (by omega)) ?_) | skip
 refine am (wpAny_specialOf hT F.slot_tuple_hash.lookup ?_)
 rw [if_neg (by exact Bool.false_ne_true)]
 refine am (wpAny_specialOf hT F.slot_tuple_hash.lookup ?_)
 refine am (wpAny_callSpecialIfBoundUnlessNone?_slot hT F.slot_tuple_hash (wpAny_call_entry F.slot_tuple_hash hT F.entry_tuple_hash ?_ (F.args_tuple_hash_1 _)))
 show wpAny _ _ (Builtin.Tuple.tupleItemsOf (.ref a) >>= _) _ _ s
 refine am (wpAny_tupleItemsOf ho hd ?_)
 refine am ?_
 rw [← Array.forIn_toList]
 refine wpAny_forIn_list _
  (λrest (b:Array Int) s'=> ∃zs' d1 d2,pq prog w s.heap m rest zs' d2∧d=d1+d2∧b.toList ++zs'=zs∧s'= { s with toks:=s.toks+d1 })
  _ ?_ ?_ _ _ ⟨zs,0,d,hv,by omega,rfl,rfl⟩
 ·rintro x rest b s' ⟨zs',d1,d2,hl,rfl,hb,rfl⟩
  simp only [pq] at hl
  obtain ⟨z,zs'',e1,e2,rfl,rfl,hz,hr⟩:=hl
  refine am (hz _ _ _ _ rfl (by simp only [Around.in1_units];omega) ?_)
  first
   | exact aC ⟨zs'',d1+e1,e2,hr,by omega,by simpa using hb,by simp [Nat.add_assoc]⟩
   | exact am (aC (aC ⟨zs'',d1+e1,e2,hr,by omega,by simpa using hb,by simp [Nat.add_assoc]⟩))
 ·rintro b s' ⟨zs',d1,d2,hl,rfl,hb,rfl⟩
  simp only [pq] at hl
  obtain ⟨rfl,rfl⟩:=hl
  rw [List.append_nil] at hb
  subst hb
  refine wpAny_ret_mkInt ?_
  show wpAny _ _ (if (decide (-(2:Int) ^ 63≤Builtin.Tuple.tupleHashOf b.toList) && decide (Builtin.Tuple.tupleHashOf b.toList< 2 ^ 63))=true then _ else _) Q E _
  unfold reduceHash at hq
  by_cases hr:(decide (-(2:Int) ^ 63≤Builtin.Tuple.tupleHashOf b.toList) && decide (Builtin.Tuple.tupleHashOf b.toList< 2 ^ 63))=true
  ·rw [if_pos hr]
   rw [if_pos hr] at hq
   exact aC (by simpa [Nat.add_assoc] using hq)
  ·rw [if_neg hr]
   rw [if_neg hr] at hq
   exact am (wpAny_rule (aC (by simpa [Nat.add_assoc] using hq)))
theorem DI (x y:GK):fJ (aX x) (aX y)=some (decide (x=y)):=by
 obtain ⟨a,b,c,d,e⟩:=x
 obtain ⟨a',b',c',d',e'⟩:=y
 refine congrArg some (show (a == a' && ((b == b' && (c == c' && true)) && (d == d' && (e == e' && true))))=_ from ?_)
 rw [Bool.eq_iff_iff]
 simp only [Bool.and_true,decide_eq_true_eq,Bool.and_eq_true,beq_iff_eq,GK.mk.injEq,and_assoc]
theorem Cp {vs:List Value}(ht:s.heap.IsTuple a vs.toArray)
  (hv:∀v∈vs,∀(E:Value→Shared→Prop) (Q:Bool→Shared→Prop),Q true s→wpAny (model prog w) A (eqIsQuiet n v) Q E s)(h:Q true s):wpAny (model prog w) A (eqIsQuiet (n+1) (.ref a)) Q E s:=by
 have hT:=qH ht
 refine xZ ht λo ho _ m hd=> ?_
 unfold eqIsQuiet
 refine am (wpAny_specialOf hT F.slot_tuple_eq.lookup ?_)
 refine am (wpAny_isInstance hT isSubtype_tuple_tuple ?_)
 refine am (wpAny_seqItems ho hd ?_)
 refine am ?_
 rw [← Array.forIn_toList]
 refine wpAny_forIn_list _ (λrest r s'=>r.1=none∧s'=s∧∀v∈rest,v∈vs) _ ?_ ?_ _ _ ⟨rfl,rfl,by simp⟩
 ·rintro v rest r s' ⟨hr,rfl,hall⟩
  refine am (hv v (hall v (bY)) _ _ ?_)
  exact aC ⟨rfl,rfl,λu hu'=>hall u (cQ _ hu')⟩
 ·rintro ⟨r1,r2⟩ s' ⟨hr,rfl,_⟩
  simp only at hr
  subst hr
  exact aC h
theorem Qc (hk:om (G:=G) s.heap k a)(h:Q true s):wpAny (model prog w) A (eqIsQuiet 8 (.ref a)) Q E s:=by
 refine lG (jm hk) λb t1 t2 t3 t4 t5 h1 h2=> ?_
 have byv:∀n i t (E:Value→Shared→Prop) (Q:Bool→Shared→Prop),Q true s→wpAny (model prog w) A (eqIsQuiet n (.int i t)) Q E s:=λn i t E Q q=>by
  rw [eqIsQuiet_byValue n (by rfl)];exact aC q
 refine Cp (vs:=[_,_,_,_]) h1 ?_ h
 intro v hv E Q q
 simp only [List.mem_cons,List.not_mem_nil,or_false] at hv
 rcases hv with rfl | rfl | rfl | rfl
 ·exact byv _ _ _ _ _ q
 ·refine Cp (vs:=[_,_]) h2 ?_ q
  intro v hv E Q q
  simp only [List.mem_cons,List.not_mem_nil,or_false] at hv
  rcases hv with rfl | rfl <;> exact byv _ _ _ _ _ q
 ·exact byv _ _ _ _ _ q
 ·exact byv _ _ _ _ _ q
theorem RK (hk:om (G:=G) h k a):HashAt prog w h (.ref a) 2
  (reduceHash (Builtin.Tuple.tupleHashOf [hashInt k.k,reduceHash (Builtin.Tuple.tupleHashOf [hashInt k.s1,hashInt k.s2]),hashInt k.pk,hashInt k.n])) 7:=by
 refine lG (jm hk) λb t1 t2 t3 t4 t5 h1 h2=> ?_
 refine HashAt.tuple (vs:=[_,_,_,_]) (d:=6) h1 ?_
 refine ⟨_,_,1,5,rfl,rfl,HashAt.int _ _ _,_,_,3,2,rfl,rfl,?_,_,_,1,1,rfl,rfl,HashAt.int _ _ _,_,_,1,0,rfl,rfl,HashAt.int _ _ _,rfl,rfl⟩
 exact HashAt.tuple (vs:=[_,_]) (d:=2) h2 ⟨_,_,1,1,rfl,rfl,HashAt.int _ _ _,_,_,1,0,rfl,rfl,HashAt.int _ _ _,rfl,rfl⟩
noncomputable def dL (G:Gd):HeapKind G.prog G.w GK where
 is:=λh k a=>om (G:=G) h k a
 hash:=λk=>reduceHash (Builtin.Tuple.tupleHashOf [hashInt k.k,reduceHash (Builtin.Tuple.tupleHashOf [hashInt k.s1,hashInt k.s2]),hashInt k.pk,hashInt k.n])
 draws:=λ_=>7
 room:=λA=>A.units+4< cLine
 inj:=λhx hy=>RJ hx hy
 keeps:=λx ho hd hs=>by
  obtain ⟨b,t1,t2,t3,t4,t5,h1,h2⟩:=jm x
  exact Co (AI h1 ho hd hs) (AI h2 ho hd hs)
 pyHash:=λ{A E s k a Q} hu hk h=>RK hk A E s Q rfl (by omega) h
 eqBool:=λ{A E s x y a b Q} hu hx hy h=>by
  exact xf (rR _ _ _ (DI x y)) (yV A s) hx hy (dc (Nat.add_le_add_left (by decide:2≤4) _) hu) (λk z=>nomatch z) _ _ _ _ h
 quiet:=λhk h=>Qc hk h
end
section
abbrev OA (G:Gd):=OAt G (dL G)
noncomputable abbrev aI:Value→Shared→Prop:=λ_ _=>False
noncomputable def KB (X:List Addr)(h h':Heap):Prop:=∀b o,b∉X→h.get? b=some o→h'.get? b=some o
theorem KB.refl (X:List Addr)(h:Heap):KB X h h:=λ_ _ _ e=>e
theorem KB.trans (x:KB X a b)(y:KB X b c):KB X a c:=λ_ _ hb e=>y _ _ hb (x _ _ hb e)
structure AOk (d:Nat) (A:Around):Prop where
 hd:A.handled=none
 dp:A.depth+d< recursionLimit
 un:A.units+40 * d+80< cLine
theorem AOk.u (a:AOk d A):A.units+80< cLine:=by haveI:=a.un;omega
noncomputable def RL (R:List Addr)(h:Heap):Prop:=∀a∈R,∃o,h.get? a=some o
theorem RL.fresh (r:RL R h)(e:h.get? a=none):a∉R:=λm=>by refine xE (r a m) λo ho=> ?_;exact au ((e).symm.trans ho)
theorem dr (h:Heap):h.get? h.objs.size=none:=by
 cases e:h.get? h.objs.size with
 | none=>rfl
 | some o=>exact absurd (Heap.lt_size e) (Nat.lt_irrefl _)
theorem RL.size (r:RL R h):h.objs.size∉R:=r.fresh (dr h)
structure SR (G:Gd) (R:List Addr) (J:aG) (V:ar) (h:Heap):Prop where
 base:G.g.StaysIn h
 len:J.length=V.length
 objs:∀(k:Nat) (o:AO) (l:Loc),V[k]? =some o→J[k]? =some l→OA G R J h l o
 nodup:(own J).Nodup
 sub:∀a∈own J,a∈R
 resv:∀a∈R,G.g.get? a=none
 live:RL R h
 tbR:∀a∈G.TB,a∈R∧a∉own J
 tabs:G.Tabs h
 abv:∃a o,h.get? a=some o∧G.g.objs.size≤a
variable {G:Gd}
theorem sE (hk:∀b o,b∉R→h.get? b=some o→h'.get? b=some o)(e:VRel G R J h (aX k) (.ref a)):(dL G).is h' k a:=by
 haveI e':VRel G R J h' (aX k) (.ref a):=VRel.mono (λa o ha ho=>⟨ha,hk a o ha ho⟩) (λ_ _ x=>x) _ _ e
 refine lG (jm e') λb t1 t2 t3 t4 t5 h1 h2=> ?_
 exact Co h1 h2
theorem OA.mono (hR:∀a o,a∉R→h.get? a=some o→a∉R'∧h'.get? a=some o)(hJ:∀(k:Nat) (l:Loc),J[k]? =some l→J'[k]? =some l)
  (hl:∀a∈l.own,∀o,h.get? a=some o→h'.get? a=some o)(o:AO)(e:OA G R J h l o):OA G R' J' h' l o:=
 OAt.mono (λR J hk e=>sE hk e) hR hJ hl o e
theorem dS {k:Nat}(e:J[k]? =some l)(h:a∈l.own):a∈own J:=by
 unfold own
 exact List.mem_flatMap.mpr ⟨l,d7 e,h⟩
theorem VRel.kb (k:KB X h h')(hX:∀a∈X,a∈R)(e:VRel G R J h x v):VRel G R J h' x v:=
 VRel.mono (λa o ha ho=>⟨ha,k a o (λm=>ha (hX a m)) ho⟩) (λ_ _ x=>x) _ _ e
theorem VRels.kb (k:KB X h h')(hX:∀a∈X,a∈R)(e:VRels G R J h x v):VRels G R J h' x v:=
 VRels.mono (λa o ha ho=>⟨ha,k a o (λm=>ha (hX a m)) ho⟩) (λ_ _ x=>x) _ _ e
theorem VRel.keep (k:KB [] h h')(e:VRel G R J h x v):VRel G R J h' x v:=VRel.kb k (by simp) e
theorem VRels.keep (k:KB [] h h')(e:VRels G R J h x v):VRels G R J h' x v:=VRels.kb k (by simp) e
theorem KB.get (k:KB [] h h')(e:h.get? b=some o):h'.get? b=some o:=k b o bq e
theorem SR.tr (S:SR G R J V h)(hb:G.g.StaysIn h')(hR:∀a o,a∉R→h.get? a=some o→a∉R'∧h'.get? a=some o)(hk:∀a∈own J,∀o,h.get? a=some o→h'.get? a=some o)
  (hi:∀a∈R,a∈own J∨a∈G.TB→a∈R')(hv:∀a∈R',G.g.get? a=none)(lv:RL R' h')(tb:G.Tabs h')(ab:∃a o,h'.get? a=some o∧G.g.objs.size≤a):SR G R' J V h' where
 base:=hb
 len:=S.len
 objs:=λi o l e1 e2=>OA.mono hR (λ_ _ x=>x) (λa m=>hk a (dS e2 m)) o (S.objs i o l e1 e2)
 nodup:=S.nodup
 sub:=λa m=>hi a (S.sub a m) (.inl m)
 resv:=hv
 live:=lv
 tbR:=λa m=>⟨hi a (S.tbR a m).1 (.inr m),(S.tbR a m).2⟩
 tabs:=tb
 abv:=ab
theorem SR.keep (S:SR G R J V h)(k:KB [] h h'):SR G R J V h':=
 S.tr (λb o e=>k.get (S.base b o e)) (λ_ _ ha e=>⟨ha,k.get e⟩) (λ_ _ _ e=>k.get e) (λ_ m _=>m) S.resv (λa m=>(S.live a m).imp λ_ e=>k.get e) (G.tabs h h' [] k (λ_ _=>bq) nofun S.tabs) (S.abv.imp λ_ q=>q.imp λ_ q=>⟨k.get q.1,q.2⟩)
set_option genInjectivity false in
structure FI where
 names:List (Str × NameKind)
 slots:List Str
 d:Nat
 code:Value
 qual:Str
noncomputable abbrev Lo:=List (Option AV)
noncomputable def fa (env:Env):List Addr:=env.locals::env.cells.map (·.2)
noncomputable def d8:Option NameKind→Bool
 | some .cell=>true
 | some .free=>true
 | _=>false
structure FRm (G:Gd) (Γ:FI) (R:List Addr) (J:aG) (h:Heap) (env:Env) (U:Lo) (m:Str→Option Value):Prop where
 kind:env.scope.kind= .function
 glob:env.globals=mainGlobals
 bt:env.builtins=builtinsNs∧env.code=Γ.code∧env.qual=Γ.qual
 nms:env.scope.names=Γ.names
 fr:Fr G.g env.locals h m
 faR:∀a∈fa env,a∈R∧a∉own J∧a∉G.TB
 faNd:(fa env).Nodup
 faR':∀a∈env.cells.map (·.2),∃o,h.get? a=some o
 loc:∀(i:Nat) (x:Str) (v:AV),Γ.slots[i]? =some x→U[i]? =some (some v)→Γ.names.lookup x=some .local→∃val,m x=some val∧VRel G R J h v val
 cel:∀(i:Nat) (x:Str) (v:AV),Γ.slots[i]? =some x→U[i]? =some (some v)→d8 (Γ.names.lookup x)=true→∃c val,env.cells.lookup x=some c∧h.IsCell c (some val)∧VRel G R J h v val
 celAll:∀(x:Str),Γ.names.lookup x=some .cell→∃c w,env.cells.lookup x=some c∧h.IsCell c w
noncomputable def FR (G:Gd)(Γ:FI)(R:List Addr)(J:aG)(h:Heap)(env:Env)(U:Lo):Prop:=∃m,FRm G Γ R J h env U m
theorem kf {h h':Heap}(x:h.IsCell c v)(k:∀o,h.get? c=some o→h'.get? c=some o):h'.IsCell c v:=x.imp λ_ q=>⟨k _ q.1,q.2⟩
theorem mQ {cs:List (Str × Addr)}(e:cs.lookup x=some c):c∈cs.map (·.2):=List.mem_map.mpr ⟨_,mem_of_lookup e,rfl⟩
theorem mG (e:env.cells.lookup x=some c):c∈fa env:= .tail _ (mQ e)
theorem eP:env.locals∈fa env:=bY
theorem FRm.tr (F:FRm G Γ R J h env U m)(hb:G.g.StaysIn h')(hR:∀a o,a∉R→h.get? a=some o→a∉R'∧h'.get? a=some o)(hJ:∀(k:Nat) (l:Loc),J[k]? =some l→J'[k]? =some l)
  (hf:∀a∈fa env,a∈R'∧a∉own J')(hk:∀a∈fa env,∀o,h.get? a=some o→h'.get? a=some o):FRm G Γ R' J' h' env U m where
 kind:=F.kind
 glob:=F.glob
 bt:=F.bt
 nms:=F.nms
 fr:=⟨F.fr.ns.at' (hk _ eP),hb,F.fr.above⟩
 faR:=λa q=>⟨(hf a q).1,(hf a q).2,(F.faR a q).2.2⟩
 faNd:=F.faNd
 faR':=λa q=>(F.faR' a q).imp λo=>hk a (.tail _ q) o
 loc:=λi x v a b c=>(F.loc i x v a b c).imp λ_ q=>⟨q.1,VRel.mono hR hJ _ _ q.2⟩
 cel:=λi x v a b c=>(F.cel i x v a b c).imp λce q=>q.imp λ_ q=>⟨q.1,kf q.2.1 (hk ce (mG q.1)),VRel.mono hR hJ _ _ q.2.2⟩
 celAll:=λx a=>(F.celAll x a).imp λce q=>q.imp λ_ q=>⟨q.1,kf q.2 (hk ce (mG q.1))⟩
theorem FRm.keep (F:FRm G Γ R J h env U m)(k:KB [] h h'):FRm G Γ R J h' env U m:=
 F.tr (λb o e=>k.get (F.fr.keep b o e)) (λ_ _ ha e=>⟨ha,k.get e⟩) (λ_ _ x=>x) (λa q=>⟨(F.faR a q).1,(F.faR a q).2.1⟩) (λ_ _ _ e=>k.get e)
theorem FR.keep (F:FR G Γ R J h env U)(k:KB [] h h'):FR G Γ R J h' env U:=F.imp λ_ f=>f.keep k
theorem kx {a b c:Shared}(x:∃h tk,b= { a with heap:=h,toks:=tk })(y:∃h tk,c= { b with heap:=h,toks:=tk }):∃h tk,c= { a with heap:=h,toks:=tk }:=by
 refine fy x λ_ _ rf2=> ?_;subst rf2;obtain ⟨_,_,rfl⟩:=y;exact ⟨_,_,rfl⟩
theorem Hl {α:Type}{x y z:α}{P:α→Prop}(h1:P x)(h2:P y)(h3:P z):∀a∈ [x,y,z],P a:=λ_ m=>(aU m).elim (λe=>e▸h1) λm=>(aU m).elim (λe=>e▸h2) λm=>aH m▸h3
structure Kp (s s':Shared):Prop where
 sh:∃h tk,s'= { s with heap:=h,toks:=tk }
 kb:KB [] s.heap s'.heap
theorem Kp.refl (s:Shared):Kp s s:=⟨⟨_,_,rfl⟩,KB.refl _ _⟩
theorem Kp.trans (x:Kp a b)(y:Kp b c):Kp a c:=⟨kx x.sh y.sh,x.kb.trans y.kb⟩
theorem Kp.tok (s:Shared)(t:Nat):Kp s { s with toks:=t }:=⟨⟨s.heap,t,rfl⟩,KB.refl _ _⟩
theorem KB.push (h:Heap)(o:Obj):KB [] h (h.push o):=λ_ _ _ e=>cA _ e
theorem Kp.push (s:Shared)(o:Obj):Kp s { s with heap:=s.heap.push o }:=⟨⟨_,s.toks,rfl⟩,KB.push _ _⟩
structure Cx (G:Gd) (Γ:FI) (A:Around) (s:Shared) (env:Env) (R:List Addr) (J:aG) (U:Lo) (V:ar):Prop where
 A:AOk Γ.d A
 S:SR G R J V s.heap
 F:FR G Γ R J s.heap env U
theorem Cx.kp {A:Around}(c:Cx G Γ A s env R J U V)(k:Kp s s'):Cx G Γ A s' env R J U V:=
 ⟨c.A,c.S.keep k.kb,c.F.keep k.kb⟩
abbrev a7:=Lo→ar→Option AV
noncomputable def MP (G:Gd)(Γ:FI)(e:Expr)(x:a7):Prop:=
 ∀U V v,x U V=some v→∀(A:Around) (s:Shared) (env:Env) (R:List Addr) (J:aG) (Q:Value→Shared→Prop),Cx G Γ A s env R J U V→
  (∀r s',Kp s s'→VRel G R J s'.heap v r→Q r s')→wpAny (model G.prog G.w) A (eval e env) Q aI s
abbrev dz:=Lo→ar→Option Bool
noncomputable def MT (G:Gd)(Γ:FI)(e:Expr)(x:dz):Prop:=
 ∀U V v,x U V=some v→∀(A:Around) (s:Shared) (env:Env) (R:List Addr) (J:aG) (Q:Bool→Shared→Prop),Cx G Γ A s env R J U V→
  (∀s',Kp s s'→Q v s')→wpAny (model G.prog G.w) A (isTrue e env (eval e env)) Q aI s
variable {Γ:FI}
noncomputable def aa (i:Nat):a7:=λU _=>(U[i]?).join
theorem pt {α:Type}{o:Option (Option α)}{v:α}(e:o.join=some v):o=some (some v):=match o,e with | some (some _),e=>congrArg some e
theorem ij {env:Env}(h:env.scope.names=names)(x:Str):env.kindOf x=names.lookup x:=congrArg (·.lookup x) h
theorem m4 (h:k=some d)(e:d8 (some d)=true):d8 k=true:=h▸e
noncomputable def Xf:Option NameKind→Bool
 | some .local | some .cell=>true
 | _=>false
theorem GI:∀{o:Option NameKind},Xf o=true→o=some .local∨o=some .cell
 | some .local,_=> .inl rfl
 | some .cell,_=> .inr rfl
 | some .free,h | some .globalExplicit,h | some .globalImplicit,h | none,h=>ft h
theorem af {pos:Pos}(hs:Γ.slots[i]? =some x:=by rfl)(hk:Γ.names.lookup x=some .local∨Γ.names.lookup x=some .cell:=by exact GI (by kernel_rfl))(hd:(x == ("__debug__":Str))=false:=by kernel_rfl):
  MP G Γ (.Name x pos) (aa i):=λU V v e A s env R J Q c hQ=>c.F.elim λm F=>hk.elim
 (λhk=>(F.loc i x v hs (pt e) hk).elim λval q=>wpAny_Name (wpAny_loadName_local F.kind ((ij F.nms x).trans hk) F.fr.ns q.1 (hQ _ _ (Kp.refl _) q.2)) hd)
 λhk=>(F.cel i x v hs (pt e) (m4 hk rfl)).elim λce q=>q.elim λval q=>wpAny_Name (wpAny_loadName_cell F.kind ((ij F.nms x).trans hk) q.1 q.2.1 (hQ _ _ (Kp.refl _) q.2.2)) hd
theorem kg {pos:Pos}(hs:Γ.slots[i]? =some x:=by rfl)(hk:Γ.names.lookup x=some .free:=by kernel_rfl)(hd:(x == ("__debug__":Str))=false:=by kernel_rfl)(hn:(x == ("__classdict__":Str))=false:=by kernel_rfl):
  MP G Γ (.Name x pos) (aa i):=λU V v e A s env R J Q c hQ=>c.F.elim λm F=>
 (F.cel i x v hs (pt e) (m4 hk rfl)).elim λce q=>q.elim λval q=>wpAny_Name (wpAny_loadName_free F.kind ((ij F.nms x).trans hk) q.1 q.2.1 (hQ _ _ (Kp.refl _) q.2.2) hn) hd
noncomputable def ah (v:AV):a7:=λ_ _=>some v
theorem an:MP G Γ (.Constant (.int i) k pos) (ah (.int i)):=by
 intro U V v e A s env R J Q c hQ
 replace e:=aD e;subst e
 exact wpAny_Constant_int (hQ _ _ (Kp.tok _ _) (by simp [VRel]))
theorem bI:MP G Γ (.Constant (.str x) k pos) (ah (.str x)):=by
 intro U V v e A s env R J Q c hQ
 replace e:=aD e;subst e
 exact Constant_str (hQ _ _ (Kp.tok _ _) (by simp [VRel]))
theorem ki:MP G Γ (.Constant .none k pos) (ah .none):=by
 intro U V v e A s env R J Q c hQ
 replace e:=aD e;subst e
 exact aC (hQ _ _ (Kp.refl _) (rfl))
theorem cZ:MP G Γ (.Constant (.bool b) k pos) (ah (.bool b)):=by
 intro U V v e A s env R J Q c hQ
 replace e:=aD e;subst e
 exact aC (hQ _ _ (Kp.refl _) (rfl))
noncomputable def aM (G:Gd)(x:Str)(v:AV):Prop:=∃w,nsIn G.K mainGlobals x=some (some w)∧∀(R:List Addr) (J:aG) (h:Heap),(∀a∈R,G.g.get? a=none)→G.g.StaysIn h→VRel G R J h v w
noncomputable def aY (v:AV):a7:=λ_ _=>some v
theorem aO {pos:Pos}(hv:aM G x v)(hk:Γ.names.lookup x=some .globalImplicit:=by kernel_rfl)(hd:(x == ("__debug__":Str))=false:=by kernel_rfl):MP G Γ (.Name x pos) (aY v):=by
 intro U V w e A s env R J Q c hQ
 replace e:=aD e;subst e
 obtain ⟨m,F⟩:=c.F
 refine aW hv λval e1 e2=> ?_
 exact nameG_K F.fr G.inK (topRead_of G.top) e1 (hQ _ _ (Kp.refl _) (e2 R J _ c.S.resv c.S.base)) F.glob F.kind (by unfold Env.kindOf;exact (F.nms)▸hk) hd
noncomputable def fQ (G:Gd)(op:Operator)(f:AV→AV→Option AV):Prop:=
 ∀u v w,f u v=some w→∀(A:Around) (s:Shared) (R:List Addr) (J:aG) (a b:Value) (Q:Value→Shared→Prop),A.units+80< cLine→A.handled=none→RL R s.heap→VRel G R J s.heap u a→VRel G R J s.heap v b→
  (∀r s',Kp s s'→VRel G R J s'.heap w r→Q r s')→wpAny (model G.prog G.w) A (binaryOp op a b) Q aI s
noncomputable def a8 (f:AV→AV→Option AV)(a b:a7):a7:=λU V=>(a U V).bind λu=>(b U V).bind λv=>f u v
theorem be (hf:fQ G op f)(ha:MP G Γ l a)(hb:MP G Γ r b):MP G Γ (.BinOp l op r pos) (a8 f a b):=by
 intro U V w e A s env R J Q c hQ
 refine aw e λu e1 e=> ?_;refine aw e λv e2 e3=> ?_
 refine wpAny_BinOp (ha _ _ _ e1 A s env R J _ c λx s1 k1 r1=> ?_)
 refine hb _ _ _ e2 A s1 env R J _ (c.kp k1) λy s2 k2 r2=> ?_
 exact hf u v w e3 A s2 R J x y Q c.A.u c.A.hd ((c.kp k1).kp k2).S.live (r1.keep k2.kb) r2 λr s' k=>hQ r s' ((k1.trans k2).trans k)
noncomputable def fe (G:Gd)(op:CmpOp)(f:AV→AV→Option Bool):Prop:=
 ∀u v w,f u v=some w→∀(A:Around) (s:Shared) (V:ar) (R:List Addr) (J:aG) (a b:Value) (Q:Value→Shared→Prop),A.units+80< cLine→A.handled=none→SR G R J V s.heap→VRel G R J s.heap u a→VRel G R J s.heap v b→
  (∀s',Kp s s'→Q (.bool w) s')→wpAny (model G.prog G.w) A (compareOp op a b) Q aI s
noncomputable def er (f:AV→AV→Option Bool)(a b:a7):a7:=λU V=>(a U V).bind λu=>(b U V).bind λv=>(f u v).map AV.bool
theorem fD (hf:fe G op f)(ha:MP G Γ l a)(hb:MP G Γ r b)(hm:behindInMarks op r=false:=by rfl):MP G Γ (.Compare l [op] [r] pos) (er f a b):=by
 intro U V w e A s env R J Q c hQ
 simp only [er,Option.bind_eq_some_iff,Option.map_eq_some_iff] at e
 obtain ⟨u,e1,v,e2,q,e3,rfl⟩:=e
 refine wpAny_Compare1 (ha _ _ _ e1 A s env R J _ c λx s1 k1 r1=> ?_) hm
 refine hb _ _ _ e2 A s1 env R J _ (c.kp k1) λy s2 k2 r2=> ?_
 exact hf u v q e3 A s2 V R J x y Q c.A.u c.A.hd ((c.kp k1).kp k2).S (r1.keep k2.kb) r2 λs' k=>hQ _ s' ((k1.trans k2).trans k) (rfl)
noncomputable def aV (f:AV→AV→Option Bool)(a b:a7):dz:=λU V=>(a U V).bind λu=>(b U V).bind λv=>f u v
theorem bF (hf:fe G op f)(ha:MP G Γ l a)(hb:MP G Γ r b)(hm:behindInMarks op r=false:=by rfl):MT G Γ (.Compare l [op] [r] pos) (aV f a b):=by
 intro U V w e A s env R J Q c hQ
 refine aw e λu e1 e=> ?_;refine aw e λv e2 e3=> ?_
 refine wpAny_isTrue_Compare1 (ha _ _ _ e1 A s env R J _ c λx s1 k1 r1=> ?_) hm
 refine hb _ _ _ e2 A s1 env R J _ (c.kp k1) λy s2 k2 r2=> ?_
 exact hf u v w e3 A s2 V R J x y _ c.A.u c.A.hd ((c.kp k1).kp k2).S (r1.keep k2.kb) r2 λs' k=>fj (hQ s' ((k1.trans k2).trans k))
noncomputable def HT:AV→Option Bool
 | .bool b=>some b
 | _=>none
def bU (a:a7):dz:=λU V=>(a U V).bind HT
theorem cG (ha:MP G Γ e a)(he:∀env whole,isTrue e env whole=(do let v ← whole;standAt e.pos;holding [v] (truthy v)):=by exact λ_ _=>rfl):MT G Γ e (bU a):=by
 intro U V w q A s env R J Q c hQ
 refine aw q λu e1 e2=> ?_
 cases u with
 | bool b=>
  replace e2:=aD e2;subst e2
  refine isTrue_plain (ha _ _ _ e1 A s env R J _ c λx s1 k1 r1=> ?_) (he _ _)
  simp only [VRel] at r1
  subst r1
  exact fj (hQ s1 k1)
 | _=>exact au e2
noncomputable def dn (a:dz):dz:=λU V=>(a U V).map not
theorem dU (ha:MT G Γ e a):MT G Γ (.UnaryOp .Not e pos) (dn a):=by
 intro U V w q A s env R J Q c hQ
 refine cr q λu e1 rfq=> ?_;subst rfq
 exact isTrue_not (ha _ _ _ e1 A s env R J _ c λs1 k1=>hQ s1 k1)
noncomputable def mm (G:Gd)(Γ:FI)(op:BoolOp)(es:List Expr)(x:dz):Prop:=
 ∀U V v,x U V=some v→∀(A:Around) (s:Shared) (env:Env) (R:List Addr) (J:aG) (Q:Bool→Shared→Prop),Cx G Γ A s env R J U V→
  (∀s',Kp s s'→Q v s')→wpAny (model G.prog G.w) A (allTrue op es env) Q aI s
noncomputable def dF (b:Bool):dz:=λ_ _=>some b
theorem iM:mm G Γ .And [] (dF true):=by
 intro U V w q A s env R J Q c hQ
 replace q:=aD q;subst q
 exact wpAny_allTrue_And_nil (hQ s (Kp.refl s))
theorem jd:mm G Γ .Or [] (dF false):=by
 intro U V w q A s env R J Q c hQ
 replace q:=aD q;subst q
 exact wpAny_allTrue_Or_nil (hQ s (Kp.refl s))
noncomputable def cK (a b:dz):dz:=λU V=>match a U V with
 | some true=>b U V
 | some false=>some false
 | none=>none
noncomputable def d4 (a b:dz):dz:=λU V=>match a U V with
 | some true=>some true
 | some false=>b U V
 | none=>none
theorem ef (ha:MT G Γ e a)(hb:mm G Γ .And es b):mm G Γ .And (e::es) (cK a b):=by
 intro U V w q A s env R J Q c hQ
 unfold cK at q
 split at q
 ·rename_i h
  exact wpAny_allTrue_And_cons (ha _ _ _ h A s env R J _ c λs1 k1=>hb _ _ _ q A s1 env R J _ (c.kp k1) λs2 k2=>hQ s2 (k1.trans k2))
 ·rename_i h;replace q:=aD q;subst q
  exact wpAny_allTrue_And_cons (ha _ _ _ h A s env R J _ c λs1 k1=>hQ s1 k1)
 ·exact au q
theorem eQ (ha:MT G Γ e a)(hb:mm G Γ .Or es b):mm G Γ .Or (e::es) (d4 a b):=by
 intro U V w q A s env R J Q c hQ
 unfold d4 at q
 split at q
 ·rename_i h;replace q:=aD q;subst q
  exact wpAny_allTrue_Or_cons (ha _ _ _ h A s env R J _ c λs1 k1=>hQ s1 k1)
 ·rename_i h
  exact wpAny_allTrue_Or_cons (ha _ _ _ h A s env R J _ c λs1 k1=>hb _ _ _ q A s1 env R J _ (c.kp k1) λs2 k2=>hQ s2 (k1.trans k2))
 ·exact au q
theorem eB (ha:mm G Γ op es a):MT G Γ (.BoolOp op es pos) a:=by
 intro U V w q A s env R J Q c hQ
 exact wpAny_isTrue_BoolOp (ha _ _ _ q A s env R J Q c hQ)
noncomputable def jE (a b:a7):a7:=λU V=>match a U V with
 | some (.bool true)=>b U V
 | some (.bool false)=>some (.bool false)
 | _=>none
noncomputable def mn (a b:a7):a7:=λU V=>match a U V with
 | some (.bool true)=>some (.bool true)
 | some (.bool false)=>b U V
 | _=>none
theorem lN (ha:MP G Γ e a):MP G Γ (.BoolOp op [e] pos) a:=by
 intro U V w q A s env R J Q c hQ
 exact BoolOp_one (ha _ _ _ q A s env R J Q c hQ)
theorem pw (ha:MP G Γ e a)(hb:MP G Γ (.BoolOp .And (e2::es) pos) b):MP G Γ (.BoolOp .And (e::e2::es) pos) (jE a b):=by
 intro U V w q A s env R J Q c hQ
 unfold jE at q
 split at q
 ·rename_i h
  refine BoolOp_and (ha _ _ _ h A s env R J _ c λx s1 k1 r1=> ?_)
  simp only [VRel] at r1;subst r1
  exact fj (by exact hb _ _ _ q A s1 env R J _ (c.kp k1) λy s2 k2 r2=>hQ y s2 (k1.trans k2) r2)
 ·rename_i h;replace q:=aD q;subst q
  refine BoolOp_and (ha _ _ _ h A s env R J _ c λx s1 k1 r1=> ?_)
  haveI r1':=r1
  simp only [VRel] at r1;subst r1
  exact fj (by exact hQ _ s1 k1 r1')
 ·exact au q
theorem x8 (ha:MP G Γ e a)(hb:MP G Γ (.BoolOp .Or (e2::es) pos) b):MP G Γ (.BoolOp .Or (e::e2::es) pos) (mn a b):=by
 intro U V w q A s env R J Q c hQ
 unfold mn at q
 split at q
 ·rename_i h;replace q:=aD q;subst q
  refine BoolOp_or (ha _ _ _ h A s env R J _ c λx s1 k1 r1=> ?_)
  haveI r1':=r1
  simp only [VRel] at r1;subst r1
  exact fj (by exact hQ _ s1 k1 r1')
 ·rename_i h
  refine BoolOp_or (ha _ _ _ h A s env R J _ c λx s1 k1 r1=> ?_)
  simp only [VRel] at r1;subst r1
  exact fj (by exact hb _ _ _ q A s1 env R J _ (c.kp k1) λy s2 k2 r2=>hQ y s2 (k1.trans k2) r2)
 ·exact au q
def kK (a:a7):a7:=λU V=>((a U V).bind HT).map λb=> .bool (!b)
theorem pz (ha:MP G Γ e a):MP G Γ (.UnaryOp .Not e pos) (kK a):=by
 intro U V w q A s env R J Q c hQ
 simp only [kK,Option.map_eq_some_iff,Option.bind_eq_some_iff] at q
 obtain ⟨b,⟨u,e1,e2⟩,rfl⟩:=q
 cases u with
 | bool b=>
  replace e2:=aD e2;subst e2
  refine wpAny_UnaryOp (ha _ _ _ e1 A s env R J _ c λx s1 k1 r1=> ?_)
  simp only [VRel] at r1;subst r1
  exact not_of (fj (hQ _ s1 k1 (rfl)))
 | _=>exact au e2
noncomputable def kM (a:a7):a7:=λU V=>match a U V with
 | some (.int i)=>some (.int (-i))
 | _=>none
theorem na (ha:MP G Γ e a):MP G Γ (.UnaryOp .USub e pos) (kM a):=by
 intro U V w q A s env R J Q c hQ
 unfold kM at q
 split at q
 ·rename_i h;replace q:=aD q;subst q
  refine wpAny_UnaryOp (ha _ _ _ h A s env R J _ c λx s1 k1 r1=> ?_)
  simp only [VRel] at r1;obtain ⟨t,rfl⟩:=r1
  exact neg_int (hQ _ _ (k1.trans (Kp.tok _ _)) (by simp [VRel]))
 ·exact au q
noncomputable def et (t:dz)(a b:a7):a7:=λU V=>match t U V with
 | some true=>a U V
 | some false=>b U V
 | none=>none
theorem gN (ht:MT G Γ e t)(ha:MP G Γ e1 a)(hb:MP G Γ e2 b):MP G Γ (.IfExp e e1 e2 pos) (et t a b):=by
 intro U V w q A s env R J Q c hQ
 unfold et at q
 split at q
 ·rename_i h
  exact wpAny_IfExp (ht _ _ _ h A s env R J _ c λs1 k1=>by exact ha _ _ _ q A s1 env R J _ (c.kp k1) λy s2 k2 r2=>hQ y s2 (k1.trans k2) r2)
 ·rename_i h
  exact wpAny_IfExp (ht _ _ _ h A s env R J _ c λs1 k1=>by exact hb _ _ _ q A s1 env R J _ (c.kp k1) λy s2 k2 r2=>hQ y s2 (k1.trans k2) r2)
 ·exact au q
end
section
variable {G:Gd} {Γ:FI}
structure Go (X:List Addr) (s s':Shared) (R:List Addr) (J:aG) (R':List Addr) (J':aG):Prop where
 sh:∃h tk,s'= { s with heap:=h,toks:=tk }
 kb:KB X s.heap s'.heap
 live:∀b o,s.heap.get? b=some o→∃o',s'.heap.get? b=some o'
 jp:∀(k:Nat) (l:Loc),J[k]? =some l→J'[k]? =some l
 jn:∀(i:Nat) (l:Loc) (a:Addr),J'[i]? =some l→a∈l.own→J[i]? =some l∨s.heap.get? a=none
 rs:∀a∈R,a∈R'
 rf:∀a∈R',a∈R∨s.heap.get? a=none
theorem Go.jf (g:Go X s s' R J R' J'):∀a∈own J',a∈own J∨s.heap.get? a=none:=λa m=>by
 unfold own at m
 obtain ⟨l,hl,ha⟩:=List.mem_flatMap.mp m
 obtain ⟨i,hi⟩:=List.getElem?_of_mem hl
 exact (g.jn i l a hi ha).imp (λe=>dS e ha) id
theorem Go.of_kp (k:Kp s s'):Go X s s' R J R J:=
 ⟨k.sh,λb o _ e=>k.kb b o (by simp) e,λb o e=>⟨o,k.kb b o (by simp) e⟩,λ_ _ e=>e,λ_ _ _ e _=> .inl e,λ_ m=>m,λa m=> .inl m⟩
theorem Go.none_of (g:Go X s s' R J R' J')(e:s'.heap.get? a=none):s.heap.get? a=none:=
 Option.eq_none_iff_forall_ne_some.mpr λo h=>(g.live a o h).elim λ_ ho=>bL e ho
theorem Go.trans (x:Go X a b R J R' J')(y:Go Y b c R' J' R'' J'')
  (hY:∀z∈Y,z∈X∨a.heap.get? z=none):Go X a c R J R'' J'' where
 sh:=kx x.sh y.sh
 kb:=λz o hz e=>y.kb z o (λm=>(hY z m).elim hz λq=>bL q e) (x.kb z o hz e)
 live:=λz o e=>(x.live z o e).elim λo' e'=>y.live z o' e'
 jp:=λk l e=>y.jp k l (x.jp k l e)
 jn:=λi l z e m=>(y.jn i l z e m).elim (λq=>x.jn i l z q m) λq=> .inr (x.none_of q)
 rs:=λz m=>y.rs z (x.rs z m)
 rf:=λz m=>(y.rf z m).elim (x.rf z) λq=> .inr (x.none_of q)
theorem Go.hR (g:Go X s s' R J R' J')(hX:∀a∈X,a∈R):
  ∀a o,a∉R→s.heap.get? a=some o→a∉R'∧s'.heap.get? a=some o:=λa o ha ho=>
 ⟨λm=>(g.rf a m).elim ha λq=>bL q ho,g.kb a o (λm=>ha (hX a m)) ho⟩
theorem Go.val (g:Go X s s' R J R' J')(hX:∀a∈X,a∈R)(e:VRel G R J s.heap x v):VRel G R' J' s'.heap x v:=
 VRel.mono (g.hR hX) g.jp _ _ e
theorem Go.vals (g:Go X s s' R J R' J')(hX:∀a∈X,a∈R)(e:VRels G R J s.heap x v):VRels G R' J' s'.heap x v:=
 VRels.mono (g.hR hX) g.jp _ _ e
theorem FRm.live (F:FRm G Γ R J h env U m):∀a∈fa env,∃o,h.get? a=some o:=λa q=>(aU q).elim
 (λq=>q▸F.fr.ns.imp λ_ q=>q.elim λ_ q=>q.elim λ_ q=>q.1) (F.faR' a)
theorem GJ (g:Go X s s' R J R' J')(hX:∀a∈X,a∈R)(hg:∀a∈X,G.g.get? a=none)
  (hf:∀a∈fa env,a∉X)(F:FR G Γ R J s.heap env U):FR G Γ R' J' s'.heap env U:=
 F.imp λm F=>F.tr (λb o e=>g.kb b o (λq=>bL (hg b q) e) (F.fr.keep b o e)) (g.hR hX) g.jp
  (λa q=>⟨g.rs a (F.faR a q).1,λz=>(g.jf a z).elim (F.faR a q).2.1 λz=>(F.live a q).elim λ_ e=>bL z e⟩) (λa q o e=>g.kb a o (hf a q) e)
set_option genInjectivity false in
structure Md where
 tb:Bool
 n0:Nat
def bs (G:Gd)(mu:Md)(J:aG):List Addr:=(if mu.tb then G.TB else []) ++own (J.drop mu.n0)
theorem ph {J:aG}(h:a∈own (J.drop n)):∃i l,n≤i∧J[i]? =some l∧a∈l.own:=by
 unfold own at h
 obtain ⟨l,hl,ha⟩:=List.mem_flatMap.mp h
 obtain ⟨i,hi⟩:=List.getElem?_of_mem hl
 rw [List.getElem?_drop] at hi
 exact ⟨n+i,l,by omega,hi,ha⟩
theorem oV {J:aG}(hn:n≤i)(hi:J[i]? =some l)(ha:a∈l.own):a∈own (J.drop n):=by
 refine dS (k:=i - n) (l:=l) ?_ ha
 rw [List.getElem?_drop,show n+(i - n)=i by omega]
 exact hi
theorem ng (h:a∈bs G mu J):a∈G.TB∨a∈own J:=by
 unfold bs at h
 rcases bC h with q | q
 ·split at q
  ·exact .inl q
  ·cases q
 ·obtain ⟨i,l,_,hi,ha⟩:=ph q
  exact .inr (dS hi ha)
theorem lO (S:SR G R J V h)(m:a∈bs G mu J):a∈R:=
 (ng m).elim (λq=>(S.tbR a q).1) (S.sub a)
theorem nF (g:Go X s s' R J R' J')(m:a∈bs G mu J'):a∈bs G mu J∨s.heap.get? a=none:=by
 unfold bs at m ⊢
 rcases bC m with q | q
 ·exact .inl (dE _ q)
 ·obtain ⟨i,l,hn,hi,ha⟩:=ph q
  exact (g.jn i l a hi ha).imp (λe=>dy _ (oV hn e ha)) id
variable {mu:Md}
theorem Cx.go {A:Around}(c:Cx G Γ A s env R J U V)
  (g:Go (bs G mu J) s s' R J R' J')(S:SR G R' J' σ' s'.heap):Cx G Γ A s' env R' J' U σ':=by
 have hX:∀a∈bs G mu J,a∈R:=λa m=>lO c.S m
 refine ⟨c.A,S,GJ g hX (λa m=>c.S.resv a (hX a m)) (λa m=> ?_) c.F⟩
 obtain ⟨m',F⟩:=c.F
 obtain ⟨_,h2,h3⟩:=F.faR a m
 exact λq=>(ng q).elim h3 h2
abbrev bZ:=Lo→ar→Option (AV × ar)
noncomputable def MX (G:Gd)(mu:Md)(Γ:FI)(e:Expr)(x:bZ):Prop:=
 ∀U V v σ',x U V=some (v,σ')→∀(A:Around) (s:Shared) (env:Env) (R:List Addr) (J:aG) (Q:Value→Shared→Prop),Cx G Γ A s env R J U V→
  (∀r s' R' J',Go (bs G mu J) s s' R J R' J'→Cx G Γ A s' env R' J' U σ'→VRel G R' J' s'.heap v r→Q r s')→wpAny (model G.prog G.w) A (eval e env) Q aI s
noncomputable def xP (a:a7):bZ:=λU V=>(a U V).map λv=>(v,V)
theorem ay (ha:MP G Γ e a):MX G mu Γ e (xP a):=by
 intro U V v σ' q A s env R J Q c hQ
 simp only [xP,Option.map_eq_some_iff,Prod.mk.injEq] at q
 obtain ⟨v',e1,rfl,rfl⟩:=q
 exact ha _ _ _ e1 A s env R J Q c λr s' k vr=>hQ r s' R J (Go.of_kp k) (c.kp k) vr
abbrev eh:=Lo→ar→Option (Bool × ar)
noncomputable def MY (G:Gd)(mu:Md)(Γ:FI)(e:Expr)(x:eh):Prop:=
 ∀U V v σ',x U V=some (v,σ')→∀(A:Around) (s:Shared) (env:Env) (R:List Addr) (J:aG) (Q:Bool→Shared→Prop),Cx G Γ A s env R J U V→
  (∀s' R' J',Go (bs G mu J) s s' R J R' J'→Cx G Γ A s' env R' J' U σ'→Q v s')→wpAny (model G.prog G.w) A (isTrue e env (eval e env)) Q aI s
noncomputable def yT (a:dz):eh:=λU V=>(a U V).map λv=>(v,V)
theorem bA (ha:MT G Γ e a):MY G mu Γ e (yT a):=by
 intro U V v σ' q A s env R J Q c hQ
 simp only [yT,Option.map_eq_some_iff,Prod.mk.injEq] at q
 obtain ⟨v',e1,rfl,rfl⟩:=q
 exact ha _ _ _ e1 A s env R J Q c λs' k=>hQ s' R J (Go.of_kp k) (c.kp k)
noncomputable def fX (a:bZ):eh:=λU V=>match a U V with
 | some (.bool b,σ')=>some (b,σ')
 | _=>none
theorem sG (ha:MX G mu Γ e a)(he:∀env whole,isTrue e env whole=(do let v ← whole;standAt e.pos;holding [v] (truthy v)):=by exact λ_ _=>rfl):MY G mu Γ e (fX a):=by
 intro U V w σ' q A s env R J Q c hQ
 unfold fX at q
 split at q
 ·rename_i b σ'' h;cases q
  refine isTrue_plain (ha _ _ _ _ h A s env R J _ c λx s1 R1 J1 g1 c1 r1=> ?_) (he _ _)
  simp only [VRel] at r1
  subst r1
  exact fj (hQ s1 R1 J1 g1 c1)
 ·exact au q
noncomputable def gV (a:eh):eh:=λU V=>(a U V).map λp=>(!p.1,p.2)
theorem xg (ha:MY G mu Γ e a):MY G mu Γ (.UnaryOp .Not e pos) (gV a):=by
 intro U V w σ' q A s env R J Q c hQ
 simp only [gV,Option.map_eq_some_iff] at q
 obtain ⟨⟨u,σ''⟩,e1,q2⟩:=q
 cases q2
 exact isTrue_not (ha _ _ _ _ e1 A s env R J _ c λs1 R1 J1 g1 c1=>hQ s1 R1 J1 g1 c1)
inductive Fl where
 | next | brk | cont
 | ret (v:AV)
noncomputable def FlRel (G:Gd)(R:List Addr)(J:aG)(h:Heap):Fl→Flow→Prop
 | .next,f=>f= .next
 | .brk,f=>f= .brk
 | .cont,f=>f= .cont
 | .ret v,f=> ∃r,f= .ret r∧VRel G R J h v r
abbrev aF:=Lo→ar→Option (Fl × Lo × ar)
noncomputable def MS (G:Gd)(mu:Md)(Γ:FI)(st:Stmt)(x:aF):Prop:=
 ∀U V f ℓ' σ',x U V=some (f,ℓ',σ')→∀(A:Around) (s:Shared) (env:Env) (R:List Addr) (J:aG) (Q:Flow→Shared→Prop),Cx G Γ A s env R J U V→
  (∀r s' R' J',Go (bs G mu J ++fa env) s s' R J R' J'→Cx G Γ A s' env R' J' ℓ' σ'→FlRel G R' J' s'.heap f r→Q r s')→wpAny (model G.prog G.w) A (exec st env) Q aI s
noncomputable def MSs (G:Gd)(mu:Md)(Γ:FI)(st:List Stmt)(x:aF):Prop:=
 ∀U V f ℓ' σ',x U V=some (f,ℓ',σ')→∀(A:Around) (s:Shared) (env:Env) (R:List Addr) (J:aG) (Q:Flow→Shared→Prop),Cx G Γ A s env R J U V→
  (∀r s' R' J',Go (bs G mu J ++fa env) s s' R J R' J'→Cx G Γ A s' env R' J' ℓ' σ'→FlRel G R' J' s'.heap f r→Q r s')→wpAny (model G.prog G.w) A (execs st env) Q aI s
noncomputable def KX (G:Gd)(mu:Md)(Γ:FI)(A:Around)(s:Shared)(env:Env)(R:List Addr)(J:aG)(U:Lo)(Q:Value→Shared→Prop)(p:AV × ar):Prop:=
 ∀r s' R' J',Go (bs G mu J) s s' R J R' J'→Cx G Γ A s' env R' J' U p.2→VRel G R' J' s'.heap p.1 r→Q r s'
noncomputable def KY (G:Gd)(mu:Md)(Γ:FI)(A:Around)(s:Shared)(env:Env)(R:List Addr)(J:aG)(U:Lo)(Q:Bool→Shared→Prop)(p:Bool × ar):Prop:=
 ∀s' R' J',Go (bs G mu J) s s' R J R' J'→Cx G Γ A s' env R' J' U p.2→Q p.1 s'
noncomputable def KS (G:Gd)(mu:Md)(Γ:FI)(A:Around)(s:Shared)(env:Env)(R:List Addr)(J:aG)(Q:Flow→Shared→Prop)(p:Fl × Lo × ar):Prop:=
 ∀r s' R' J',Go (bs G mu J ++fa env) s s' R J R' J'→Cx G Γ A s' env R' J' p.2.1 p.2.2→FlRel G R' J' s'.heap p.1 r→Q r s'
section
variable {e:Expr} {st:Stmt} {sts:List Stmt} {x:bZ} {y:eh} {z:aF}
theorem MX.mk (h:∀U V A s env R J Q,Cx G Γ A s env R J U V→Ok (x U V) (KX G mu Γ A s env R J U Q)→wpAny (model G.prog G.w) A (eval e env) Q aI s):MX G mu Γ e x:=λU V v σ' q A s env R J Q c hQ=>h U V A s env R J Q c ⟨_,q,hQ⟩
theorem MY.mk (h:∀U V A s env R J Q,Cx G Γ A s env R J U V→Ok (y U V) (KY G mu Γ A s env R J U Q)→wpAny (model G.prog G.w) A (isTrue e env (eval e env)) Q aI s):MY G mu Γ e y:=λU V v σ' q A s env R J Q c hQ=>h U V A s env R J Q c ⟨_,q,hQ⟩
theorem MS.mk (h:∀U V A s env R J Q,Cx G Γ A s env R J U V→Ok (z U V) (KS G mu Γ A s env R J Q)→wpAny (model G.prog G.w) A (exec st env) Q aI s):MS G mu Γ st z:=λU V f ℓ' σ' q A s env R J Q c hQ=>h U V A s env R J Q c ⟨_,q,hQ⟩
variable {U:Lo} {V:ar} {A:Around} {s:Shared} {env:Env} {R:List Addr} {J:aG}
theorem MX.run (h:MX G mu Γ e x)(c:Cx G Γ A s env R J U V)(k:Ok (x U V) (KX G mu Γ A s env R J U Q)):wpAny (model G.prog G.w) A (eval e env) Q aI s:=k.elim λp q=>h U V p.1 p.2 q.1 A s env R J Q c q.2
theorem MY.run (h:MY G mu Γ e y)(c:Cx G Γ A s env R J U V)(k:Ok (y U V) (KY G mu Γ A s env R J U Q)):wpAny (model G.prog G.w) A (isTrue e env (eval e env)) Q aI s:=k.elim λp q=>h U V p.1 p.2 q.1 A s env R J Q c q.2
theorem MSs.run (h:MSs G mu Γ sts z)(c:Cx G Γ A s env R J U V)(k:Ok (z U V) (KS G mu Γ A s env R J Q)):wpAny (model G.prog G.w) A (execs sts env) Q aI s:=k.elim λp q=>h U V p.1 p.2.1 p.2.2 q.1 A s env R J Q c q.2
end
theorem Go.wide (g:Go X s s' R J R' J')(h:∀a∈X,a∈Y):Go Y s s' R J R' J':=
 { g with kb:=λb o hb e=>g.kb b o (λm=>hb (h b m)) e }
theorem Go.seq (x:Go (bs G mu J ++fa env) a b R J R' J')(y:Go (bs G mu J' ++fa env) b c R' J' R'' J''):
  Go (bs G mu J ++fa env) a c R J R'' J'':=x.trans y λz m=>by
 rcases bC m with q | q
 ·exact (nF x q).imp (λq=>dE _ q) id
 ·exact .inl (dy _ q)
theorem Go.seqX (x:Go (bs G mu J) a b R J R' J')(y:Go (bs G mu J') b c R' J' R'' J''):
  Go (bs G mu J) a c R J R'' J'':=x.trans y λz m=>nF x m
theorem Go.xs (x:Go (bs G mu J) a b R J R' J'):Go (bs G mu J ++fa env) a b R J R' J':=
 x.wide λz m=>dE _ m
noncomputable def aq:aF:=λU V=>some (.next,U,V)
theorem av:MSs G mu Γ [] aq:=by
 intro U V f ℓ' σ' q A s env R J Q c hQ
 cases q
 exact wpAny_execs_nil (hQ _ s R J (Go.of_kp (Kp.refl s)) c rfl)
noncomputable def ai (a b:aF):aF:=λU V=>match a U V with
 | some (.next,ℓ',σ')=>b ℓ' σ'
 | r=>r
theorem al {st:Stmt}(ha:MS G mu Γ st a)(hb:MSs G mu Γ r b):MSs G mu Γ (st::r) (ai a b):=by
 intro U V f ℓ' σ' q A s env R J Q c hQ
 unfold ai at q
 split at q
 ·rename_i ℓ1 σ1 h
  refine dO (ha _ _ _ _ _ h A s env R J _ c λfl s1 R1 J1 g1 c1 r1=> ?_)
  simp only [FlRel] at r1
  subst r1
  exact hb _ _ _ _ _ q A s1 env R1 J1 Q c1 λr s2 R2 J2 g2 c2 r2=>hQ r s2 R2 J2 (g1.seq g2) c2 r2
 ·rename_i h
  refine dO (ha _ _ _ _ _ q A s env R J _ c λfl s1 R1 J1 g1 c1 r1=> ?_)
  cases f with
  | next=>exact absurd q (by intro z;exact h _ _ z)
  | brk=>simp only [FlRel] at r1;subst r1;exact hQ _ s1 R1 J1 g1 c1 rfl
  | cont=>simp only [FlRel] at r1;subst r1;exact hQ _ s1 R1 J1 g1 c1 rfl
  | ret v=>have r1':=r1;simp only [FlRel] at r1;obtain ⟨w,rfl,_⟩:=r1;exact hQ _ s1 R1 J1 g1 c1 r1'
end
variable {G:Gd} {Γ Γc:FI} {mu:Md}
theorem SR.kb (S:SR G R J V h)(k:KB X h h')(hX:∀a∈X,a∈R∧a∉own J∧a∉G.TB)(hn:∀a∈X,¬ ey h a)(lv:∀b o,h.get? b=some o→∃o',h'.get? b=some o'):SR G R J V h':=
 S.tr (λb o e=>k b o (λm=>bL (S.resv b (hX b m).1) e) (S.base b o e)) (λa o ha e=>⟨ha,k a o (λm=>ha (hX a m).1) e⟩) (λa ha o e=>k a o (λm=>(hX a m).2.1 ha) e) (λ_ m _=>m) S.resv
  (λa m=>(S.live a m).elim λo e=>lv a o e) (G.tabs h h' X k (λa ha m=>(hX a m).2.2 ha) hn S.tabs) (S.abv.elim λa q=>q.elim λo q=>⟨a,(lv a o q.1).imp λ_ e=>⟨e,q.2⟩⟩)
theorem LA {α:Type}{l:List (Option α)}{v w:Option α}(hij:j≠i)(e:(l.set i v)[j]? =some w):l[j]? =some w:=
 (List.getElem?_set_ne (Ne.symm hij)).symm.trans e
theorem Mo {α:Type}{l:List (Option α)}{v w:Option α}(e:(l.set i v)[i]? =some w):w=v:=
 cr (List.getElem?_set_self'.symm.trans e) λ_ _ q=>q.symm
structure Slot1 (Γ:FI) (i:Nat) (x:Str):Prop where
 at_:Γ.slots[i]? =some x
 one:∀j,Γ.slots[j]? =some x→j=i
 kind:Γ.names.lookup x=some .local∨Γ.names.lookup x=some .cell
theorem Cq:∀{l:List (Str × Addr)} {x y:Str} {c:Addr},(l.map (·.2)).Nodup→(x,c)∈l→(y,c)∈l→x=y
 | p::r,x,y,c,nd,h1,h2=>(aU h1).elim
  (λe1=>(aU h2).elim (λe2=>(bT (e1.trans e2.symm)).1) λh2=>absurd (List.mem_map.mpr ⟨_,h2,e1▸rfl⟩) (List.nodup_cons.mp nd).1)
  λh1=>(aU h2).elim (λe2=>absurd (List.mem_map.mpr ⟨_,h1,e2▸rfl⟩) (List.nodup_cons.mp nd).1) λh2=>Cq (List.nodup_cons.mp nd).2 h1 h2
theorem HU {k:Option NameKind}{P:Prop}(h1:k=some .local)(h2:k=some .cell):P:=nomatch h1.symm.trans h2
theorem HV {P:Prop}(h1:k=some .local)(h2:d8 k=true):P:=nomatch (h1▸h2:d8 (some .local)=true)
theorem Slot1.same (hs:Slot1 Γ i x){U:Lo}{j:Nat}(h1:Γ.slots[j]? =some y)(h2:(U.set i (some v))[j]? =some (some w)):y=x∧w=v∨y≠x∧U[j]? =some (some w):=
 if hj:j=i then .inl ⟨aD (h1.symm.trans (hj▸hs.at_)),aD (Mo (hj▸h2))⟩
 else .inr ⟨λe=>hj (hs.one j (e▸h1)),LA hj h2⟩
theorem FRm.set (F:FRm G Γ R J h env U m)(hs:Slot1 Γ i x)(hk:Γ.names.lookup x=some .local)(hr:VRel G R J h' v val)
  (vk:∀{y:AV} {w:Value},VRel G R J h y w→VRel G R J h' y w)(hn:h'.Ns env.locals λy=>if y=x then some val else m y)(hsb:Heap.SameBut env.locals h h'):FRm G Γ R J h' env (U.set i (some v)) (λy=>if y=x then some val else m y):=
 have hcl:∀{a:Addr},a∈env.cells.map (·.2)→a≠env.locals:=λha e=>(List.nodup_cons.mp F.faNd).1 (e▸ha)
 have ck:∀{y:Str} {ce:Addr},env.cells.lookup y=some ce→∀o,h.get? ce=some o→h'.get? ce=some o:=λe _ z=>(hsb.2 _ (hcl (mQ e))).trans z
 ⟨F.kind,F.glob,F.bt,F.nms,F.fr.set hn hsb,F.faR,F.faNd,λa ha=>(F.faR' a ha).imp λ_ e=>(hsb.2 a (hcl ha)).trans e,
  λj y w h1 h2 h3=>(hs.same h1 h2).elim (λq=>⟨val,if_pos q.1,q.2▸hr⟩) λq=>(F.loc j y w h1 q.2 h3).imp λ_ z=>⟨(if_neg q.1).trans z.1,vk z.2⟩,
  λj y w h1 h2 h3=>(hs.same h1 h2).elim (λq=>HV hk (q.1▸h3)) λq=>(F.cel j y w h1 q.2 h3).imp λ_ z=>z.imp λ_ z=>⟨z.1,kf z.2.1 (ck z.1),vk z.2.2⟩,
  λy h1=>(F.celAll y h1).imp λ_ z=>z.imp λ_ z=>⟨z.1,kf z.2 (ck z.1)⟩⟩
theorem FRm.setC (F:FRm G Γ R J h env U m)(hs:Slot1 Γ i x)(hk:Γ.names.lookup x=some .cell)(hc0:env.cells.lookup x=some c0)(hg:G.g.get? c0=none)(hr:VRel G R J h' v val)
  (vk:∀{y:AV} {w:Value},VRel G R J h y w→VRel G R J h' y w)(hn:h'.IsCell c0 (some val))(hsb:Heap.SameBut c0 h h'):FRm G Γ R J h' env (U.set i (some v)) m:=
 have uniq:∀{y c'},env.cells.lookup y=some c'→y≠x→c'≠c0:=λe1 hy e2=>hy (Cq (List.nodup_cons.mp F.faNd).2 (mem_of_lookup e1) (e2▸mem_of_lookup hc0))
 ⟨F.kind,F.glob,F.bt,F.nms,⟨F.fr.ns.at' λo e=>(hsb.2 _ λ(e:env.locals=c0)=>(List.nodup_cons.mp F.faNd).1 (e▸mQ hc0)).trans e,λb o e=>(hsb.2 b λq=>bL hg (q▸e)).trans (F.fr.keep b o e),F.fr.above⟩,F.faR,F.faNd,
  λa ha=>if q:a=c0 then q▸hn.imp λ_ z=>z.1 else (F.faR' a ha).imp λ_ e=>(hsb.2 a q).trans e,
  λj y w h1 h2 h3=>(hs.same h1 h2).elim (λq=>HU (q.1▸h3) hk) λq=>(F.loc j y w h1 q.2 h3).imp λ_ z=>⟨z.1,vk z.2⟩,
  λj y w h1 h2 h3=>(hs.same h1 h2).elim (λq=>⟨c0,val,q.1▸hc0,hn,q.2▸hr⟩) λq=>(F.cel j y w h1 q.2 h3).imp λ_ z=>z.imp λ_ z=>⟨z.1,z.2.1.sameBut hsb (uniq z.1 q.1),vk z.2.2⟩,
  λy h1=>if q:y=x then ⟨c0,some val,q▸hc0,hn⟩ else (F.celAll y h1).imp λ_ z=>z.imp λ_ z=>⟨z.1,z.2.sameBut hsb (uniq z.1 q)⟩⟩
theorem Cx.wr {A:Around}(c:Cx G Γ A s env R J U V)(ha:a∈fa env)(hn: ¬ ey s.heap a)(hsb:Heap.SameBut a s.heap h')(lv:∃o,h'.get? a=some o)
  (hF:(∀{y:AV} {w:Value},VRel G R J s.heap y w→VRel G R J h' y w)→FR G Γ R J h' env ℓ'):Go (bs G mu J ++fa env) s { s with heap:=h',toks:=tk } R J R J∧Cx G Γ A { s with heap:=h',toks:=tk } env R J ℓ' V:=
 have kb:KB [a] s.heap h':=λb o hb e=>(hsb.2 b (λz=>hb (List.mem_singleton.mpr z))).trans e
 have hL:∀b∈ [a],b∈R∧b∉own J∧b∉G.TB:=λb m=>c.F.elim λ_ F=>aH m▸F.faR a ha
 have hlv:∀b o,s.heap.get? b=some o→∃o',h'.get? b=some o':=λb o e=>if z:b=a then z▸lv else ⟨o,(hsb.2 b z).trans e⟩
 ⟨⟨⟨_,_,rfl⟩,λb o hb e=>kb b o (λm=>hb (dy _ (aH m▸ha))) e,hlv,λ_ _ e=>e,λ_ _ _ e _=> .inl e,λ_ m=>m,λa m=> .inl m⟩,
  c.A,c.S.kb kb hL (λb m=>aH m▸hn) hlv,hF λe=>e.kb kb λb m=>(hL b m).1⟩
theorem TT {env:Env}(h:env.scope.kind= .function):(env.scope.kind == .class || (env.scope.kind == .module && env.locals != env.globals))=false:=h▸rfl
theorem Cr
  (c:Cx G Γ A s env R J U V)(hs:Slot1 Γ i x)(hk:Γ.names.lookup x=some .local)(hr:VRel G R J s.heap v val)
  (hQ:∀h' tk,Heap.SameBut env.locals s.heap h'→Go (bs G mu J ++fa env) s { s with heap:=h',toks:=tk } R J R J∧Cx G Γ A { s with heap:=h',toks:=tk } env R J (U.set i (some v)) V→Q () { s with heap:=h',toks:=tk }):wpAny (model G.prog G.w) A (storeName env x val) Q E s:=
 c.F.elim λm F=>wpAny_storeName_local ((ij F.nms x).trans hk) F.fr.ns (λh' hn hsb=>hQ _ _ hsb (c.wr eP (sC F.fr.ns) hsb (hn.imp λ_ q=>q.elim λ_ q=>q.elim λ_ q=>q.1) λvk=>⟨_,F.set hs hk (vk hr) vk hn hsb⟩)) (TT F.kind)
theorem j2
  (c:Cx G Γ A s env R J U V)(hs:Slot1 Γ i x)(hr:VRel G R J s.heap v val)
  (hQ:∀s',Go (bs G mu J ++fa env) s s' R J R J→Cx G Γ A s' env R J (U.set i (some v)) V→Q () s'):wpAny (model G.prog G.w) A (storeName env x val) Q aI s:=
 hs.kind.elim (λhk=>Cr c hs hk hr λ_ _ _ q=>hQ _ q.1 q.2) λhk=>c.F.elim λm F=>cU (F.celAll x hk) λc0 w0 hc0 hw0=>
  wpAny_storeName_cell F.kind ((ij F.nms x).trans hk) hc0 hw0 λh' hn hsb=>(c.wr (tk:=s.toks) (mG hc0) (RH hw0) hsb (hn.imp λ_ q=>q.1) λvk=>⟨m,F.setC hs hk hc0 (c.S.resv c0 (F.faR c0 (mG hc0)).1) (vk hr) vk hn hsb⟩).elim (hQ _)
noncomputable def a9 (a:bZ):aF:=λU V=>match a U V with
 | some (v,σ')=>some (.ret v,U,σ')
 | none=>none
theorem bj (ha:MX G mu Γ e a):MS G mu Γ (.Return (some e) pos) (a9 a):=by
 intro U V f ℓ' σ' q A s env R J Q c hQ
 unfold a9 at q
 split at q
 ·rename_i v σ1 h
  cases q
  exact wpAny_Return_some (ha _ _ _ _ h A s env R J _ c λr s1 R1 J1 g1 c1 r1=>hQ _ s1 R1 J1 g1.xs c1 ⟨r,rfl,r1⟩)
 ·exact au q
noncomputable def nG:aF:=λU V=>some (.ret .none,U,V)
theorem rF:MS G mu Γ (.Return none pos) nG:=by
 intro U V f ℓ' σ' q A s env R J Q c hQ
 cases q
 exact wpAny_Return_none (hQ _ s R J (Go.of_kp (Kp.refl s)) c ⟨_,rfl,by simp [VRel]⟩)
noncomputable def x9:aF:=λU V=>some (.cont,U,V)
theorem RM:MS G mu Γ (.Continue pos) x9:=by
 intro U V f ℓ' σ' q A s env R J Q c hQ
 cases q
 exact wpAny_Continue (hQ _ s R J (Go.of_kp (Kp.refl s)) c rfl)
noncomputable def aQ (t:eh)(a b:aF):aF:=λU V=>match t U V with
 | some (true,σ')=>a U σ'
 | some (false,σ')=>b U σ'
 | none=>none
theorem bG (ht:MY G mu Γ e t)(ha:MSs G mu Γ bd a)(hb:MSs G mu Γ el b):MS G mu Γ (.If e bd el pos) (aQ t a b):=by
 intro U V f ℓ' σ' q A s env R J Q c hQ
 unfold aQ at q
 split at q
 ·rename_i σ1 h
  exact wpAny_If (ht _ _ _ _ h A s env R J _ c λs1 R1 J1 g1 c1=>by
   simp only [if_true]
   exact ha _ _ _ _ _ q A s1 env R1 J1 Q c1 λr s2 R2 J2 g2 c2 r2=>hQ r s2 R2 J2 (g1.xs.seq g2) c2 r2)
 ·rename_i σ1 h
  exact wpAny_If (ht _ _ _ _ h A s env R J _ c λs1 R1 J1 g1 c1=>by
   simp only [Bool.false_eq_true,if_false]
   exact hb _ _ _ _ _ q A s1 env R1 J1 Q c1 λr s2 R2 J2 g2 c2 r2=>hQ r s2 R2 J2 (g1.xs.seq g2) c2 r2)
 ·exact au q
noncomputable def bx (i:Nat)(a:bZ):aF:=λU V=>match a U V with
 | some (v,σ')=>some (.next,U.set i (some v),σ')
 | none=>none
theorem cV {pos' pos:Pos}(ha:MX G mu Γ e a)(hs:Slot1 Γ i x:=by exact slotA)(hw:∀env,swapsWith e (some (.Name x pos')) pos.line env=pure false:=by exact λ_=>rfl):MS G mu Γ (.Assign [.Name x pos'] e pos) (bx i a):=by
 intro U V f ℓ' σ' q A s env R J Q c hQ
 unfold bx at q
 split at q
 ·rename_i v σ1 h
  cases q
  refine wpAny_Assign_Name (ha _ _ _ _ h A s env R J _ c λr s1 R1 J1 g1 c1 r1=> ?_) (hw env)
  exact j2 c1 hs r1 λs2 g2 c2=>hQ _ s2 R1 J1 (g1.xs.seq g2) c2 rfl
 ·exact au q
noncomputable def Plain (es:List Expr):Prop:=∀(env:Env) (pos:Pos),(backTo pos (starEach es env)).any (·.1)=false
theorem Plain.cons (h:Plain (e::r))(env:Env):starEach (e::r) env=(false,eval e env)::starEach r env:=by
 haveI:=h env default
 cases e <;> first | rfl | exact Bool.noConfusion this
abbrev gz:=Lo→ar→Option (List AV)
noncomputable def hU (G:Gd)(Γ:FI)(es:List Expr)(x:gz):Prop:=
 Plain es∧∀U V vs,x U V=some vs→∀(A:Around) (s:Shared) (env:Env) (R:List Addr) (J:aG) (Q:List Value→Shared→Prop) (pos:Pos),Cx G Γ A s env R J U V→
  (∀rs s',Kp s s'→VRels G R J s'.heap vs rs→Q rs s')→wpAny (model G.prog G.w) A (spliced (backTo pos (starEach es env))) Q aI s
noncomputable def aj:gz:=λ_ _=>some []
noncomputable def ae (a:a7)(r:gz):gz:=λU V=>(a U V).bind λv=>(r U V).map λvs=>v::vs
theorem ak:hU G Γ [] aj:=⟨λ_ _=>rfl,by
 intro U V vs q A s env R J Q pos c hQ
 replace q:=aD q;subst q
 exact spliced_none (hQ _ s (Kp.refl s) (rfl))⟩
theorem ag (ha:MP G Γ e a)(hb:hU G Γ r b)(he:∀env,starEach (e::r) env=(false,eval e env)::starEach r env:=by exact λ_=>rfl):hU G Γ (e::r) (ae a b):=⟨λenv pos=>by
  rw [he]
  show (false || (backTo pos (starEach r env)).any (·.1))=false
  rw [hb.1];rfl,by
 intro U V vs q A s env R J Q pos c hQ
 refine aw q λv e1 q=> ?_;refine cr q λws e2 rfq=> ?_;subst rfq
 refine spliced_more (ha _ _ _ e1 A s env R J _ c λx s1 k1 r1=> ?_) (he env)
 refine hb.2 _ _ _ e2 A s1 env R J _ pos (c.kp k1) λxs s2 k2 r2=> ?_
 exact hQ _ s2 (k1.trans k2) (by exact ⟨x,xs,rfl,r1.keep k2.kb,r2⟩)⟩
abbrev gA:=Lo→ar→Option (List AV × ar)
noncomputable def hV (G:Gd)(mu:Md)(Γ:FI)(es:List Expr)(x:gA):Prop:=
 Plain es∧∀U V vs σ',x U V=some (vs,σ')→∀(A:Around) (s:Shared) (env:Env) (R:List Addr) (J:aG) (Q:List Value→Shared→Prop) (pos:Pos),Cx G Γ A s env R J U V→
  (∀rs s' R' J',Go (bs G mu J) s s' R J R' J'→Cx G Γ A s' env R' J' U σ'→VRels G R' J' s'.heap vs rs→Q rs s')→wpAny (model G.prog G.w) A (spliced (backTo pos (starEach es env))) Q aI s
noncomputable def yA (a:gz):gA:=λU V=>(a U V).map λvs=>(vs,V)
theorem aP (ha:hU G Γ es a):hV G mu Γ es (yA a):=⟨ha.1,by
 intro U V vs σ' q A s env R J Q pos c hQ
 simp only [yA,Option.map_eq_some_iff,Prod.mk.injEq] at q
 obtain ⟨v',e1,rfl,rfl⟩:=q
 exact ha.2 _ _ _ e1 A s env R J Q pos c λr s' k vr=>hQ r s' R J (Go.of_kp k) (c.kp k) vr⟩
noncomputable def gv:gA:=λ_ V=>some ([],V)
noncomputable def cH (a:bZ)(r:gA):gA:=λU V=>match a U V with
 | some (v,σ1)=>(match r U σ1 with
  | some (vs,σ2)=>some (v::vs,σ2)
  | none=>none)
 | none=>none
theorem lK:hV G mu Γ [] gv:=⟨λ_ _=>rfl,by
 intro U V vs σ' q A s env R J Q pos c hQ
 obtain rfl:=(dD q).1;obtain rfl:=(dD q).2
 exact spliced_none (hQ _ s R J (Go.of_kp (Kp.refl s)) c (rfl))⟩
theorem iE (c:Cx G Γ A s env R J U V):∀a∈bs G mu J,a∈R:=λa m=>lO c.S m
theorem fc (ha:MX G mu Γ e a)(hb:hV G mu Γ r b)(he:∀env,starEach (e::r) env=(false,eval e env)::starEach r env:=by exact λ_=>rfl):hV G mu Γ (e::r) (cH a b):=⟨λenv pos=>by
  rw [he]
  show (false || (backTo pos (starEach r env)).any (·.1))=false
  rw [hb.1];rfl,by
 intro U V vs σ' q A s env R J Q pos c hQ
 unfold cH at q
 split at q
 ·rename_i v σ1 h1
  split at q
  ·rename_i ws σ2 h2
   obtain rfl:=(dD q).1;obtain rfl:=(dD q).2
   refine spliced_more (ha _ _ _ _ h1 A s env R J _ c λx s1 R1 J1 g1 c1 r1=> ?_) (he env)
   refine hb.2 _ _ _ _ h2 A s1 env R1 J1 _ pos c1 λxs s2 R2 J2 g2 c2 r2=> ?_
   exact hQ _ s2 R2 J2 (g1.seqX g2) c2 (by exact ⟨x,xs,rfl,g2.val (iE c1) r1,r2⟩)
  ·exact au q
 ·exact au q⟩
abbrev bP:=List AV→ar→Option AV
abbrev Fn:=List AV→ar→Option (AV × ar)
noncomputable abbrev CB (Q:Value→Shared→Prop):Result→Shared→Prop:=λr s'=>match r with
 | .ok (.ret v)=>Q v s'
 | .ok _=>False
 | .error e=>aI e s'
noncomputable def cS (G:Gd)(d:Nat)(f:Value)(F:bP):Prop:=
 ∀avs V v,F avs V=some v→∀(A:Around) (s:Shared) (R:List Addr) (J:aG) (vals:List Value) (Q:Value→Shared→Prop),AOk d A→SR G R J V s.heap→VRels G R J s.heap avs vals→
  (∀r s',Kp s s'→VRel G R J s'.heap v r→Q r s')→codeAny (model G.prog G.w) A (.call f ⟨vals,[]⟩) (CB Q) s
noncomputable def aJ (G:Gd)(tb:Bool)(nf:Nat→Nat)(d:Nat)(f:Value)(F:Fn):Prop:=
 ∀avs V v σ',F avs V=some (v,σ')→∀(A:Around) (s:Shared) (R:List Addr) (J:aG) (vals:List Value) (Q:Value→Shared→Prop),AOk d A→SR G R J V s.heap→VRels G R J s.heap avs vals→
  (∀r s' R' J',Go (bs G ⟨tb,nf V.length⟩ J) s s' R J R' J'→SR G R' J' σ' s'.heap→VRel G R' J' s'.heap v r→Q r s')→codeAny (model G.prog G.w) A (.call f ⟨vals,[]⟩) (CB Q) s
theorem AOk.le (a:AOk d A)(h:d'≤d):AOk d' A:=⟨a.hd,by haveI:=a.dp;omega,by haveI:=a.un;omega⟩
noncomputable def aL (F:bP)(as:gz):a7:=λU V=>(as U V).bind λvs=>F vs V
noncomputable def bB (n0:Nat)(nf:Nat→Nat)(F:Fn)(as:gA):bZ:=λU V=>match as U V with
 | some (vs,σ')=>if n0≤nf σ'.length then F vs σ' else none
 | none=>none
theorem yc (ht:tb=true→mu.tb=true)(hn:mu.n0≤n):∀a∈bs G ⟨tb,n⟩ J,a∈bs G mu J:=λa m=>by
 unfold bs at m ⊢
 rcases bC m with q | q
 ·refine dE _ ?_
  cases tb with
  | true=>refine (ht rfl).symm▸ ?_;exact q
  | false=>cases q
 ·refine aS (ph q) λi l h1 h2 h3=> ?_
  exact dy _ (oV (ba hn h1) h2 h3)
theorem Cx.inK {A:Around}(c:Cx G Γ A s env R J U V):G.K.In s.heap:=G.inK.keeps c.S.base
theorem gE {K:Frag}(X:K.In s.heap)(hk:keepIn K f=true)(hp:Plain es)
  (h:wpAny M A (spliced (backTo pos (starEach es env))) (λvs s₁=>K.In s₁.heap∧wpAny M A (call f (first ++vs)) Q E s₁) E s):wpAny M A (callWith pos f first (backTo pos (starEach es env)) []) Q E s:=by
 cases es with
 | nil=>
  refine callWith_K0 X hk ?_
  exact bN h (λvs s1 q=>q) (λ_ _ x=>x) |> λz=>by
   haveI:wpAny M A (spliced ([]:List (Bool × Sem Value))) (λvs s₁=>K.In s₁.heap∧wpAny M A (call f (first ++vs)) Q E s₁) E s:=z
   intro Γ' p hΓ
   exact (this Γ' p hΓ).2 Γ' p hΓ
 | cons e r=>
  haveI hst:=hp.cons env
  haveI hpl:(backTo pos (starEach r env)).any (·.1)=false:=by
   haveI:=hp env pos
   rw [hst] at this
   exact this
  exact (hst)▸callWith_of (by show ((false || (backTo pos (starEach r env)).any (·.1)) || false)=false;rw [hpl];rfl) (keeps_K hk) (evalArgs_plain (by rw [hst] at h;exact h))
theorem cj {np pos:Pos}(hv:aM G x (.lit f))(hkeep:keepIn G.K f=true)(hF:cS G d f F)(ha:hU G Γ es as)(hk:Γ.names.lookup x=some .globalImplicit:=by kernel_rfl)(hd:(x == ("__debug__":Str))=false:=by kernel_rfl)(hdd:d≤Γ.d:=by exact bH rfl):MP G Γ (.Call (.Name x np) es [] pos) (aL F as):=by
 intro U V v q A s env R J Q c hQ
 refine aw q λvs e1 e2=> ?_
 refine eX (aO hv hk hd _ _ _ rfl A s env R J _ c λr s0 k0 r0=> ?_)
 simp only [VRel] at r0
 subst r0
 refine gE (c.kp k0).inK hkeep ha.1 (ha.2 _ _ _ e1 A s0 env R J _ pos (c.kp k0) λrs s1 k1 r1=>⟨((c.kp k0).kp k1).inK,?_⟩)
 exact wpAny_call <| hF _ _ _ e2 A s1 R J rs Q (c.A.le hdd) ((c.kp k0).kp k1).S r1 λr s2 k2 r2=>hQ r s2 ((k0.trans k1).trans k2) r2
theorem dk {np pos:Pos}(hv:aM G x (.lit f))(hkeep:keepIn G.K f=true)(hF:aJ G tb nf d f F)(ha:hV G mu Γ es as)(ht:tb=true→mu.tb=true:=by first | exact λ_=>rfl | exact λh=>ft h)(hk:Γ.names.lookup x=some .globalImplicit:=by kernel_rfl)(hd:(x == ("__debug__":Str))=false:=by kernel_rfl)(hdd:d≤Γ.d:=by exact bH rfl):MX G mu Γ (.Call (.Name x np) es [] pos) (bB mu.n0 nf F as):=by
 intro U V v σ' q A s env R J Q c hQ
 unfold bB at q
 split at q
 ·rename_i vs σ1 e1
  split at q
  ·rename_i hle
   refine eX (aO hv hk hd _ _ _ rfl A s env R J _ c λr s0 k0 r0=> ?_)
   simp only [VRel] at r0
   subst r0
   refine gE (c.kp k0).inK hkeep ha.1 (ha.2 _ _ _ _ e1 A s0 env R J _ pos (c.kp k0) λrs s1 R1 J1 g1 c1 r1=>⟨c1.inK,?_⟩)
   exact wpAny_call <| hF _ _ _ _ q A s1 R1 J1 rs Q (c.A.le hdd) c1.S r1 λr s2 R2 J2 g2 S2 r2=>
    haveI g2':=g2.wide (yc ht hle)
    hQ r s2 R2 J2 (((Go.of_kp k0).seqX g1).seqX g2') (c1.go g2' S2) r2
  ·exact au q
 ·exact au q
section
noncomputable def dG:List (Nat × AV)→Nat→Option AV
 | [],_=>none
 | (g,v)::r,f=>if g=f then some v else dG r f
noncomputable def cL:List (Nat × AV)→Nat→AV→List (Nat × AV)
 | [],f,v=>[(f,v)]
 | (g,w)::r,f,v=>if g=f then (g,v)::r else (g,w)::cL r f v
section
variable {R:List Addr} {J:aG} {h:Heap}
theorem rx:(Value.str (G.nm f) t).isStr x=(G.nm f == x):=rfl
theorem GL (hg:g≠f):(G.nm g == G.nm f)=false:=beq_eq_false_iff_ne.mpr λz=>hg (G.nmInj _ _ z)
theorem Qd:getL (G.nm f) (⟨k, .str (G.nm f) t,v⟩::es)=some (some v):=by
 unfold getL
 simp only [List.find?_cons,rx,beq_self_eq_true]
theorem Ct (hb:(G.nm g == x)=false):getL x (⟨k, .str (G.nm g) t,v⟩::es)=getL x es:=by
 unfold getL
 simp only [List.find?_cons,rx,hb,List.any_cons,show DictEntry.refKey ⟨k, .str (G.nm g) t,v⟩=false from rfl,Bool.false_or]
theorem DJ (h:g=f):dG ((g,y)::r) f=some y:=if_pos h
theorem DK (h:g≠f):dG ((g,y)::r) f=dG r f:=if_neg h
theorem FRel.cons (e:VRel G R J h x v)(k:FRel G R J h fs es):FRel G R J h ((f,x)::fs) (⟨PyData.keyHash G.w.params (G.nm f), .str (G.nm f) t,v⟩::es):=Exists.intro t ⟨v,es,rfl,e,k⟩
theorem wh:∀{fs:List (Nat × AV)} {es:List DictEntry} {f:Nat} {x:AV},FRel G R J h fs es→dG fs f=some x→∃v,getL (G.nm f) es=some (some v)∧VRel G R J h x v
 | [],es,f,x,e,q=>au q
 | (g,y)::r,es,f,x,e,q=>gn e λt v es' p e1 e2=>by
  subst p
  by_cases hg:g=f
  ·subst hg
   exact ⟨v,Qd,aD ((DJ rfl).symm.trans q)▸e1⟩
  ·exact (wh e2 ((DK hg).symm.trans q)).imp λu z=>⟨(Ct (GL hg)).trans z.1,z.2⟩
theorem wH:∀{fs:List (Nat × AV)} {es:List DictEntry} {x:Str},FRel G R J h fs es→(∀p∈fs,G.nm p.1≠x)→getL x es=some none
 | [],es,x,e,q=>(show es=[] from e)▸rfl
 | (g,y)::r,es,x,e,q=>gn e λt v es' p e1 e2=>p▸(Ct (beq_eq_false_iff_ne.mpr (q _ (.head _)))).trans (wH e2 λp hp=>q p (.tail _ hp))
theorem Qe:putL (G.nm f) k (.str (G.nm f) t) v (⟨k, .str (G.nm f) u,w⟩::es)=⟨k, .str (G.nm f) u,v⟩::es:=by
 simp only [putL,rx,beq_self_eq_true,if_true]
theorem O5 (hb:(G.nm g == G.nm f)=false):putL (G.nm f) k (.str (G.nm f) t) v (⟨k', .str (G.nm g) u,w⟩::es)=⟨k', .str (G.nm g) u,w⟩::putL (G.nm f) k (.str (G.nm f) t) v es:=by
 simp only [putL,rx,hb,Bool.false_eq_true,if_false]
theorem CY (hx:VRel G R J h x v):∀{fs:List (Nat × AV)} {es:List DictEntry} {f:Nat},FRel G R J h fs es→
  FRel G R J h (cL fs f x) (putL (G.nm f) (PyData.keyHash G.w.params (G.nm f)) (.str (G.nm f) t) v es)
 | [],es,f,e=>(show es=[] from e)▸ .cons hx rfl
 | (g,y)::r,es,f,e=>gn e λu w es' p e1 e2=>by
  subst p
  by_cases hg:g=f
  ·subst hg
   rw [Qe,show cL ((g,y)::r) g x=_ from if_pos rfl];exact .cons hx e2
  ·rw [O5 (GL hg),show cL ((g,y)::r) f x=_ from if_neg hg];exact .cons e1 (CY hx e2)
theorem FRel.len:∀{fs:List (Nat × AV)} {es:List DictEntry},FRel G R J h fs es→es.length=fs.length
 | [],es,e=>congrArg List.length e
 | (g,y)::r,es,e=>gn e λ_ _ _ p _ e2=>p▸congrArg Nat.succ (FRel.len e2)
end
structure ClsF (G:Gd) (C:Addr):Prop where
 pg:plainGet G.K C ""=true
 hd:hasDictIn G.K C=true
 sa:findIn G.K (.ref C) "__setattr__"=some (some (.builtin "object.__setattr__"))
 po:plainOver G.K C=true
noncomputable def dH (G:Gd)(C:Addr)(f:Nat):Prop:=findIn G.K (.ref C) (G.nm f)=some none
noncomputable def kX:AV→Bool
 | .lit _=>false
 | _=>true
theorem O6 (hx:VRel G R J h x v)(ho:kX x=true):handedIn v=true:=by
 cases x <;> first | exact Bool.noConfusion ho | skip
 ·exact (show v= .none from hx)▸rfl
 ·exact (show v= .bool _ from hx)▸rfl
 ·exact Exists.elim hx λ_ p=>p▸rfl
 ·exact Exists.elim hx λ_ p=>p▸rfl
 ·exact cU hx λ_ _ p _=>p▸rfl
 ·exact cU hx λ_ _ p _=>p▸rfl
 ·exact xd hx λ_ _ _ _ p _=>p▸rfl
 ·exact da hx λ_ _ _ p _=>p▸rfl
 ·exact aW hx λ_ _ p=>p▸rfl
def eR (V:ar):AV→Option (Addr × List (Nat × AV))
 | .obj C fs=>some (C,fs)
 | .ref k=>(V[k]?).bind x6
 | _=>none
theorem DL (S:SR G R J V h)(hx:VRel G R J h x v)(e:eR V x=some p):
  ∃a d es n,v= .ref a∧InstAt h a (instObj p.1 d) p.1 (some (dictOf es n))∧FRel G R J h p.2 es:=by
 cases x <;> first | exact au e | skip
 ·obtain rfl:=aD e
  exact BB hx λa d es n q _ _ h1 h2 h3=>⟨a,d,es,n,q,⟨h1,rfl,rfl,h2⟩,h3⟩
 ·exact aW hx λl e1 q=>aw e λob hk e=>eO (show OA G R J h l (.inst p.1 p.2) from Cm e▸S.objs _ _ _ hk e1) λd es n _ q2 q3 q4=>⟨l.a,d,es,n,q,⟨q2,rfl,rfl,q3⟩,q4⟩
def aB (f:Nat)(Cs:List Addr)(a:a7):a7:=λU V=>(a U V).bind λx=>(eR V x).bind λp=>if p.1∈Cs then (dG p.2 f).bind λv=>if kX v=true then some v else none else none
theorem aE (hx:G.nm f=x)(hC:∀C∈Cs,ClsF G C∧dH G C f)(ha:MP G Γ e a)(he:∀env,eval (.Attribute e x pos) env=(do let o ← eval e env;standAt pos.atName;let r ← holding [o] (getAttr o x true);letTemporaryGo e o r;pure r):=by exact λ_=>rfl):MP G Γ (.Attribute e x pos) (aB f Cs a):=λU V v q A s env R J Q c hQ=>
 aw q λu e1 q=>aw q λp e2 q=>fH q λhCs q=>aw q λy e3 q=>cJ q λho q=>
 Attribute_any_ (ha _ _ _ e1 A s env R J _ c λr s1 k1 r1=>pp (DL (c.kp k1).S r1 e2) λo d es n p' I fr=>aW (wh fr e3) λval g1 g2=>(c.kp k1).F.elim λm F=>by
  subst hx;subst p'
  exact get_own F.fr G.inK I (hC _ hCs).1.pg (hC _ hCs).1.hd (hC _ hCs).2 rfl g1 (O6 g2 ho) (hQ _ _ (k1.trans (Kp.tok _ _)) (q▸g2))) (he env)
noncomputable def cO (G:Gd)(C:Addr)(x:Str)(f:Addr):Prop:=findIn G.K (.ref C) x=some (some (.ref f))∧isFn G.K (.ref f)=true∧keepIn G.K (.ref f)=true∧∀g,G.nm g≠x
theorem wI
  (S:SR G R J V s.heap)(hx:VRel G R J s.heap x v)(e:eR V x=some p)(cf:ClsF G p.1)(mf:cO G p.1 name f)(h:Q (.ref f,[v]) s):wpAny (model G.prog G.w) A (getMethod v name pl) Q E s:=
 pp (DL S hx e) λo d es n q I fr=>q▸method_fn (G.inK.keeps S.base) I (plainGet_of cf.pg).1 (plainGet_of cf.pg).2 mf.1 (beq_iff_eq.mp mf.2.1) (by show (lookIn name (dictOf es n)).map _=_;rw [lookIn_dict,wH fr (λp _=>mf.2.2.2 p.1)];rfl) (q▸h)
def aT (C:Addr)(F:bP)(o:a7)(as:gz):a7:=λU V=>(o U V).bind λx=>(eR V x).bind λp=>if p.1=C then (as U V).bind λvs=>F (x::vs) V else none
theorem bi {ap pos:Pos}(cf:ClsF G C)(mf:cO G C x f)(hF:cS G d (.ref f) F)(ho:MP G Γ o a)(ha:hU G Γ es as)(hdd:d≤Γ.d:=by exact bH rfl)(he:∀env,∃pl:Sem Bool,eval (.Call (.Attribute o x ap) es [] pos) env=(do let ov ← eval o env;standAt ap.atName;let (f,first) ← holding [ov] (getMethod ov x pl);callWith pos f first (backTo pos (starEach es env)) []):=by exact λ_=>⟨_,rfl⟩):
  MP G Γ (.Call (.Attribute o x ap) es [] pos) (aT C F a as):=λU V v q A s env R J Q c hQ=>
 aw q λu e1 q=>aw q λp e2 q=>fH q λhC q=>aw q λvs e3 e4=>(he env).elim λpl he=>
 MethodCall_ (ho _ _ _ e1 A s env R J _ c λr s1 k1 r1=>wI (c.kp k1).S r1 e2 (hC▸cf) (hC▸mf)
  (gE (c.kp k1).inK mf.2.2.1 ha.1 (ha.2 _ _ _ e3 A s1 env R J _ pos (c.kp k1) λrs s2 k2 r2=>⟨((c.kp k1).kp k2).inK,
   wpAny_call <| hF _ _ _ e4 A s2 R J _ Q (c.A.le hdd) ((c.kp k1).kp k2).S (.cons (r1.keep k2.kb) r2) λr s3 k3 r3=>hQ r s3 ((k1.trans k2).trans k3) r3⟩))) he
def bW (n0:Nat)(nf:Nat→Nat)(C:Addr)(F:Fn)(o:a7)(as:gA):bZ:=λU V=>(o U V).bind λx=>(eR V x).bind λp=>if p.1=C then (as U V).bind λq=>if n0≤nf q.2.length then F (x::q.1) q.2 else none else none
theorem dB {ap pos:Pos}(cf:ClsF G C)(mf:cO G C x f)(hF:aJ G tb nf d (.ref f) F)(ho:MP G Γ o a)(ha:hV G mu Γ es as)(ht:tb=true→mu.tb=true:=by first | exact λ_=>rfl | exact λh=>ft h)(hdd:d≤Γ.d:=by exact bH rfl)(he:∀env,∃pl:Sem Bool,eval (.Call (.Attribute o x ap) es [] pos) env=(do let ov ← eval o env;standAt ap.atName;let (f,first) ← holding [ov] (getMethod ov x pl);callWith pos f first (backTo pos (starEach es env)) []):=by exact λ_=>⟨_,rfl⟩):
  MX G mu Γ (.Call (.Attribute o x ap) es [] pos) (bW mu.n0 nf C F a as):=λU V v σ' q A s env R J Q c hQ=>
 aw q λu e1 q=>aw q λp e2 q=>fH q λhC q=>aw q λvs e3 q=>fH q λhle q=>(he env).elim λpl he=>
 MethodCall_ (ho _ _ _ e1 A s env R J _ c λr s1 k1 r1=>wI (c.kp k1).S r1 e2 (hC▸cf) (hC▸mf)
  (gE (c.kp k1).inK mf.2.2.1 ha.1 (ha.2 _ _ _ _ e3 A s1 env R J _ pos (c.kp k1) λrs s2 R2 J2 g2 c2 r2=>⟨c2.inK,
   wpAny_call <| hF _ _ _ _ q A s2 R2 J2 _ Q (c.A.le hdd) c2.S (.cons (g2.val (iE (c.kp k1)) r1) r2) λr s3 R3 J3 g3 S3 r3=>
    have g3':=g3.wide (yc ht hle)
    hQ r s3 R3 J3 (((Go.of_kp k1).seqX g2).seqX g3') (c2.go g3' S3) r3⟩))) he
end
noncomputable def wl (g:Heap)(L:Addr)(h:Heap)(d:Addr):List (Addr × Obj):=
 (List.range h.objs.size).filterMap λa=>if a=L∨a=d∨(g.get? a).isSome then none else (h.get? a).map λo=>(a,o)
theorem wl_mem:(b,o)∈wl g L h d ↔ h.get? b=some o∧b≠L∧b≠d∧g.get? b=none:=by
 unfold wl
 simp only [List.mem_filterMap,List.mem_range]
 constructor
 ·rintro ⟨a,ha,e⟩
  split at e
  ·exact au e
  ·rename_i q
   simp only [Option.map_eq_some_iff,Prod.mk.injEq] at e
   obtain ⟨o',h1,rfl,rfl⟩:=e
   simp only [not_or,Bool.not_eq_true,Option.isSome_eq_false_iff,Option.isNone_iff_eq_none] at q
   exact ⟨h1,q.1,q.2.1,q.2.2⟩
 ·rintro ⟨h1,h2,h3,h4⟩
  refine ⟨b,Heap.lt_size h1,?_⟩
  rw [if_neg (by simp [h2,h3,h4])]
  simp [h1]
theorem RN:News g L h (wl g L h d):=λp hp=>by
 obtain ⟨b,o⟩:=p
 refine l3 (wl_mem.mp hp) λh1 h2 _ h4=> ?_
 exact ⟨h1,h2,h4⟩
theorem Qf (hd:h.get? d=some od)(h1:d≠L)(h2:g.get? d=none):News g L h ((d,od)::wl g L h d):=λp hp=>by
 rcases aU hp with rfl | hp
 ·exact ⟨hd,h1,h2⟩
 ·exact RN p hp
theorem V2 (F:Fr g L h' m)(k:g.StaysIn h)(N:News g L h' (wl g L h d)):KB [d,L] h h':=λb o hb e=>by
 simp only [List.mem_cons,List.not_mem_nil,or_false,not_or] at hb
 cases q:g.get? b with
 | some o'=>
  have:=k b o' q
  rw [e] at this
  replace this:=aD this;subst this
  exact F.keep b o q
 | none=>exact (N _ (wl_mem.mpr ⟨e,hb.2,hb.1,q⟩)).1
theorem CZ:∀{J:aG},(own J).Nodup→∀{i k:Nat} {li lk:Loc} {a:Addr},J[i]? =some li→J[k]? =some lk→i≠k→a∈li.own→a∈lk.own→False
 | [],nd,i,k,li,lk,a,e1,e2,hik,m1,m2=>au e1
 | l::J,nd,i,k,li,lk,a,e1,e2,hik,m1,m2=>by
  haveI nd':=List.nodup_append.mp (show (l.own ++own J).Nodup from nd)
  cases i with
  | zero=>cases k with
   | zero=>exact hik rfl
   | succ k=>exact nd'.2.2 a ((aD e1)▸m1) a (dS (J:=J) (k:=k) e2 m2) rfl
  | succ i=>cases k with
   | zero=>exact nd'.2.2 a ((aD e2)▸m2) a (dS (J:=J) (k:=i) e1 m1) rfl
   | succ k=>exact CZ nd'.2.1 (i:=i) (k:=k) e1 e2 (λz=>hik (congrArg Nat.succ z)) m1 m2
theorem wi {l:Loc}(e:l.d=none)(ha:a∈l.own):a=l.a:=aH (show a∈ [l.a] from by unfold Loc.own at ha;rw [e] at ha;exact ha)
theorem Qg {l:Loc}(e:l.d=some d)(ha:a∈l.own):a=l.a∨a=d:=(aU (show a∈ [l.a,d] from by unfold Loc.own at ha;rw [e] at ha;exact ha)).imp id aH
theorem EF {k:Nat}(S:SR G R J V h)(hk:J[k]? =some l)(ha:a∈l.own): ¬ ey h a:=by
 obtain ⟨o,ho⟩:∃o,V[k]? =some o:=⟨_,List.getElem?_eq_getElem (S.len▸(List.getElem?_eq_some_iff.mp hk).1)⟩
 have e:=S.objs k o l ho hk
 clear ho
 cases o with
 | inst C fs=>exact eO e λd es n e1 e2 e3 _=>(Qg e1 ha).elim (λz=>z▸jM e2 nofun) λz=>z▸jM e3 nofun
 | list xs=>exact aS e λvs n e1 e2 _=>wi e1 ha▸jM e2 nofun
 | gdict es=>exact dm e λxs e1 q _=>q.elim λo q=>q.elim λes' q=>q.elim λep q=>wi e1 ha▸jM q.1 λvs z=>nomatch q.2.2.1.symm.trans z
 | idict es=>exact br e λo kvs e1 e2 hi _=>hi.elim λes' q=>q.elim λep q=>wi e1 ha▸jM e2 λvs z=>nomatch q.2.1.symm.trans z
theorem SR.upd (S:SR G R J V h)(hk:J[k]? =some l)(kb:KB X h h')(hX:∀a∈X,a∈l.own∨(a∈R∧a∉own J∧a∉G.TB))(hn:∀a∈X,¬ ey h a)
  (lv:∀b o,h.get? b=some o→∃o',h'.get? b=some o')(ho:OA G R J h' l o'):SR G R J (V.set k o') h':=
 have hXR:∀a∈X,a∈R:=λa m=>(hX a m).elim (λq=>S.sub a (dS hk q)) (λq=>q.1)
 ⟨λb o e=>kb b o (λm=>bL (S.resv b (hXR b m)) e) (S.base b o e),S.len.trans List.length_set.symm,λi o li e1 e2=>if hik:i=k then by
   subst hik
   exact aD (hk.symm.trans e2)▸cr (List.getElem?_set_self'.symm.trans e1) λ_ _ q=>q▸ho
  else OA.mono (λa o ha hoo=>⟨ha,kb a o (λm=>ha (hXR a m)) hoo⟩) (λ_ _ x=>x) (λa ha o hoo=>kb a o (λm=>(hX a m).elim (λq=>CZ S.nodup e2 hk hik ha q) λq=>q.2.1 (dS e2 ha)) hoo) o (S.objs i o li ((List.getElem?_set_ne (Ne.symm hik)).symm.trans e1) e2),
  S.nodup,S.sub,S.resv,λa m=>(S.live a m).elim λo e=>lv a o e,S.tbR,G.tabs h h' X kb (λa ha m=>(hX a m).elim (λq=>(S.tbR a ha).2 (dS hk q)) λq=>q.2.2 ha) hn S.tabs,S.abv.elim λa q=>q.elim λo q=>⟨a,(lv a o q.1).imp λ_ e=>⟨e,q.2⟩⟩⟩
theorem FRm.ns (F:FRm G Γ R J h env U m)(Fn:Fr G.g env.locals h' m)(kb:KB X h h')(hX:∀a∈X,a∈R)(hc:∀a∈env.cells.map (·.2),a∉X):FRm G Γ R J h' env U m:=
 ⟨F.kind,F.glob,F.bt,F.nms,Fn,F.faR,F.faNd,λa ha=>(F.faR' a ha).imp λo e=>kb a o (hc a ha) e,λi x v a b c=>(F.loc i x v a b c).imp λ_ q=>⟨q.1,q.2.kb kb hX⟩,
  λi x v a b c=>(F.cel i x v a b c).imp λce q=>q.imp λ_ q=>⟨q.1,kf q.2.1 λo e=>kb _ o (hc ce (mQ q.1)) e,q.2.2.kb kb hX⟩,λx a=>(F.celAll x a).imp λce q=>q.imp λ_ q=>⟨q.1,kf q.2 λo e=>kb _ o (hc ce (mQ q.1)) e⟩⟩
theorem gw {α:Type}{x y:α}{P:α→Prop}(h1:P x)(h2:P y):∀a∈ [x,y],P a:=λ_ m=>(aU m).elim (λe=>e▸h1) λm=>aH m▸h2
theorem O7
  (c:Cx G Γ A s env R J U V)(F:FRm G Γ R J s.heap env U m)(hk:mu.n0≤k)(hl:J[k]? =some l)(hd:d∈l.own)(F':Fr G.g env.locals h' m)(N':News G.g env.locals h' (wl G.g env.locals s.heap d))(hd':h'.get? d=some od')(ho:KB [d,env.locals] s.heap h'→OA G R J h' l o'):
  Go (bs G mu J ++fa env) s { s with heap:=h',toks:=tk } R J R J∧Cx G Γ A { s with heap:=h',toks:=tk } env R J U (V.set k o'):=
 have kb:=V2 F' c.S.base N'
 haveI hL:=F.faR env.locals eP
 haveI hdm:d∈own J:=dS hl hd
 have lv:∀b o,s.heap.get? b=some o→∃o',h'.get? b=some o':=λb o e=>if h1:b=d then h1▸⟨_,hd'⟩ else if h2:b=env.locals then h2▸F'.ns.imp λ_ q=>q.elim λ_ q=>q.elim λ_ q=>q.1 else
  ⟨o,kb b o (λz=>(aU z).elim h1 λz=>h2 (aH z)) e⟩
 ⟨⟨⟨_,_,rfl⟩,λb o hb e=>kb b o (λm=>hb (gw (P:=λa=>a∈bs G mu J ++fa env) (dE _ (dy _ (oV hk hl hd))) (dy _ eP) b m)) e,lv,λ_ _ e=>e,λ_ _ _ e _=> .inl e,λ_ m=>m,λa m=> .inl m⟩,
  c.A,c.S.upd hl kb (gw (.inl hd) (.inr hL)) (gw (EF c.S hl hd) (sC F.fr.ns)) lv (ho kb),m,F.ns F' kb (gw (c.S.sub _ hdm) hL.1) λa ha m=>(aU m).elim (λz=>(F.faR a (.tail _ ha)).2.1 (z▸hdm)) λz=>(List.nodup_cons.mp F.faNd).1 (aH z▸ha)⟩
def aN (n0:Nat)(f:Nat)(Cs:List Addr)(o:a7)(a:bZ):aF:=λU V=>(a U V).bind λp=>(o U p.2).bind λu=>(jz u).bind λk=>(p.2[k]?).bind λob=>(x6 ob).bind λi=>
 if i.1∈Cs∧i.2.length< 100∧n0≤k then some (.next,U,p.2.set k (.inst i.1 (cL i.2 f p.1))) else none
theorem Cu:∀{fs:List (Nat × AV)} {f:Nat},dG fs f=none→∀p∈fs,p.1=f→False
 | (g,v)::r,f,h,p,hp,e=>if hg:g=f then mj ((DJ hg).symm.trans h) else (aU hp).elim (λz=>hg ((congrArg Prod.fst z).symm.trans e)) λhp=>Cu ((DK hg).symm.trans h) p hp e
theorem C0:∀(fs:List (Nat × AV)) (f:Nat) (v:AV),(cL fs f v).length≤fs.length+1
 | [],f,v=>Nat.le_refl _
 | (g,w)::r,f,v=>by
  by_cases hg:g=f
  ·rw [show cL ((g,w)::r) f v=_ from if_pos hg];exact Nat.le_succ _
  ·rw [show cL ((g,w)::r) f v=_ from if_neg hg];exact Nat.succ_le_succ (C0 r f v)
theorem O8 (f:Nat)(q:FRel G R J h fs es):(getL (G.nm f) es).isSome=true:=by
 cases hf:dG fs f with
 | some y=>exact (wh q hf).elim λw hw=>hw.1▸rfl
 | none=>exact (wH q λp hp z=>Cu hf p hp (G.nmInj _ _ z))▸rfl
theorem RO {P:Prop}(h:instObj C d=dictOf es n):P:=by cases h
theorem aZ (hx:G.nm f=x)(hC:∀C∈Cs,ClsF G C∧dH G C f)(ha:MX G mu Γ e a)(hb:MP G Γ o b)(hs:∀env,swapsWith e (some (.Attribute o x p')) pos.line env=pure false:=by exact λ_=>rfl):MS G mu Γ (.Assign [.Attribute o x p'] e pos) (aN mu.n0 f Cs b a):=MS.mk λU V A s env R J Q c k=>k.elim λw k=>
 aw k.1 λp e1 q=>aw q λu e2 q=>aw q λk' e3 q=>aw q λob e4 q=>aw q λi e5 q=>cJ q λhh qf=>
 plainObj_wpAny_Assign_Attribute (ha _ _ _ _ e1 A s env R J _ c λr s1 R1 J1 g1 c1 r1=>hb _ _ _ e2 A s1 env R1 J1 _ c1 λov s2 k2 r2=>aW (show VRel G R1 J1 s2.heap (.ref k') ov from jh e3▸r2) λl hl p'=>by
  have c2:=c1.kp k2
  refine eO (show OA G R1 J1 s2.heap l (.inst i.1 i.2) from Cm e5▸c2.S.objs _ _ _ e4 hl) λd es n q1 q2 q3 q4=>c2.F.elim λm F=> ?_
  subst p';subst hx
  refine xA (hC _ hh.1) λcf ff=> ?_
  have hdo:d∈l.own:= .tail _ (q1▸ .head _)
  have hdm:d∈own J1:=dS hl hdo
  have hL:=F.faR env.locals eP
  haveI hdL:d≠env.locals:=λz=>hL.2.1 (z▸hdm)
  haveI fp:=CY (t:=s2.toks+1) (f:=f) (r1.keep k2.kb) q4
  refine set_plain (G.inK.keeps c2.S.base) (C:=i.1) (ox:=instObj i.1 d) (od:=some (dictOf es n)) ⟨q2,rfl,rfl,q3⟩ cf.sa ?_
  refine osa_dict (s:={ s2 with toks:=s2.toks+1 }) (pre:=[]) (post:=wl G.g env.locals s2.heap d) (n:=putN (G.nm f) es n) F.fr (Qf q3 hdL (c2.S.resv d (c2.S.sub d hdm))) (G.inK.keeps c2.S.base) ⟨q2,rfl,rfl,q3⟩ rfl cf.po (by unfold takerIn;refine (ff).symm▸ ?_;rfl) cf.hd (O8 f q4)
   (λ_ m=>absurd m bq) (λp hp=>(wl_mem.mp (show (p.1,p.2)∈_ from hp)).2.2.1) (putName_dict _ _ _ _ _ _) rfl (fp.len▸ba (C0 _ _ _) (ba hh.2.1 (by decide))) λh' F' N'=> ?_
  have ho:KB [d,env.locals] s2.heap h'→OA G R1 J1 h' l (.inst i.1 (cL i.2 f p.1)):=λkb=>
   ⟨d,_,_,q1,kb _ _ (λz=>(aU z).elim (λz=>RO (aD ((z▸q2:s2.heap.get? d=some (instObj i.1 d)).symm.trans q3))) λz=>hL.2.1 (aH z▸dS hl (.head _))) q2,(N' _ (.head _)).1,
    FRel.mono (λa o ha ho=>⟨ha,kb a o (λm=>ha (gw (c2.S.sub _ hdm) hL.1 a m)) ho⟩) (λ_ _ z=>z) _ _ fp⟩
  exact (O7 (mu:=mu) (tk:=s2.toks+1+1) c2 F hh.2.2 hl hdo F' (λp hp=>N' p (.tail _ hp)) (N' _ (.head _)).1 ho).elim λg3 c3=>
   (qf▸k.2:KS G mu Γ A s env R J Q (.next,U,p.2.set k' (.inst i.1 (cL i.2 f p.1)))) _ _ R1 J1 ((g1.xs.seq (Go.of_kp k2)).seq g3) c3 rfl) (hs env)
noncomputable def TU:AV→Bool
 | .none=>true
 | .int _=>true
 | .bool _=>true
 | _=>false
def bo (a:bZ):aF:=λU V=>(a U V).bind λp=>if TU p.1=true then some (.next,U,p.2) else none
theorem Qh (c:Cx G Γ A s env R J U V):interactive env=false:=by
 refine xE c.F λm F=> ?_
 unfold interactive
 refine (F.kind)▸ ?_;rfl
theorem cC (ha:MX G mu Γ e a)(hs:∀env,swapsWith e none pos.line env=pure false:=by exact λ_=>rfl):MS G mu Γ (.Expr e pos) (bo a):=MS.mk λU V A s env R J Q c k=>
 wpAny_Expr (ha.run c (k.bind.imp λp k r s1 R1 J1 g1 c1 r1=>by
  obtain ⟨ok,k⟩:=k.ite
  have fin:=k.get .next s1 R1 J1 g1.xs c1 rfl
  cases hv:p.1 <;> rw [hv] at r1 ok <;> first | exact Bool.noConfusion ok | skip
  ·exact (show r= .none from r1)▸fin
  ·exact (show r= .bool _ from r1)▸fin
  ·exact Exists.elim r1 λt q=>q▸fin)) (Qh c) (hs env)
structure DefF (G:Gd) (Γ:FI) (f:Addr) (fd:FuncData) (body:List Stmt):Prop where
 obj:∃o,G.K.lookup f=some o∧o.data= .func fd
 code:codeIn G.K fd.code fd.qualname=true
 body:fd.body= .stmts body
 names:fd.scope.names=Γ.names
 kind:fd.scope.kind= .function
 co:fd.scope.isCoroutine=false
 gen:fd.scope.isGenerator=false
 glob:fd.globals=mainGlobals
 bt:fd.builtins=builtinsNs∧fd.code=Γ.code∧fd.qualname ++".<locals>."=Γ.qual
 clo:fd.closure=[]
theorem zq {α:Type}:∀{l l':List (Str × α)},(∀p∈l,p.1≠x)→(l ++l').lookup x=l'.lookup x
 | [],l',h=>rfl
 | (y,v)::r,l',h=>by
  rw [List.cons_append,List.lookup_cons]
  haveI:(x == y)=false:=by rw [beq_eq_false_iff_ne];exact λz=>h _ bY z.symm
  exact (this)▸zq λp hp=>h p (cQ _ hp)
theorem BD:∀{ps:List Str} {vs:List Value} {i:Nat} {x:Str} {v:Value},ps.Nodup→ps[i]? =some x→vs[i]? =some v→((ps.zip vs).reverse).lookup x=some v
 | [],vs,i,x,v,nd,e1,e2=>by simp at e1
 | p::ps,[],i,x,v,nd,e1,e2=>by simp at e2
 | p::ps,w::vs,i,x,v,nd,e1,e2=>by
  simp only [List.zip_cons_cons,List.reverse_cons]
  refine xA (List.nodup_cons.mp nd) λn1 n2=> ?_
  cases i with
  | zero=>
   simp only [List.getElem?_cons_zero,Option.some.injEq] at e1 e2
   subst e1 e2
   rw [zq]
   ·simp [List.lookup_cons]
   ·intro q hq z
    rw [List.mem_reverse] at hq
    haveI:=List.of_mem_zip (a:=q.1) (b:=q.2) (by simpa using hq)
    rw [z] at this
    exact n1 this.1
  | succ i=>
   simp only [List.getElem?_cons_succ] at e1 e2
   haveI ih:=BD n2 e1 e2
   rw [lookup_some_append ih]
where
 lookup_some_append:∀{l l':List (Str × Value)} {x:Str} {v:Value},l.lookup x=some v→(l ++l').lookup x=some v
  | (y,w)::r,l',x,v,e=>by
   rw [List.cons_append,List.lookup_cons]
   rw [List.lookup_cons] at e
   cases h:x == y with
   | true=>rw [h] at e;exact e
   | false=>rw [h] at e;exact lookup_some_append e
noncomputable def eZ (n:Nat)(avs:List AV):Lo:=avs.map some ++List.replicate (n - avs.length) none
theorem wJ {i:Nat}(e:(eZ n avs)[i]? =some (some v)):avs[i]? =some v:=by
 unfold eZ at e
 rw [List.getElem?_append] at e
 split at e
 ·rw [List.getElem?_map] at e
  cases h:avs[i]? with
  | none=>rw [h] at e;exact au e
  | some w=>rw [h] at e;cases e;rfl
 ·rw [List.getElem?_replicate] at e
  split at e <;> exact nomatch e
noncomputable def HW:Fl→Option AV
 | .ret v=>some v
 | .next=>some .none
 | _=>none
noncomputable def pK:Flow→Value
 | .ret v=>v
 | _=> .none
def back (x:Option (Fl × Lo × ar)):Option (AV × ar):=x.bind λp=>(HW p.1).map λv=>(v,p.2.2)
def aR (Γ:FI)(n:Nat)(dav:List AV)(nf:Nat→Nat)(b:Nat→aF):Fn:=λavs V=>if avs.length=n then back (b (nf V.length) (eZ Γ.slots.length (avs ++dav)) V) else none
theorem VRels.append:∀{l m:List AV} {vs us:List Value},VRels G R J h l vs→VRels G R J h m us→VRels G R J h (l ++m) (vs ++us)
 | [],m,vs,us,e1,e2=>by simp only [VRels] at e1;subst e1;exact e2
 | x::r,m,vs,us,e1,e2=>by
  simp only [VRels] at e1
  refine aS e1 λv vs' rf2 q1 q2=> ?_;subst rf2
  exact ⟨v,_,rfl,q1,q2.append e2⟩
theorem VRels.at (e:VRels G R J h l vs){i:Nat}(hx:l[i]? =some x):∃v,vs[i]? =some v∧VRel G R J h x v:=by
 haveI hi:i< l.length:=by
  cases Nat.lt_or_ge i l.length with
  | inl q=>exact q
  | inr q=>exact au ((List.getElem?_eq_none q).symm.trans hx)
 haveI hi':i< vs.length:=by exact (e.length)▸hi
 exact ⟨vs[i],List.getElem?_eq_getElem hi',VRels.get i e hx (List.getElem?_eq_getElem hi')⟩
noncomputable def gT (G:Gd)(fd:FuncData)(ps:List Str)(n:Nat)(dv:List Value):Prop:=
 ∀(s:Shared) (vals:List Value),G.K.In s.heap→vals.length=n→BindsTo s fd ⟨vals,[]⟩ (ps.zip (vals ++dv))
theorem SR.gnone (S:SR G R J V h)(e:h.get? a=none):G.g.get? a=none:=Option.eq_none_iff_forall_ne_some.mpr λo z=>bL e (S.base a o z)
theorem SR.grow (S:SR G R J V h)(kb:KB [] h h')(hs:∀a∈R,a∈R')(hn:∀a∈R',a∈R∨h.get? a=none)(lv:RL R' h'):SR G R' J V h':=
 S.tr (S.keep kb).base (λa o ha e=>⟨λm=>(hn a m).elim ha λz=>bL z e,kb.get e⟩) (λ_ _ _ e=>kb.get e) (λa m _=>hs a m) (λa m=>(hn a m).elim (S.resv a) S.gnone) lv (S.keep kb).tabs (S.keep kb).abv
theorem SR.res (S:SR G R J V h)(kb:KB [] h h')(fr:h.get? I=none)(lv:∃o,h'.get? I=some o):SR G (I::R) J V h':=
 S.grow kb (λ_ m=> .tail _ m) (λa m=>(aU m).elim (λz=> .inr (z▸fr)) .inl) (λa m=>(aU m).elim (λz=>z▸lv) ((S.keep kb).live a))
theorem SR.fresh (S:SR G R J V h)(fr:h.get? I=none):I∉R:=λm=>(S.live I m).elim λ_ e=>bL fr e
theorem SR.new_out (S:SR G R J V h)(fr:h.get? I=none):I∉own J∧I∉G.TB:=⟨λm=>S.fresh fr (S.sub I m),λm=>S.fresh fr (S.tbR I m).1⟩
theorem wE {t:Sem α}{Q:α→Shared→Prop}(h:wpAny M A t Q aI s):wpAny M A t Q E s:=bN h (λ_ _ z=>z) λ_ _ z=>z.elim
theorem wF {t:Sem α}{Q:α→Shared→Prop}(h:wpAny M A t (λ_ _=>False) E s):wpAny M A t Q E s:=bN h (λ_ _ z=>z.elim) λ_ _ z=>z
theorem SR.size_le (S:SR G R J V h):G.g.objs.size≤h.objs.size:=cU S.abv λa o ho hle=>ba hle (Nat.le_of_lt (Heap.lt_size ho))
theorem AOk.deeper (hA:AOk d A)(hd:e+1≤d):AOk e (A.deeper env):=⟨hA.hd,by have:=hA.dp;show A.depth+1+e< _;omega,by have:=hA.un;show A.units+3+40 * e+80< _;omega⟩
theorem DM {ps slots:List Str}{vs:List Value}{i:Nat}(hl:ps.length=vs.length)(hps:slots.take ps.length=ps)(h1:slots[i]? =some x)(hu:vs[i]? =some u):ps[i]? =some x:=by
 have hi:i< ps.length:=hl▸(List.getElem?_eq_some_iff.mp hu).1
 rw [← hps,List.getElem?_take,if_pos hi]
 exact h1
theorem Hm {names:List (Str × NameKind)}(h:∀x∈names,d8 (some x.2)=false)(h3:d8 (names.lookup x)=true):False:=match hl:names.lookup x with
 | none=>ft (hl▸h3:d8 none=true)
 | some k=>Bool.false_ne_true ((h _ (mem_of_lookup hl)).symm.trans (hl▸h3))
theorem lB (D:DefF G Γ f fd body)(hps:Γ.slots.take ps.length=ps)(hnd:ps.Nodup)
  (hpl:∀x∈ps,Γ.names.lookup x=some .local)(hn:ps.length=n+dv.length)(hb:gT G fd ps n dv)(hdv:∀(R:List Addr) (J:aG) (h:Heap),(∀a∈R,G.g.get? a=none)→G.g.StaysIn h→VRels G R J h dav dv)
  (hcell':∀x∈Γ.names,d8 (some x.2)=false)(hd:Γ.d+1≤d)
  (Yp:avs.length=n)(hA:AOk d A)(S:SR G R J V s.heap)(hv:VRels G R J s.heap avs vals)
  (hP:∀(env:Env) (s1:Shared) (L:Addr),(∃h tk,s1= { s with heap:=h,toks:=tk })→KB [] s.heap s1.heap→s.heap.get? L=none→env.locals=L→env.cells=[]→env.frame=some L→(∀X,Go X s s1 R J (L::R) J)→Cx G Γ (A.deeper env) s1 env (L::R) J (eZ Γ.slots.length (avs ++dav)) V→
   wpAny (model G.prog G.w) (A.deeper env) (execs body env) (λf s'=>P (.ok (.ret (pK f))) s')
    (λe s'=>wpAny (model G.prog G.w) (A.deeper env) (leaving env e) (λ_ s''=>P (.error e) s'') (λe' s''=>P (.error e') s'') s') s1):
  codeAny (model G.prog G.w) A (.call (.ref f) ⟨vals,[]⟩) P s:=by
 have X:=G.inK.keeps S.base
 have hvl:vals.length=n:=hv.length.symm.trans Yp
 have hfresh:=dr s.heap
 refine D.obj.elim λo ho=>codeAny_call_def (body:=body) (binds:=ps.zip (vals ++dv)) (by have:=hA.dp;omega) (X _ _ ho.1) ho.2 (G.top.nolimit.keeps S.base) (codeRec_of X D.code) D.body (hb s vals X hvl) (D.names▸λx hx e=>Bool.false_ne_true ((hcell' x hx).symm.trans (e▸rfl)))
  (λx hx=>D.names▸hpl _ (List.of_mem_zip (a:=x.1) (b:=x.2) (by simpa using hx)).1) (λh₀ hns hk=> ?_) D.co D.gen D.kind
 have envC:(callEnv fd s.heap.objs.size f).cells=[]:=D.clo
 have efa:fa (callEnv fd s.heap.objs.size f)=[s.heap.objs.size]:=by unfold fa;rw [envC];rfl
 have kb:KB [] s.heap h₀:=λb o _ e=>hk b o e
 have S1:=S.res kb hfresh (da hns λo _ _ h _=>⟨o,h⟩)
 have go0:∀X,Go X s ({ s with heap:=h₀,toks:=s.toks+(ps.zip (vals ++dv)).length }:Shared) R J (s.heap.objs.size::R) J:=λX=>
  ⟨⟨_,_,rfl⟩,λb o _ e=>hk b o e,λb o e=>⟨o,hk b o e⟩,λ_ _ e=>e,λ_ _ _ e _=> .inl e,λa m=> .tail _ m,λa m=>(aU m).elim (λz=> .inr (z▸hfresh)) .inl⟩
 have vall:VRels G (s.heap.objs.size::R) J h₀ (avs ++dav) (vals ++dv):=((go0 []).vals (λa m=>absurd m bq) hv).append (hdv _ _ _ S1.resv S1.base)
 exact hP _ _ _ ⟨_,_,rfl⟩ kb hfresh rfl envC rfl go0 ⟨hA.deeper hd,S1,λx=>(ps.zip (vals ++dv)).reverse.lookup x,D.kind,D.glob,D.bt,D.names,⟨hns,λb o e=>hk b o (S.base b o e),S.size_le⟩,
  λa m=>(aH (efa▸m:a∈ [s.heap.objs.size])).symm▸⟨.head _,S.new_out hfresh⟩,efa.symm▸List.nodup_cons.mpr ⟨bq,List.nodup_nil⟩,λa m=>absurd (envC▸m:a∈([]:List (Str × Addr)).map (·.2)) bq,
  λi x w h1 h2 h3=>aW (vall.at (wJ h2)) λu hu hr=>⟨u,BD hnd (DM (hn.trans (by rw [List.length_append,hvl])) hps h1 hu) hu,hr⟩,λi x w h1 h2 h3=>(Hm hcell' h3).elim,λx h3=>(Hm hcell' (m4 h3 rfl)).elim⟩
theorem RP:∀{fl:Fl} {r:Flow} {v:AV},HW fl=some v→FlRel G R J h fl r→VRel G R J h v (pK r)
 | .ret w,r,v,e,k=>k.elim λu q=>q.1▸aD e▸q.2
 | .next,r,v,e,k=>(show r= .next from k)▸aD e▸rfl
 | .brk,r,v,e,k | .cont,r,v,e,k=>au e
theorem C1 {Q:Value→Shared→Prop}(B:MSs G mu Γ body b)(q:back (b U V)=some (v,σ'))(c:Cx G Γ A s env R J U V)
  (hQ:∀r s' R' J',Go (bs G mu J ++fa env) s s' R J R' J'→SR G R' J' σ' s'.heap→VRel G R' J' s'.heap v r→Q r s'):wpAny (model G.prog G.w) A (execs body env) (λf s'=>Q (pK f) s') aI s:=
 aw q λp e1 q=>cr q λw e2 e3=>B _ _ _ _ _ e1 A s env R J _ c λr s' R' J' g c' fr=>hQ (pK r) s' R' J' g ((bT e3).2▸c'.S) ((bT e3).1▸RP e2 fr)
theorem O9 (D:DefF G Γ f fd body)(hps:Γ.slots.take ps.length=ps)(hnd:ps.Nodup)
  (hpl:∀x∈ps,Γ.names.lookup x=some .local)(hn:ps.length=n+dv.length)(hb:gT G fd ps n dv)(hdv:∀(R:List Addr) (J:aG) (h:Heap),(∀a∈R,G.g.get? a=none)→G.g.StaysIn h→VRels G R J h dav dv)
  (hcell':∀x∈Γ.names,d8 (some x.2)=false)(hd:Γ.d+1≤d)(B:∀n0,MSs G ⟨tb,n0⟩ Γ body (b n0)):aJ G tb nf d (.ref f) (aR Γ n dav nf b):=λavs V v σ' q A s R J vals Q hA S hv hQ=>fH q λYp q=>lB (P:=CB Q) D hps hnd hpl hn hb hdv hcell' hd Yp hA S hv λenv s1 L sh kb fL hL hcl hf go c=>
 have efa:fa env=[L]:=by unfold fa;rw [hcl,hL];rfl
 wE (C1 (Q:=Q) (B _) q c λr s' R' J' g S' vr=>hQ r s' R' J' ((go _).trans g λz m=>(bC m).imp id λm=>aH (efa▸m:z∈ [L])▸fL) S' vr)
section
mutual
noncomputable def bS (n:Nat):AV→Bool
 | .tup l=>c8 n l
 | .lst l=>c8 n l
 | .obj _ fs=>iV n fs
 | .dct es=>km n es
 | .ref k=>decide (k< n)
 | _=>true
noncomputable def c8 (n:Nat):List AV→Bool
 | []=>true
 | x::r=>bS n x && c8 n r
noncomputable def iV (n:Nat):List (Nat × AV)→Bool
 | []=>true
 | (_,x)::r=>bS n x && iV n r
noncomputable def km (n:Nat):List (Int × AV)→Bool
 | []=>true
 | (_,x)::r=>bS n x && km n r
end
section
variable {R R':List Addr} {J J':aG} {h:Heap} {n:Nat}
mutual
theorem VRel.down (hR:∀a∈R',a∈R)(hJ:∀k,k< n→J[k]? =J'[k]?):∀(x:AV) (v:Value),bS n x=true→VRel G R J h x v→VRel G R' J' h x v
 | .none,v,b,e=>by simpa only [VRel] using e
 | .bool _,v,b,e=>by simpa only [VRel] using e
 | .int i,v,b,e=>by simpa only [VRel] using e
 | .str x,v,b,e=>by simpa only [VRel] using e
 | .tup l,v,b,e=>by
  simp only [VRel,bS] at *
  obtain ⟨a,vs,e1,e2,e3,e5⟩:=e
  exact ⟨a,vs,e1,λm=>e2 (hR a m),e3,VRels.down hR hJ l vs b e5⟩
 | .lst l,v,b,e=>by
  simp only [VRel,bS] at *
  obtain ⟨a,vs,e1,e2,e3,e5⟩:=e
  exact ⟨a,vs,e1,λm=>e2 (hR a m),e3,VRels.down hR hJ l vs b e5⟩
 | .obj C fs,v,b,e=>by
  simp only [VRel,bS] at *
  obtain ⟨a,d,es,m,e1,e2,e3,e4,e5,e6⟩:=e
  exact ⟨a,d,es,m,e1,λm=>e2 (hR a m),λm=>e3 (hR d m),e4,e5,FRel.down hR hJ fs es b e6⟩
 | .dct es,v,b,e=>by
  simp only [VRel,bS] at *
  obtain ⟨a,o,kvs,e1,e2,e3,e4,e5⟩:=e
  exact ⟨a,o,kvs,e1,λm=>e2 (hR a m),e3,e4,DRel.down hR hJ es kvs b e5⟩
 | .ref k,v,b,e=>by
  simp only [VRel,bS,decide_eq_true_eq] at *
  obtain ⟨l,e1,e2⟩:=e
  exact ⟨l,by rw [← hJ k b];exact e1,e2⟩
 | .lit w,v,b,e=>by simpa only [VRel] using e
theorem VRels.down (hR:∀a∈R',a∈R)(hJ:∀k,k< n→J[k]? =J'[k]?):∀(x:List AV) (v:List Value),c8 n x=true→VRels G R J h x v→VRels G R' J' h x v
 | [],v,b,e=>by simpa only [VRels] using e
 | x::r,v,b,e=>by
  simp only [VRels,c8,Bool.and_eq_true] at *
  obtain ⟨y,ys,e1,e2,e3⟩:=e
  exact ⟨y,ys,e1,VRel.down hR hJ x y b.1 e2,VRels.down hR hJ r ys b.2 e3⟩
theorem FRel.down (hR:∀a∈R',a∈R)(hJ:∀k,k< n→J[k]? =J'[k]?):∀(x:List (Nat × AV)) (v:List DictEntry),iV n x=true→FRel G R J h x v→FRel G R' J' h x v
 | [],v,b,e=>by simpa only [FRel] using e
 | (f,x)::r,v,b,e=>by
  simp only [FRel,iV,Bool.and_eq_true] at *
  obtain ⟨t,y,ys,e1,e2,e3⟩:=e
  exact ⟨t,y,ys,e1,VRel.down hR hJ x y b.1 e2,FRel.down hR hJ r ys b.2 e3⟩
theorem DRel.down (hR:∀a∈R',a∈R)(hJ:∀k,k< n→J[k]? =J'[k]?):∀(x:List (Int × AV)) (v:List (Int × Value)),km n x=true→DRel G R J h x v→DRel G R' J' h x v
 | [],v,b,e=>by simpa only [DRel] using e
 | (f,x)::r,v,b,e=>by
  simp only [DRel,km,Bool.and_eq_true] at *
  obtain ⟨y,ys,e1,e2,e3⟩:=e
  exact ⟨y,ys,e1,VRel.down hR hJ x y b.1 e2,DRel.down hR hJ r ys b.2 e3⟩
end
end
theorem o8 {J J':aG}(h:∀(k:Nat) (l:Loc),J[k]? =some l→J'[k]? =some l)(hn:n≤J.length):∀k,k< n→J'[k]? =J[k]? :=λk hk=>by
 have:k< J.length:=by exact Nat.lt_of_lt_of_le (by assumption) (by assumption)
 exact (List.getElem?_eq_getElem this)▸h k _ (List.getElem?_eq_getElem this)
theorem wK (h:J.length≤n):bs G ⟨false,n⟩ J=[]:=by
 unfold bs
 refine (List.drop_of_length_le h)▸ ?_;rfl
theorem Go.pure (g:Go (bs G ⟨false,n⟩ J) s s' R J R' J')(h:J.length≤n):Kp s s':=by
 rw [wK h] at g
 exact ⟨g.sh,g.kb⟩
def dj (F:Fn):bP:=λavs V=>match F avs V with
 | some (v,_)=>if bS V.length v=true then some v else none
 | none=>none
theorem dM (h:aJ G false id d f F):cS G d f (dj F):=by
 intro avs V v q A s R J vals Q hA S hv hQ
 unfold dj at q
 split at q
 ·rename_i w σ' e1
  split at q
  ·rename_i hb
   replace q:=aD q;subst q
   refine h _ _ _ _ e1 A s R J vals Q hA S hv λr s' R' J' g S' vr=> ?_
   exact hQ r s' (g.pure (by rw [S.len];exact Nat.le_refl _)) (VRel.down (λa m=>g.rs a m) (o8 g.jp (by rw [S.len];exact Nat.le_refl _)) _ _ hb vr)
  ·exact au q
 ·exact au q
def iY (n:Nat):AO→Bool
 | .inst _ fs=>iV n fs
 | .list l=>c8 n l
 | .gdict es=>es.all λp=>bS n p.2
 | .idict es=>km n es
theorem Na (k:GK):bS 0 (aX k)=true:=rfl
theorem GRel.down (hR:∀a∈R',a∈R)(hJ:∀k,k< n→J[k]? =J'[k]?):∀(x:List (GK × AV)) (v:List (GK × Addr × Value)),(x.all λp=>bS n p.2)=true→GRel G R J h x v→GRel G R' J' h x v
 | [],v,b,e=>by simpa only [GRel] using e
 | (f,x)::r,v,b,e=>by
  simp only [GRel,List.all_cons,Bool.and_eq_true] at *
  refine eO e λa y ys e1 e2 e3 e4=> ?_
  exact ⟨a,y,ys,e1,VRel.down (n:=0) hR (λk hk=>absurd hk (Nat.not_lt_zero _)) _ _ (Na f) e2,VRel.down hR hJ x y b.1 e3,GRel.down hR hJ r ys b.2 e4⟩
theorem OA.down (hR:∀a∈R',a∈R)(hJ:∀k,k< n→J[k]? =J'[k]?):∀(o:AO),iY n o=true→OA G R J h l o→OA G R' J' h l o
 | .inst C fs,b,e=>by refine eO e λd es m e1 e2 e3 e4=> ?_;exact ⟨d,es,m,e1,e2,e3,FRel.down hR hJ _ _ b e4⟩
 | .list xs,b,e=>by refine aS e λvs m e1 e2 e3=> ?_;exact ⟨vs,m,e1,e2,VRels.down hR hJ _ _ b e3⟩
 | .gdict es,b,e=>by refine dm e λxs e1 e2 e3=> ?_;exact ⟨xs,e1,e2,GRel.down hR hJ _ _ b e3⟩
 | .idict es,b,e=>by refine br e λo kvs e1 e2 e3 e4=> ?_;exact ⟨o,kvs,e1,e2,e3,DRel.down hR hJ _ _ b e4⟩
theorem C2 (m:a∈own (J.take n)):a∈own J:=by
 unfold own at *
 refine aW (List.mem_flatMap.mp m) λl hl ha=> ?_
 exact List.mem_flatMap.mpr ⟨l,List.mem_of_mem_take hl,ha⟩
theorem SR.take (S:SR G R J V h)(hb:((V.take n).all (iY n))=true):SR G R (J.take n) (V.take n) h where
 base:=S.base
 len:=by simp [S.len]
 objs:=λk o l e1 e2=>by
  rw [List.getElem?_take] at e1 e2
  split at e1
  ·rename_i hk
   rw [if_pos hk] at e2
   refine OA.down (n:=n) (λa m=>m) (λj hj=> ?_) o ?_ (S.objs k o l e1 e2)
   ·rw [List.getElem?_take,if_pos hj]
   ·refine List.all_eq_true.mp hb o (d7 (i:=k) ?_)
    rw [List.getElem?_take,if_pos hk];exact e1
  ·exact au e1
 nodup:=by
  haveI h1:=S.nodup
  unfold own at *
  rw [← List.take_append_drop n J,List.flatMap_append] at h1
  exact (List.nodup_append.mp h1).1
 sub:=λa m=>S.sub a (C2 m)
 resv:=S.resv
 live:=S.live
 tbR:=λa m=>⟨(S.tbR a m).1,λq=>(S.tbR a m).2 (C2 q)⟩
 tabs:=S.tabs
 abv:=S.abv
def pL (F:Fn):Fn:=λavs V=>match F avs V with
 | some (v,σ')=>if (bS V.length v && (σ'.take V.length).all (iY V.length))=true then some (v,σ'.take V.length) else none
 | none=>none
theorem Bo {J J':aG}(h:∀(k:Nat) (l:Loc),J[k]? =some l→J'[k]? =some l)(hl:J.length≤J'.length):J'.take J.length=J:=by
 apply List.ext_getElem?
 intro k
 refine (List.getElem?_take)▸ ?_
 split
 ·exact o8 h (Nat.le_refl _) k ‹_›
 ·rw [List.getElem?_eq_none (by exact Nat.le_of_not_lt (by assumption))]
theorem Hn {J J':aG}(h:∀(k:Nat) (l:Loc),J[k]? =some l→J'[k]? =some l):J.length≤J'.length:=by
 cases Nat.lt_or_ge J'.length J.length with
 | inr q=>exact q
 | inl q=>
  haveI:=h J'.length _ (List.getElem?_eq_getElem q)
  exact au ((List.getElem?_eq_none (Nat.le_refl _)).symm.trans this)
theorem NU (h:aJ G tb nf d f F):aJ G tb nf d f (pL F):=by
 intro avs V v σ' q A s R J vals Q hA S hv hQ
 unfold pL at q
 split at q
 ·rename_i w σ1 e1
  split at q
  ·rename_i hb
   obtain rfl:=(dD q).1;obtain rfl:=(dD q).2
   rw [Bool.and_eq_true] at hb
   refine h _ _ _ _ e1 A s R J vals Q hA S hv λr s' R' J' g S' vr=> ?_
   haveI hJ:=Bo g.jp (Hn g.jp)
   haveI S2:=S'.take hb.2
   rw [← S.len,hJ] at S2
   refine hQ r s' R' J ⟨g.sh,g.kb,g.live,λ_ _ e=>e,λ_ _ _ e _=> .inl e,g.rs,g.rf⟩ (by rw [← S.len];exact S2) ?_
   exact VRel.down (n:=V.length) (λa m=>m) (o8 g.jp (by exact (S.len)▸Nat.le_refl _)) _ _ hb.1 vr
  ·exact au q
 ·exact au q
theorem SR.nil (S:SR G R J V h):SR G R [] [] h where
 base:=S.base
 len:=rfl
 objs:=λk o l e1 e2=>by simp at e1
 nodup:=by simp [own]
 sub:=λa m=>by simp [own] at m
 resv:=S.resv
 live:=S.live
 tbR:=λa m=>⟨(S.tbR a m).1,by simp [own]⟩
 tabs:=S.tabs
 abv:=S.abv
def te (F:Fn):Fn:=λavs V=>if c8 0 avs=true then (match F avs [] with
 | some (v,_)=>if bS 0 v=true then some (v,V) else none
 | none=>none) else none
theorem Pa (h:aJ G tb nf d f F):aJ G tb nf' d f (te F):=by
 intro avs V v σ' q A s R J vals Q hA S hv hQ
 unfold te at q
 split at q
 ·rename_i hav
  split at q
  ·rename_i w σ1 e1
   split at q
   ·rename_i hb
    obtain rfl:=(dD q).1;obtain rfl:=(dD q).2
    haveI hv0:VRels G R [] s.heap avs vals:=VRels.down (n:=0) (λa m=>m) (λk hk=>absurd hk (Nat.not_lt_zero _)) _ _ hav hv
    refine h _ _ _ _ e1 A s R [] vals Q hA S.nil hv0 λr s' R' J' g S' vr=> ?_
    have hX:∀a∈bs G ⟨tb,nf ([]:ar).length⟩ [],a∈G.TB:=λa m=>(ng m).elim id (λq=>by simp [own] at q)
    haveI hXR:∀a∈bs G ⟨tb,nf ([]:ar).length⟩ [],a∈R:=λa m=>(S.tbR a (hX a m)).1
    haveI hnew:∀(a:Addr) (o:Obj),a∉R→s.heap.get? a=some o→a∉R'∧s'.heap.get? a=some o:=g.hR hXR
    haveI Sf:SR G R' J V s'.heap:={
     base:=S'.base
     len:=S.len
     objs:=λk o l e1 e2=>OA.mono hnew (λ_ _ x=>x) (λa ha o ho=>g.kb a o (λm=>(S.tbR a (hX a m)).2 (dS e2 ha)) ho) o (S.objs k o l e1 e2)
     nodup:=S.nodup
     sub:=λa m=>g.rs a (S.sub a m)
     resv:=S'.resv
     live:=S'.live
     tbR:=λa m=>⟨g.rs a (S.tbR a m).1,(S.tbR a m).2⟩
     tabs:=S'.tabs
     abv:=S'.abv }
    refine hQ r s' R' J ⟨g.sh,λb o hb e=>g.kb b o (λm=>hb ?_) e,g.live,λ_ _ e=>e,λ_ _ _ e _=> .inl e,g.rs,g.rf⟩ Sf ?_
    ·unfold bs at m ⊢
     rcases bC m with q | q
     ·exact dE _ q
     ·simp [own] at q
    ·exact VRel.down (n:=0) (λa m=>m) (λk hk=>absurd hk (Nat.not_lt_zero _)) _ _ hb vr
   ·exact au q
  ·exact au q
 ·exact au q
end
theorem vM (J J':aG):own (J ++J')=own J ++own J':=by unfold own;rw [List.flatMap_append]
theorem SR.add (S:SR G R J V h)(kb:KB [] h h')(hf:∀a∈l.own,h.get? a=none∧∃o,h'.get? a=some o)(hn:l.own.Nodup)
  (ho:OA G (l.own ++R) (J ++ [l]) h' l o):SR G (l.own ++R) (J ++ [l]) (V ++ [o]) h':=by
 have S0:=S.keep kb
 haveI hR:∀a o,a∉R→h.get? a=some o→a∉l.own ++R∧h'.get? a=some o:=λa o ha ho=>⟨λm=>by
  rcases bC m with q | q
  ·exact au (((hf a q).1).symm.trans ho)
  ·exact ha q,kb a o (by simp) ho⟩
 haveI hg:∀a∈l.own,G.g.get? a=none:=λa m=>by
  cases z:G.g.get? a with
  | none=>rfl
  | some o=>haveI:=S.base _ _ z;exact au (((hf a m).1).symm.trans this)
 have hown:own [l]=l.own:=by simp [own]
 refine ⟨S0.base,by simp [S0.len],?_,?_,?_,?_,?_,?_,S0.tabs,?_⟩
 ·intro k o' l' e1 e2
  rw [List.getElem?_append] at e1 e2
  rw [S.len] at e2
  split at e1
  ·rename_i hk
   rw [if_pos hk] at e2
   refine OA.mono hR (λj lj e=> ?_) (λa _ o ho=>kb a o (by simp) ho) o' (S.objs k o' l' e1 e2)
   rw [List.getElem?_append_left]
   ·exact e
   ·cases Nat.lt_or_ge j J.length with
    | inl q=>exact q
    | inr q=>exact au ((List.getElem?_eq_none q).symm.trans e)
  ·rename_i hk
   rw [if_neg hk] at e2
   cases hz:k - V.length with
   | zero=>
    rw [hz] at e1 e2
    simp only [List.getElem?_cons_zero,Option.some.injEq] at e1 e2
    subst e1 e2
    exact ho
   | succ z=>rw [hz] at e1;simp at e1
 ·rw [vM,hown]
  refine List.nodup_append.mpr ⟨S.nodup,hn,λa ha b hb e=> ?_⟩
  subst e
  obtain ⟨o,ho⟩:=S.live a (S.sub a ha)
  exact au (((hf a hb).1).symm.trans ho)
 ·intro a m
  rw [vM,hown] at m
  exact List.mem_append.mpr ((bC m).symm.imp id (S.sub a))
 ·intro a m
  rcases bC m with q | q
  ·exact hg a q
  ·exact S.resv a q
 ·intro a m
  rcases bC m with q | q
  ·exact (hf a q).2
  ·exact S0.live a q
 ·intro a m
  refine ⟨dy _ (S.tbR a m).1,λq=> ?_⟩
  rw [vM,hown] at q
  rcases bC q with q | q
  ·exact (S.tbR a m).2 q
  ·obtain ⟨o,ho⟩:=S.live a (S.tbR a m).1
   exact au (((hf a q).1).symm.trans ho)
 ·exact S0.abv
theorem xh (kb:KB [] s.heap h')(hf:∀a∈l.own,s.heap.get? a=none):Go X s { s with heap:=h',toks:=tk } R J (l.own ++R) (J ++ [l]) where
 sh:=⟨_,_,rfl⟩
 kb:=λb o _ e=>kb b o (by simp) e
 live:=λb o e=>⟨o,kb b o (by simp) e⟩
 jp:=λk lk e=>by
  rw [List.getElem?_append_left]
  ·exact e
  ·cases Nat.lt_or_ge k J.length with
   | inl q=>exact q
   | inr q=>exact au ((List.getElem?_eq_none q).symm.trans e)
 jn:=λi li a e m=>by
  rw [List.getElem?_append] at e
  split at e
  ·exact .inl e
  ·refine .inr ?_
   cases hz:i - J.length with
   | zero=>rw [hz] at e;simp only [List.getElem?_cons_zero,Option.some.injEq] at e;subst e;exact hf a m
   | succ z=>rw [hz] at e;simp at e
 rs:=λa m=>dy _ m
 rf:=λa m=>by
  rcases bC m with q | q
  ·exact .inr (hf a q)
  ·exact .inl q
structure MakeF (G:Gd) (C fI:Addr):Prop where
 mks:makesIn G.K C=true
 init:findIn G.K (.ref C) "__init__"=some (some (.ref fI))
 fn:typeIn G.K (.ref fI)=some (.type "function")
theorem C3 (mf:MakeF G C fI)(h:aJ G tb (λn=>n - 1) d (.ref fI) F)(e:F (.ref V.length::avs) (V ++ [.inst C []])=some (.none,σ'))
  (hA:AOk (d+1) A)(S:SR G R J V s.heap)(hv:VRels G R J s.heap avs vals)
  (hQ:∀s' R' J' x dx,Go (bs G ⟨tb,V.length⟩ J) s s' R J R' J'→SR G R' J' σ' s'.heap→J'[V.length]? =some ⟨x,some dx⟩→s.heap.get? x=none→s.heap.get? dx=none→Q (.ref x) s'):
  codeAny (model G.prog G.w) A (.call (.ref C) ⟨vals,[]⟩) (CB Q) s:=by
 have X:=G.inK.keeps S.base
 haveI Y:=makes_of (M:=model G.prog G.w) X mf.mks
 obtain ⟨hh,gg,dd,t,os⟩:=s
 dsimp only at S hv X Y
 refine make_core Y (looks_findIn X mf.init) (λself=>bind_fn X self mf.fn) (.inl (by rfl)) ?_
 let n:=hh.objs.size
 have kb:KB [] hh ((hh.push emptyDict).push (instObj C n)):=(KB.push hh _).trans (KB.push _ _)
 haveI hn0:hh.get? n=none:=dr hh
 have hn1:hh.get? (n+1)=none:=by
  cases z:hh.get? (n+1) with
  | none=>rfl
  | some o=>haveI:=Heap.lt_size z;exact absurd this (by show ¬ (n+1< n);omega)
 haveI g0:((hh.push emptyDict).push (instObj C n)).get? n=some emptyDict:=cA _ (bK _ rfl)
 have g1:((hh.push emptyDict).push (instObj C n)).get? (n+1)=some (instObj C n):=by
  haveI:=bK (o:=instObj C n) (hh.push emptyDict) rfl
  rwa [Heap.size_push] at this
 have hl:∀a∈(⟨n+1,some n⟩:Loc).own,hh.get? a=none∧∃o,((hh.push emptyDict).push (instObj C n)).get? a=some o:=by
  intro a m
  simp only [Loc.own,Option.toList,List.mem_cons,List.not_mem_nil,or_false] at m
  rcases m with rfl | rfl
  ·exact ⟨hn1,_,g1⟩
  ·exact ⟨hn0,_,g0⟩
 haveI S1:=SR.add (l:=⟨n+1,some n⟩) (o:= .inst C []) S kb hl (by simp [Loc.own]) ⟨n,[],0,rfl,g1,g0,rfl⟩
 have go1:=xh (X:=bs G ⟨tb,V.length⟩ J) (R:=R) (J:=J) (s:=⟨hh,gg,dd,t,os⟩) (h':=(hh.push emptyDict).push (instObj C n)) (tk:=t) (l:=⟨n+1,some n⟩) kb (λa m=>(hl a m).1)
 haveI hA':AOk d (A.under (.builtin "type.__call__" ⟨.ref C::vals,[]⟩)):=⟨hA.hd,by rw [depth_under_make];haveI:=hA.dp;omega,by rw [units_under_make];haveI:=hA.un;omega⟩
 haveI hrefs:VRels G ((⟨n+1,some n⟩:Loc).own ++R) (J ++ [⟨n+1,some n⟩]) ((hh.push emptyDict).push (instObj C n)) (.ref V.length::avs) (.ref (n+1)::vals):=by
  refine ⟨_,_,rfl,?_,go1.vals (λa m=>lO S m) hv⟩
  refine ⟨⟨n+1,some n⟩,?_,rfl⟩
  rw [← S.len,List.getElem?_append_right (Nat.le_refl _)]
  simp
 refine codeAny_mono (h _ _ _ _ e _ ⟨(hh.push emptyDict).push (instObj C n),gg,dd,t,os⟩ _ _ _ (λv s'=>v= .none∧Q (.ref (n+1)) s') hA' S1 hrefs λr s' R' J' g' S' vr=> ?_) (λr s' z=> ?_)
 ·simp only [VRel] at vr
  subst vr
  refine ⟨rfl,hQ s' R' J' (n+1) n (go1.trans g' λz m=> ?_) S' (g'.jp _ _ ?_) hn1 hn0⟩
  ·haveI:(V ++ [AO.inst C []]).length - 1=V.length:=by simp
   dsimp only at m
   rw [this] at m
   exact nF go1 m
  ·rw [← S.len,List.getElem?_append_right (Nat.le_refl _)]
   simp
 ·cases r with
  | ok f=>
   cases f with
   | ret v=>exact z
   | _=>exact z
  | error e=>exact z.elim
noncomputable def l6 (C:Addr)(F:Fn):Fn:=λavs V=>match F (.ref V.length::avs) (V ++ [.inst C []]) with
 | some (.none,σ')=>some (.ref V.length,σ')
 | _=>none
theorem v7 (mf:MakeF G C fI)(h:aJ G tb (λn=>n - 1) d (.ref fI) F):aJ G tb id (d+1) (.ref C) (l6 C F):=by
 intro avs V v σ' q A s R J vals Q hA S hv hQ
 unfold l6 at q
 split at q
 ·rename_i σ1 e1
  obtain rfl:=(dD q).1;obtain rfl:=(dD q).2
  refine C3 mf h e1 hA S hv λs' R' J' x dx g S' hx h1 h2=>hQ _ s' R' J' g S' ?_
  exact ⟨_,hx,rfl⟩
 ·exact au q
def nX (C:Addr)(F:Fn):bP:=λavs V=>match F (.ref V.length::avs) (V ++ [.inst C []]) with
 | some (.none,σ')=>(match σ'[V.length]? with
  | some (.inst C' fs)=>if iV V.length fs=true then some (.obj C' fs) else none
  | _=>none)
 | _=>none
theorem BE (mf:MakeF G C fI)(h:aJ G false (λn=>n - 1) d (.ref fI) F):cS G (d+1) (.ref C) (nX C F):=by
 intro avs V v q A s R J vals Q hA S hv hQ
 unfold nX at q
 split at q
 ·rename_i σ1 e1
  split at q
  ·rename_i C' fs e2
   split at q
   ·rename_i hb
    replace q:=aD q;subst q
    refine C3 mf h e1 hA S hv λs' R' J' x dx g S' hx h1 h2=>hQ _ s' (g.pure (by exact (S.len)▸Nat.le_refl _)) ?_
    refine eO (S'.objs _ _ _ e2 hx) λd' es n q1 q2 q3 q4=> ?_
    simp only [Option.some.injEq] at q1
    subst q1
    refine ⟨x,dx,es,n,rfl,S.live.fresh h1,S.live.fresh h2,q2,q3,?_⟩
    exact FRel.down (λa m=>g.rs a m) (o8 g.jp (by exact (S.len)▸Nat.le_refl _)) _ _ hb q4
   ·exact au q
  ·exact au q
 ·exact au q
theorem vN {kindOf:Str→Option NameKind}:∀(binds:List (Str × Value)) (m cm:Str→Option Value) (x:Str) (v:Value),(binds.map (·.1)).Nodup→(x,v)∈binds→
  (kindOf x=some .local→bindL kindOf binds m x=some v)∧(kindOf x≠some .local→bindC kindOf binds cm x=some v)
 | [],m,cm,x,v,nd,h=>by exact nomatch h
 | (y,w)::r,m,cm,x,v,nd,h=>by
  obtain ⟨n1,n2⟩:=List.nodup_cons.mp nd
  rcases aU h with e | h
  ·obtain rfl:=(bT e).1;obtain rfl:=(bT e).2
   refine ⟨λhk=> ?_,λhk=> ?_⟩
   ·unfold bindL
    rw [if_pos hk]
    exact keepL r _ n1 (if_pos rfl)
   ·unfold bindC
    rw [if_neg hk]
    exact keepC r _ n1 (if_pos rfl)
  ·unfold bindL bindC
   exact vN r _ _ x v n2 h
where
 keepL {kindOf:Str→Option NameKind} {x:Str} {v:Value}:∀(r:List (Str × Value)) (m:Str→Option Value),x∉r.map (·.1)→m x=some v→bindL kindOf r m x=some v
  | [],m,hn,hm=>hm
  | (y,w)::r,m,hn,hm=>by
   simp only [List.map_cons,List.mem_cons,not_or] at hn
   unfold bindL
   refine keepL r _ hn.2 ?_
   split
   ·simp [hn.1,hm]
   ·exact hm
 keepC {kindOf:Str→Option NameKind} {x:Str} {v:Value}:∀(r:List (Str × Value)) (m:Str→Option Value),x∉r.map (·.1)→m x=some v→bindC kindOf r m x=some v
  | [],m,hn,hm=>hm
  | (y,w)::r,m,hn,hm=>by
   simp only [List.map_cons,List.mem_cons,not_or] at hn
   unfold bindC
   refine keepC r _ hn.2 ?_
   split
   ·exact hm
   ·simp [hn.1,hm]
theorem wj:∀(names:List (Str × NameKind)) (n m:Nat) (acc acc':List (Str × Addr)),acc.map (·.1)=acc'.map (·.1)→(cellsFrom n names acc).map (·.1)=(cellsFrom m names acc').map (·.1)
 | [],n,m,acc,acc',h=>h
 | (x,k)::r,n,m,acc,acc',h=>by
  unfold cellsFrom
  split
  ·exact wj r _ _ _ _ (by simp [h])
  ·exact wj r _ _ _ _ h
theorem v8 {α:Type}:∀{l:List (Str × α)} {x:Str} {c:α},(l.map (·.1)).Nodup→(x,c)∈l→l.lookup x=some c
 | (y,d)::r,x,c,nd,h=>by
  refine xA (List.nodup_cons.mp nd) λn1 n2=> ?_
  rw [List.lookup_cons]
  refine Or.elim (aU h) (λe=> ?_) λh2=> ?_
  ·obtain rfl:=(bT e).1;obtain rfl:=(bT e).2;simp
  ·haveI:(x == y)=false:=by
    rw [beq_eq_false_iff_ne]
    intro e
    exact n1 (List.mem_map.mpr ⟨_,h2,e⟩)
   exact (this)▸v8 n2 h2
theorem C4:∀{l:List (Str × Addr)},(l.Pairwise λx y=>x.2≠y.2)→(l.map (·.2)).Nodup
 | [],h=>by simp
 | p::r,h=>by
  refine xA (List.pairwise_cons.mp h) λh1 h2=> ?_
  rw [List.map_cons,List.nodup_cons]
  refine ⟨λm=> ?_,C4 h2⟩
  refine aW (List.mem_map.mp m) λq hq e=> ?_
  exact h1 q hq e.symm
theorem RQ {ps:List Str}{vs:List Value}{i:Nat}(h1:ps[i]? =some x)(h2:vs[i]? =some v):(x,v)∈ps.zip vs:=by
 haveI:(ps.zip vs)[i]? =some (x,v):=by
  rw [List.getElem?_zip_eq_some]
  exact ⟨h1,h2⟩
 exact d7 this
theorem RR {names:List (Str × NameKind)}(hn:∀x∈names,x.2≠ .free)(h:d8 (names.lookup x)=true):names.lookup x=some .cell:=match hl:names.lookup x with
 | none=>ft (hl▸h:d8 none=true)
 | some .cell=>rfl
 | some .free=>absurd rfl (hn _ (mem_of_lookup hl))
 | some .local | some .globalExplicit | some .globalImplicit=>ft (by rw [hl] at h;exact h)
theorem qz (D:DefF G Γ f fd body)(hps:Γ.slots.take ps.length=ps)(hnd:ps.Nodup)
  (hpl:∀x∈ps,Γ.names.lookup x=some .local∨Γ.names.lookup x=some .cell)(hn:ps.length=n)(hb:∀vals:List Value,vals.length=n→bindArgs fd ⟨vals,[]⟩=pure (ps.zip vals))
  (hnfree:∀x∈Γ.names,x.2≠ .free)(hcn:((cellsFrom 0 Γ.names []).map (·.1)).Nodup)(hd:Γ.d+1≤d)
  (Yp:avs.length=n)(hA:AOk d A)(S:SR G R J V s.heap)(hv:VRels G R J s.heap avs vals)
  (hP:∀(env:Env) (s1:Shared),(∃h tk,s1= { s with heap:=h,toks:=tk })→KB [] s.heap s1.heap→(∀a∈fa env,s.heap.get? a=none)→env.frame=some env.locals→env.cells=cellsFrom (s.heap.objs.size+1) Γ.names []→(∀X,Go X s s1 R J (fa env ++R) J)→Cx G Γ (A.deeper env) s1 env (fa env ++R) J (eZ Γ.slots.length avs) V→
   wpAny (model G.prog G.w) (A.deeper env) (execs body env) (λf s'=>P (.ok (.ret (pK f))) s')
    (λe s'=>wpAny (model G.prog G.w) (A.deeper env) (leaving env e) (λ_ s''=>P (.error e) s'') (λe' s''=>P (.error e') s'') s') s1):
  codeAny (model G.prog G.w) A (.call (.ref f) ⟨vals,[]⟩) P s:=by
 have X:=G.inK.keeps S.base
 have hvl:vals.length=n:=hv.length.symm.trans Yp
 refine D.obj.elim λo ho=>codeAny_call_cells (body:=body) (binds:=ps.zip vals) (by have:=hA.dp;omega) (X _ _ ho.1) ho.2 (G.top.nolimit.keeps S.base) (codeRec_of X D.code) D.body (hb vals hvl) D.clo
  (λx hx=>D.names▸(hpl _ (List.of_mem_zip (a:=x.1) (b:=x.2) (by simpa using hx)).1).imp id λh=>⟨h,cellsFrom_some _ _ _ (.inl h)⟩) (λs₁ IC=> ?_) D.co D.gen D.kind
 let L:=s.heap.objs.size
 let env:=callEnvC fd L f
 have eC:env.cells=cellsFrom (L+1) Γ.names []:=congrArg (λl=>cellsFrom (L+1) l []) D.names
 have ndC:(env.cells.map (·.1)).Nodup:=by rw [eC,wj Γ.names (L+1) 0 [] [] rfl];exact hcn
 have eK:∀x,env.kindOf x=Γ.names.lookup x:=λx=>congrArg (List.lookup x) D.names
 have inC:∀{a},a∈env.cells.map (·.2)→∃x,(x,a)∈env.cells:=λm=>(List.mem_map.mp m).elim λp q=>⟨p.1,q.2▸q.1⟩
 have hns:=IC.toInCall.ns
 have hkeep:=IC.toInCall.keep
 have fresh:∀a∈fa env,s.heap.get? a=none:=λa m=>Option.eq_none_iff_forall_ne_some.mpr λo z=>absurd (Heap.lt_size z) (Nat.not_lt.mpr ((aU m).elim (λe=>Nat.le_of_eq e.symm) λm=>(inC m).elim λx hm=>Nat.le_of_lt (IC.above x a hm)))
 have aliveC:∀a∈env.cells.map (·.2),∃o,s₁.heap.get? a=some o:=λa m=>(inC m).elim λx hm=>aW (IC.cell x a (v8 ndC hm)) λo ho _=>⟨o,ho⟩
 have kb:KB [] s.heap s₁.heap:=λb o _ e=>hkeep b o e
 have S1:SR G (fa env ++R) J V s₁.heap:=S.grow kb (λa m=>dy _ m) (λa m=>(bC m).symm.imp id (fresh a))
  λa m=>(bC m).elim (λm=>(aU m).elim (λe=>e▸da hns λo _ _ h _=>⟨o,h⟩) (aliveC a)) ((S.keep kb).live a)
 have go0:∀X,Go X s s₁ R J (fa env ++R) J:=λX=>
  ⟨IC.toInCall.same,λb o _ e=>hkeep b o e,λb o e=>⟨o,hkeep b o e⟩,λ_ _ e=>e,λ_ _ _ e _=> .inl e,λa m=>dy _ m,λa m=>(bC m).symm.imp id (fresh a)⟩
 have vall:VRels G (fa env ++R) J s₁.heap avs vals:=(go0 []).vals (λa m=>absurd m bq) hv
 have hbn:((ps.zip vals).map (·.1)).Nodup:=(List.map_fst_zip (Nat.le_of_eq (hn.trans hvl.symm))).symm▸hnd
 have hz:∀{i x u},Γ.slots[i]? =some x→vals[i]? =some u→(x,u)∈ps.zip vals:=λh1 hu=>RQ (DM (hn.trans hvl.symm) hps h1 hu) hu
 have hc:∀{x},Γ.names.lookup x=some .cell→∃c,env.cells.lookup x=some c:=λh3=>Option.isSome_iff_exists.mp (eC▸cellsFrom_some Γ.names (L+1) [] (.inl h3))
 exact hP env s₁ (go0 []).sh kb fresh rfl eC go0 ⟨hA.deeper hd,S1,_,D.kind,D.glob,D.bt,D.names,⟨hns,λb o e=>hkeep b o (S.base b o e),S.size_le⟩,
  λa m=>⟨dE _ m,S.new_out (fresh a m)⟩,List.nodup_cons.mpr ⟨λm=>(inC m).elim λx hm=>Nat.lt_irrefl _ (IC.above x _ hm),C4 IC.apart⟩,aliveC,
  λi x w h1 h2 h3=>aW (vall.at (wJ h2)) λu hu hr=>⟨u,(vN _ (λ_=>none) (λ_=>none) x u hbn (hz h1 hu)).1 ((eK x).trans h3),hr⟩,
  λi x w h1 h2 h3=>have h3:=RR hnfree h3
   aW (vall.at (wJ h2)) λu hu hr=>(hc h3).elim λc hc=>⟨c,u,hc,(vN (kindOf:=env.kindOf) _ (λ_=>none) (λ_=>none) x u hbn (hz h1 hu)).2 (λz=>nomatch (h3.symm.trans ((eK x).symm.trans z)))▸IC.cell x c hc,hr⟩,
  λx h3=>(hc h3).elim λc hc=>⟨c,_,hc,IC.cell x c hc⟩⟩
theorem Nb (D:DefF G Γ f fd body)(hps:Γ.slots.take ps.length=ps)(hnd:ps.Nodup)
  (hpl:∀x∈ps,Γ.names.lookup x=some .local∨Γ.names.lookup x=some .cell)(hn:ps.length=n)(hb:∀vals:List Value,vals.length=n→bindArgs fd ⟨vals,[]⟩=pure (ps.zip vals))
  (hnfree:∀x∈Γ.names,x.2≠ .free)(hcn:((cellsFrom 0 Γ.names []).map (·.1)).Nodup)(hd:Γ.d+1≤d)(B:∀n0,MSs G ⟨tb,n0⟩ Γ body (b n0)):aJ G tb nf d (.ref f) (aR Γ n [] nf b):=λavs V v σ' q A s R J vals Q hA S hv hQ=>fH q λYp q=>qz (P:=CB Q) D hps hnd hpl hn hb hnfree hcn hd Yp hA S hv λenv s1 sh kb fr hf _ go c=>
 wE (C1 (Q:=Q) (B _) (List.append_nil avs▸q) c λr s' R' J' g S' vr=>hQ r s' R' J' ((go _).trans g λz m=>(bC m).imp id (fr z)) S' vr)
def bc (f:Int→Int→Option Int)(x y:AV):Option AV:=(cq x).bind λa=>(cq y).bind λb=>(f a b).map AV.int
theorem iS
  (h:∀a b c,f a b=some c→∀(A:Around) (s:Shared) (t u:Tok) (Q:Value→Shared→Prop),(∀t' tk,Q (.int c t') { s with toks:=tk })→wpAny (model G.prog G.w) A (binaryOp op (.int a t) (.int b u)) Q aI s):fQ G op (bc f):=
 λx y z e A s R J a b Q hA hh hl hx hy hQ=>aw e λi e1 e=>aw e λj e2 e=>cr e λc e3 e4=>
  Exists.elim (show VRel G R J s.heap (.int i) a from ig e1▸hx) λt p=>Exists.elim (show VRel G R J s.heap (.int j) b from ig e2▸hy) λu q=>
   p▸q▸h i j c e3 A s t u Q λt' tk=>hQ _ _ (Kp.tok _ _) (e4▸ .i)
noncomputable def jF (a b:Int):Option Int:=some (a - b)
noncomputable def eu (a b:Int):Option Int:=if a.natAbs< 2 ^ 64∨b.natAbs< 2 ^ 64 then some (a * b) else none
noncomputable def kN (a b:Int):Option Int:=if b≠0 then some (a.fmod b) else none
noncomputable def yw (a b:Int):Option Int:=if b≠0∧b.natAbs< 1073741824 then some (a.fdiv b) else none
noncomputable def nH (a b:Int):Option Int:=some (Builtin.bitAnd a b)
noncomputable def yx (a b:Int):Option Int:=some (Builtin.bitOr a b)
noncomputable def Ho (a b:Int):Option Int:=some (Builtin.bitXor a b)
noncomputable def pV (a b:Int):Option Int:=if 0≤b∧b≤1000000∧a.natAbs< 2 ^ 64 then some (a * 2 ^ b.toNat) else none
noncomputable def Hp (a b:Int):Option Int:=if 0≤b then some (a.fdiv (2 ^ b.toNat)) else none
noncomputable def tf (a b:Int):Option Int:=if 0≤b∧b≤1000000∧a.natAbs< 2 ^ 64 then some (a ^ b.toNat) else none
theorem EG (h:k.natAbs< 2 ^ 64):Builtin.Int.intBits k≤64:=intBits_le_64 (by omega) (by omega)
theorem kj:fQ G .Sub (bc jF):=iS λa b c e A s t u Q hQ=>sub_int (aD e▸hQ _ _)
theorem fR:fQ G .Mult (bc eu):=iS λa b c e A s t u Q hQ=>cJ e λh e=>mul_int (e▸hQ _ _) (h.elim (λh=>IntMulOk.of_left (EG h)) (λh=>IntMulOk.of_right (EG h)))
theorem nh:fQ G .Mod (bc kN):=iS λa b c e A s t u Q hQ=>cJ e λh e=>mod_int' h (e▸hQ _ _)
theorem EH:fQ G .FloorDiv (bc yw):=iS λa b c e A s t u Q hQ=>cJ e λh e=>floordiv_int h.1 (e▸hQ _ _) (.inl (PyProof.noPylong_small h.2))
theorem rS:fQ G .BitAnd (bc nH):=iS λa b c e A s t u Q hQ=>and_int (aD e▸hQ _ _)
theorem GM:fQ G .BitOr (bc yx):=iS λa b c e A s t u Q hQ=>or_int (aD e▸hQ _ _)
theorem TV:fQ G .BitXor (bc Ho):=iS λa b c e A s t u Q hQ=>xor_int (aD e▸hQ _ _)
theorem rT:fQ G .LShift (bc pV):=iS λa b c e A s t u Q hQ=>cJ e λh e=>lshift_int_small h.1 h.2.1 h.2.2 (e▸hQ _ _)
theorem TW:fQ G .RShift (bc Hp):=iS λa b c e A s t u Q hQ=>cJ e λh e=>rshift_int h (e▸hQ _ _)
theorem xi:fQ G .Pow (bc tf):=iS λa b c e A s t u Q hQ=>cJ e λh e=>pow_int_small h.1 h.2.1 h.2.2 (e▸hQ _ _)
def eI:AV→AV→Option AV
 | .int a,y=>(cq y).map λb=> .int (a+b)
 | .tup l,y=>(kv y).bind λm=>if l≠ []∧m≠ []∧l.length+m.length≤10000 then some (.tup (l ++m)) else none
 | .lst l,y=>(jy y).bind λm=>if l.length+m.length≤10000 then some (.lst (l ++m)) else none
 | _,_=>none
theorem fB (h:n≤10000):n≤sizeLine:=by refine (PySem.sizeLine_eq)▸ ?_;omega
theorem DN (hv:VRels G R J h l vs)(hu:VRels G R J h m us)(k:l.length+m.length≤10000):vs.toArray.size+us.toArray.size≤sizeLine:=fB (show vs.length+us.length≤10000 from hv.length▸hu.length▸k)
theorem EI (hv:VRels G R J h l vs)(k:l≠ []):vs≠ []:=λz=>k (List.length_eq_zero_iff.mp (hv.length.trans (congrArg List.length z)))
theorem BF (vs us:List Value):vs.toArray ++us.toArray=(vs ++us).toArray:=by simp
theorem fP:fQ G .Add eI:=by
 intro x y z e A s R J a b Q hA hh hl hx hy hQ
 cases x <;> first | exact au e | skip
 ·exact cr e λj e2 e3=>Exists.elim hx λt p=>Exists.elim (show VRel G R J s.heap (.int j) b from ig e2▸hy) λu q=>p▸q▸add_int (hQ _ _ (Kp.tok _ _) (e3▸ .i))
 ·rename_i l
  refine aw e λm e2 e=> ?_
  by_cases hg:l≠ []∧m≠ []∧l.length+m.length≤10000
  ·have e:=aD ((if_pos hg).symm.trans e)
   refine br hx λp vs hx hp ht hv=>br (show VRel G R J s.heap (.tup m) b from lD e2▸hy) λq us hy hq ht' hu=> ?_
   obtain ⟨⟨_,dd,_,sl⟩,ho,rfl,n,rfl⟩:=ht
   obtain ⟨⟨_,dd2,_,sl2⟩,ho2,rfl,n2,rfl⟩:=ht'
   exact hx▸hy▸concat_meets ⟨_,ho,rfl⟩ ⟨_,ho2,rfl⟩ noFill_tuple_add seq_tuple_add PySem.F.slot_tuple_add PySem.F.entry_tuple_add (PySem.F.args_tuple_add_2 _ _)
    (tuple_addW2 p q vs.toArray us.toArray n n2 dd dd2 sl sl2 (by simpa using EI hv hg.1) (by simpa using EI hu hg.2.1) (DN hv hu hg.2.2)) ⟨ho,ho2,(BF vs us).symm▸
    hQ _ _ (Kp.push s _) (e▸ .tup hl.size ⟨_,bK _ rfl,rfl,_,rfl⟩ ((hv.keep (KB.push _ _)).append (hu.keep (KB.push _ _))))⟩
  ·exact au ((if_neg hg).symm.trans e)
 ·rename_i l
  refine aw e λm e2 e=> ?_
  by_cases hg:l.length+m.length≤10000
  ·have e:=aD ((if_pos hg).symm.trans e)
   refine br hx λp vs hx hp ht hv=>br (show VRel G R J s.heap (.lst m) b from mP e2▸hy) λq us hy hq ht' hu=> ?_
   obtain ⟨⟨_,dd,_,sl⟩,ho,rfl,n,rfl⟩:=ht
   obtain ⟨⟨_,dd2,_,sl2⟩,ho2,rfl,n2,rfl⟩:=ht'
   exact hx▸hy▸concat_meets ⟨_,ho,rfl⟩ ⟨_,ho2,rfl⟩ noFill_list_add seq_list_add PySem.F.slot_list_add PySem.F.entry_list_add (PySem.F.args_list_add_2 _ _)
    (list_addW p q vs.toArray us.toArray n n2 dd dd2 sl sl2 (DN hv hu hg)) ⟨ho,ho2,(BF vs us).symm▸
    hQ _ _ (Kp.push s _) (e▸ .lst hl.size ⟨_,bK _ rfl,rfl,_,rfl⟩ ((hv.keep (KB.push _ _)).append (hu.keep (KB.push _ _))))⟩
  ·exact au ((if_neg hg).symm.trans e)
def de (f:Int→Int→Bool)(x y:AV):Option Bool:=(cq x).bind λa=>(cq y).map λb=>f a b
theorem rG
  (h:∀a b (A:Around) (s:Shared) (t u:Tok) (Q:Value→Shared→Prop),Q (.bool (f a b)) s→wpAny (model G.prog G.w) A (compareOp op (.int a t) (.int b u)) Q aI s):fe G op (de f):=
 λx y z e A s V R J a b Q hA hh hl hx hy hQ=>aw e λi e1 e=>cr e λj e2 e3=>
  Exists.elim (show VRel G R J s.heap (.int i) a from ig e1▸hx) λt p=>Exists.elim (show VRel G R J s.heap (.int j) b from ig e2▸hy) λu q=>
   p▸q▸h i j A s t u Q (e3▸hQ s (Kp.refl s))
theorem i0:fe G .Lt (de λa b=>decide (a< b)):=rG λa b A s t u Q h=>lt_int h
theorem nJ:fe G .LtE (de λa b=>decide (a≤b)):=rG λa b A s t u Q h=>le_int h
theorem sH:fe G .Gt (de λa b=>decide (b< a)):=rG λa b A s t u Q h=>gt_int h
theorem GN:fe G .GtE (de λa b=>decide (b≤a)):=rG λa b A s t u Q h=>ge_int h
noncomputable def sJ:AV→Bool
 | .ref _=>false
 | _=>true
def bp (x y:AV):Option Bool:=if sJ x=true∧jD x≤60 then fJ x y else none
theorem Qi (e:bp x y=some z):(sJ x=true∧jD x≤60)∧fJ x y=some z:=
 if h:sJ x=true∧jD x≤60 then ⟨h,(if_pos h).symm.trans e⟩ else au ((if_neg h).symm.trans e)
theorem XK (A:Around)(s:Shared):Kinds A s (RcAt A s):=
 ⟨.none_none, .none_int, .none_str, .int_none, .str_none, .int_int, .str_str, .bool_bool,λh1 h2 hu hf _=> .tuples h1 h2 hu hf,λh1 h2 hn hu hf _=> .lists h1 h2 hn hu hf,λh1 h2 hn hu _=> .lists_lengths h1 h2 hn hu⟩
theorem XM (A:Around)(s:Shared):Kinds A s (λv u z=>RcNeAt A s v u (!z)):=
 ⟨.none_none, .none_int, .none_str, .int_none, .str_none, .int_int, .str_str, .bool_bool,λh1 h2 hu hf _=> .tuples h1 h2 hu hf,λh1 h2 hn hu hf _=> .lists h1 h2 hn hu hf,λh1 h2 hn hu _=> .lists_lengths h1 h2 hn hu⟩
theorem C5 (e:bp x y=some z)(K:Kinds A s T)(hA:A.units+80< cLine)(hx:VRel G R J s.heap x v)(hy:VRel G R J s.heap y u):T v u z:=
 (Qi e).elim λh e=>xf (rR _ _ _ e) K hx hy (dc (Nat.add_le_add_left (ba h.2 (by decide:60≤80)) _) hA) λk q=>nomatch (q▸h.1:sJ (.ref k)=true)
theorem cX:fe G .Eq bp:=λx y z e A s V R J a b Q hA hh hl hx hy hQ=>C5 e (XK A s) hA hx hy _ _ _ _ (hQ s (Kp.refl s))
def cY (x y:AV):Option Bool:=(bp x y).map not
theorem eT:fe G .NotEq cY:=λx y z e A s V R J a b Q hA hh hl hx hy hQ=>cr e λw e1 e2=>C5 e1 (XM A s) hA hx hy _ _ _ _ (e2▸hQ s (Kp.refl s))
noncomputable def GO:AV→Option Unit
 | .none=>some ()
 | _=>none
noncomputable def Hq:AV→Option Bool
 | .none=>some true
 | .dct _=>none
 | .lit _=>none
 | _=>some false
def kY (x y:AV):Option Bool:=(GO y).bind λ_=>Hq x
theorem Pb (h:GO v=some x):v= .none:=by cases v <;> first | exact au h | rfl
theorem Qj (hx:VRel G R J h x a)(e:Hq x=some z):(a == .none)=z:=by
 cases x <;> first | exact au e | refine (aD e)▸ ?_
 ·refine (show a= .none from hx).symm▸ ?_;rfl
 ·refine (show a= .bool _ from hx)▸ ?_;rfl
 ·exact Exists.elim hx λ_ p=>p▸rfl
 ·exact Exists.elim hx λ_ p=>p▸rfl
 ·exact cU hx λ_ _ p _=>p▸rfl
 ·exact cU hx λ_ _ p _=>p▸rfl
 ·exact xd hx λ_ _ _ _ p _=>p▸rfl
 ·exact aW hx λ_ _ p=>p▸rfl
theorem V3 (hx:VRel G R J h x a)(hy:VRel G R J h y b)(e:kY x y=some z):b= .none∧(a == .none)=z:=
 aw e λ_ e1 e2=>⟨show VRel G R J h .none b from Pb e1▸hy,Qj hx e2⟩
theorem C6:fe G .IsNot (λx y=>(kY x y).map not):=by
 intro x y z e A s V R J a b Q hA hh hl hx hy hQ
 rw [Option.map_eq_some_iff] at e
 obtain ⟨z',e,rfl⟩:=e
 obtain ⟨rfl,h⟩:=V3 hx hy e
 exact isnot_none_gen (by exact (h)▸hQ s (Kp.refl s))
def fZ (x:AV):List AV→Option Bool
 | []=>some false
 | y::r=>(fJ y x).bind λa=>(fZ x r).map λb=>a || b
def fb (x y:AV):Option Bool:=(jy y).bind λl=>if fE l≤60 then fZ x l else none
structure AnyAt (A:Around) (s:Shared) (v:Value) (vs:List Value) (b:Bool) (f:Value→Bool):Prop where
 any:vs.any f=b
 yes:∀u,f u=true→u∈vs∧EqAt A s u v true
 no:∀u∈vs,f u=false→EqAt A s u v false
theorem AnyAt.cons (F:AnyAt A s v vs b f)(h:EqAt A s u v c):AnyAt A s v (u::vs) (c || b) (λw=>(decide (w=u) && c) || f w):=by
 cases c with
 | true=>
  refine ⟨?_,λw e=> ?_,λw m e=> ?_⟩
  ·rw [List.any_cons,decide_eq_true rfl];rfl
  ·by_cases z:w=u
   ·subst z;exact ⟨.head _,h⟩
   ·rw [decide_eq_false z] at e
    exact ⟨.tail _ (F.yes w e).1,(F.yes w e).2⟩
  ·by_cases z:w=u
   ·rw [decide_eq_true z] at e;exact Bool.noConfusion e
   ·rw [decide_eq_false z] at e
    exact F.no w ((aU m).resolve_left z) e
 | false=>
  haveI hf:(λw=>(decide (w=u) && false) || f w)=f:=funext λw=>by rw [Bool.and_false];rfl
  refine (hf).symm▸ ?_
  refine ⟨?_,λw e=>⟨.tail _ (F.yes w e).1,(F.yes w e).2⟩,λw m e=>(aU m).elim (λz=>z▸h) λm=>F.no w m e⟩
  rw [List.any_cons,F.any]
  cases z:f u with
  | false=>rfl
  | true=>rw [← F.any,List.any_eq_true.mpr ⟨u,(F.yes u z).1,z⟩];rfl
theorem EJ (hx:VRel G R J s.heap x v):∀{l:List AV} {vs:List Value} {b:Bool},VRels G R J s.heap l vs→fZ x l=some b→A.units+fE l< cLine→∃f,AnyAt A s v vs b f
 | [],vs,b,hv,e,hA=>⟨λ_=>false,(show vs=[] from hv)▸aD e,nofun,λu m=>absurd ((show vs=[] from hv)▸m) bq⟩
 | y::r,vs,b,hv,e,hA=>aS hv λu us e0 q1 q2=>aw e λc e1 e=>cr e λd e2 e3=>(EJ hx q2 e2 (dc (Nat.add_le_add_left (Nat.le_max_right _ _) _) hA)).elim λf F=>
  ⟨_,e0▸e3▸F.cons (xf (rR _ _ _ e1) (yV A s) q1 hx (dc (Nat.add_le_add_left (Nat.le_max_left _ _) _) hA) λ_ _ _=> .same _)⟩
theorem EK {A:Around}(e:fb x y=some z)(hA:A.units+80< cLine)(hx:VRel G R J s.heap x a)(hy:VRel G R J s.heap y b):
  ∃p vs f,b= .ref p∧s.heap.IsList p vs∧vs.any f=z∧∀y,y∈vs→EqAt A.in1 s y a (f y):=
 aw e λl e1 e=>if h:fE l≤60 then br (show VRel G R J s.heap (.lst l) b from mP e1▸hy) λp vs e0 _ ht hv=>
  (EJ (A:=A.in1) hx hv ((if_pos h).symm.trans e) (dc (Nat.le_of_eq (Nat.add_assoc _ _ _)) (dc (Nat.add_le_add_left (ba (Nat.add_le_add_left h 1) (by decide:1+60≤80)) _) hA))).elim λf F=>
   ⟨p,vs.toArray,f,e0,ht,(List.any_toArray' rfl).trans F.any,λu m=>by
    cases z:f u with
    | true=>exact (F.yes u z).2
    | false=>exact F.no u (by simpa using m) z⟩
 else au ((if_neg h).symm.trans e)
theorem yd:fe G .In fb:=λx y z e A s V R J a b Q hA hh hl hx hy hQ=>eO (EK e hA hx hy) λp vs f e0 ht e1 hf=>e0▸in_listAt f ht hf (e1▸hQ s (Kp.refl s))
theorem C7:fe G .NotIn (λx y=>(fb x y).map not):=λx y z e A s V R J a b Q hA hh hl hx hy hQ=>cr e λw e e2=>eO (EK e hA hx hy) λp vs f e0 ht e1 hf=>e0▸notIn_listAt f ht hf (e1▸e2▸hQ s (Kp.refl s))
noncomputable def tJ (G:Gd)(Γ:FI)(ops:List CmpOp)(es:List Expr)(x:AV→dz):Prop:=
 ∀u U V v,x u U V=some v→∀(A:Around) (s:Shared) (env:Env) (R:List Addr) (J:aG) (a:Value) (pos:Pos) (Q:Bool→Shared→Prop),Cx G Γ A s env R J U V→VRel G R J s.heap u a→
  (∀s',Kp s s'→Q v s')→wpAny (model G.prog G.w) A (testChain pos a ops (evalEach es env)) Q aI s
noncomputable def i1 (f:AV→AV→Option Bool)(b:a7):AV→dz:=λu U V=>(b U V).bind λv=>f u v
theorem mS (hf:fe G op f)(hb:MP G Γ e b):tJ G Γ [op] [e] (i1 f b):=by
 intro u U V v q A s env R J a pos Q c hu hQ
 refine aw q λw e2 e3=> ?_
 refine test_last (hb _ _ _ e2 A s env R J _ c λy s2 k2 r2=> ?_)
 exact hf u w v e3 A s2 V R J a y _ c.A.u c.A.hd (c.kp k2).S (hu.keep k2.kb) r2 λs' k=>fj (hQ s' (k2.trans k))
noncomputable def i3 (f:AV→AV→Option Bool)(b:a7)(r:AV→dz):AV→dz:=λu U V=>(b U V).bind λv=>match f u v with
 | some true=>r v U V
 | some false=>some false
 | none=>none
theorem mT (hf:fe G op f)(hb:MP G Γ e b)(hr:tJ G Γ (op'::ops) (e'::es) r):tJ G Γ (op::op'::ops) (e::e'::es) (i3 f b r):=by
 intro u U V v q A s env R J a pos Q c hu hQ
 refine aw q λw e2 e3=> ?_
 refine test_link (hb _ _ _ e2 A s env R J _ c λy s2 k2 r2=> ?_)
 split at e3
 ·rename_i h3
  refine hf u w true h3 A s2 V R J a y _ c.A.u c.A.hd (c.kp k2).S (hu.keep k2.kb) r2 λs' k=>fj ?_
  exact hr w U V v e3 A s' env R J y pos Q ((c.kp k2).kp k) (r2.keep k.kb) λs4 k4=>hQ s4 ((k2.trans k).trans k4)
 ·rename_i h3
  replace e3:=aD e3;subst e3
  refine hf u w false h3 A s2 V R J a y _ c.A.u c.A.hd (c.kp k2).S (hu.keep k2.kb) r2 λs' k=>fj ?_
  exact hQ s' (k2.trans k)
 ·exact au e3
noncomputable def iZ (a:a7)(r:AV→dz):dz:=λU V=>(a U V).bind λu=>r u U V
theorem mU (ha:MP G Γ l a)(hr:tJ G Γ (o1::o2::ops) (e1::e2::es) r)(hm:lastMarks (o1::o2::ops) (e1::e2::es)=false:=by rfl):MT G Γ (.Compare l (o1::o2::ops) (e1::e2::es) pos) (iZ a r):=by
 intro U V v q A s env R J Q c hQ
 refine aw q λu e1' e2'=> ?_
 exact isTrue_chain (ha _ _ _ e1' A s env R J _ c λx s1 k1 r1=>hr u U V v e2' A s1 env R J x pos Q (c.kp k1) r1 λs2 k2=>hQ s2 (k1.trans k2)) hm
section
noncomputable def Hr:AV→Bool
 | .none | .bool _ | .int _ | .str _=>true
 | _=>false
theorem Qk (ha:Hr x=true)(e:VRel G R J h x v):VRel G R' J' h' x v:=by
 cases x <;> first | (exact Bool.noConfusion ha;done) | simpa only [VRel] using e
def frz (V:ar):AV→Option AV
 | .ref k=>match V[k]? with
  | some (.list xs)=>if c8 0 xs=true then some (.lst xs) else none
  | _=>none
 | v=>if bS 0 v=true then some v else none
def l9 (V:ar):List AV→Option (List AV)
 | []=>some []
 | x::r=>match frz V x,l9 V r with
  | some y,some q=>some (y::q)
  | _,_=>none
noncomputable def dV (R X:List Addr):List Addr:=R.filter λa=>decide (a∉X)
theorem mem_outOf:a∈dV R X ↔ a∈R∧a∉X:=by simp [dV]
theorem ji {h:Heap}(e:h.get? a=some (listOf vs n)):h.IsList a vs:=⟨_,e,rfl,_,rfl⟩
section
variable {R:List Addr} {J:aG} {V:ar} {h:Heap}
theorem EL {J J':aG}:∀k,k< 0→J[k]? =J'[k]? :=λk hk=>absurd hk (Nat.not_lt_zero _)
theorem RU (S:SR G R J V h)(hx:VRel G R J h x v)(e:frz V x=some y):VRel G (dV R (own J)) [] h y v:=by
 have gen:bS 0 x=true→VRel G (dV R (own J)) [] h x v:=λhb=>VRel.down (λa m=>(mem_outOf.mp m).1) EL _ _ hb hx
 cases x
 case ref k=>
  simp only [frz] at e
  split at e
  ·rename_i xs hk
   split at e
   ·rename_i hb
    replace e:=aD e;subst e
    simp only [VRel] at hx
    refine aW hx λl hl rf2=> ?_;subst rf2
    refine aS (S.objs k _ l hk hl) λvs n h1 h2 h3=> ?_
    exact ⟨l.a,vs,rfl,λm=>(mem_outOf.mp m).2 (dS hl (bY)),ji h2,VRels.down (λa m=>(mem_outOf.mp m).1) EL _ _ hb h3⟩
   ·exact au e
  ·exact au e
 all_goals
  simp only [frz] at e
  split at e
  ·replace e:=aD e;subst e;exact gen ‹_›
  ·exact au e
theorem C8 (S:SR G R J V h):∀{x y:List AV} {v:List Value},VRels G R J h x v→l9 V x=some y→VRels G (dV R (own J)) [] h y v
 | [],y,v,hx,e=>by
  replace e:=aD e;subst e
  simpa only [VRels] using hx
 | x::r,y,v,hx,e=>by
  simp only [VRels] at hx
  refine aS hx λw ws rf2 q1 q2=> ?_;subst rf2
  dsimp only [l9] at e
  split at e
  ·rename_i y' q' e1 e2
   replace e:=aD e;subst e
   exact ⟨w,ws,rfl,RU S q1 e1,C8 S q2 e2⟩
  ·exact au e
theorem SR.frz (S:SR G R J V h):SR G (dV R (own J)) [] [] h where
 base:=S.base
 len:=rfl
 objs:=λk o l e1 e2=>by simp at e1
 nodup:=by simp [own]
 sub:=λa m=>by simp [own] at m
 resv:=λa m=>S.resv a (mem_outOf.mp m).1
 live:=λa m=>S.live a (mem_outOf.mp m).1
 tbR:=λa m=>⟨mem_outOf.mpr (S.tbR a m),by simp [own]⟩
 tabs:=S.tabs
 abv:=S.abv
end
def tg (F:Fn):Fn:=λavs V=>match l9 V avs with
 | some avs'=>(match F avs' [] with
  | some (v,_)=>if Hr v=true then some (v,V) else none
  | none=>none)
 | none=>none
theorem Pc (h:aJ G tb nf d f F):aJ G tb nf' d f (tg F):=by
 intro avs V v σ' q A s R J vals Q hA S hv hQ
 unfold tg at q
 split at q
 ·rename_i avs' hav
  split at q
  ·rename_i w σ1 e1
   split at q
   ·rename_i hb
    obtain rfl:=(dD q).1;obtain rfl:=(dD q).2
    refine h _ _ _ _ e1 A s _ [] vals Q hA S.frz (C8 S hv hav) λr s' R' J' g S' vr=> ?_
    have hX:∀a∈bs G ⟨tb,nf ([]:ar).length⟩ [],a∈G.TB:=λa m=>(ng m).elim id (λq=>by simp [own] at q)
    have hold:∀(a:Addr) (o:Obj),a∉R→s.heap.get? a=some o→a∉own J ++R'∧s'.heap.get? a=some o:=λa o ha ho=>by
     refine ⟨λm=> ?_,g.kb a o (λm=>ha (S.tbR a (hX a m)).1) ho⟩
     refine Or.elim (bC m) (λq=> ?_) λq=> ?_
     ·exact ha (S.sub a q)
     ·refine Or.elim (g.rf a q) (λq=> ?_) λq=> ?_
      ·exact ha (mem_outOf.mp q).1
      ·exact mj ((ho).symm.trans q)
    have hRs:∀a∈R,a∈own J ++R':=λa m=>by
     by_cases z:a∈own J
     ·exact dE _ z
     ·exact dy _ (g.rs a (mem_outOf.mpr ⟨m,z⟩))
    haveI Sf:SR G (own J ++R') J V s'.heap:={
     base:=S'.base
     len:=S.len
     objs:=λk o l e1 e2=>OA.mono hold (λ_ _ x=>x) (λa ha o ho=>g.kb a o (λm=>(S.tbR a (hX a m)).2 (dS e2 ha)) ho) o (S.objs k o l e1 e2)
     nodup:=S.nodup
     sub:=λa m=>dE _ m
     resv:=λa m=>(bC m).elim (λq=>S.resv a (S.sub a q)) (S'.resv a)
     live:=λa m=>(bC m).elim (λq=>by refine xE (S.live a (S.sub a q)) λo ho=> ?_;exact g.live a o ho) (S'.live a)
     tbR:=λa m=>⟨hRs a (S.tbR a m).1,(S.tbR a m).2⟩
     tabs:=S'.tabs
     abv:=S'.abv }
    refine hQ r s' (own J ++R') J ⟨g.sh,λb o hb e=>g.kb b o (λm=>hb ?_) e,g.live,λ_ _ e=>e,λ_ _ _ e _=> .inl e,hRs,λa m=> ?_⟩ Sf (Qk hb vr)
    ·unfold bs at m ⊢
     rcases bC m with q | q
     ·exact dE _ q
     ·simp [own] at q
    ·rcases bC m with q | q
     ·exact .inl (S.sub a q)
     ·exact (g.rf a q).imp (λq=>(mem_outOf.mp q).1) id
   ·exact au q
  ·exact au q
 ·exact au q
def pW (F:Fn):Fn:=λavs V=>match F avs V with
 | some (.ref k,σ')=>if V.length≤k then (match σ'[k]? with
  | some (.list xs)=>if (c8 V.length xs && (σ'.take V.length).all (iY V.length))=true then some (.lst xs,σ'.take V.length) else none
  | _=>none) else none
 | _=>none
theorem LB (nd:(own J).Nodup)(h1:a∈own (J.take n))(h2:a∈own (J.drop n)):False:=by
 unfold own at *
 rw [← List.take_append_drop n J,List.flatMap_append] at nd
 exact (List.nodup_append.mp nd).2.2 a h1 a h2 rfl
theorem Pd (h:aJ G tb nf d f F):aJ G tb nf d f (pW F):=by
 intro avs V v σ' q A s R J vals Q hA S hv hQ
 unfold pW at q
 split at q
 ·rename_i k σ1 e1
  split at q
  ·rename_i hk
   split at q
   ·rename_i xs hx
    split at q
    ·rename_i hb
     obtain rfl:=(dD q).1;obtain rfl:=(dD q).2
     rw [Bool.and_eq_true] at hb
     refine h _ _ _ _ e1 A s R J vals Q hA S hv λr s' R' J' g S' vr=> ?_
     have hJ:=Bo g.jp (Hn g.jp)
     have S2:=S'.take hb.2
     rw [← S.len,hJ] at S2
     simp only [VRel] at vr
     refine aW vr λl hl rf2=> ?_;subst rf2
     refine aS (S'.objs k _ l hx hl) λvs n h1 h2 h3=> ?_
     let D:=own (J'.drop J.length)
     have hD:∀a∈D,a∈own J':=λa m=>by
      refine aS (ph m) λi li _ hi ha=> ?_
      exact dS hi ha
     haveI hRs:∀a∈R,a∈dV R' D:=λa m=>mem_outOf.mpr ⟨g.rs a m,λz=>by
      refine aS (ph z) λi li hn hi ha=> ?_
      refine Or.elim (g.jn i li a hi ha) (λq=> ?_) λq=> ?_
      ·exact au ((List.getElem?_eq_none hn).symm.trans q)
      ·refine xE (S.live a m) λo ho=> ?_;exact au ((q).symm.trans ho)⟩
     have hsub:∀a∈own J,a∉D:=λa m z=>by
      rw [← hJ] at m
      exact LB S'.nodup m z
     haveI Sf:SR G (dV R' D) J (σ1.take J.length) s'.heap:={
      base:=S2.base
      len:=S2.len
      objs:=λi o li e1 e2=>OA.down (n:=V.length) (λa m=>(mem_outOf.mp m).1) (λj hj=>rfl) o (by
       rw [S.len] at e1
       exact List.all_eq_true.mp hb.2 o (d7 e1)) (S2.objs i o li e1 e2)
      nodup:=S2.nodup
      sub:=λa m=>mem_outOf.mpr ⟨S2.sub a m,hsub a m⟩
      resv:=λa m=>S2.resv a (mem_outOf.mp m).1
      live:=λa m=>S2.live a (mem_outOf.mp m).1
      tbR:=λa m=>⟨mem_outOf.mpr ⟨(S2.tbR a m).1,λz=>(S'.tbR a m).2 (hD a z)⟩,(S2.tbR a m).2⟩
      tabs:=S2.tabs
      abv:=S2.abv }
     refine hQ _ s' (dV R' D) J ⟨g.sh,g.kb,g.live,λ_ _ e=>e,λ_ _ _ e _=> .inl e,hRs,λa m=>g.rf a (mem_outOf.mp m).1⟩ (by exact (S.len)▸Sf) ?_
     refine ⟨l.a,vs,rfl,λm=>(mem_outOf.mp m).2 (oV (by exact (S.len)▸hk) hl (bY)),ji h2,?_⟩
     exact VRels.down (n:=V.length) (λa m=>(mem_outOf.mp m).1) (o8 g.jp (by exact (S.len)▸Nat.le_refl _)) _ _ hb.1 h3
    ·exact au q
   ·exact au q
  ·exact au q
 ·exact au q
end
section
theorem SR.nomod (S:SR G R J V h)(m:a∈R):(a == sysModules)=false:=
 beq_eq_false_iff_ne.mpr λe=>G.mods.elim λ_ ho=>bL (S.resv _ m) (e▸ho)
theorem Ql {α β:Type}{l:List α}{m:List β}{x:α}(e:l.length=m.length):(l ++ [x])[m.length]? =some x:=e▸List.getElem?_concat_length
noncomputable def bl (as:gz):a7:=λU V=>(as U V).bind λvs=>if vs.length≤10000 then some (.tup vs) else none
noncomputable def bD (as:gz):a7:=λU V=>(as U V).bind λvs=>if vs.length≤10000 then some (.lst vs) else none
theorem cE (ha:hU G Γ es as):MP G Γ (.Tuple es k pos) (bl as):=λU V v q A s env R J Q c hQ=>
 aw q λvs e1 q=>cJ q λhsz e=>wpAny_Tuple_spliced (ha.2 _ _ _ e1 A s env R J _ pos c λrs s1 k1 r1=>⟨r1.length▸fB hsz,
  hQ _ _ (k1.trans (Kp.push _ _)) (e▸ .tup (c.kp k1).S.live.size ⟨_,bK _ rfl,rfl,_,rfl⟩ (r1.keep (KB.push _ _)))⟩)
theorem cN (ha:hU G Γ es as):MP G Γ (.List es pos) (bD as):=λU V v q A s env R J Q c hQ=>
 aw q λvs e1 q=>cJ q λhsz e=>wpAny_List_spliced (ha.2 _ _ _ e1 A s env R J _ pos c λrs s1 k1 r1=>⟨r1.length▸fB hsz,
  hQ _ _ (k1.trans (Kp.push _ _)) (e▸ .lst (c.kp k1).S.live.size ⟨_,bK _ rfl,rfl,_,rfl⟩ (r1.keep (KB.push _ _)))⟩)
theorem VRels.grow {J K:aG}(r:VRels G R J h l vs)(kb:KB [] h h')(fr:∀a∈X,h.get? a=none):VRels G (X ++R) (J ++K) h' l vs:=
 VRels.mono (λa o ha ho=>⟨λm=>(bC m).elim (λz=>bL (fr a z) ho) ha,kb.get ho⟩) (λ_ _ e=>RG e) _ _ r
theorem wL (c:Cx G Γ A s env R J U V)
  (ho:OA G ([s.heap.objs.size] ++R) (J ++ [⟨s.heap.objs.size,none⟩]) (s.heap.push o) ⟨s.heap.objs.size,none⟩ ao)(hd:(s.heap.push o).get? s.heap.objs.size=some o:=by exact bK _ rfl):
  Go (bs G mu J) s { s with heap:=s.heap.push o } R J ([s.heap.objs.size] ++R) (J ++ [⟨s.heap.objs.size,none⟩])∧Cx G Γ A { s with heap:=s.heap.push o } env ([s.heap.objs.size] ++R) (J ++ [⟨s.heap.objs.size,none⟩]) U (V ++ [ao])∧
   VRel G ([s.heap.objs.size] ++R) (J ++ [⟨s.heap.objs.size,none⟩]) (s.heap.push o) (.ref V.length) (.ref s.heap.objs.size):=by
 have hl:∀a∈(⟨s.heap.objs.size,none⟩:Loc).own,s.heap.get? a=none∧∃o',(s.heap.push o).get? a=some o':=λa m=>aH m▸⟨dr _,_,hd⟩
 have go:=xh (X:=bs G mu J) (R:=R) (J:=J) (s:=s) (h':=s.heap.push o) (tk:=s.toks) (l:=⟨s.heap.objs.size,none⟩) (KB.push _ _) (λa m=>(hl a m).1)
 exact ⟨go,c.go go (SR.add (l:=⟨s.heap.objs.size,none⟩) (o:=ao) c.S (KB.push _ _) hl (by simp [Loc.own]) ho), .r (l:=⟨s.heap.objs.size,none⟩) (Ql c.S.len)⟩
noncomputable def nK (as:gz):bZ:=λU V=>(as U V).bind λvs=>if vs.length≤10000 then some (.ref V.length,V ++ [.list vs]) else none
theorem wM (ha:hU G Γ es as):MX G mu Γ (.List es pos) (nK as):=MX.mk λU V A s env R J Q c k=>k.elim λp k=>aw k.1 λvs e1 q=>cJ q λhsz e=>
 wpAny_List_spliced (ha.2 _ _ _ e1 A s env R J _ pos c λrs s1 k1 r1=>⟨r1.length▸fB hsz,
  (wL (mu:=mu) (o:={ cls:= .type "list",data:= .seq rs.toArray }) (ao:= .list vs) (c.kp k1) ⟨rs,_,rfl,bK _ rfl,r1.grow (KB.push _ _) λa m=>aH m▸dr _⟩).elim λg q=>
   (e▸k.2:KX G mu Γ A s env R J U Q (.ref V.length,V ++ [.list vs])) _ _ _ _ ((Go.of_kp k1).seqX g) q.1 q.2⟩)
noncomputable def sK:bZ:=λU V=>some (.ref V.length,V ++ [.idict []])
noncomputable def ye:bZ:=λU V=>some (.ref V.length,V ++ [.gdict []])
theorem wN:MX G mu Γ (.Dict [] [] pos) sK:=MX.mk λU V A s env R J Q c k=>wpAny_Dict_empty (aW (Heap.dictOf_iff.mp (Heap.DictOf.new (knd:=intKind G.prog G.w) s.heap)) λo ho hd=>
 (wL (mu:=mu) (o:={ cls:= .type "dict",data:= .dict #[] }) (ao:= .idict []) c ⟨o,[],rfl,ho,hd,rfl⟩).elim λg q=>k.get _ _ _ _ g q.1 q.2)
theorem DO:MX G mu Γ (.Dict [] [] pos) ye:=MX.mk λU V A s env R J Q c k=>wpAny_Dict_empty
 ((wL (mu:=mu) (o:={ cls:= .type "dict",data:= .dict #[] }) (ao:= .gdict []) c ⟨[],rfl,Heap.DictOfH.new s.heap,rfl⟩).elim λg q=>k.get _ _ _ _ g q.1 q.2)
theorem Kk (h:wpAny M A (getItem o i) Q E s):wpAny M A (subscripted slice false o i) Q E s:=by
 cases slice <;> first | exact wpAny_operating h | skip
 rename_i c _
 cases c <;> exact wpAny_operating h
theorem m5
  (h:wpAny (model prog w) A (eval value env) (λo s₁=>wpAny (model prog w) A (eval slice env) (λi s₂=>(∃T id,s₂.TypeIs o T∧typeLookup (.type T) "__getitem__"=pure (some (.builtin id)))∧wpAny (model prog w) A (getItem o i) Q E s₂) E s₁) E s):
  wpAny (model prog w) A (eval (.Subscript value slice pos) env) Q E s:=by
 refine Subscript_ (bN h (λo s1 h1=>bN h1 (λi s2 h2=> ?_) λ_ _ x=>x) λ_ _ x=>x)
 obtain ⟨⟨T,id,hT,hl⟩,h2⟩:=h2
 unfold subscriptTail
 refine am ?_
 rw [getitemInPython_of_ne hT.not_modules]
 refine am (wpAny_specialOf hT hl ?_)
 have fin:wpAny (model prog w) A (subscripted slice false o i) (λr s₃=>wpAny (model prog w) A (letTemporaryGo value o r >>= λ_=>pure r) Q E s₃) E s2:=
  bN (Kk h2) (λr s₃ h₃=>am (wpAny_letTemporaryGo (aC h₃))) λ_ _ x=>x
 first
  | exact aC (am fin)
  | exact am (aC (am fin))
  | exact am fin
noncomputable def l2:List AV→Option (AV × AV)
 | [a,b]=>some (a,b)
 | _=>none
noncomputable def l4:List AV→Option (AV × AV × AV × AV)
 | [a,b,c,d]=>some (a,b,c,d)
 | _=>none
theorem xj:∀{l:List AV} {p:AV × AV},l2 l=some p→l=[p.1,p.2]
 | [],_,e=>au e
 | [_],_,e=>au e
 | [_,_],_,e=>aD e▸rfl
 | _::_::_::_,_,e=>au e
theorem TX:∀{l:List AV} {p:AV × AV × AV × AV},l4 l=some p→l=[p.1,p.2.1,p.2.2.1,p.2.2.2]
 | [],_,e=>au e
 | [_],_,e=>au e
 | [_,_],_,e=>au e
 | [_,_,_],_,e=>au e
 | [_,_,_,_],_,e=>aD e▸rfl
 | _::_::_::_::_::_,_,e=>au e
def jA (x:AV):Option GK:=(kv x).bind λl=>(l4 l).bind λp=>(cq p.1).bind λk=>(kv p.2.1).bind λm=>(l2 m).bind λq=>(cq q.1).bind λs1=>(cq q.2).bind λs2=>(cq p.2.2.1).bind λpk=>(cq p.2.2.2).map λn=>⟨k,s1,s2,pk,n⟩
theorem RV (e:jA x=some k):x=aX k:=
 aw e λl e1 e=>aw e λp e2 e=>aw e λk e3 e=>aw e λm e4 e=>aw e λq e5 e=>aw e λs1 e6 e=>aw e λs2 e7 e=>aw e λpk e8 e=>cr e λn e9 e=>by
  rw [lD e1,TX e2,ig e3,lD e4,xj e5,ig e6,ig e7,ig e8,ig e9,← e];rfl
noncomputable def fk:List (Int × AV)→Int→Option AV
 | [],_=>none
 | (j,v)::r,i=>if j=i then some v else fk r i
noncomputable def b7:List (GK × AV)→GK→Option AV
 | [],_=>none
 | (j,v)::r,i=>if j=i then some v else b7 r i
noncomputable def SameAt (G:Gd){α:Type}(R:List Addr)(J:aG)(h:Heap)(f:α→Value)(x:Option AV)(p:Option α):Prop:=match x,p with
 | none,none=>True
 | some x,some p=>VRel G R J h x (f p)
 | _,_=>False
theorem SameAt.get {f:α→Value}{p:Option α}(e:SameAt G R J h f x p)(k:x=some u):∃q,p=some q∧VRel G R J h u (f q):=by
 subst k
 cases p with
 | none=>exact e.elim
 | some q=>exact ⟨q,rfl,e⟩
theorem SameAt.is {f:α→Value}{p:Option α}(e:SameAt G R J h f x p):p.isSome=x.isSome:=by
 cases x <;> cases p <;> first | rfl | exact e.elim
theorem wk:∀{es:List (Int × AV)} {kvs:List (Int × Value)} {i:Int},DRel G R J h es kvs→SameAt G R J h id (fk es i) (valueAt kvs i)
 | [],kvs,i,e=>(show kvs=[] from e)▸trivial
 | (j,y)::r,kvs,i,e=>aS e λv kvs' e0 e1 e2=>by
  subst e0
  by_cases hj:j=i
  ·rw [show fk ((j,y)::r) i=some y from if_pos hj,show valueAt ((j,v)::kvs') i=some v by simp [valueAt,hj]];exact e1
  ·rw [show fk ((j,y)::r) i=fk r i from if_neg hj,show valueAt ((j,v)::kvs') i=valueAt kvs' i by simp [valueAt,hj]];exact wk e2
theorem mV:∀{es:List (GK × AV)} {xs:List (GK × Addr × Value)} {i:GK},GRel G R J h es xs→SameAt G R J h Prod.snd (b7 es i) (atKey xs i)
 | [],xs,i,e=>(show xs=[] from e)▸trivial
 | (j,y)::r,xs,i,e=>eO e λa v xs' e0 _ e1 e2=>by
  subst e0
  by_cases hj:j=i
  ·rw [show b7 ((j,y)::r) i=some y from if_pos hj,show atKey ((j,a,v)::xs') i=some (a,v) by simp [atKey,hj]];exact e1
  ·rw [show b7 ((j,y)::r) i=b7 r i from if_neg hj,show atKey ((j,a,v)::xs') i=atKey xs' i by simp [atKey,hj]];exact mV e2
noncomputable def i5 (l:List AV)(i:Int):Option AV:=if 0≤i∧i< 1000000 then l[i.toNat]? else none
theorem Cv (hv:VRels G R J h l vs)(e:i5 l i=some x):0≤i∧i< 2 ^ 63∧∃v,vs.toArray[i.toNat]? =some v∧i.toNat< vs.length∧VRel G R J h x v:=
 fH e λhi e=>aW (hv.at e) λv h1 h2=>⟨hi.1,Int.lt_trans hi.2 (by decide),v,List.getElem?_toArray.trans h1,(List.getElem?_eq_some_iff.mp h1).1,h2⟩
def Xg (o:AO)(y:AV):Option AV:=match o with
 | .list l=>(cq y).bind (i5 l)
 | .idict es=>(cq y).bind (fk es)
 | .gdict es=>(jA y).bind (b7 es)
 | .inst _ _=>none
def gq (V:ar)(x y:AV):Option AV:=match x with
 | .tup l=>(cq y).bind (i5 l)
 | .lst l=>(cq y).bind (i5 l)
 | .dct es=>(cq y).bind (fk es)
 | .ref k=>(V[k]?).bind λo=>Xg o y
 | _=>none
theorem Pe (h0:0≤i)(h1:i< 2 ^ 63): -(2:Int) ^ 63≤i:=by omega
theorem TY (h0:0≤i)(h1:i.toNat< n):seqIndex? i n=some i.toNat:=by
 unfold seqIndex?
 rw [if_neg (Int.not_lt.mpr h0)]
 exact if_pos ((Bool.and_eq_true _ _).mpr ⟨decide_eq_true h0,decide_eq_true ((Int.toNat_lt h0).mp h1)⟩)
theorem nj (hx:VRel G R J h x v)(e:jA x=some k):∃a,v= .ref a∧(dL G).is h k a∧VRel G R J h (aX k) (.ref a):=
 have hx:VRel G R J h (aX k) v:=RV e▸hx
 Exists.elim hx λa q=>q.elim λ_ q=>⟨a,q.1,sE (λ_ _ _ h=>h) (q.1▸hx),q.1▸hx⟩
theorem pM {A:Around}(hA:A.units+80< cLine):A.in1.units+4< cLine:=dc (Nat.le_of_eq (Nat.add_assoc _ _ _)) (dc (Nat.add_le_add_left (by decide:1+4≤80) _) hA)
theorem ej (hy:VRel G R J h y v)(e:cq y=some i):∃t,v= .int i t:=show VRel G R J h (.int i) v from ig e▸hy
section
variable {A:Around} {s:Shared} {R:List Addr} {J:aG} {V:ar}
noncomputable def xk (G:Gd)(A:Around)(s:Shared)(R:List Addr)(J:aG)(z:AV)(o i:Value):Prop:=∀(Q:Value→Shared→Prop) (E:Value→Shared→Prop),(∀r s',Kp s s'→VRel G R J s'.heap z r→Q r s')→
 (∃T id,s.TypeIs o T∧typeLookup (.type T) "__getitem__"=pure (some (.builtin id)))∧wpAny (model G.prog G.w) A (getItem o i) Q E s
theorem DP (ht:s.heap.IsList a vs.toArray)(hv:VRels G R J s.heap l vs)(hy:VRel G R J s.heap y v)(e:(cq y).bind (i5 l)=some z):xk G A s R J z (.ref a) v:=λQ E hQ=>
 aw e λi e1 e=>(ej hy e1).elim λt q=>(Cv hv e).elim λh0 w=>w.2.elim λu k=>q▸⟨⟨_,_,ht.typeIs,list_getitem_lookup⟩,wpAny_getItem_list ht h0 w.1 k.1 (hQ _ s (Kp.refl s) k.2.2)⟩
theorem DQ (ho:s.heap.get? a=some ob)(hd:ob.IsDictOf (intKind G.prog G.w) kvs)(hr:DRel G R J s.heap es kvs)(hy:VRel G R J s.heap y v)(e:(cq y).bind (fk es)=some z):xk G A s R J z (.ref a) v:=λQ E hQ=>
 aw e λi e1 e=>(ej hy e1).elim λt q=>aW ((wk hr).get e) λu h1 h2=>have hm:=Heap.dictOf_iff.mpr ⟨ob,ho,hd⟩
  q▸⟨⟨_,_,hm.typeIs,slot_dict_getitem.lookup⟩,wpAny_getItem_of (intKind_is _ _ _ _) hm.mapOf h1 (hQ _ _ (Kp.tok _ _) h2)⟩
theorem EM (S:SR G R J V s.heap)(hA:A.units+80< cLine)(hx:VRel G R J s.heap x o)(hy:VRel G R J s.heap y i)(e:gq V x y=some z):xk G A s R J z o i:=by
 cases x <;> first | exact au e | skip
 ·exact br hx λa vs p _ ht hv Q E hQ=>aw e λj e1 e=>(ej hy e1).elim λt q=>(Cv hv e).elim λh0 w=>w.2.elim λu k=>p▸q▸⟨⟨_,_,qH ht,slot_tuple_getitem.lookup⟩,
   PyProof.Rows.getItem_tuple ht (Pe h0 w.1) w.1 (TY h0 k.2.1) k.1 (hQ _ s (Kp.refl s) k.2.2)⟩
 ·exact br hx λa vs p _ ht hv=>p▸DP ht hv hy e
 ·exact ru hx λa ob kvs p _ ho hd hr=>p▸DQ ho hd hr hy e
 ·refine aW hx λl hl p=>aw e λob hk e=>p▸ ?_
  have hO:=S.objs _ _ _ hk hl
  cases ob with
  | inst C fs=>exact au e
  | list xs=>exact aS hO λvs n _ h2 h3=>DP (ji h2) h3 hy e
  | idict es=>exact br hO λob kvs _ h2 h3 h4=>DQ h2 h3 h4 hy e
  | gdict es=>exact λQ E hQ=>aw e λg e1 e2=>dm (nj hy e1) λa p hkey _=>dm hO λxs _ h2 h3=>aW ((mV h3).get e2) λu h4 h5=>
    p▸⟨⟨_,_,h2.typeIs,slot_dict_getitem.lookup⟩,wpAny_getItem_heap (pM hA) hkey h2 h4 (hQ _ _ (Kp.tok _ _) h5)⟩
end
def bz (a b:a7):a7:=λU V=>(a U V).bind λx=>(b U V).bind λy=>gq V x y
theorem bM (ha:MP G Γ e a)(hb:MP G Γ i b):MP G Γ (.Subscript e i pos) (bz a b):=λU V v q A s env R J Q c hQ=>
 aw q λx e1 q=>aw q λy e2 e3=>m5 (ha _ _ _ e1 A s env R J _ c λo s1 k1 r1=>hb _ _ _ e2 A s1 env R J _ (c.kp k1) λj s2 k2 r2=>
  EM ((c.kp k1).kp k2).S c.A.u (r1.keep k2.kb) r2 e3 _ _ λr s3 k3 r3=>hQ r s3 ((k1.trans k2).trans k3) r3)
def XN (o:AO)(x:AV):Option Bool:=match o with
 | .idict es=>(cq x).map λi=>(fk es i).isSome
 | .gdict es=>(jA x).map λg=>(b7 es g).isSome
 | _=>none
def pX (V:ar)(x y:AV):Option Bool:=(jz y).bind λk=>(V[k]?).bind λo=>XN o x
def jN (neg:Bool)(a b:a7):dz:=λU V=>(a U V).bind λx=>(b U V).bind λy=>(pX V x y).map λz=>z != neg
noncomputable def yy (neg:Bool):CmpOp:=if neg then .NotIn else .In
theorem V4 (S:SR G R J V s.heap)(hA:A.units+80< cLine)(hx:VRel G R J s.heap x i)(hy:VRel G R J s.heap y o)(e:pX V x y=some z)
  (hQ:∀s',Kp s s'→Q (.bool (z != neg)) s'):wpAny (model G.prog G.w) A (compareOp (yy neg) i o) Q E s:=
 aw e λk e1 e=>aw e λob hk e=>aW (show VRel G R J s.heap (.ref k) o from jh e1▸hy) λl hl p=>by
  have hmod:=S.nomod (S.sub _ (dS hl (a:=l.a) (.head _)))
  have hO:=S.objs _ _ _ hk hl
  cases ob <;> first | exact au e | skip
  ·exact cr e λg e1 e2=>dm (nj hx e1) λa q hkey _=>dm hO λxs _ h2 h3=>have hz:(atKey xs g).isSome=z:=(mV h3).is.trans e2
    p▸q▸(match neg,hQ with
     | false,hQ=>wpAny_in_heap (pM hA) hkey hmod h2 (hz.symm▸(Bool.bne_false z)▸hQ _ (Kp.tok s _))
     | true,hQ=>wpAny_notIn_heap (pM hA) hkey hmod h2 (hz.symm▸(Bool.bne_true z)▸hQ _ (Kp.tok s _)))
  ·exact cr e λg e1 e2=>(ej hx e1).elim λt q=>br hO λo' kvs _ h2 h3 h4=>have hm:=Heap.dictOf_iff.mpr ⟨o',h2,h3⟩
    have hz:(valueAt kvs g).isSome=z:=(wk h4).is.trans e2
    p▸q▸(match neg,hQ with
     | false,hQ=>wpAny_in_of (intKind_is _ _ _ _) hmod hm.mapOf (hz.symm▸(Bool.bne_false z)▸hQ _ (Kp.tok s _))
     | true,hQ=>wpAny_notIn_of (intKind_is _ _ _ _) hmod hm.mapOf (hz.symm▸(Bool.bne_true z)▸hQ _ (Kp.tok s _)))
theorem DR (ha:MP G Γ l a)(hb:MP G Γ r b)(hm:behindInMarks (yy neg) r=false):MT G Γ (.Compare l [yy neg] [r] pos) (jN neg a b):=λU V w e A s env R J Q c hQ=>
 aw e λu e1 e=>aw e λv e2 e=>cr e λz e3 e=>wpAny_isTrue_Compare1 (ha _ _ _ e1 A s env R J _ c λx s1 k1 r1=>
  hb _ _ _ e2 A s1 env R J _ (c.kp k1) λy s2 k2 r2=>V4 ((c.kp k1).kp k2).S c.A.u (r1.keep k2.kb) r2 e3 λs' k=>fj (e▸hQ s' ((k1.trans k2).trans k))) hm
theorem V5 (ha:MP G Γ l a)(hb:MP G Γ r b)(hm:behindInMarks .In r=false:=by rfl):MT G Γ (.Compare l [.In] [r] pos) (jN false a b):=DR (neg:=false) ha hb hm
theorem wm (ha:MP G Γ l a)(hb:MP G Γ r b)(hm:behindInMarks .NotIn r=false:=by rfl):MT G Γ (.Compare l [.NotIn] [r] pos) (jN true a b):=DR (neg:=true) ha hb hm
theorem Pf (b n:Nat)(hb:b≤n):Builtin.Slice.sliceAdjust none (some (b:Int)) 1 (n:Int)=((0:Int),(b:Int)):=by
 unfold Builtin.Slice.sliceAdjust
 simp only [show ¬ ((1:Int)< 0) from by decide,Int.not_lt.mpr (Int.natCast_nonneg b),if_false]
 exact congrArg _ (Int.min_eq_left (Int.ofNat_le.mpr hb))
theorem Pg (b:Nat):Builtin.Slice.slicePlaces (0:Int) (b:Int) 1=b:=by
 unfold Builtin.Slice.slicePlaces
 rw [if_pos (by decide)]
 split
 ·rw [Int.ediv_one,Int.sub_zero,Int.sub_add_cancel];rfl
 ·exact (Nat.eq_zero_of_not_pos λh=> ‹¬ _› (Int.ofNat_lt.mpr h)).symm
section
variable {prog:Program} {w:World} {A:Around} {E:Value→Shared→Prop} {s:Shared}
theorem Kl {b n:Nat}(hs:s.heap.IsSliceOf sl .none (.int b u) .none)(hb:b≤n)(h:Q ((0:Int),1,b) s):
  wpAny (model prog w) A (Builtin.Slice.sliceApplied (.ref sl) (pure (n:Int))) Q E s:=by
 obtain ⟨os,hos,hcs,hds⟩:=id hs
 unfold Builtin.Slice.sliceApplied Builtin.Slice.sliceFields
 refine am (am (wpAny_field hos hds (x:= .none) rfl (am (wpAny_field hos hds (x:= .int b u) rfl (am (wpAny_field hos hds (x:= .none) rfl (aC ?_)))))))
 refine am (slicePart_none ?_)
 show wpAny _ _ (if ((1:Int) == 0)=true then _ else _) _ _ s
 rw [if_neg (by decide)]
 refine am (slicePart_none (am (slicePart_int (am (aC ?_)))))
 show wpAny _ _ (match Builtin.Slice.sliceAdjust none (some (b:Int)) 1 (n:Int) with | (lo,hi)=>pure (lo,(1:Int),Builtin.Slice.slicePlaces lo hi 1)) _ _ s
 rw [Pf b n hb]
 show wpAny _ _ (pure ((0:Int),(1:Int),Builtin.Slice.slicePlaces (0:Int) (b:Int) 1)) _ _ s
 rw [Pg b]
 exact aC h
theorem RW (xs:Array Value)(b:Nat)(_hb:b≤xs.size):((List.range b).filterMap λ(k:Nat)=>xs[((0:Int)+(k:Int) * 1).toNat]?).toArray=(xs.toList.take b).toArray:=by
 have e:(λ(k:Nat)=>xs[((0:Int)+(k:Int) * 1).toNat]?)=λk=>xs[0+k]? :=by
  funext k
  rw [(congrArg Int.toNat ((Int.zero_add _).trans (Int.mul_one _))).trans ((Int.toNat_natCast k).trans (Nat.zero_add k).symm)]
 rw [e]
 have:=pick_run xs 0 b
 rw [List.filterMap_map] at this
 have e2:((λx=>xs[x]?) ∘ λx=>0+x)=λk=>xs[0+k]? :=rfl
 rw [e2] at this
 rw [this,List.drop_zero]
theorem JI {b:Nat}(ht:IsTup s.heap t items)(hs:s.heap.IsSliceOf sl .none (.int b u) .none)(hb:b< items.size)
  (h:Q (.ref s.heap.objs.size) { s with heap:=s.heap.push { cls:= .type "tuple",data:= .seq (items.toList.take b).toArray } })
  (hsz:items.size≤sizeLine):wpAny (model prog w) A (getItem (.ref t) (.ref sl)) Q E s:=by
 have hdrop:sizeOk (.seq (items.toList.take b).toArray):=by
  show (items.toList.take b).toArray.size≤sizeLine
  rw [List.size_toArray,List.length_take,Array.length_toList]
  omega
 obtain ⟨os,hos,hcs,hds⟩:=id hs
 have hTs:s.TypeIs (.ref sl) "slice":=⟨os,hos,hcs⟩
 unfold getItem
 try with_reducible refine wpAny_holding ?_
 first | refine am (aC ?_) | skip
 refine am (wpAny_sequenceKey ht.typeIs (by decide) ?_)
 refine am (wpAny_callSpecial?_slot (name:=Str.ofString "__getitem__") ht.typeIs slot_tuple_getitem
  (wpAny_call_entry slot_tuple_getitem ht.typeIs entry_tuple_getitem ?_ (args_tuple_getitem _ _)))
 show wpAny _ _ (Builtin.Tuple.tupleItemsOf (.ref t) >>= _) _ _ s
 refine am (tupleItemsOf_ ht ?_)
 refine am (wpAny_typeOf hTs ?_)
 rw [if_pos (by decide)]
 refine am (Kl hs (Nat.le_of_lt hb) ?_)
 have hno: ¬ (((0:Int) == 0 && (1:Int) == 1 && b == items.size)=true):=by
  have:(b == items.size)=false:=by rw [beq_eq_false_iff_ne];omega
  rw [this];simp
 show wpAny _ _ (if ((0:Int) == 0 && (1:Int) == 1 && b == items.size)=true then _ else _) _ _ s
 rw [if_neg hno,RW items b (Nat.le_of_lt hb)]
 first
  | exact am (m:=Builtin.Tuple.tupleExact _) (wpAny_newObj_type (aC ⟨_,rfl,aC h⟩) hdrop)
  | exact am (m:=Builtin.Tuple.tupleExact _) (wpAny_newObj_type (am (aC (aC ⟨_,rfl,aC h⟩))) hdrop)
  | exact am (am (m:=Builtin.Tuple.tupleExact _) (wpAny_newObj_type (aC (aC ⟨_,rfl,aC h⟩)) hdrop))
  | exact am (am (m:=Builtin.Tuple.tupleExact _) (wpAny_newObj_type (aC ⟨_,rfl,aC h⟩) hdrop))
end
theorem VRels.take:∀{l:List AV} {vs:List Value} (n:Nat),VRels G R J h l vs→VRels G R J h (l.take n) (vs.take n)
 | [],vs,n,e=>(show vs=[] from e)▸(List.take_nil (i:=n)).symm▸(List.take_nil (i:=n)).symm▸ .nil
 | x::r,vs,0,e=> .nil
 | x::r,vs,n+1,e=>aS e λv vs' p q1 q2=>p▸ .cons q1 (q2.take n)
theorem VRels.drop:∀{l:List AV} {vs:List Value} (n:Nat),VRels G R J h l vs→VRels G R J h (l.drop n) (vs.drop n)
 | [],vs,n,e=>(show vs=[] from e)▸(List.drop_nil (i:=n)).symm▸(List.drop_nil (i:=n)).symm▸ .nil
 | x::r,vs,0,e=>e
 | x::r,vs,n+1,e=>aS e λv vs' p _ q2=>p▸q2.drop n
def nk (x y:AV):Option AV:=match x with
 | .tup l=>(cq y).bind λn=>if 0≤n∧n.toNat< l.length∧l.length≤10000 then some (.tup (l.take n.toNat)) else none
 | .lst l=>(cq y).bind λn=>if 0≤n∧l.length≤10000 then some (.lst (l.take n.toNat)) else none
 | _=>none
def iq (a b:a7):a7:=λU V=>(a U V).bind λx=>(b U V).bind λy=>nk x y
section
variable {A:Around} {s:Shared} {R:List Addr} {J:aG}
theorem DS (S:RL R s.heap)(hx:VRel G R J s.heap x o)(hy:VRel G R J s.heap y i)(e:nk x y=some z)(Q:Value→Shared→Prop)(E:Value→Shared→Prop)
  (hQ:∀r s',Kp s s'→VRel G R J s'.heap z r→Q r s'):(∃T id,({ s with heap:=s.heap.push { cls:= .type "slice",data:= .fields #[.none,i, .none] } }:Shared).TypeIs o T∧typeLookup (.type T) "__getitem__"=pure (some (.builtin id)))∧wpAny (model G.prog G.w) A (getItem o (.ref s.heap.objs.size)) Q E { s with heap:=s.heap.push { cls:= .type "slice",data:= .fields #[.none,i, .none] } }:=by
 have kp:Kp s { s with heap:=s.heap.push { cls:= .type "slice",data:= .fields #[.none,i, .none] } }:=Kp.push _ _
 have S':RL R (s.heap.push { cls:= .type "slice",data:= .fields #[.none,i, .none] }):=λa m=>(S a m).imp λ_ e=>kp.kb.get e
 cases x <;> first | exact au e | skip
 ·refine br (hx.keep kp.kb) λp vs q hp ht hv=>aw e λn e1 e=>(ej hy e1).elim λt w=>cJ e λhn e=> ?_
  obtain ⟨n,rfl⟩:∃m:Nat,n=(m:Int):=⟨n.toNat,(Int.toNat_of_nonneg hn.1).symm⟩
  subst q;subst w;subst e
  exact ⟨⟨_,_,qH ht,slot_tuple_getitem.lookup⟩,JI (b:=n) ht (Heap.IsSliceOf.new ..) (show n< vs.length from hv.length▸hn.2.1)
   (hQ _ _ (kp.trans (Kp.push _ _)) (.tup S'.size ⟨_,bK _ rfl,rfl,_,rfl⟩ ((hv.take n).keep (KB.push _ _)))) (fB (show vs.length≤10000 from hv.length▸hn.2.2))⟩
 ·refine br (hx.keep kp.kb) λp vs q hp ht hv=>aw e λn e1 e=>(ej hy e1).elim λt w=>cJ e λhn e=> ?_
  obtain ⟨n,rfl⟩:∃m:Nat,n=(m:Int):=⟨n.toNat,(Int.toNat_of_nonneg hn.1).symm⟩
  subst q;subst w;subst e
  exact ⟨⟨_,_,ht.typeIs,list_getitem_lookup⟩,wpAny_getItem_list_slice ht (Heap.IsSliceOf.new ..) .none (.int _ _) .none (by simp)
   (hQ _ _ (kp.trans (Kp.push _ _)) (slicePick_upto' .. ▸ .lst (vs:=vs.take n) S'.size ⟨_,bK _ rfl,rfl,_,rfl⟩ ((hv.take n).keep (KB.push _ _)))) (fB (show vs.length≤10000 from hv.length▸hn.2))⟩
end
theorem jr (ha:MP G Γ e a)(hb:MP G Γ i b):MP G Γ (.Subscript e (.Slice none (some i) none p) pos) (iq a b):=λU V v q A s env R J Q c hQ=>
 aw q λx e1 q=>aw q λy e2 e3=>m5 (ha _ _ _ e1 A s env R J _ c λo s1 k1 r1=>wpAny_Slice (aC (hb _ _ _ e2 A s1 env R J _ (c.kp k1) λj s2 k2 r2=>aC
  (DS ((c.kp k1).kp k2).S.live (r1.keep k2.kb) r2 e3 _ _ λr s3 k3 r3=>hQ r s3 ((k1.trans k2).trans k3) r3))))
def TZ (x y:AV):Option AV:=(jy x).bind λl=>(cq y).bind λn=>if 0≤n∧l.length≤10000 then some (.lst (l.drop n.toNat)) else none
def pN (a b:a7):a7:=λU V=>(a U V).bind λx=>(b U V).bind λy=>TZ x y
theorem RY (ha:MP G Γ e a)(hb:MP G Γ i b):MP G Γ (.Subscript e (.Slice (some i) none none p) pos) (pN a b):=λU V v q A s env R J Q c hQ=>
 aw q λx e1 q=>aw q λy e2 e3=>aw e3 λl e4 e3=>aw e3 λn e5 e3=>cJ e3 λhn e3=>m5 (ha _ _ _ e1 A s env R J _ c λo s1 k1 r1=>wpAny_Slice (hb _ _ _ e2 A s1 env R J _ (c.kp k1) λj s2 k2 r2=>aC (aC (by
  have kp:Kp s2 { s2 with heap:=s2.heap.push { cls:= .type "slice",data:= .fields #[j, .none, .none] } }:=Kp.push _ _
  refine br (show VRel G R J _ (.lst l) o from mP e4▸(r1.keep k2.kb).keep kp.kb) λp' vs q hp ht hv=>(ej r2 e5).elim λt w=> ?_
  obtain ⟨n,rfl⟩:∃m:Nat,n=(m:Int):=⟨n.toNat,(Int.toNat_of_nonneg hn.1).symm⟩
  subst q;subst w;subst e3
  exact ⟨⟨_,_,ht.typeIs,list_getitem_lookup⟩,wpAny_getItem_list_slice ht (Heap.IsSliceOf.new ..) (.int _ _) .none .none (by simp)
   (hQ _ _ (((k1.trans k2).trans kp).trans (Kp.push _ _)) (slicePick_from' .. ▸ .lst (vs:=vs.drop n) (((c.kp k1).kp k2).kp kp).S.live.size ⟨_,bK _ rfl,rfl,_,rfl⟩ ((hv.drop n).keep (KB.push _ _)))) (fB (show vs.length≤10000 from hv.length▸hn.2))⟩))))
end
section
theorem RZ:∀{o:AO},OA G R J h l o→∃ob,h.get? l.a=some ob
 | .inst _ _,e=>gn e λ_ _ _ _ h _=>⟨_,h⟩
 | .list _,e=>aS e λ_ _ _ h _=>⟨_,h⟩
 | .gdict _,e=>dm e λ_ _ h _=>h.imp λ_ q=>q.elim λ_ q=>q.elim λ_ q=>q.1
 | .idict _,e=>aS e λ_ _ _ h _=>⟨_,h⟩
theorem wn
  (c:Cx G Γ A s env R J U V)(hk:mu.n0≤k)(hl:J[k]? =some l)(kb:KB [l.a] s.heap h')(ho:OA G R J h' l o'):
  Go (bs G mu J) s { s with heap:=h',toks:=tk } R J R J∧Cx G Γ A { s with heap:=h',toks:=tk } env R J U (V.set k o'):=
 have lv:∀b o,s.heap.get? b=some o→∃o',h'.get? b=some o':=λb o e=>if h1:b=l.a then h1▸RZ ho else ⟨o,kb b o (λz=>h1 (aH z)) e⟩
 have go:Go (bs G mu J) s { s with heap:=h',toks:=tk } R J R J:=
  ⟨⟨_,_,rfl⟩,λb o hb e=>kb b o (λm=>hb (aH m▸dy _ (oV hk hl (.head _)))) e,lv,λ_ _ e=>e,λ_ _ _ e _=> .inl e,λ_ m=>m,λa m=> .inl m⟩
 ⟨go,c.go go (c.S.upd hl kb (λa m=> .inl (aH m▸ .head _)) (λa m=>aH m▸EF c.S hl (.head _)) lv ho)⟩
theorem vO
  (c:Cx G Γ A s env R J U V)(hk:mu.n0≤k)(hl:J[k]? =some l)(hs:Heap.SameBut l.a s.heap h')(ho:KB [l.a] s.heap h'→OA G R J h' l o'):
  Go (bs G mu J) s { s with heap:=h',toks:=tk } R J R J∧Cx G Γ A { s with heap:=h',toks:=tk } env R J U (V.set k o'):=
 have kb:KB [l.a] s.heap h':=λb o hb e=>(hs.2 b λz=>hb (List.mem_singleton.mpr z)).trans e
 wn c hk hl kb (ho kb)
noncomputable def gX:List (Int × AV)→Int→AV→List (Int × AV)
 | [],i,v=>[(i,v)]
 | (j,w)::r,i,v=>if j=i then (j,v)::r else (j,w)::gX r i v
noncomputable def f6:List (GK × AV)→GK→AV→List (GK × AV)
 | [],i,v=>[(i,v)]
 | (j,w)::r,i,v=>if j=i then (j,v)::r else (j,w)::f6 r i v
section
variable {R:List Addr} {J:aG} {h:Heap}
theorem Nc {K:Type}[DecidableEq K]{j k:K}{w v:Value}{r:List (K × Value)}(hn:j∉r.map (·.1)):stored ((j,w)::r) k v=if j=k then (j,v)::r else (j,w)::stored r k v:=by
 by_cases hj:j=k
 ·subst hj
  simp only [stored,List.any_cons,decide_true,Bool.true_or,if_true,List.map_cons]
  congr 1
  conv=>rhs;rw [← List.map_id r]
  apply List.map_congr_left
  intro p hp
  have: ¬ p.1=j:=λe=>hn (List.mem_map.mpr ⟨p,hp,e⟩)
  simp [this]
 ·simp only [stored,List.any_cons,if_neg hj,decide_eq_false hj,Bool.false_or]
  split
  ·simp [hj]
  ·simp
theorem DRel.nil:DRel G R J h [] []:=rfl
theorem DRel.cons (e:VRel G R J h x v)(f:DRel G R J h es kvs):DRel G R J h ((k,x)::es) ((k,v)::kvs):=Exists.intro v ⟨kvs,rfl,e,f⟩
theorem GRel.cons (e0:VRel G R J h (aX k) (.ref a))(e:VRel G R J h x v)(f:GRel G R J h es xs):GRel G R J h ((k,x)::es) ((k,a,v)::xs):=Exists.intro a ⟨v,xs,rfl,e0,e,f⟩
theorem C9 (hx:VRel G R J h x v):∀{es:List (Int × AV)} {kvs:List (Int × Value)},(kvs.map (·.1)).Nodup→DRel G R J h es kvs→DRel G R J h (gX es i x) (stored kvs i v)
 | [],kvs,hn,e=>(show kvs=[] from e)▸ .cons hx .nil
 | (j,y)::r,kvs,hn,e=>aS e λw kvs' p e1 e2=>by
  subst p
  rw [Nc (List.nodup_cons.mp hn).1]
  by_cases h:j=i
  ·rw [if_pos h,show gX ((j,y)::r) i x=_ from if_pos h];exact .cons hx e2
  ·rw [if_neg h,show gX ((j,y)::r) i x=_ from if_neg h];exact .cons e1 (C9 hx (List.nodup_cons.mp hn).2 e2)
theorem Mp {j k:GK}(hn:j∉r.map (·.1)):storedH ((j,p)::r) k a v=if j=k then (j,p.1,v)::r else (j,p)::storedH r k a v:=by
 by_cases hj:j=k
 ·subst hj
  have:(atKey ((j,p)::r) j).isSome=true:=by simp [atKey]
  simp only [storedH,this,if_true,List.map_cons,putAt]
  congr 1
  conv=>rhs;rw [← List.map_id r]
  apply List.map_congr_left
  intro q hq
  have: ¬ q.1=j:=λe=>hn (List.mem_map.mpr ⟨q,hq,e⟩)
  simp [putAt,this]
 ·have:atKey ((j,p)::r) k=atKey r k:=by simp [atKey,hj]
  simp only [storedH,this,if_neg hj]
  split
  ·simp [putAt,hj]
  ·simp
theorem wo (hk:VRel G R J h (aX i) (.ref a))(hx:VRel G R J h x v):∀{es:List (GK × AV)} {xs:List (GK × Addr × Value)},(xs.map (·.1)).Nodup→GRel G R J h es xs→GRel G R J h (f6 es i x) (storedH xs i a v)
 | [],xs,hn,e=>(show xs=[] from e)▸ .cons hk hx rfl
 | (j,y)::r,xs,hn,e=>eO e λb w xs' p e0 e1 e2=>by
  subst p
  rw [Mp (List.nodup_cons.mp hn).1]
  by_cases h:j=i
  ·rw [if_pos h,show f6 ((j,y)::r) i x=_ from if_pos h];exact .cons e0 hx e2
  ·rw [if_neg h,show f6 ((j,y)::r) i x=_ from if_neg h];exact .cons e0 e1 (wo hk hx (List.nodup_cons.mp hn).2 e2)
theorem GRel.len:∀{es:List (GK × AV)} {xs:List (GK × Addr × Value)},GRel G R J h es xs→xs.length=es.length
 | [],xs,e=>congrArg List.length e
 | (j,y)::r,xs,e=>eO e λ_ _ _ p _ _ e2=>p▸congrArg Nat.succ e2.len
theorem DRel.len:∀{es:List (Int × AV)} {xs:List (Int × Value)},DRel G R J h es xs→xs.length=es.length
 | [],xs,e=>congrArg List.length e
 | (j,y)::r,xs,e=>aS e λ_ _ p _ e2=>p▸congrArg Nat.succ e2.len
theorem VRels.set (hx:VRel G R J h x v):∀{l:List AV} {vs:List Value} (n:Nat),VRels G R J h l vs→VRels G R J h (l.set n x) (vs.set n v)
 | [],vs,n,e=>(show vs=[] from e)▸ .nil
 | y::r,vs,0,e=>aS e λ_ _ p _ q2=>p▸ .cons hx q2
 | y::r,vs,n+1,e=>aS e λ_ _ p q1 q2=>p▸ .cons q1 (q2.set hx n)
theorem DRel.kb (k:KB X h h')(hX:∀a∈X,a∈R)(e:DRel G R J h es kvs):DRel G R J h' es kvs:=DRel.mono (λa o ha ho=>⟨ha,k a o (λm=>ha (hX a m)) ho⟩) (λ_ _ x=>x) _ _ e
theorem GRel.kb (k:KB X h h')(hX:∀a∈X,a∈R)(e:GRel G R J h es kvs):GRel G R J h' es kvs:=GRel.mono (λa o ha ho=>⟨ha,k a o (λm=>ha (hX a m)) ho⟩) (λ_ _ x=>x) _ _ e
end
theorem Nd {vs:List Value}(hl:s.heap.get? l=some (listOf vs.toArray n))(h0:0≤k)(hfit:k< 2 ^ 63)(hn:k.toNat< vs.length)
  (hQ:∀h' n',h'.get? l=some (listOf (vs.set k.toNat v).toArray n')→Heap.SameBut l s.heap h'→Q () { s with heap:=h',toks:=s.toks }):wpAny (model G.prog G.w) A (setItem (.ref l) (.int k t) v) Q aI s:=by
 have ho:s.heap.get? l=some { cls:= .type "list",data:= .seq vs.toArray n }:=hl
 have hl':s.heap.IsList l vs.toArray:=⟨_,ho,rfl,_,rfl⟩
 unfold setItem
 try with_reducible refine wpAny_holding ?_
 first | refine am (aC ?_) | skip
 refine am (wpAny_sequenceKey hl'.typeIs (by decide) ?_)
 refine am (wpAny_callSpecial?_slot (name:=Str.ofString "__setitem__") hl'.typeIs slot_list_setitem
  (wpAny_call_entry slot_list_setitem hl'.typeIs entry_list_setitem ?_ (args_list_setitem _ _ _)))
 show wpAny _ _ (Builtin.List.listSubscript? (.int k t) >>= _) _ _ s
 refine am (wpAny_listSubscript_int (fitsIndex_of h0 hfit) ?_)
 clear hfit
 obtain ⟨j,rfl⟩:=Int.eq_ofNat_of_zero_le h0
 have hj:j< vs.toArray.size:=by simpa using hn
 have hx':vs.toArray[j]? =some vs.toArray[j]:=Array.getElem?_eq_getElem hj
 show wpAny _ _ ((seqItemAt l j >>= λr=>pure (r.map (j,·))) >>= _) _ _ s
 refine am (am (wpAny_seqItemAt ho rfl (aC ?_)))
 rw [hx']
 show wpAny _ _ (setSeqItemAt l j v >>= _) _ _ s
 obtain ⟨n',hd'⟩:=Obj.data_mapSeq (o:={ cls:= .type "list",data:= .seq vs.toArray n }) rfl (·.setIfInBounds j v)
 have hfin:(s.heap.update l (Obj.mapSeq (·.setIfInBounds j v))).get? l=some (listOf (vs.set j v).toArray n'):=by
  rw [Heap.get?_update_self _ ho (Obj.isFreed_of_seq hd')]
  have e1:vs.toArray.setIfInBounds j v=(vs.set j v).toArray:=by simp
  rw [← e1]
  have h2:(Obj.mapSeq (·.setIfInBounds j v) { cls:= .type "list",data:= .seq vs.toArray n }:Obj)= { cls:= .type "list",data:=(Obj.mapSeq (·.setIfInBounds j v) { cls:= .type "list",data:= .seq vs.toArray n }:Obj).data }:=rfl
  rw [h2,hd']
 refine am (wpAny_setSeqItemAt ho rfl ?_)
 have hq:=hQ _ n' hfin (Heap.SameBut.update ..)
 first
  | exact am (aC (aC ⟨.none,rfl,aC hq⟩))
  | exact aC ⟨.none,rfl,aC hq⟩
def Xh (o:AO)(y z:AV):Option AO:=match o with
 | .list l=>(cq y).bind λi=>if 0≤i∧i< 1000000∧i.toNat< l.length then some (.list (l.set i.toNat z)) else none
 | .idict es=>(cq y).bind λi=>if es.length≤10000 then some (.idict (gX es i z)) else none
 | .gdict es=>(jA y).bind λg=>if es.length≤10000 then some (.gdict (f6 es g z)) else none
 | .inst _ _=>none
def lW (n0:Nat)(V:ar)(x y z:AV):Option ar:=(jz x).bind λk=>if n0≤k then (V[k]?).bind λo=>(Xh o y z).map λo=>V.set k o else none
theorem T0 (c:Cx G Γ A s env R J U V)(hx:VRel G R J s.heap x o)(hy:VRel G R J s.heap y i)(hz:VRel G R J s.heap z v)
  (e:lW mu.n0 V x y z=some σ')(hQ:∀s',Go (bs G mu J) s s' R J R J→Cx G Γ A s' env R J U σ'→Q () s'):wpAny (model G.prog G.w) A (setItem o i v) Q aI s:=
 aw e λk e1 e=>fH e λhk e=>aw e λob hs e=>cr e λob' e2 e=>aW (show VRel G R J s.heap (.ref k) o from jh e1▸hx) λl hl p=>by
  subst p;subst e
  have hlR:∀a∈ [l.a],a∈R:=λa m=>aH m▸c.S.sub _ (dS hl (.head _))
  have hO:=c.S.objs _ _ _ hs hl
  have fin:∀{h':Heap} {tk:Nat},Heap.SameBut l.a s.heap h'→(KB [l.a] s.heap h'→OA G R J h' l ob')→Q () { s with heap:=h',toks:=tk }:=λhsb ho=>(vO (mu:=mu) c hk hl hsb ho).elim (hQ _)
  cases ob with
  | inst C fs=>exact au e2
  | list xs=>exact (aw e2 λj e3 e4=>cJ e4 λhj e4=>(ej hy e3).elim λt p=>aS hO λvs n h1 h2 h3=>p▸Nd h2 hj.1 (Int.lt_trans hj.2.1 (by decide)) (h3.length▸hj.2.2) λh' n' hg hsb=>
    fin hsb λkb=>e4▸⟨_,n',h1,hg,(h3.kb kb hlR).set (hz.kb kb hlR) _⟩)
  | idict es=>exact (aw e2 λj e3 e4=>cJ e4 λhj e4=>(ej hy e3).elim λt p=>br hO λo' kvs h1 h2 h3 h4=>p▸wpAny_setItem_pairs (intKind_is _ _ _ _) (Heap.dictOf_iff.mpr ⟨o',h2,h3⟩)
    (λh' hd hsb=>fin hsb λkb=>aW (Heap.dictOf_iff.mp hd) λob'' h5 h6=>e4▸⟨ob'',_,h1,h5,h6,C9 (hz.kb kb hlR) (h3.elim λ_ q=>q.elim λ_ q=>q.2.2.2.2) (h4.kb kb hlR)⟩) (h4.len▸fB hj))
  | gdict es=>exact (aw e2 λg e3 e4=>cJ e4 λhj e4=>dm (nj hy e3) λa p hkey hkv=>dm hO λxs h1 h2 h3=>p▸wpAny_setItem_heap (pM c.A.u) hkey h2
    (λh' hd hsb=>fin hsb λkb=>e4▸⟨_,h1,hd,wo (hkv.kb kb hlR) (hz.kb kb hlR) (h2.elim λ_ q=>q.elim λ_ q=>q.elim λ_ q=>q.2.2.2.2.2) (h3.kb kb hlR)⟩) (h3.len▸fB hj))
abbrev iF:=AV→Lo→ar→Option (Lo × ar)
noncomputable def MA (G:Gd)(mu:Md)(Γ:FI)(t:Expr)(x:iF):Prop:=
 ∀u U V ℓ' σ',x u U V=some (ℓ',σ')→∀(A:Around) (s:Shared) (env:Env) (R:List Addr) (J:aG) (v:Value) (Q:Unit→Shared→Prop),Cx G Γ A s env R J U V→VRel G R J s.heap u v→
  (∀s' R' J',Go (bs G mu J ++fa env) s s' R J R' J'→Cx G Γ A s' env R' J' ℓ' σ'→Q () s')→wpAny (model G.prog G.w) A (assign t env v) Q aI s
noncomputable def bh (i:Nat):iF:=λu U V=>some (U.set i (some u),V)
noncomputable def KA (G:Gd)(mu:Md)(Γ:FI)(A:Around)(s:Shared)(env:Env)(R:List Addr)(J:aG)(Q:Unit→Shared→Prop)(p:Lo × ar):Prop:=
 ∀s' R' J',Go (bs G mu J ++fa env) s s' R J R' J'→Cx G Γ A s' env R' J' p.1 p.2→Q () s'
theorem MA.mk (h:∀u U V A s env R J v Q,Cx G Γ A s env R J U V→VRel G R J s.heap u v→Ok (x u U V) (KA G mu Γ A s env R J Q)→wpAny (model G.prog G.w) A (assign t env v) Q aI s):MA G mu Γ t x:=λu U V ℓ' σ' q A s env R J v Q c hv hQ=>h u U V A s env R J v Q c hv ⟨_,q,hQ⟩
theorem MA.run (h:MA G mu Γ t x)(c:Cx G Γ A s env R J U V)(hv:VRel G R J s.heap u v)(k:Ok (x u U V) (KA G mu Γ A s env R J Q)):wpAny (model G.prog G.w) A (assign t env v) Q aI s:=k.elim λp q=>h u U V p.1 p.2 q.1 A s env R J v Q c hv q.2
theorem cz (hs:Slot1 Γ i x:=by exact slotA):MA G mu Γ (.Name x pos) (bh i):=MA.mk λu U V A s env R J v Q c hv k=>wpAny_assign_Name (j2 c hs hv λs' g c'=>k.get s' R J g c')
def iA (n0:Nat)(o i:a7):iF:=λu U V=>(o U V).bind λx=>(i U V).bind λy=>(lW n0 V x y u).map λσ'=>(U,σ')
theorem Go.valF (c:Cx G Γ A s env R J U V)(g:Go (bs G mu J ++fa env) s s' R J R' J')(e:VRel G R J s.heap x v):VRel G R' J' s'.heap x v:=
 g.val (λa m=>(bC m).elim (iE c a) (λm=>c.F.elim λ_ F=>(F.faR a m).1)) e
theorem Go.valsF (c:Cx G Γ A s env R J U V)(g:Go (bs G mu J ++fa env) s s' R J R' J')(e:VRels G R J s.heap x v):VRels G R' J' s'.heap x v:=
 g.vals (λa m=>(bC m).elim (iE c a) (λm=>c.F.elim λ_ F=>(F.faR a m).1)) e
theorem nq (ha:MP G Γ o a)(hb:MP G Γ i b):MA G mu Γ (.Subscript o i pos) (iA mu.n0 a b):=MA.mk λu U V A s env R J v Q c hv k=>k.elim λp k=>
 aw k.1 λx e1 q=>aw q λy e2 q=>cr q λσ1 e3 e=>assign_Subscript .. ▸am (wpAny_holding (ha _ _ _ e1 A s env R J _ c λov s1 k1 r1=>am (wpAny_holding (hb _ _ _ e2 A s1 env R J _ (c.kp k1) λiv s2 k2 r2=>
  am (wpAny_standAt (am (wpAny_holding (T0 (mu:=mu) ((c.kp k1).kp k2) (r1.keep k2.kb) r2 ((hv.keep k1.kb).keep k2.kb) e3 λs3 g3 c3=>wpAny_release' ((e▸k.2:KA G mu Γ A s env R J Q (U,σ1)) s3 R J ((Go.of_kp (k1.trans k2)).seqX g3).xs c3)))))))))
abbrev Hs:=List AV→Lo→ar→Option (Lo × ar)
noncomputable def tK (G:Gd)(mu:Md)(Γ:FI)(ts:List Expr)(x:Hs):Prop:=
 ∀us U V ℓ' σ',x us U V=some (ℓ',σ')→us.length=ts.length∧∀(A:Around) (s:Shared) (env:Env) (R:List Addr) (J:aG) (vs:List Value) (Q:Unit→Shared→Prop),Cx G Γ A s env R J U V→VRels G R J s.heap us vs→
  (∀s' R' J',Go (bs G mu J ++fa env) s s' R J R' J'→Cx G Γ A s' env R' J' ℓ' σ'→Q () s')→wpAny (model G.prog G.w) A (assignInOrder ((assignEach ts env).map (·.2)) vs) Q aI s
noncomputable def nY:List iF→Hs
 | [],[],U,V=>some (U,V)
 | t::ts,u::us,U,V=>(t u U V).bind λp=>nY ts us p.1 p.2
 | _,_,_,_=>none
theorem lL:tK G mu Γ [] (nY [])
 | [],U,V,ℓ',σ',q=>⟨rfl,λA s env R J vs Q c hv hQ=>(show vs=[] from hv)▸wpAny_assignInOrder_none (hQ s R J (Go.of_kp (Kp.refl s)) ((dD q).1▸(dD q).2▸c))⟩
 | _::_,_,_,_,_,q=>au q
theorem ei (ha:MA G mu Γ t a)(hb:tK G mu Γ ts (nY as))(he:∀env,assignEach (t::ts) env=(false,assign t env)::assignEach ts env:=by exact λ_=>rfl):tK G mu Γ (t::ts) (nY (a::as))
 | [],_,_,_,_,q=>au q
 | u::us,U,V,ℓ',σ',q=>aw q λp e1 q=>(hb _ _ _ _ _ q).elim λhl hb'=>⟨congrArg Nat.succ hl,λA s env R J vs Q c hv hQ=>aS hv λv vs' p h1 h2=>by
   rw [he,p]
   exact wpAny_assignInOrder_more (ha _ _ _ _ _ e1 A s env R J v _ c h1 λs1 R1 J1 g1 c1=>hb' A s1 env R1 J1 vs' Q c1 (g1.valsF c h2) λs2 R2 J2 g2 c2=>hQ s2 R2 J2 (g1.seq g2) c2)⟩
def iB (as:List iF):iF:=λu U V=>(kv u).bind λus=>nY as us U V
theorem EN (e:Heap.ExtBut s.heap.objs.size s.heap h'):Kp s { s with heap:=h' }:=
 ⟨⟨_,_,rfl⟩,λb o _ ho=>e b o (λz=>by rw [z,dr] at ho;exact au ho) ho⟩
theorem lP {k:Nat}{pos:Pos}(ha:tK G mu Γ ts (nY as))(hn:∀env,(assignEach ts env).length=ts.length:=by exact λ_=>rfl)(hst:∀env,(assignEach ts env).findIdx? (·.1)=none:=by exact λ_=>rfl):MA G mu Γ (.Tuple ts k pos) (iB as):=MA.mk λu U V A s env R J v Q c hv k=>k.elim λp k=>
 aw k.1 λus e q=>(ha _ _ _ _ _ q).elim λhl ha'=>br (show VRel G R J s.heap (.tup us) v from lD e▸hv) λa vs p _ ht hvs=>
  p▸wpAny_assign_Tuple c.A.hd ht ((hn env).trans (hl.symm.trans hvs.length)) (hst env) λh' he=>have kp:=EN he
   ha' A _ env R J vs Q (c.kp kp) (hvs.keep kp.kb) λs2 R2 J2 g2 c2=>k.2 s2 R2 J2 ((Go.of_kp kp).seq g2) c2
theorem Cx.nms {A:Around}(c:Cx G Γ A s env R J U V):env.scope.names=Γ.names:=c.F.elim λ_ F=>F.nms
theorem Cx.knd {A:Around}(c:Cx G Γ A s env R J U V):env.scope.kind= .function:=c.F.elim λ_ F=>F.kind
noncomputable def iu (t:iF)(a:bZ):aF:=λU V=>(a U V).bind λp=>(t p.1 U p.2).map λq=>(.next,q)
theorem js {pos:Pos}(ha:MX G mu Γ e a)(hb:MA G mu Γ t b)(hs:∀env,swapsWithSole [t] e pos.line env=pure false:=by exact λ_=>rfl)(hw:∀env,env.scope.names=Γ.names→env.scope.kind= .function→swappedStores [t] e env=pure none:=by exact swap_any rfl)(he:∀env,assignEach [t] env=[(false,assign t env)]:=by exact λ_=>rfl):MS G mu Γ (.Assign [t] e pos) (iu b a):=MS.mk λU V A s env R J Q c k=>by
 rw [exec_Assign]
 refine am (wpAny_standAt (hs env▸am (aC (am (ha.run c (k.bind.imp λp k r s1 R1 J1 g1 c1 r1=> ?_))))))
 rw [hw env c.nms c.knd,he]
 exact am (aC (am (hb.run c1 r1 (k.map.imp λq k s2 R2 J2 g2 c2=>aC (k _ s2 R2 J2 (g1.xs.seq g2) c2 rfl)))))
def nM (i j:Nat)(a:bZ):aF:=λU V=>(a U V).bind λp=>(kv p.1).bind λl=>(l2 l).map λq=>(.next,(U.set j (some q.2)).set i (some q.1),p.2)
theorem Qm (h:Ok (nM i j a U V) P):∃u v σ1,a U V=some (.tup [u,v],σ1)∧P (.next,(U.set j (some v)).set i (some u),σ1):=
 h.bind.elim λp k=>k.2.bind.elim λl k2=>k2.2.map.elim λq k3=>⟨q.1,q.2,p.2,by rw [k.1,← xj k3.1,← lD k2.1],k3.2⟩
theorem DT {ts:List Expr}{x y:Str}{k i j:Nat}{tp pos:Pos}(ha:MX G mu Γ e a)(hi:Slot1 Γ i x:=by exact slotA)(hj:Slot1 Γ j y:=by exact slotA)(hs:∀env,swapsWithSole [.Tuple ts k tp] e pos.line env=pure false:=by exact λ_=>rfl)(hw:∀env,env.scope.names=Γ.names→env.scope.kind= .function→swappedStores [.Tuple ts k tp] e env=pure (some [x,y]):=by exact swap_any rfl):MS G mu Γ (.Assign [.Tuple ts k tp] e pos) (nM i j a):=MS.mk λU V A s env R J Q c k=>da (Qm k) λu v σ1 e1 hQ=>by
 refine Assign_Tuple_swapped (names:=[x,y]) (ha _ _ _ _ e1 A s env R J _ c λr s1 R1 J1 g1 c1 r1=> ?_) (hs env) (hw env c.nms c.knd)
 refine br r1 λt vs p' _ ht hvs=>aS hvs λw1 vs' p1 h1 hvs=>aS hvs λw2 vs'' p2 h2 hvs=> ?_
 have hv0:vs''=[]:=hvs
 subst hv0;subst p2;subst p1;subst p'
 have:=wpAny_unpackItems_tuple (prog:=G.prog) (w:=G.w) (E:=aI) (Q:=λitems s₂=>wpAny (model G.prog G.w) A (assignInOrder ([x,y].reverse.map λn=>bindName env n) items.reverse) (λ_=>Q .next) aI s₂) c1.A.hd ht λh' he=>by
  have kp:=EN he
  show wpAny _ A (assignInOrder [bindName env y,bindName env x] [w2,w1]) _ _ _
  exact wpAny_assignInOrder_more (wpAny_bindName (j2 (mu:=mu) (c1.kp kp) hj (h2.keep kp.kb) λs2 g2 c2=>wpAny_assignInOrder_more (wpAny_bindName (j2 (mu:=mu) c2 hi (g2.valF (c1.kp kp) (h1.keep kp.kb)) λs3 g3 c3=>
   wpAny_assignInOrder_none (hQ _ s3 R1 J1 (((g1.seqX (Go.of_kp kp)).xs.seq g2).seq g3) c3 rfl)))))
 exact this
noncomputable def nZ (as:gA):bZ:=λU V=>(as U V).bind λp=>if p.1.length≤10000 then some (.tup p.1,p.2) else none
theorem xm (ha:hV G mu Γ es as):MX G mu Γ (.Tuple es k pos) (nZ as):=MX.mk λU V A s env R J Q c k=>k.elim λp k=>aw k.1 λq e1 e=>cJ e λhsz e=>
 wpAny_Tuple_spliced (ha.2 _ _ _ _ e1 A s env R J _ pos c λrs s1 R1 J1 g1 c1 r1=>⟨r1.length▸fB hsz,
  (e▸k.2:KX G mu Γ A s env R J U Q (.tup q.1,q.2)) _ _ _ _ (g1.seqX (Go.of_kp (Kp.push _ _))) (c1.kp (Kp.push _ _)) (.tup c1.S.live.size ⟨_,bK _ rfl,rfl,_,rfl⟩ (r1.keep (KB.push _ _)))⟩)
end
noncomputable def ev (G:Gd)(x:Str)(v:Value):Prop:=G.mg x=none∧G.mb x=some v
theorem ky (hv:ev G x v)(hk:Γ.names.lookup x=some .globalImplicit)(hd:(x == ("__debug__":Str))=false):MP G Γ (.Name x pos) (ah (.lit v)):=λU V w e A s env R J Q c hQ=>c.F.elim λm F=>
 Name_function_global F.kind ((ij F.nms x).trans hk) (loadGlobal_builtin (env:=env) (F.glob▸G.top.g.keeps F.fr.keep) hv.1 (F.bt.1▸G.top.b.keeps F.fr.keep) hv.2 (hQ _ _ (Kp.refl _) (aD e▸rfl))) hd
theorem nN {id:String}(hp:Plain es)(hne:es≠ [])
  (h:wpAny M A (spliced (backTo pos (starEach es env))) (λvs s₁=>wpAny M A (call (.builtin id) (first ++vs)) Q E s₁) E s):wpAny M A (callWith pos (.builtin id) first (backTo pos (starEach es env)) []) Q E s:=by
 cases es with
 | nil=>exact absurd rfl hne
 | cons e r=>
  have hpl:=hp env pos
  rw [hp.cons] at h hpl ⊢
  exact callWith_builtin hpl (evalArgs_plain h)
theorem nO (hp:Plain es)(hne:es≠ [])
  (h:wpAny M A (spliced (backTo pos (starEach es env))) (λvs s₁=>wpAny M A (call (.type T) (first ++vs)) Q E s₁) E s):wpAny M A (callWith pos (.type T) first (backTo pos (starEach es env)) []) Q E s:=by
 cases es with
 | nil=>exact absurd rfl hne
 | cons e r=>
  have hpl:=hp env pos
  rw [hp.cons] at h hpl ⊢
  exact PySem.callWith_type hpl (evalArgs_plain h)
noncomputable def jG (G:Gd)(f:Value)(F:bP):Prop:=
 ((∃id,f= .builtin id)∨∃T,f= .type T)∧
 ∀avs V v,F avs V=some v→∀(A:Around) (s:Shared) (R:List Addr) (J:aG) (vals:List Value) (Q:Value→Shared→Prop),AOk 0 A→SR G R J V s.heap→VRels G R J s.heap avs vals→
  (∀r s',Kp s s'→VRel G R J s'.heap v r→Q r s')→wpAny (model G.prog G.w) A (call f vals) Q aI s
theorem AOk.zero (a:AOk d A):AOk 0 A:=⟨a.hd,dc (Nat.le_add_right _ _) a.dp,dc (Nat.add_le_add_right (Nat.le_add_right A.units (40 * d)) 80) a.un⟩
theorem dA {np pos:Pos}(hv:ev G x f)(hF:jG G f F)(ha:hU G Γ es as)(hk:Γ.names.lookup x=some .globalImplicit:=by kernel_rfl)(hd:(x == ("__debug__":Str))=false:=by kernel_rfl)(hne:es≠ []:=by exact List.cons_ne_nil _ _):MP G Γ (.Call (.Name x np) es [] pos) (aL F as):=λU V v q A s env R J Q c hQ=>
 aw q λvs e1 e2=>eX (ky hv hk hd _ _ _ rfl A s env R J _ c λr s0 k0 r0=>by
  have main:=ha.2 _ _ _ e1 A s0 env R J (λvs s₁=>wpAny (model G.prog G.w) A (call f ([] ++vs)) Q aI s₁) pos (c.kp k0) λrs s1 k1 r1=>hF.2 _ _ _ e2 A s1 R J rs Q c.A.zero ((c.kp k0).kp k1).S r1 λr s2 k2 r2=>hQ r s2 ((k0.trans k1).trans k2) r2
  rw [show r=f from r0]
  rcases hF.1 with ⟨id,rfl⟩ | ⟨T,rfl⟩
  ·exact nN ha.1 hne main
  ·exact nO ha.1 hne main)
noncomputable def a1:List AV→Option AV
 | [x]=>some x
 | _=>none
theorem T1:∀{l:List AV} {x:AV},a1 l=some x→l=[x]
 | [],_,e=>au e
 | [_],_,e=>aD e▸rfl
 | _::_::_,_,e=>au e
theorem jj (hv:VRels G R J h l vs)(e:a1 l=some x):∃v,vs=[v]∧VRel G R J h x v:=
 aS (show VRels G R J h [x] vs from T1 e▸hv) λv r p q1 q2=>⟨v,cc p q2,q1⟩
theorem v9 (hv:VRels G R J h l vs)(e:l2 l=some p):∃v u,vs=[v,u]∧VRel G R J h p.1 v∧VRel G R J h p.2 u:=
 aS (show VRels G R J h [p.1,p.2] vs from xj e▸hv) λv r w q1 q2=>aS q2 λu r' w' q3 q4=>⟨v,u,cc w (cc w' q4),q1,q3⟩
noncomputable def Xi:AV→Option AV
 | .bool b=>some (.int (if b then 1 else 0))
 | .int i=>some (.int i)
 | _=>none
def fU:bP:=λavs _=>(a1 avs).bind Xi
theorem gU:jG G (.type "int") fU:=⟨.inr ⟨_,rfl⟩,λavs V v e A s R J vals Q hA S hv hQ=>aw e λx e1 e=>aW (jj hv e1) λu p r=>by
 subst p
 cases x <;> first | exact au e | skip
 ·rw [show u= .bool _ from r];exact call_int_bool (hQ _ _ (Kp.tok _ _) (aD e▸ .i))
 ·exact Exists.elim r λt q=>q▸call_int_int (hQ _ _ (Kp.refl _) (aD e▸ .i))⟩
def Xj (V:ar):AV→Option Nat
 | .lst l=>some l.length
 | .tup l=>some l.length
 | .ref k=>(V[k]?).bind λo=>(x7 o).map List.length
 | _=>none
def fq:bP:=λavs V=>(a1 avs).bind λx=>(Xj V x).bind λn=>if n≤100000 then some (.int n) else none
theorem wO {n:Nat}(h:n≤100000):(n:Int)< 2 ^ 63:=by omega
theorem nP:jG G (.builtin "len") fq:=⟨.inl ⟨_,rfl⟩,λavs V v e A s R J vals Q hA S hv hQ=>aw e λx e1 e=>aw e λn e2 e=>cJ e λhn e=>aW (jj hv e1) λu p r=>by
 subst p;subst e
 have onL:∀{a:Addr} {l:List AV} {vs:List Value},s.heap.IsList a vs.toArray→VRels G R J s.heap l vs→l.length=n→wpAny (model G.prog G.w) A (call (.builtin "len") [.ref a]) Q aI s:=λ{a l vs} h1 h2 e=>
  have e':vs.toArray.size=n:=h2.length.symm.trans e
  call_len_list h1 (e'▸wO hn) (hQ _ _ (Kp.tok _ _) (e'▸ .i))
 cases x <;> first | exact au e2 | skip
 ·exact br r λa vs q _ h1 h2=>have e':vs.toArray.size=n:=h2.length.symm.trans (aD e2)
   q▸PyProof.Rows.len_tuple h1 (e'▸wO hn) (hQ _ _ (Kp.tok _ _) (e'▸ .i))
 ·exact br r λa vs q _ h1 h2=>q▸onL h1 h2 (aD e2)
 ·exact aW r λl h1 q=>aw e2 λo hk e2=>cr e2 λxs e3 e4=>aS (show OA G R J s.heap l (.list xs) from Cn e3▸S.objs _ _ _ hk h1) λvs m _ h2 h3=>q▸onL (ji h2) h3 e4⟩
def yW (f:Int→Int→Int):bP:=λavs _=>(l2 avs).bind λp=>(cq p.1).bind λa=>(cq p.2).map λb=> .int (f a b)
def th:bP:=yW λa b=>if b< a then b else a
def Ht:bP:=yW λa b=>if b > a then b else a
theorem GP {id:String}(h:∀(A:Around) (s:Shared) (a b:Int) (t u:Tok) (Q:Value→Shared→Prop),A.handled=none→(∀w s',Kp s s'→Q (.int (f a b) w) s')→wpAny (model G.prog G.w) A (call (.builtin id) [.int a t, .int b u]) Q aI s):jG G (.builtin id) (yW f):=
 ⟨.inl ⟨_,rfl⟩,λavs V v e A s R J vals Q hA S hv hQ=>aw e λp e1 e=>aw e λa e2 e=>cr e λb e3 e=>aS (v9 hv e1) λx y q r1 r2=>(ej r1 e2).elim λt w1=>(ej r2 e3).elim λu w2=>
  q▸w1▸w2▸h A s a b t u Q hA.hd λw s' k=>hQ _ _ k (e▸ .i)⟩
theorem gP (h:∀c o,s.heap.get? c=some o→h'.get? c=some o):Kp s { s with heap:=h',toks:=tk }:=⟨⟨_,_,rfl⟩,λb o _ e=>h b o e⟩
theorem GQ:jG G (.builtin "min") th:=GP λA s a b t u Q hA hQ=>min_two_ints hA λh' tk ho=>by
 by_cases h:b< a
 ·rw [if_pos h] at hQ ⊢;exact hQ _ _ (gP ho)
 ·rw [if_neg h] at hQ ⊢;exact hQ _ _ (gP ho)
theorem V6:jG G (.builtin "max") Ht:=GP λA s a b t u Q hA hQ=>max_two_ints hA λh' tk ho=>by
 by_cases h:b > a
 ·rw [if_pos h] at hQ ⊢;exact hQ _ _ (gP ho)
 ·rw [if_neg h] at hQ ⊢;exact hQ _ _ (gP ho)
def kn:List AV→Option (List Int)
 | []=>some []
 | x::r=>(cq x).bind λi=>(kn r).map λq=>i::q
theorem qX:∀{l:List AV} {vs:List Value} {ns:List Int},VRels G R J h l vs→kn l=some ns→IntsAre vs ns
 | [],vs,ns,hv,e=>(show vs=[] from hv)▸aD e▸ .nil
 | x::r,vs,ns,hv,e=>aw e λi e1 e=>cr e λq e2 e=>aS hv λv vs' p h1 h2=>(ej h1 e1).elim λt w=>p▸w▸e▸ .cons _ _ (qX h2 e2)
theorem vP:∀{l:List AV} {ns:List Int},kn l=some ns→ns.length=l.length
 | [],ns,e=>aD e▸rfl
 | x::r,ns,e=>aw e λi _ e=>cr e λq e2 e=>e▸congrArg Nat.succ (vP e2)
noncomputable def rd (ns:List Int):Nat:=(firstMet (λi=>ns.getD i 0) ns.length).length
def rH (a:a7):a7:=λU V=>(a U V).bind λv=>(jy v).bind λl=>(kn l).bind λns=>if l.length≤1000 then some (.int (rd ns)) else none
theorem o9 (he:∀env,starEach [e] env=[(false,eval e env)]):Plain [e]:=λenv pos=>by rw [he];rfl
theorem Ph {p1 p2 p3 pos:Pos}(hl:ev G "len" (.builtin "len"))(hs:ev G "set" (.type "set"))(ha:MP G Γ e a)(hkl:Γ.names.lookup ("len":Str)=some .globalImplicit:=by kernel_rfl)(hks:Γ.names.lookup ("set":Str)=some .globalImplicit:=by kernel_rfl)(he:∀env,starEach [e] env=[(false,eval e env)]:=by exact λ_=>rfl):MP G Γ (.Call (.Name "len" p1) [.Call (.Name "set" p2) [e] [] p3] [] pos) (rH a):=λU V v q A s env R J Q c hQ=>
 aw q λu e1 q=>aw q λl e2 q=>aw q λns e3 q=>cJ q λYp e4=>
 eX (ky hl hkl (by decide +kernel) _ _ _ rfl A s env R J _ c λr s0 k0 r0=>(show r=_ from r0)▸nN (λ_ _=>rfl) (List.cons_ne_nil _ _)
  (spliced_more (pos:=pos) (env:=env) (rest:=[]) (e:= .Call (.Name "set" p2) [e] [] p3) (eX (ky hs hks (by decide +kernel) _ _ _ rfl A s0 env R J _ (c.kp k0) λr s1 k1 r1=>(show r=_ from r1)▸nO (o9 he) (List.cons_ne_nil _ _)
   (spliced_more (pos:=p3) (env:=env) (rest:=[]) (e:=e) (ha _ _ _ e1 A s1 env R J _ ((c.kp k0).kp k1) λr s2 k2 r2=>spliced_none (br (show VRel G R J s2.heap (.lst l) r from mP e2▸r2) λla vs p _ h1 h2=>by
    subst p
    have hns:vs.toArray.size=ns.length:=h2.length.symm.trans (vP e3).symm
    refine call_set_list c.A.hd h1 (ns:=ns) (qX h2 e3) (dc (Nat.succ_le_succ (h2.length▸Yp)) (by decide)) λh' tk hset hold=>spliced_none ?_
    obtain ⟨o,es,ep,t,q1,q2,q3,q4,q5,q6,q7,q8⟩:=hset
    have hle:es.size≤100000:=ba (q8.symm▸hns▸firstMet_length_le _ _) (ba ((vP e3).symm▸Yp) (by decide))
    exact call_len_set q1 q2 q3 q7 (wO hle) (hQ _ _ ((((k0.trans k1).trans k2).trans (gP λc o e=>hold c o (Heap.lt_size e) e)).trans (Kp.tok _ _)) (e4▸(show es.size=rd ns by rw [q8,hns];rfl)▸ .i)))) (he env)))) rfl))
section
structure RawD (h:Heap) (d:Addr) (es:Array DictEntry) (ep:Nat):Prop where
 at_:∃o,h.get? d=some o∧o.ExactDict∧o.data= .dict es ep
theorem RawD.at' (x:RawD h d es ep)(e:∀o,h.get? d=some o→h'.get? d=some o):RawD h' d es ep:=
 let ⟨⟨o,ho,r⟩⟩:=x;⟨⟨o,e _ ho,r⟩⟩
theorem RawD.typeIs {s:Shared}(x:RawD s.heap d es ep):s.TypeIs (.ref d) "dict":=
 let ⟨⟨o,ho,hc,_⟩⟩:=x;⟨o,ho,hc.1⟩
section
variable {prog:Program} {w:World} {A:Around} {E:Value→Shared→Prop} {s:Shared} {it d:Addr} {es:Array DictEntry} {ep i:Nat}
theorem Da (hd:(d == sysModules)=false)(hm:RawD s.heap d es ep)
  (hQ:Q (.ref s.heap.objs.size) { s with heap:=s.heap.push { cls:= .type "dict_keyiterator",data:= .fields #[.ref d, .int 0 0, .int es.size 0, .int ep 0] } }):wpAny (model prog w) A (pyIter (.ref d)) Q E s:=by
 obtain ⟨⟨o,ho,hc,hdat⟩⟩:=id hm
 haveI hT:=hm.typeIs
 refine wpAny_pyIter_slot hT PySem.F.slot_dict_iter (wpAny_call_entry PySem.F.slot_dict_iter hT PySem.F.entry_dict_iter ?_ (PySem.F.args_dict_iter_1 _))
 unfold Builtin.«dict.__iter__»
 refine am ?_
 unfold Builtin.Dict.dictSlotNone
 refine am (wpAny_notOrdered_dict hT ?_)
 show wpAny _ _ (pure (Value.ref d)) _ _ s
 refine aC ?_
 show wpAny _ _ (Builtin.Dict.showsAll d >>= _) _ _ s
 unfold Builtin.Dict.showsAll
 rw [if_neg (by exact (hd)▸Bool.false_ne_true)]
 refine am (aC ?_)
 refine am (wpAny_dictEntries ho hdat ?_)
 refine am (wpAny_dictEpoch ho hdat ?_)
 refine am (wpAny_newObj_type (aC ⟨_,rfl,"dict_keyiterator",_,⟨_,bK _ rfl,rfl⟩,PySem.F.slot_dict_keyiterator_next.lookup,?_⟩))
 simpa [rawInt] using hQ
theorem Qo (hit:s.heap.IsKeyIter it d i es.size ep)(hm:RawD s.heap d es ep)(hx:es[i]? =some e)
  (hQ:∀h',h'.IsKeyIter it d (i+1) es.size ep→Heap.SameBut it s.heap h'→Q (some e.key) { s with heap:=h' }):wpAny (model prog w) A (pyNext (.ref it)) Q E s:=by
 refine dm (id hit) λo ho hc hd=> ?_
 obtain ⟨⟨od,hod,hcd,hdd⟩⟩:=id hm
 unfold pyNext
 refine am (wpAny_attempt (wpAny_callSpecial?_slot (name:=Str.ofString "__next__") hit.typeIs PySem.F.slot_dict_keyiterator_next
  (wpAny_call_entry PySem.F.slot_dict_keyiterator_next hit.typeIs PySem.F.entry_dict_keyiterator_next ?_ (PySem.F.args_dict_keyiterator_next_1 _))))
 refine am (aC (am (am ?_)))
 refine am (wpAny_typeNameOfWhole_keyiter hit.typeIs (aC ?_))
 refine am (wpAny_fieldsOf ho hd ?_)
 haveI hown:Builtin.Dict_items.ownsTuple "dict_keyiterator"=false:=by decide
 show wpAny _ _ (if (Value.ref d == Value.none)=true then _ else _) _ _ s
 refine am (aC (am (wpAny_dictEntries hod hdd ?_)))
 rw [if_neg (by simp)]
 refine am (aC (am (wpAny_dictEpoch hod hdd ?_)))
 rw [if_neg (by simp)]
 refine aC ?_
 dsimp only
 rw [if_neg (show ¬ ((i:Int)< 0) from by omega),Int.toNat_natCast,hx]
 refine am ?_
 refine am (wpAny_typeNameOfWhole_keyiter hit.typeIs (aC ?_))
 refine am (wpAny_isOneOf_keyiter hit.typeIs ?_)
 show wpAny _ _ (setField (.ref it) 1 (rawInt ((i:Int)+1)) >>= _) _ _ s
 refine am (wpAny_setField ho hd (by simp) ?_)
 haveI hit':(s.heap.update it (Obj.mapFields (·.setIfInBounds 1 (rawInt ((i:Int)+1))))).IsKeyIter it d (i+1) es.size ep:=
  ⟨_,Heap.get?_update_self _ ho (Obj.isFreed_of_fields (Obj.data_mapFields hd _)),(Obj.cls_mapFields ..).trans hc,by rw [Obj.data_mapFields hd];rfl⟩
 refine am (wpAny_holding ?_)
 refine am (wpAny_isOneOf_keyiter (s:={ s with heap:=s.heap.update it (Obj.mapFields (·.setIfInBounds 1 (rawInt ((i:Int)+1)))) }) hit'.typeIs ?_)
 exact aC (aC ⟨_,rfl,aC (hQ _ hit' (Heap.SameBut.update ..))⟩)
theorem R0 (hh:A.handled=none)(hit:s.heap.IsKeyIter it d i es.size ep)(hm:RawD s.heap d es ep)(hx:es.size≤i)
  (hQ:∀h',Heap.ExtBut it s.heap h'→Q none { s with heap:=h' }):wpAny (model prog w) A (pyNext (.ref it)) Q E s:=by
 refine dm (id hit) λo ho hc hd=> ?_
 obtain ⟨⟨od,hod,hcd,hdd⟩⟩:=id hm
 unfold pyNext
 refine am (wpAny_attempt (wpAny_callSpecial?_slot (name:=Str.ofString "__next__") hit.typeIs PySem.F.slot_dict_keyiterator_next
  (wpAny_call_entry PySem.F.slot_dict_keyiterator_next hit.typeIs PySem.F.entry_dict_keyiterator_next ?_ (PySem.F.args_dict_keyiterator_next_1 _))))
 refine am (aC (am (am ?_)))
 refine am (wpAny_typeNameOfWhole_keyiter hit.typeIs (aC ?_))
 refine am (wpAny_fieldsOf ho hd ?_)
 haveI hown:Builtin.Dict_items.ownsTuple "dict_keyiterator"=false:=by decide
 show wpAny _ _ (if (Value.ref d == Value.none)=true then _ else _) _ _ s
 refine am (aC (am (wpAny_dictEntries hod hdd ?_)))
 rw [if_neg (by simp)]
 refine am (aC (am (wpAny_dictEpoch hod hdd ?_)))
 rw [if_neg (by simp)]
 refine aC ?_
 dsimp only
 rw [if_neg (show ¬ ((i:Int)< 0) from by omega),Int.toNat_natCast,Array.getElem?_eq_none hx]
 refine am ?_
 refine am (wpAny_typeNameOfWhole_keyiter hit.typeIs (aC ?_))
 show wpAny _ _ (setField (.ref it) 0 .none >>= _) _ _ s
 refine am (wpAny_setField ho hd (by simp) ?_)
 show wpAny _ _ (newExc (.type "StopIteration") [] >>= _) _ _ _
 refine am ?_
 refine am (wpAny_newObj_type ?_ (by size_fits))
 refine am (m:=firstArgMember _ _) (wpAny_of_eq (a:=Value.none) (by first | rfl | (simp only [firstArgMember];rfl)) ?_)
 refine wpAny_newObj_type ?_ (by size_fits)
 dsimp only [raiseNew]
 refine am (wpAny_handled ?_)
 refine (show A.in1.handled=none from hh).symm▸ ?_
 refine am (aC (wpAny_throw ?_))
 refine am (wpAny_isInstance (T:="StopIteration") (b:=true) ⟨_,bK _ rfl,rfl⟩ isSubtype_stop ?_)
 exact aC (hQ _ (((Heap.SameBut.update ..).extBut.push _).push _))
theorem Walks.raw (hh:A.handled=none)(I d:Addr)(hne:d≠I)(es:Array DictEntry)(ep:Nat):
  Walks prog w A I [I,d] [I] es.size (λi v=> ∃e,es[i]? =some e∧v=e.key) (λi h=>h.IsKeyIter I d i es.size ep∧RawD h d es ep) where
 sub:=λb hb=>by simp at hb;simp [hb]
 frame:=λ_ _ _ st hk=>⟨st.1.at λo e=>hk I (bY) o e,st.2.at' λo e=>hk d (.tail _ (.head _)) o e⟩
 item:=λi s Q E hi st hQ=>by
  have hx:es[i]? =some es[i]:=by simp [hi]
  refine Qo st.1 st.2 hx λh' hit' hs'=> ?_
  exact hQ _ h' s.toks ⟨_,hx,rfl⟩ ⟨hit',st.2.at' λo e=>hs'.extBut d o hne e⟩ λb o hb e=>hs'.extBut b o (λh=>hb (by simp [h])) e
 done:=λs Q E st hQ=>R0 hh st.1 st.2 (Nat.le_refl _) λh' he'=>hQ h' s.toks λb o hb e=>he' b o (λh=>hb (by simp [h])) e
 self:=λ_ _ _ _ st hQ=>wpAny_pyIter_keyiter st.1 hQ
theorem DU (hd:(d == sysModules)=false):KdlSrc prog w "dict" d d es.size (λi v=> ∃e,es[i]? =some e∧v=e.key) (λh=>RawD h d es ep) where
 type:=λs ok=>ok.typeIs
 there:=λh ok=>by obtain ⟨⟨o,ho,_⟩⟩:=ok;exact ⟨Heap.lt_size ho,Heap.lt_size ho⟩
 keep:=λh h' ok k=>ok.at' λo e=>k d (.inl rfl) o e
 notList:=by decide
 notTuple:=by decide
 hint:=λA E s Q ok q=>kdl_hint_dict ok.typeIs q
 iter:=λA s hh ok=>by
  refine ⟨_,λi h=>h.IsKeyIter s.heap.objs.size d i es.size ep∧RawD h d es ep,λE Q q=>Da hd ok q,?_,?_⟩
  ·obtain ⟨⟨o,ho,_⟩⟩:=ok
   exact Walks.raw hh _ d (Nat.ne_of_lt (Heap.lt_size ho)) es ep
  ·exact ⟨⟨_,bK _ rfl,rfl,rfl⟩,ok.at' λo e=>cA _ e⟩
end
end
section
noncomputable def rU (x1 x2 y1 y2:Int):Bool:=if x1=y1 then decide (x2< y2) else decide (x1< y1)
noncomputable def pA (x1 x2 y1 y2:Int):Bool:=if x1=y1 then decide (x2≤y2) else decide (x1< y1)
section
variable {prog:Program} {w:World} {A:Around} {E:Value→Shared→Prop} {s:Shared} {a b:Addr} {x1 x2 y1 y2:Int} {t1 t2 u1 u2:Tok}
theorem Mq (hx:IsTup s.heap a #[.int x1 t1, .int x2 t2])(hy:IsTup s.heap b #[.int y1 u1, .int y2 u2])(h:P (.done (.ret (.bool (rU x1 x2 y1 y2)))) s):
  wpAny (model prog w) A (Builtin.«tuple.__lt__» ⟨[.ref a, .ref b],[]⟩) P E s:=by
 have hTb:=hy.typeIs
 show wpAny _ _ (isInstance (.ref b) (.type "tuple") >>= _) _ _ s
 refine am (wpAny_isInstance hTb isSubtype_tuple_tuple ?_)
 simp only [Bool.not_true,Bool.false_eq_true,if_false]
 refine am (tupleItemsOf_ hx ?_)
 refine am (tupleItemsOf_ hy ?_)
 refine am ?_
 show wpAny _ _ (forIn [((Value.int x1 t1),(Value.int y1 u1)),((Value.int x2 t2),(Value.int y2 u2))] _ _) _ _ s
 rw [List.forIn_cons]
 unfold rU at h
 by_cases h1:x1=y1
 ·rw [if_pos h1] at h
  refine am (am (wpAny_eqBool_int ?_))
  rw [show (x1 == y1)=true by simpa using h1]
  simp only [Bool.not_true,Bool.false_eq_true,if_false]
  refine aC ?_
  dsimp only
  rw [List.forIn_cons]
  by_cases h2:x2=y2
  ·refine am (am (wpAny_eqBool_int ?_))
   rw [show (x2 == y2)=true by simpa using h2]
   simp only [Bool.not_true,Bool.false_eq_true,if_false]
   refine aC ?_
   dsimp only
   rw [List.forIn_nil]
   refine aC ?_
   dsimp only
   show wpAny _ _ (ret (.bool false)) _ _ s
   have:decide (x2< y2)=false:=by simp [h2]
   rw [this] at h
   exact aC h
  ·refine am (am (wpAny_eqBool_int ?_))
   rw [show (x2 == y2)=false by simpa using h2]
   simp only [Bool.not_false,if_true]
   refine am (wpAny_rule (am ?_))
   refine lt_int ?_
   refine am (aC (aC ?_))
   dsimp only
   exact aC (aC h)
 ·rw [if_neg h1] at h
  refine am (am (wpAny_eqBool_int ?_))
  rw [show (x1 == y1)=false by simpa using h1]
  simp only [Bool.not_false,if_true]
  refine am (wpAny_rule (am ?_))
  refine lt_int ?_
  refine am (aC (aC ?_))
  dsimp only
  exact aC (aC h)
theorem R7 (hA:A.units< cLine)(hx:IsTup s.heap a #[.int x1 t1, .int x2 t2])(hy:IsTup s.heap b #[.int y1 u1, .int y2 u2])(h:Q (.bool (rU x1 x2 y1 y2)) s):
  wpAny (model prog w) A (richCompare .Lt (.ref a) (.ref b)) Q E s:=
 wpAny_richCompare_same_room (op:= .Lt) hx.typeIs hy.typeIs PySem.F.slot_tuple_lt
  (wpAny_call_entry PySem.F.slot_tuple_lt hx.typeIs PySem.F.entry_tuple_lt (Mq hx hy ⟨_,rfl,(λe=>nomatch e),h⟩) (PySem.F.args_tuple_lt_2 _ _)) hA
theorem Mr (hx:IsTup s.heap a #[.int x1 t1, .int x2 t2])(hy:IsTup s.heap b #[.int y1 u1, .int y2 u2])(h:P (.done (.ret (.bool (pA x1 x2 y1 y2)))) s):
  wpAny (model prog w) A (Builtin.«tuple.__le__» ⟨[.ref a, .ref b],[]⟩) P E s:=by
 have hTb:=hy.typeIs
 show wpAny _ _ (isInstance (.ref b) (.type "tuple") >>= _) _ _ s
 refine am (wpAny_isInstance hTb isSubtype_tuple_tuple ?_)
 simp only [Bool.not_true,Bool.false_eq_true,if_false]
 refine am (tupleItemsOf_ hx ?_)
 refine am (tupleItemsOf_ hy ?_)
 refine am ?_
 show wpAny _ _ (forIn [((Value.int x1 t1),(Value.int y1 u1)),((Value.int x2 t2),(Value.int y2 u2))] _ _) _ _ s
 rw [List.forIn_cons]
 unfold pA at h
 by_cases h1:x1=y1
 ·rw [if_pos h1] at h
  refine am (am (wpAny_eqBool_int ?_))
  rw [show (x1 == y1)=true by simpa using h1]
  simp only [Bool.not_true,Bool.false_eq_true,if_false]
  refine aC ?_
  dsimp only
  rw [List.forIn_cons]
  by_cases h2:x2=y2
  ·refine am (am (wpAny_eqBool_int ?_))
   rw [show (x2 == y2)=true by simpa using h2]
   simp only [Bool.not_true,Bool.false_eq_true,if_false]
   refine aC ?_
   dsimp only
   rw [List.forIn_nil]
   refine aC ?_
   dsimp only
   show wpAny _ _ (ret (.bool true)) _ _ s
   have:decide (x2≤y2)=true:=by simp [h2]
   rw [this] at h
   exact aC h
  ·refine am (am (wpAny_eqBool_int ?_))
   rw [show (x2 == y2)=false by simpa using h2]
   simp only [Bool.not_false,if_true]
   refine am (wpAny_rule (am ?_))
   refine le_int ?_
   refine am (aC (aC ?_))
   dsimp only
   exact aC (aC h)
 ·rw [if_neg h1] at h
  refine am (am (wpAny_eqBool_int ?_))
  rw [show (x1 == y1)=false by simpa using h1]
  simp only [Bool.not_false,if_true]
  refine am (wpAny_rule (am ?_))
  refine le_int ?_
  have h':decide (x1≤y1)=decide (x1< y1):=by simp;omega
  rw [h']
  refine am (aC (aC ?_))
  dsimp only
  exact aC (aC h)
theorem R8 (hA:A.units< cLine)(hx:IsTup s.heap a #[.int x1 t1, .int x2 t2])(hy:IsTup s.heap b #[.int y1 u1, .int y2 u2])(h:Q (.bool (pA x1 x2 y1 y2)) s):
  wpAny (model prog w) A (richCompare .LtE (.ref a) (.ref b)) Q E s:=
 wpAny_richCompare_same_room (op:= .LtE) hx.typeIs hy.typeIs PySem.F.slot_tuple_le
  (wpAny_call_entry PySem.F.slot_tuple_le hx.typeIs PySem.F.entry_tuple_le (Mr hx hy ⟨_,rfl,(λe=>nomatch e),h⟩) (PySem.F.args_tuple_le_2 _ _)) hA
end
end
section
noncomputable def kO (c:Nat→Nat→Bool):KasT α→α
 | .ret a=>a
 | .ask i j k=>kO c (k (c i j))
noncomputable def i6 (n:Nat)(f:α→Bool):KasT α→Bool
 | .ret a=>f a
 | .ask i j k=>decide (i< n) && decide (j< n) && i6 n f (k true) && i6 n f (k false)
theorem EO (hc:∀i j,i< n→j< n→∀C:Bool→Shared→Prop,C (c i j) s→cmp i j C s):
  ∀(t:KasT α),i6 n f t=true→Q (kO c t) s→t.kasWp cmp Q s
 | .ret a,_,h=>h
 | .ask i j k,ok,h=>by
  simp only [i6,Bool.and_eq_true,decide_eq_true_eq] at ok
  obtain ⟨⟨⟨h1,h2⟩,h3⟩,h4⟩:=ok
  refine hc i j h1 h2 _ ?_
  refine EO (f:=f) hc _ ?_ h
  cases c i j
  ·exact h4
  ·exact h3
theorem EP:∀(t:KasT α),i6 n f t=true→f (kO c t)=true
 | .ret a,h=>h
 | .ask i j k,ok=>by
  simp only [i6,Bool.and_eq_true,decide_eq_true_eq] at ok
  obtain ⟨⟨⟨h1,h2⟩,h3⟩,h4⟩:=ok
  show f (kO c (k (c i j)))=true
  refine EP (n:=n) _ ?_
  generalize c i j=z
  cases z
  ·exact h4
  ·exact h3
noncomputable def rI (n:Nat)(p:Array Nat):Bool:=p.toList.isPerm (List.range n)
theorem XO:i6 2 (rI 2) (kas_sort 2)=true:=by decide +kernel
theorem XQ:i6 3 (rI 3) (kas_sort 3)=true:=by decide +kernel
theorem XR:i6 4 (rI 4) (kas_sort 4)=true:=by decide +kernel
def lM (c:Nat→Nat→Bool)(n:Nat):List Nat:=if n< 2 then List.range n else (kO c (kas_sort n)).toList
theorem EQ (h2: ¬ n< 2)(h4:n≤4):i6 n (rI n) (kas_sort n)=true:=by
 match n,h2,h4 with
 | 0,h,_=>exact absurd (by decide) h
 | 1,h,_=>exact absurd (by decide) h
 | 2,_,_=>exact XO
 | 3,_,_=>exact XQ
 | 4,_,_=>exact XR
 | n+5,_,h=>omega
theorem vu (h4:n≤4):(lM c n).Perm (List.range n):=by
 unfold lM
 split
 ·exact List.Perm.refl _
 ·rename_i h2
  exact List.isPerm_iff.mp (EP (c:=c) _ (EQ h2 h4))
section
variable {prog:Program} {w:World} {A:Around} {E:Value→Shared→Prop} {s:Shared} {a:Addr} {vs:List Value} {n:Nat}
theorem Pi (c:Nat→Nat→Bool)(ho:s.heap.get? a=some (seqObj "list" vs.toArray n))(h4:vs.length≤4)
  (hk:∀s':Shared,(∀b o,b≠a→s.heap.get? b=some o→s'.heap.get? b=some o)→2≤vs.length→
   ∃κ,(∀Q:SortKind→Shared→Prop,Q κ s'→wpAny (model prog w) A (keyKind' vs.toArray) Q (λ_ _=>False) s')∧∀i j,i< vs.length→j< vs.length→∀C:Bool→Shared→Prop,C (c i j) s'→kas_ask prog w A κ vs i j C s')
  (h:∀h' c',(∀b o,b≠a→s.heap.get? b=some o→h'.get? b=some o)→h'.get? a=some (seqObj "list" ((lM c vs.length).map λi=>vs.getD i Value.none).toArray c')→P (.done (.ret .none)) { s with heap:=h' }):
  wpAny (model prog w) A (Builtin.«list.sort» ⟨[.ref a],[]⟩) P E s:=by
 haveI ha:a< s.heap.objs.size:=Heap.lt_size ho
 obtain ⟨e1,ho1⟩:∃e1,(s.heap.update a (Obj.mapSeq λ_=>(#[]:Array Value))).get? a=some (seqObj "list" #[] e1):=⟨_,get?_update_seq ho λ_=> #[]⟩
 rw [list_sort_plain]
 refine am (listItems_at ho rfl ?_)
 refine am (listUpdate_at ho rfl ?_ (by rw [List.size_toArray,sizeLine_eq];omega) (Nat.zero_le _))
 refine am (seqEpoch_at ho1 rfl ?_)
 refine am (wpAny_newTuple ?_ (by show vs.length≤_;rw [sizeLine_eq];omega))
 refine am (wpAny_newList ?_ (Nat.zero_le _))
 refine wpAny_holding ?_
 haveI keep:∀b o,b≠a→s.heap.get? b=some o→(((s.heap.update a (Obj.mapSeq λ_=>(#[]:Array Value))).push (seqObj "tuple" vs.toArray 0)).push (seqObj "list" #[] 0)).get? b=some o:=λb o hb e=>
  cA _ (cA _ ((Heap.get?_update_other _ _ (Ne.symm hb)).trans e))
 haveI ho3:(((s.heap.update a (Obj.mapSeq λ_=>(#[]:Array Value))).push (seqObj "tuple" vs.toArray 0)).push (seqObj "list" #[] 0)).get? a=some (seqObj "list" #[] e1):=cA _ (cA _ ho1)
 show wpAny (model prog w) A _ P E { s with heap:=((s.heap.update a (Obj.mapSeq λ_=>(#[]:Array Value))).push (seqObj "tuple" vs.toArray 0)).push (seqObj "list" #[] 0) }
 generalize hh3:((s.heap.update a (Obj.mapSeq λ_=>(#[]:Array Value))).push (seqObj "tuple" vs.toArray 0)).push (seqObj "list" #[] 0)=h3 at keep ho3 ⊢
 have fin:∀st':SortSt,(arrOf st').map (·.2)=((lM c vs.length).map λi=>vs.getD i Value.none).toArray→failedOf st'=none→wpAny (model prog w) A (do
   let sorted:=(arrOf st').map (·.2)
   let touched:=(← seqEpoch a) != e1
   Builtin.List.listUpdate (.ref a) λ_=>sorted
   if let some e:=failedOf st' then rule "list.sort.comparison-raised";throw e
   if touched then rule "list.sort.modified";raiseError "ValueError" "list modified during sort"
   ret .none) P E { s with heap:=h3 }:=λst' hout hf=>by
  refine am (seqEpoch_at ho3 rfl ?_)
  have hsz:((arrOf st').map (·.2)).size≤4:=by
   rw [hout,List.size_toArray,List.length_map,(vu h4).length_eq,List.length_range];exact h4
  refine am (listUpdate_at ho3 rfl ?_ (Nat.zero_le _) (ba hsz (by rw [sizeLine_eq];omega)))
  refine (hf)▸ ?_
  simp only [bne_self_eq_false,Bool.false_eq_true,if_false]
  obtain ⟨c2,hc2⟩:∃c2,(h3.update a (Obj.mapSeq λ_=>(arrOf st').map (·.2))).get? a=some (seqObj "list" ((arrOf st').map (·.2)) c2):=⟨_,get?_update_seq ho3 λ_=>(arrOf st').map (·.2)⟩
  refine aC (h _ c2 (λb o hb e=>(Heap.get?_update_other _ _ (Ne.symm hb)).trans (keep b o hb e)) ?_)
  exact (hout)▸hc2
 by_cases h2:vs.toArray.size< 2
 ·rw [if_pos h2,if_pos h2]
  refine am (aC ?_)
  dsimp only
  refine am (aC ?_)
  refine fin _ ?_ rfl
  rw [List.size_toArray] at h2
  unfold lM
  rw [if_pos h2]
  show (vs.toArray.zip vs.toArray).map (·.2)=_
  match vs,h2 with
  | [],_=>simp
  | [v],_=>simp [List.range_succ]
  | _::_::_,h=>simp at h;omega
 ·rw [if_neg h2,if_neg h2]
  rw [List.size_toArray] at h2
  obtain ⟨κ,hκ,hcmp⟩:=hk { s with heap:=h3 } keep (by exact Nat.le_of_not_lt (by assumption))
  refine am (bN (hκ (λk s'=>k=κ∧s'= { s with heap:=h3 }) ⟨rfl,rfl⟩) (λk s' hk'=> ?_) λ_ _ x=>x.elim)
  obtain ⟨rfl,rfl⟩:=hk'
  haveI hrun:=EO (Q:=λp s'=>s'=({ s with heap:=h3 }:Shared)∧p=kO c (kas_sort vs.length)) hcmp _ (EQ h2 h4) ⟨rfl,rfl⟩
  refine am (bN (kat_run (E:=E) (Q:=λst' s'=>s'=({ s with heap:=h3 }:Shared)∧(arrOf st')=(kO c (kas_sort vs.length)).map (kas_item (vs.toArray.zip vs.toArray))∧failedOf st'=none) (G:=λp s'=>s'=({ s with heap:=h3 }:Shared)∧p=kO c (kas_sort vs.length)) rfl (by exact Nat.le_of_not_lt (by assumption)) (by omega)
   (λp' st' s' a1 a2 a3 a4=>⟨a4.1,by exact (a4.2)▸a2,a3⟩) hrun) ?_ λ_ _ e=>e)
  rintro ⟨⟨⟩,st'⟩ s' ⟨rfl,har,hf⟩
  refine fin st' ?_ hf
  rw [kat_snds rfl har]
  unfold lM
  rw [if_neg h2]
theorem NV (K:KdlSrc prog w T r d m P OK)(hh:A.handled=none)(hok:OK s.heap)(hn:m≤4)
  (h:∀(h1:Heap) (tk:Nat) (vs:List Value),(∀b o,s.heap.get? b=some o→h1.get? b=some o)→vs.length=m→(∀j v,vs[j]? =some v→P j v)→h1.get? (h1.objs.size - 1)=some (seqObj "list" vs.toArray 0)→s.heap.get? (h1.objs.size - 1)=none→
   wpAny (model prog w) A.in1.in1 (Builtin.«list.sort» ⟨[.ref (h1.objs.size - 1)],[]⟩) (λfin s'=>fin= .done (.ret .none)∧Q (.ref (h1.objs.size - 1)) s') E { s with heap:=h1,toks:=tk }):
  wpAny (model prog w) A (call (.builtin "sorted") [.ref r]) Q E s:=by
 refine Calls.call_function_entry kind_sorted plain_sorted entry_sorted (args_sorted1 _) ?_
 unfold Builtin.«sorted»
 refine am (m:=checkCount "sorted" 1 1 _) (aC ?_)
 refine am (kdu_collect (A:=A.in1) K hh hok (by rw [sizeLine_eq];omega) λh' tk acc hk hacc=> ?_)
 have hl:acc.toList.length=m:=by exact (Array.length_toList).trans (hacc.1)
 refine am (wpAny_newList ?_ (by rw [hl,sizeLine_eq];omega))
 have hsz:(h'.push (seqObj "list" acc.toList.toArray 0)).objs.size - 1=h'.objs.size:=by rw [size_push'];rfl
 haveI hg:=h (h'.push (seqObj "list" acc.toList.toArray 0)) tk acc.toList (λb o e=>cA _ (hk b o e)) hl (λj v e=>hacc.2 j v (by exact (Array.getElem?_toList).symm.trans (e)))
  (by exact (hsz)▸bK _ rfl) (by
   refine (hsz)▸ ?_
   cases z:s.heap.get? h'.objs.size with
   | none=>rfl
   | some o=>exact absurd (Heap.lt_size (hk _ _ z)) (Nat.lt_irrefl _))
 rw [hsz] at hg
 show wpAny _ _ _ _ _ { s with heap:=h'.push (seqObj "list" acc.toList.toArray 0),toks:=tk }
 refine am (wpAny_holding (wpAny_call_entry slot_list_sort ⟨_,bK _ rfl,rfl⟩ entry_list_sort ?_ (args_list_sort _)))
 refine bN hg (λfin s' x=> ?_) λ_ _ e=>e
 obtain ⟨rfl,hq⟩:=x
 exact ⟨_,rfl,aC ⟨_,rfl,hq⟩⟩
end
end
section
def n5 (x y:GK):Bool:=
 if x.k=y.k then (if x.s1=y.s1∧x.s2=y.s2 then (if x.pk=y.pk then (if x.n=y.n then false else decide (x.n< y.n)) else decide (x.pk< y.pk)) else rU x.s1 x.s2 y.s1 y.s2) else decide (x.k< y.k)
theorem rV:(intKind G.prog G.w).is i (.int i t)=true:=beq_self_eq_true i
theorem V7 (hA:A.units+10< cLine)(hx:VRel G R J s.heap (aX x) (.ref a))(hy:VRel G R J s.heap (aX y) (.ref b))(h:Q (n5 x y) s):
  wpAny (model G.prog G.w) A (keyLt' (tuples' true) (.ref a) (.ref b)) Q E s:=by
 refine lG (jm hx) λc1 t1 t2 t3 t4 t5 h1 h2=>lG (jm hy) λc2 u1 u2 u3 u4 u5 h1' h2'=> ?_
 obtain ⟨o,ho,hoc,n,hod⟩:=h1
 obtain ⟨o',ho',hoc',n',hod'⟩:=h1'
 refine kat_lt ho hod ho' hod' (kat_cons (wpAny_eqBool_int ?_))
 unfold n5 at h
 by_cases e1:x.k=y.k
 ·rw [if_pos e1] at h
  rw [beq_iff_eq.mpr e1]
  refine kat_yes (kat_cons ?_)
  have hpair:∀Q':Bool→Shared→Prop,Q' (decide ([x.s1,x.s2]=[y.s1,y.s2])) s→wpAny (model G.prog G.w) A (eqBool (.ref c1) (.ref c2)) Q' (λ_ _=>False) s:=λQ' q=>by
   obtain ⟨p,hp,hpc,m,hpd⟩:=h2
   obtain ⟨p',hp',hpc',m',hpd'⟩:=h2'
   exact PySem.wpAny_eqBool_tuple (knd:=intKind G.prog G.w) (dc (Nat.le_add_right _ _) hA) ⟨p,_,m,hp,hpc,hpd, .cons rV (.cons rV .nil)⟩ ⟨p',_,m',hp',hpc',hpd', .cons rV (.cons rV .nil)⟩ q
  refine hpair _ ?_
  by_cases e2:x.s1=y.s1∧x.s2=y.s2
  ·rw [if_pos e2] at h
   rw [decide_eq_true (show [x.s1,x.s2]=[y.s1,y.s2] by rw [e2.1,e2.2])]
   refine kat_yes (kat_cons (wpAny_eqBool_int ?_))
   by_cases e3:x.pk=y.pk
   ·rw [if_pos e3] at h
    rw [beq_iff_eq.mpr e3]
    refine kat_yes (kat_cons (wpAny_eqBool_int ?_))
    by_cases e4:x.n=y.n
    ·rw [if_pos e4] at h
     rw [beq_iff_eq.mpr e4]
     exact kat_yes (kat_nil h)
    ·rw [if_neg e4] at h
     rw [beq_eq_false_iff_ne.mpr e4]
     exact kat_no (kat_one _ _ (lt_int h))
   ·rw [if_neg e3] at h
    rw [beq_eq_false_iff_ne.mpr e3]
    exact kat_no (kat_one _ _ (lt_int h))
  ·rw [if_neg e2] at h
   rw [decide_eq_false (show ¬ [x.s1,x.s2]=[y.s1,y.s2] from λz=>jk z λz1 z=>jk z λz2 _=>e2 ⟨z1,z2⟩)]
   exact kat_no (kat_one _ _ (R7 (dc (Nat.le_add_right _ _) hA) h2 h2' h))
 ·rw [if_neg e1] at h
  rw [beq_eq_false_iff_ne.mpr e1]
  exact kat_no (oneLt_int h)
noncomputable def gp {α:Type}[Inhabited α](lt:α→α→Bool)(ks:List α):List α:=(lM (λi j=>lt (ks.getD i default) (ks.getD j default)) ks.length).map λi=>ks.getD i default
def XS (o:AO):Option AV:=match o with
 | .idict es=>if es.length≤4 then some (.lst ((gp (λi j=>decide (i< j)) (es.map (·.1))).map AV.int)) else none
 | .gdict es=>if es.length≤4 then some (.lst ((gp n5 (es.map (·.1))).map aX)) else none
 | _=>none
def iT:bP:=λavs V=>(a1 avs).bind λx=>(jz x).bind λk=>(V[k]?).bind XS
def yf:bP:=λavs V=>(a1 avs).bind λx=>(jz x).bind λk=>(V[k]?).bind λo=>(gO o).bind λes=>if es.length≤1000 then some (.lst (es.map λp=>aX p.1)) else none
section
variable {R:List Addr} {J:aG} {h:Heap} {α:Type} {enc:α→AV}
theorem wp:∀{ks:List α} {vs:List Value},vs.length=ks.length→(∀(i:Nat) (x:Value),vs[i]? =some x→∃k,ks[i]? =some k∧VRel G R J h (enc k) x)→VRels G R J h (ks.map enc) vs
 | [],_,e,_=>List.length_eq_zero_iff.mp e
 | k::ks,vs,e,f=>by
  cases vs with
  | nil=>exact absurd e.symm (Nat.succ_ne_zero _)
  | cons v vs=>exact aW (f 0 v rfl) λk' e1 e2=> .cons (aD e1▸e2) (wp (Nat.succ.inj e) λi x q=>f (i+1) x q)
theorem VRels.getD:∀{ks:List α} {vs:List Value} {i:Nat},VRels G R J h (ks.map enc) vs→i< ks.length→VRel G R J h (enc (ks.getD i d)) (vs.getD i w)
 | [],_,_,_,l=>absurd l (Nat.not_lt_zero _)
 | k::ks,vs,i,e,l=>aS e λv r p q q'=>by
  subst p
  cases i with
  | zero=>exact q
  | succ i=>exact VRels.getD (ks:=ks) (i:=i) q' (Nat.lt_of_succ_lt_succ l)
theorem Cw:∀{l:List Nat},(∀i∈l,VRel G R J h (f i) (g i))→VRels G R J h (l.map f) (l.map g)
 | [],_=> .nil
 | i::r,e=> .cons (e i (.head _)) (Cw λj hj=>e j (.tail _ hj))
theorem DV:∀{es:List (Int × AV)} {kvs:List (Int × Value)} {i:Nat} {k:Int} {x:Value},DRel G R J h es kvs→kvs[i]? =some (k,x)→(es.map (·.1))[i]? =some k
 | [],kvs,i,k,x,e,q=>au ((show kvs=[] from e)▸q)
 | (k,_)::r,kvs,0,k',x,e,q=>aS e λv es' p _ _=>by subst p;exact congrArg some (bT (aD q)).1
 | (k,_)::r,kvs,i+1,k',x,e,q=>aS e λv es' p _ e2=>by subst p;exact DV (i:=i) (x:=x) e2 q
theorem rJ:∀{es:List (GK × AV)} {xs:List (GK × Addr × Value)} {i:Nat} {x:GK × Addr × Value},GRel G R J h es xs→xs[i]? =some x→∃k,(es.map (·.1))[i]? =some k∧VRel G R J h (aX k) (.ref x.2.1)
 | [],xs,i,x,e,q=>au ((show xs=[] from e)▸q)
 | (k,y)::r,xs,0,x,e,q=>eO e λa v xs' p e1 _ _=>by subst p;exact ⟨k,rfl,aD q▸e1⟩
 | (k,y)::r,xs,i+1,x,e,q=>eO e λa v xs' p _ _ e3=>by subst p;exact rJ (i:=i) e3 q
end
theorem Pj {v:Value}(h:v.isInt k=true):∃t,v= .int k t:=by
 cases v <;> first | exact Bool.noConfusion h | exact ⟨_,congrArg (Value.int · _) (eq_of_beq h)⟩
theorem R9 {h1 h':Heap}(h1k:∀b o,s.heap.get? b=some o→h1.get? b=some o)(hD:s.heap.get? D=none)(hk:∀b o,b≠D→h1.get? b=some o→h'.get? b=some o):Kp s { s with heap:=h',toks:=tk }:=
 gP λc o e=>hk c o (λz=>bL hD (z▸e)) (h1k c o e)
theorem BG {α:Type}[Inhabited α]{enc:α→AV}{lt:α→α→Bool}{ks:List α}{T:String}{r d:Addr}{P:Nat→Value→Prop}{OK:Heap→Prop}{A:Around}{s:Shared}{R:List Addr}{J:aG}{Q:Value→Shared→Prop}{E:Value→Shared→Prop}{n:Nat}(K:KdlSrc G.prog G.w T r d n P OK)(hn:n=ks.length)(h4:ks.length≤4)
  (hh:A.handled=none)(hok:OK s.heap)(S:RL R s.heap)(hP:∀i v,P i v→∃k,ks[i]? =some k∧VRel G R J s.heap (enc k) v)
  (cmp:∀(s':Shared) (vs:List Value),VRels G R J s'.heap (ks.map enc) vs→2≤vs.length→∃κ,(∀Q:SortKind→Shared→Prop,Q κ s'→wpAny (model G.prog G.w) A.in1.in1 (keyKind' vs.toArray) Q (λ_ _=>False) s')∧∀i j,i< ks.length→j< ks.length→∀C:Bool→Shared→Prop,C (lt (ks.getD i default) (ks.getD j default)) s'→kas_ask G.prog G.w A.in1.in1 κ vs i j C s')
  (hQ:∀r s',Kp s s'→VRel G R J s'.heap (.lst ((gp lt ks).map enc)) r→Q r s'):wpAny (model G.prog G.w) A (call (.builtin "sorted") [.ref r]) Q E s:=
 NV K hh hok (hn▸h4) λh1 tk vs hkeep hvl hPi hD hfresh=>
  have hv:VRels G R J s.heap (ks.map enc) vs:=wp (hvl.trans hn) λi x q=>hP i x (hPi i x q)
  have hl:vs.length=ks.length:=hvl.trans hn
  have kb:∀{h':Heap},(∀b o,b≠h1.objs.size - 1→h1.get? b=some o→h'.get? b=some o)→KB [] s.heap h':=λhs' b o _ e=>hs' b o (λz=>bL hfresh (z▸e)) (hkeep b o e)
  Pi (s:={ s with heap:=h1,toks:=tk }) (λi j=>lt (ks.getD i default) (ks.getD j default)) hD (hl▸h4) (λs' hs' h2'=>(cmp s' vs (hv.keep (kb hs')) h2').imp λκ q=>⟨q.1,λi j hi hj=>q.2 i j (hl▸hi) (hl▸hj)⟩) λh' c' hs' hfin=>
   ⟨rfl,hQ _ _ (R9 hkeep hfresh hs') (by
    rw [gp,List.map_map]
    rw [← hl]
    exact .lst (S.fresh hfresh) (ji hfin) (Cw λi hi=>(hv.keep (kb hs')).getD (hl▸cI ((vu (hl▸h4)).mem_iff.mp hi))))⟩
theorem BH:∀{ks:List Int},kn (ks.map AV.int)=some ks
 | []=>rfl
 | k::ks=>by rw [List.map_cons,kn,BH];rfl
theorem DW:∀{ks:List GK} {vs:List Value},VRels G R J h (ks.map aX) vs→∃fs:List Value,KatTups h vs fs∧fs.length=vs.length∧∀f∈fs,∃i t,f= .int i t
 | [],vs,e=>(show vs=[] from e)▸⟨[],KatTups.nil,rfl,λ_ m=>absurd m bq⟩
 | k::ks,vs,e=>aS e λv r p q1 q2=>dm (DW q2) λfs h1 h2 h3=>Exists.elim q1 λa q=>by
  obtain ⟨c1,t1,t2,t3,t4,t5,⟨o,ho,hoc,n,hod⟩,_⟩:=jm (q.elim λ_ q=>q.1▸q1:VRel G R J h (aX k) (.ref a))
  obtain ⟨_,rfl,_⟩:=q
  exact p▸⟨.int k.k t1::fs,KatTups.cons ho hoc hod rfl h1,congrArg Nat.succ h2,λf hf=>(aU hf).elim (λz=>⟨_,_,z⟩) (h3 f)⟩
theorem ry:jG G (.builtin "sorted") iT:=⟨.inl ⟨_,rfl⟩,λavs V v e A s R J vals Q hA S hv hQ=>aw e λx e1 e=>aw e λk e2 e=>aw e λao hk e=>aW (jj hv e1) λu p r=>aW (show VRel G R J s.heap (.ref k) u from jh e2▸r) λl hl p'=>by
 subst p;subst p'
 have lo:=S.nomod (S.sub l.a (dS hl (.head _)))
 have hO:=S.objs _ _ _ hk hl
 cases ao <;> first | exact au e | skip
 ·exact cJ e λh4 e=>dm hO λxs h1 h2 hr=>by
   obtain ⟨o,dd,ep,ho,hex,hda,hen,his,hnd⟩:=h2
   refine BG (enc:=aX) (lt:=n5) (DU lo) ((size_of_entries hen).trans (hr.len.trans (List.length_map _).symm)) ((List.length_map _).symm▸h4) hA.hd ⟨⟨o,ho,hex,hda⟩⟩ S.live (λi v q=> ?_) (λs' vs hv h2=>⟨tuples' true,λQ q=> ?_,λi j hi hj C hC=> ?_⟩) (e▸hQ)
   ·obtain ⟨en,hen',rfl⟩:=q
    rw [entry_at hen] at hen'
    exact cr hen' λx hx1 hx2=>hx2▸rJ hr hx1
   ·exact dm (DW hv) λfs f1 f2 f3=>kat_kind (T:= .type "int") f1 (f2▸Nat.lt_of_lt_of_le Nat.zero_lt_two h2) (λv hv=>(f3 v hv).elim λi q=>q.elim λt q=>q▸Looks.now) (by decide) q
   ·unfold kas_ask
    have ri:=hv.getD (d:=default) (w:=Value.none) hi
    have rj:=hv.getD (d:=default) (w:=Value.none) hj
    exact Exists.elim ri λa q=>q.elim λ_ q=>Exists.elim rj λb q'=>q'.elim λ_ q'=>by
     rw [q.1] at ri ⊢;rw [q'.1] at rj ⊢
     exact V7 (dc (show A.units+1+1+10≤A.units+80 from Nat.add_le_add_left (by decide:12≤80) _) hA.u) ri rj hC
 ·exact cJ e λh4 e=>br hO λob kvs h1 h2 h3 hr=>(Heap.dictOf_iff.mpr ⟨ob,h2,h3⟩:s.heap.DictOf (intKind G.prog G.w) l.a kvs).dictAt.elim λep hat=>by
   refine BG (enc:=AV.int) (lt:=λi j=>decide (i< j)) (kdl_dict lo) (hr.len.trans (List.length_map _).symm) ((List.length_map _).symm▸h4) hA.hd hat S.live (λi v q=> ?_) (λs' vs hv h2=>⟨oneType',λQ q=> ?_,λi j hi hj C hC=> ?_⟩) (e▸hQ)
   ·exact cU q λk x q1 q2=>(Pj q2).elim λt w=>⟨k,DV hr q1,w▸ .i⟩
   ·rw [ksk_kind (keys:=vs.toArray) (qX hv BH) h2];exact aC q
   ·unfold kas_ask
    exact Exists.elim (hv.getD (d:=default) (w:=Value.none) hi) λt q=>Exists.elim (hv.getD (d:=default) (w:=Value.none) hj) λt' q'=>q▸q'▸kat_lt_int hC⟩
theorem T4:jG G (.type "list") yf:=⟨.inr ⟨_,rfl⟩,λavs V v e A s R J vals Q hA S hv hQ=>aw e λx e1 e=>aw e λk e2 e=>aw e λao hk e=>aw e λes e3 e=>cJ e λh4 e=>aW (jj hv e1) λu p r=>aW (show VRel G R J s.heap (.ref k) u from jh e2▸r) λl hl p'=>
 dm (show OA G R J s.heap l (.gdict es) from rQ e3▸S.objs _ _ _ hk hl) λxs h1 h2 hr=>by
  subst p;subst p'
  obtain ⟨o,dd,ep,ho,hex,hda,hen,his,hnd⟩:=h2
  have Yp:dd.size=es.length:=(size_of_entries hen).trans hr.len
  refine kdl_call (DU (S.nomod (S.sub l.a (dS hl (.head _))))) hA.hd ⟨⟨o,ho,hex,hda⟩⟩ (Yp▸fB (ba h4 (by decide))) λh' tk acc c' hkeep hD hit=>hQ _ _ (gP hkeep) (e▸ .lst (vs:=acc.toList) S.live.size ⟨_,hD,rfl,c',Array.toArray_toList.symm▸rfl⟩ ?_)
  have kb:KB [] s.heap h':=λb o _ e=>hkeep b o e
  rw [show (λ(p:GK × AV)=>aX p.1)=aX ∘ (·.1) from rfl,← List.map_map]
  refine wp (by rw [Array.length_toList,hit.1,Yp,List.length_map]) λi x q=> ?_
  obtain ⟨en,hen',hek⟩:=hit.2 i x (Array.getElem?_toList▸q)
  rw [entry_at hen] at hen'
  exact cr hen' λy hx1 hx2=>(rJ hr hx1).imp λk z=>⟨z.1,hek▸hx2▸z.2.keep kb⟩⟩
end
noncomputable def oq:AO→String
 | .inst _ _=>""
 | .list _=>"list"
 | .gdict _=>"dict"
 | .idict _=>"dict"
abbrev qi:=Nat→Nat→List AV→ar→Option (AV × ar)
noncomputable def tL (G:Gd)(id:String)(F:qi):Prop:=
 ∀(mu:Md) (Γ:FI) k vs V v σ',F mu.n0 k vs V=some (v,σ')→∀(A:Around) (s:Shared) (env:Env) (R:List Addr) (J:aG) (U:Lo) (l:Loc) (vals:List Value) (Q:Value→Shared→Prop),Cx G Γ A s env R J U V→J[k]? =some l→VRels G R J s.heap vs vals→
  (∀r s' R' J',Go (bs G mu J) s s' R J R' J'→Cx G Γ A s' env R' J' U σ'→VRel G R' J' s'.heap v r→Q r s')→wpAny (model G.prog G.w) A (call (.builtin id) (.ref l.a::vals)) Q aI s
theorem DX:∀{o:AO},OA G R J h l o→oq o≠""→∃ob,h.get? l.a=some ob∧ob.cls= .type (oq o)∧ob.dict=none
 | .inst _ _,_,hn=>absurd rfl hn
 | .list _,e,_=>aS e λ_ _ _ h _=>⟨_,h,rfl,rfl⟩
 | .gdict _,e,_=>dm e λ_ _ h _=>h.elim λo q=>q.elim λ_ q=>q.elim λ_ q=>⟨o,q.1,q.2.1.1,q.2.1.2.1⟩
 | .idict _,e,_=>br e λo _ _ h q _=>q.elim λ_ q=>q.elim λ_ q=>⟨o,h,q.1.1,q.1.2.1⟩
def hZ (T:String)(n0:Nat)(F:qi)(o:a7)(as:gA):bZ:=λU V=>(o U V).bind λv=>(jz v).bind λk=>(V[k]?).bind λao=>if oq ao=T then (as U V).bind λp=>F n0 k p.1 p.2 else none
theorem rz {id:String}{ap pos:Pos}(pa:PlainAttrs T)(slot:Slot T name id)(hty:typeOf (.builtin id)=pure (.type "method_descriptor"))(hF:tL G id F)(ho:MP G Γ o a)(ha:hV G mu Γ es as)(hT:T≠"":=by exact fG (by kernel_rfl))(hne:es≠ []:=by exact List.cons_ne_nil _ _)(he:∀env,∃pl:Sem Bool,eval (.Call (.Attribute o name ap) es [] pos) env=(do let ov ← eval o env;standAt ap.atName;let (f,first) ← holding [ov] (getMethod ov name pl);callWith pos f first (backTo pos (starEach es env)) []):=by exact λ_=>⟨_,rfl⟩):
  MX G mu Γ (.Call (.Attribute o name ap) es [] pos) (hZ T mu.n0 F a as):=λU V v σ' q A s env R J Q c hQ=>
 aw q λu e1 q1=>aw q1 λk e0 q2=>aw q2 λao e2 q3=>fH q3 λhty' q4=>aw q4 λp e3 q5=>(he env).elim λpl he=>
 MethodCall_ (ho _ _ _ e1 A s env R J _ c λr s1 k1 r1=>aW (show VRel G R J s1.heap (.ref k) r from jh e0▸r1) λl hl p=>by
  subst p;subst hty'
  exact dm (DX ((c.kp k1).S.objs _ _ _ e2 hl) hT) λob h1 h2 h3=>getMethod_builtin (T:=oq ao) ⟨ob,h1,h2⟩ pa slot hty (λa ea=>lJ ea▸⟨ob,h1,h3⟩)
   (nN ha.1 hne (ha.2 _ _ _ _ e3 A s1 env R J _ pos (c.kp k1) λrs s2 R2 J2 g2 c2 r2=>
    hF mu Γ k _ _ _ _ q5 A s2 env R2 J2 U l rs Q c2 (g2.jp _ _ hl) r2 λr s3 R3 J3 g3 c3 r3=>hQ r s3 R3 J3 (((Go.of_kp k1).seqX g2).seqX g3) c3 r3))) he
def n7:qi:=λn0 k vs V=>(a1 vs).bind λv=>(V[k]?).bind λo=>(x7 o).bind λxs=>if n0≤k∧xs.length< 10000 then some (.none,V.set k (.list (xs ++ [v]))) else none
theorem nQ {k:Nat}(c:Cx G Γ A s env R J U V)(hl:J[k]? =some l):∀a∈ [l.a],a∈R:=λa m=>aH m▸c.S.sub _ (dS hl (.head _))
theorem ER:tL G "list.append" n7:=λmu Γ k vs V v σ' q A s env R J U l vals Q c hl hv hQ=>
 aw q λx e1 q=>aw q λo hk q=>aw q λxs e2 q=>cJ q λhh q=>aW (jj hv e1) λval p hr=>aS (show OA G R J s.heap l (.list xs) from Cn e2▸c.S.objs _ _ _ hk hl) λus n h1 h2 h3=>
 p▸wpAny_list_append_plain (items:=us.toArray) ⟨n,h2⟩ (λh' hp hsb=>hp.elim λn' hp=>
  (vO (mu:=mu) (tk:=s.toks) (o':= .list (xs ++ [x])) c hh.1 hl hsb λkb=>⟨us ++ [val],n',h1,hp.trans (by rw [List.push_toArray]),(h3.kb kb (nQ c hl)).append (.one (hr.kb kb (nQ c hl)))⟩).elim λg c'=>
   hQ _ _ R J g ((bT q).2▸c') ((bT q).1▸ .n)) (fB (show us.length≤10000 from h3.length▸Nat.le_of_lt hh.2))
def pY:qi:=λn0 k vs V=>(a1 vs).bind λy=>(V[k]?).bind λo=>(gO o).bind λes=>(jA y).map λgk=>((b7 es gk).getD .none,V)
theorem sL (a:AOk d A):(dL G).room A.in1:=pM a.u
theorem SameAt.getD {f:α→Value}{p:Option α}(e:SameAt G R J h f x p):VRel G R J h (x.getD .none) ((p.map f).getD .none):=by
 cases x <;> cases p <;> first | exact e.elim | exact e | rfl
theorem T5:tL G "dict.get" pY:=λmu Γ k vs V v σ' q A s env R J U l vals Q c hl hv hQ=>
 aw q λy e1 q=>aw q λo hk q=>aw q λes e2 q=>cr q λgk e3 q=>aW (jj hv e1) λval p hr=>dm (nj hr e3) λa p' hkey _=>dm (show OA G R J s.heap l (.gdict es) from rQ e2▸c.S.objs _ _ _ hk hl) λxs h1 h2 h3=>by
  subst p';subst p
  refine call_meetsIn PySem.F.slot_dict_get h2.typeIs PySem.F.entry_dict_get (PySem.F.args_dict_get_2 _ _) (meetsH_dict_get (dL G) l.a a (c.S.nomod (nQ c hl _ (.head _)))) ⟨sL c.A,gk,xs,hkey,h2,?_⟩
  refine hQ _ _ R J (Go.of_kp (Kp.tok _ _)) ((bT q).2▸c.kp (Kp.tok _ _)) ((bT q).1▸ ?_)
  have:=(mV (i:=gk) h3).getD
  cases hz:atKey xs gk <;> rw [hz] at this <;> exact this
noncomputable def jH:List (GK × AV)→GK→List (GK × AV)
 | [],_=>[]
 | (j,w)::r,k=>if j=k then r else (j,w)::jH r k
theorem vv {α β:Type}{f:α→β}:∀{l:List α} {j:Nat},(l.map f).eraseIdx j=(l.eraseIdx j).map f
 | [],j=>by simp
 | x::r,0=>by simp
 | x::r,j+1=>by simp [vv (l:=r)]
theorem Db:∀{es:List (GK × AV)} {xs:List (GK × Addr × Value)} {j:Nat} {k:GK} {p:Addr × Value},(xs.map (·.1)).Nodup→GRel G R J h es xs→xs[j]? =some (k,p)→GRel G R J h (jH es k) (xs.eraseIdx j)
 | [],xs,j,k,p,hn,e,q=>au ((show xs=[] from e)▸q)
 | (i,y)::r,xs,j,k,p,hn,e,q=>eO e λb w xs' p e0 e1 e2=>by
  subst p
  cases j with
  | zero=>rw [show jH ((i,y)::r) k=r from if_pos (bT (aD q)).1];exact e2
  | succ j=>
   have:i≠k:=λz=>(List.nodup_cons.mp hn).1 (z▸List.mem_map.mpr ⟨_,d7 q,rfl⟩)
   rw [show jH ((i,y)::r) k=_ from if_neg this];exact .cons e0 e1 (Db (List.nodup_cons.mp hn).2 e2 q)
def pZ:qi:=λn0 k vs V=>(a1 vs).bind λy=>(V[k]?).bind λo=>(gO o).bind λes=>(jA y).bind λgk=>(b7 es gk).bind λz=>if n0≤k∧es.length< 10000 then some (z,V.set k (.gdict (jH es gk))) else none
theorem T6:tL G "dict.pop" pZ:=λmu Γ k vs V v σ' q A s env R J U l vals Q c hl hv hQ=>
 aw q λy e1 q=>aw q λo hk q=>aw q λes e2 q=>aw q λgk e3 q=>aw q λz e4 q=>cJ q λhh q=>aW (jj hv e1) λval p hr=>dm (nj hr e3) λa p' hkey _=>
 dm (show OA G R J s.heap l (.gdict es) from rQ e2▸c.S.objs _ _ _ hk hl) λxs h1 h2 h3=>aW ((mV h3).get e4) λp0 hp0 hpr=>by
   subst p';subst p
   refine wpAny_call_entry PySem.F.slot_dict_pop h2.typeIs PySem.F.entry_dict_pop ?_ (PySem.F.args_dict_pop_2 _ _)
   unfold Builtin.«dict.pop»
   refine am ?_
   unfold Builtin.Dict.keyAndDefault
   refine am (wpAny_notOrdered_dict h2.typeIs (aC ?_))
   obtain ⟨ob,des,ep,ho,hc,hdt,he,his,hn⟩:=id h2
   have hsz0:=size_of_entries he
   refine am (wpAny_dictEntries ho hdt (am (aC ?_)))
   have hne:des.isEmpty=false:=by
    cases xs with
    | nil=>exact au hp0
    | cons x r=>exact decide_eq_false λz=>Nat.succ_ne_zero _ (hsz0.symm.trans z)
   rw [hne]
   refine am ?_
   unfold Builtin.Dict.takeOut
   try with_reducible refine wpAny_holding ?_
   refine am ((dL G).pyHash (sL c.A) hkey ?_)
   refine am (wpAny_dictFind_heap (s:={ s with toks:=s.toks+(dL G).draws gk }) (sL c.A) hkey ho hdt he his hn ?_ ?_)
   ·exact λhno=>bL (atKey_none_of_get hno) hp0
   ·intro j p hj
    obtain rfl:=aD ((atKey_of_get hn hj).symm.trans hp0)
    refine am (wpAny_dictEntries (s:={ s with toks:=s.toks+(dL G).draws gk }) ho hdt ?_)
    rw [entry_at he j,hj]
    refine am (wpAny_updateDictKeys (hz:=fB (hsz0.symm▸h3.len.symm▸Nat.le_of_lt hh.2)) (s:={ s with toks:=s.toks+(dL G).draws gk }) ho hdt (aC ?_))
    refine am (wpAny_letGo (aC ⟨_,rfl,?_⟩))
    have hup:KB [l.a] s.heap (s.heap.update l.a (Obj.mapDictKeys (·.eraseIdxIfInBounds j)))→OA G R J (s.heap.update l.a (Obj.mapDictKeys (·.eraseIdxIfInBounds j))) l (.gdict (jH es gk)):=λkb=>
     ⟨xs.eraseIdx j,h1,⟨_,_,ep+1,Heap.get?_update_self _ ho (Obj.isFreed_of_dict (Obj.data_mapDictKeys hdt _)),hc.mapDictKeys _,Obj.data_mapDictKeys hdt _,by rw [← vv,← he,Array.toList_eraseIdxIfInBounds],
      λx hx=>(dL G).keeps (his x (List.mem_of_mem_eraseIdx hx)) ho hdt (Heap.SameBut.update ..),vv (f:=λ(x:GK × Addr × Value)=>x.1)▸hn.sublist (List.eraseIdx_sublist _ _)⟩,Db hn (h3.kb kb (nQ c hl)) hj⟩
    exact (vO (mu:=mu) (tk:=s.toks+(dL G).draws gk) (o':= .gdict (jH es gk)) (h':=s.heap.update l.a (Obj.mapDictKeys (·.eraseIdxIfInBounds j))) c hh.1 hl (Heap.SameBut.update ..) hup).elim λg c'=>
     hQ _ _ R J g ((bT q).2▸c') ((bT q).1▸hpr.kb (X:=[l.a]) (λb o hb e=>(Heap.get?_update_other _ _ λz=>hb (List.mem_singleton.mpr z.symm)).trans e) (nQ c hl))
theorem Qp {dflt:Value}(hA:(dL G).room A.in1)(hd:(d == sysModules)=false)(hkey:(dL G).is s.heap gk a)
  (h2:s.heap.DictOfH (dL G) d xs)(hak:atKey xs gk=none)(hsz:xs.length≤sizeLine)
  (hQ:∀h',h'.DictOfH (dL G) d (storedH xs gk a dflt)→Heap.SameBut d s.heap h'→Q dflt { s with heap:=h',toks:=s.toks+(dL G).draws gk }):
  wpAny (model G.prog G.w) A (call (.builtin "dict.setdefault") [.ref d, .ref a,dflt]) Q E s:=by
 refine wpAny_call_entry PySem.F.slot_dict_setdefault h2.typeIs PySem.F.entry_dict_setdefault ?_ (PySem.F.args_dict_setdefault_3 _ _ _)
 unfold Builtin.«dict.setdefault»
 refine am ?_
 unfold Builtin.Dict.keyAndDefault
 refine am (wpAny_notOrdered_dict h2.typeIs ?_)
 show wpAny _ _ (pure (d,Value.ref a,some dflt)) _ _ s
 refine aC ?_
 show wpAny _ _ (if (d == sysModules)=true then _ else (dictSetDefault d (.ref a) dflt >>= _)) _ _ s
 rw [if_neg (by rw [hd];exact Bool.false_ne_true)]
 obtain ⟨o,des,ep,ho,hc,hdt,he,his,hn⟩:=id h2
 refine am ?_
 unfold dictSetDefault
 try with_reducible refine wpAny_holding ?_
 refine am ((dL G).pyHash hA hkey ?_)
 refine am (wpAny_dictFind_heap (s:={ s with toks:=s.toks+(dL G).draws gk }) hA hkey ho hdt he his hn ?_ ?_)
 ·intro hno
  refine am (wpAny_rule (am (wpAny_updateDictKeys (hz:=(size_of_entries he).symm▸hsz) (s:={ s with toks:=s.toks+(dL G).draws gk }) ho hdt (aC (aC ⟨dflt,rfl,hQ _ ⟨_,_,ep+1,Heap.get?_update_self _ ho (Obj.isFreed_of_dict (Obj.data_mapDictKeys hdt _)),hc.mapDictKeys _,Obj.data_mapDictKeys hdt _,?_⟩ (Heap.SameBut.update ..)⟩)))))
  rw [storedH_new hak]
  refine ⟨by rw [Array.toList_push,he,List.map_append];rfl,λx hx=>(bC hx).elim (λhx=>(dL G).keeps (his x hx) ho hdt (Heap.SameBut.update ..)) λhx=>(aH hx)▸(dL G).keeps hkey ho hdt (Heap.SameBut.update ..),?_⟩
  rw [List.map_append]
  exact List.nodup_append.mpr ⟨hn,List.nodup_cons.mpr ⟨bq,List.nodup_nil⟩,λx hx y hy e=>not_mem_keys_of_get hno ((aH (e▸hy):x=gk)▸hx)⟩
 ·exact λj p hj=>bL hak (atKey_of_get hn hj)
theorem Sa (hr:GRel G R J h es xs):∀x∈xs,(dL G).is h x.1 x.2.1:=
 GRel.keys (P:=λk a=>(dL G).is h k a) (λe=>sE (λ_ _ _ h=>h) e) es xs hr
theorem BI {h h':Heap}(hd:h.DictOfH (dL G) d xs)(hk:∀o,h.get? d=some o→h'.get? d=some o)(hr:GRel G R J h' es xs):h'.DictOfH (dL G) d xs:=
 hd.imp λ_ q=>q.imp λ_ q=>q.imp λ_ q=>⟨hk _ q.1,q.2.1,q.2.2.1,q.2.2.2.1,Sa hr,q.2.2.2.2.2⟩
def rK (n0:Nat)(o k v:a7):bZ:=λU V=>(o U V).bind λu=>(jz u).bind λi=>(V[i]?).bind λob=>(gO ob).bind λes=>(k U V).bind λy=>(jA y).bind λgk=>(v U (V.set i (.gdict (f6 es gk (.lst []))))).bind λw=>(jz w).bind λj=>
 if n0≤i∧es.length< 10000∧b7 es gk=none then some (.none,V.set i (.gdict (f6 es gk (.lst [.ref j])))) else none
theorem Pk (ha:MP G Γ o a)(hb:MP G Γ k b)(hc':MP G Γ e c')
  (hk1:∀env,starEach [k, .List [] lp] env=(false,eval k env)::starEach [.List [] lp] env)(he1:∀env,starEach [e] env=(false,eval e env)::starEach [] env)
  (hg1:∀env,∃pl:Sem Bool,eval (.Call (.Attribute o "setdefault" ap1) [k, .List [] lp] [] pos1) env=(do let ov ← eval o env;standAt ap1.atName;let (f,first) ← holding [ov] (getMethod ov "setdefault" pl);callWith pos1 f first (backTo pos1 (starEach [k, .List [] lp] env)) []))
  (hg2:∀env,∃pl:Sem Bool,eval (.Call (.Attribute (.Call (.Attribute o "setdefault" ap1) [k, .List [] lp] [] pos1) "append" ap2) [e] [] pos) env=(do let ov ← eval (.Call (.Attribute o "setdefault" ap1) [k, .List [] lp] [] pos1) env;standAt ap2.atName;let (f,first) ← holding [ov] (getMethod ov "append" pl);callWith pos f first (backTo pos (starEach [e] env)) [])):
  MX G mu Γ (.Call (.Attribute (.Call (.Attribute o "setdefault" ap1) [k, .List [] lp] [] pos1) "append" ap2) [e] [] pos) (rK mu.n0 a b c'):=λU V v σ' q A s env R J Q c hQ=>
 aw q λu e1 q=>aw q λi e2 q=>aw q λob e3 q=>aw q λes e4 q=>aw q λy e5 q=>aw q λgk e6 q=>aw q λw e7 q=>aw q λj e8 q=>cJ q λhh qf=>(hg1 env).elim λpl1 hg1=>(hg2 env).elim λpl2 hg2=>
 MethodCall_ (MethodCall_ (ha _ _ _ e1 A s env R J _ c λr s1 k1 r1=>aW (show VRel G R J s1.heap (.ref i) r from jh e2▸r1) λl hl p=>by
  subst p
  obtain rfl:=rQ e4
  have c1:=c.kp k1
  refine dm (DX (c1.S.objs _ _ _ e3 hl) (show ("dict":String)≠"" by decide)) λob q1 q2 q3=>getMethod_builtin (T:="dict") ⟨ob,q1,q2⟩ PySem.F.plainAttrs_dict PySem.F.slot_dict_setdefault PySem.F.type_dict_setdefault (λa ea=>lJ ea▸⟨ob,q1,q3⟩) ?_
  refine nN (λenv pos=>by rw [hk1];rfl) (List.cons_ne_nil _ _) (spliced_more (hb _ _ _ e5 A s1 env R J _ c1 λrk s2 k2 r2=>spliced_more (env:=env) (rest:=[]) (e:= .List [] lp) (wpAny_List_spliced (spliced_none ⟨Nat.zero_le _,spliced_none ?_⟩)) rfl) (hk1 env))
  have c2:=c1.kp k2
  have k3:Kp s2 { s2 with heap:=s2.heap.push { cls:= .type "list",data:= .seq ([]:List Value).toArray } }:=Kp.push _ _
  refine dm (nj r2 e6) λka p hkey hkv=>dm (c2.S.objs _ _ _ e3 hl) λxs w1 w2 w3=> ?_
  subst p
  have hlR:=nQ c hl
  have hak:atKey xs gk=none:=by
   have:=(mV (i:=gk) w3).is
   rw [hh.2.2] at this
   exact Option.not_isSome_iff_eq_none.mp λz=>Bool.noConfusion (this.symm.trans z)
  have hDR:s2.heap.objs.size∉R:=c2.S.live.size
  have hDl:s2.heap.objs.size≠l.a:=λz=>hDR (z▸hlR _ (.head _))
  have gr:∀{h:Heap},KB [l.a] s2.heap h→∀{x:AV},VRel G R J h x (.ref s2.heap.objs.size)→GRel G R J h (f6 es gk x) (storedH xs gk ka (.ref s2.heap.objs.size)):=λkb _ hx=>
   wo (hkv.kb kb hlR) hx (w2.elim λ_ q=>q.elim λ_ q=>q.elim λ_ q=>q.2.2.2.2.2) (w3.kb kb hlR)
  have hD3:(s2.heap.push { cls:= .type "list",data:= .seq ([]:List Value).toArray }).get? s2.heap.objs.size=some (listOf ([]:List Value).toArray 0):=bK _ rfl
  refine Qp (s:={ s2 with heap:=s2.heap.push { cls:= .type "list",data:= .seq ([]:List Value).toArray } }) (sL c.A) (c.S.nomod (hlR _ (.head _))) (sE (λb o _ e=>k3.kb.get e) hkv) (BI w2 (λo e=>k3.kb.get e) (w3.kb k3.kb nofun)) hak (w3.len.symm▸fB (Nat.le_of_lt hh.2.1)) λh4 hd4 hs4=> ?_
  have kb4:KB [l.a] s2.heap h4:=λb o hb e=>(hs4.2 b λz=>hb (List.mem_singleton.mpr z)).trans (k3.kb.get e)
  have hD4:h4.get? s2.heap.objs.size=some (listOf ([]:List Value).toArray 0):=(hs4.2 _ hDl).trans hD3
  refine (wn (mu:=mu) (tk:=s2.toks+(dL G).draws gk) (o':= .gdict (f6 es gk (.lst []))) c2 hh.1 hl kb4 ⟨_,w1,hd4,gr kb4 (.lst (vs:=[]) hDR (ji hD4) .nil)⟩).elim λg4 c4=> ?_
  refine getMethod_list_append hD4 rfl rfl (nN (o9 he1) (List.cons_ne_nil _ _) (spliced_more (hc' _ _ _ e7 A _ env R J _ c4 λrv s5 k5 r5=>spliced_none ?_) (he1 env)))
  obtain ⟨⟨hh5,tk5,rfl⟩,kb5⟩:=k5
  refine wpAny_list_append_plain (items:=([]:List Value).toArray) ⟨0,kb5.get hD4⟩ (λh6 hp6 hs6=>hp6.elim λn6 hp6=> ?_) (Nat.zero_le _)
  have kall:KB [l.a] s2.heap h6:=λb o hb e=>(hs6.2 b λz=>bL (dr _) (z▸e)).trans (kb5.get (kb4 b o hb e))
  have gr6:=gr kall (.lst (vs:=[rv]) hDR (ji hp6) (.one (jh e8▸(show VRel G R J h6 w rv from by rw [jh e8] at r5 ⊢;exact r5))))
  exact (wn (mu:=mu) (tk:=tk5) (o':= .gdict (f6 es gk (.lst [.ref j]))) c2 hh.1 hl kall ⟨_,w1,BI hd4 (λo e=>(hs6.2 l.a hDl.symm).trans (kb5.get e)) gr6,gr6⟩).elim λg6 c6=>
   hQ _ _ R J ((Go.of_kp (k1.trans k2)).seqX g6) ((bT qf).2▸c6) ((bT qf).1▸ .n)) hg1) hg2
section
noncomputable def owners:List String:=["enumerate","zip","dict_itemiterator","dict_reverseitemiterator","odict_iterator","itertools.zip_longest","itertools.pairwise"]
structure ItSt (G:Gd) (A:Around) (R:List Addr) (J:aG) (h:Heap) (items:List AV) (fz:Bool) (I:Addr) (fp:List Addr) (P:Nat→Value→Prop) (St:Nat→Heap→Prop):Prop where
 W:Walks G.prog G.w A I fp [I] items.length P St
 st:St 0 h
 it:∃o,h.get? I=some o
 cls:∀i h',St i h'→∃o n,h'.get? I=some o∧o.cls= .type n∧owners.contains n=false
 itR:I∈R
 itJ:I∉own J
 itT:I∉G.TB
 live:∀b∈fp,∃o,h.get? b=some o
 frz:fz=true→∀b∈fp,b=I∨b∉R
 val:∀i v,i< items.length→P i v→∃x,items[i]? =some x∧VRel G R J h x v
 nc:∀i h',St i h'→ ¬ ey h' I
abbrev mo:=Lo→ar→Option (List AV × Bool × ar)
noncomputable def MI (G:Gd)(mu:Md)(Γ:FI)(e:Expr)(x:mo):Prop:=
 ∀U V items fz σ',x U V=some (items,fz,σ')→∀(A:Around) (s:Shared) (env:Env) (R:List Addr) (J:aG) (Q:Value→Shared→Prop),Cx G Γ A s env R J U V→
  (∀I s' R' J' fp P St,s.heap.get? I=none→Go (bs G mu J) s s' R J R' J'→Cx G Γ A s' env R' J' U σ'→ItSt G A R' J' s'.heap items fz I fp P St→Q (.ref I) s')→
  wpAny (model G.prog G.w) A (eval e env) (λxv s1=>wpAny (model G.prog G.w) A (pyIter xv) Q aI s1) aI s
def V8:AO→Option (List AV × Bool)
 | .list l=>some (l,false)
 | .gdict es=>some (es.map λp=>aX p.1,false)
 | _=>none
def nr (V:ar):AV→Option (List AV × Bool)
 | .lst l=>some (l,true)
 | .tup l=>some (l,true)
 | .ref k=>(V[k]?).bind V8
 | _=>none
theorem Cx.res {A:Around}(c:Cx G Γ A s env R J U V)(k:Kp s s')(fr:s.heap.get? I=none)(lv:∃o,s'.heap.get? I=some o):Go (bs G mu J) s s' R J (I::R) J∧Cx G Γ A s' env (I::R) J U V:=
 have go:Go (bs G mu J) s s' R J (I::R) J:=⟨k.sh,λb o _ e=>k.kb.get e,λb o e=>⟨o,k.kb.get e⟩,λ_ _ e=>e,λ_ _ _ e _=> .inl e,λ_ m=> .tail _ m,λa m=>(aU m).elim (λz=> .inr (z▸fr)) .inl⟩
 ⟨go,c.go go (c.S.res k.kb fr lv)⟩
theorem wP {St:Nat→Heap→Prop}(c:Cx G Γ A s env R J U V)
  (hW:Walks G.prog G.w A s.heap.objs.size [s.heap.objs.size,ax] [s.heap.objs.size] items.length P St)(hst:St 0 (s.heap.push oI))(hax:∃o,s.heap.get? ax=some o)(hf:fz=true→ax∉R)(hI:(s.heap.push oI).get? s.heap.objs.size=some oI)
  (hc:∀i h',St i h'→∃o n,h'.get? s.heap.objs.size=some o∧o.cls= .type n∧owners.contains n=false)
  (hnc:∀i h',St i h'→ ¬ ey h' s.heap.objs.size)(hv:∀i v,P i v→∃x,items[i]? =some x∧VRel G R J s.heap x v):
  ItSt G A (s.heap.objs.size::R) J (s.heap.push oI) items fz s.heap.objs.size [s.heap.objs.size,ax] P St where
 W:=hW
 st:=hst
 it:=⟨_,hI⟩
 cls:=hc
 nc:=hnc
 itR:=bY
 itJ:=(c.S.new_out (dr _)).1
 itT:=(c.S.new_out (dr _)).2
 live:=λb m=>(aU m).elim (λz=>z▸⟨_,hI⟩) λm=>aH m▸hax.imp λ_ ho=>cA _ ho
 frz:=λz b m=>(aU m).imp id λm=>(aH m:b=ax)▸λm=>(aU m).elim (λw=>hax.elim λ_ ho=>bL (dr _) (w▸ho)) (hf z)
 val:=λi v _ p=>(hv i v p).imp λx q=>⟨q.1,VRel.mono (λa o ha ho=>⟨λm=>(aU m).elim (λw=>bL (dr _) (w▸ho)) ha,cA _ ho⟩) (λ_ _ x=>x) _ _ q.2⟩
theorem wa:∀{l:List AV} {vs:List Value} {i:Nat} {v:Value},VRels G R J h l vs→vs[i]? =some v→∃x,l[i]? =some x∧VRel G R J h x v
 | [],vs,i,v,e,q=>au ((show vs=[] from e)▸q)
 | x::r,vs,i,v,e,q=>aS e λw vs' p e1 e2=>by
  subst p
  cases i with
  | zero=>exact ⟨x,rfl,aD q▸e1⟩
  | succ i=>exact wa (i:=i) e2 q
noncomputable def KI (G:Gd)(Γ:FI)(mu:Md)(A:Around)(s:Shared)(env:Env)(R:List Addr)(J:aG)(U:Lo)(V:ar)(items:List AV)(fz:Bool)(Q:Value→Shared→Prop):Prop:=
 ∀I s' fp P St,s.heap.get? I=none→Go (bs G mu J) s s' R J (I::R) J→Cx G Γ A s' env (I::R) J U V→ItSt G A (I::R) J s'.heap items fz I fp P St→Q (.ref I) s'
section
variable {A:Around} {s:Shared} {env:Env} {R:List Addr} {J:aG} {U:Lo} {V:ar} {items:List AV} {fz:Bool} {Q:Value→Shared→Prop} {E:Value→Shared→Prop}
theorem KI.push (hQ:KI G Γ mu A s env R J U V items fz Q)(c:Cx G Γ A s env R J U V){St:Nat→Heap→Prop}(h1:(s.heap.push oI).get? s.heap.objs.size=some oI)(it:ItSt G A (s.heap.objs.size::R) J (s.heap.push oI) items fz s.heap.objs.size fp P St):
  Q (.ref s.heap.objs.size) { s with heap:=s.heap.push oI }:=(c.res (mu:=mu) (Kp.push s oI) (dr _) ⟨_,h1⟩).elim λg c'=>hQ _ _ fp P St (dr _) g c' it
theorem Dc (c:Cx G Γ A s env R J U V)(h1:s.heap.IsList a vs.toArray)(h2:VRels G R J s.heap l vs)(h3:fz=true→a∉R)(hQ:KI G Γ mu A s env R J U V l fz Q):wpAny (model G.prog G.w) A (pyIter (.ref a)) Q E s:=
 have hne:a≠s.heap.objs.size:=λz=>h1.elim λ_ q=>bL (dr _) (z▸q.1)
 wpAny_pyIter_list h1 (hQ.push c (bK _ rfl) (wP (ax:=a) (P:=λi v=>vs.toArray[i]? =some v) (St:=λi h=>h.IsListIter s.heap.objs.size a i∧h.IsList a vs.toArray) c ((h2.length:l.length=vs.toArray.size)▸Walks.list c.A.hd s.heap.objs.size a hne vs.toArray)
  ⟨⟨_,bK _ rfl,rfl,rfl⟩,h1.at λo e=>cA _ e⟩ (h1.imp λ_ q=>q.1) h3 (bK _ rfl) (λi h' q=>q.1.imp λo q=>⟨_,q.1,q.2.1,by decide⟩) (λi h' q=>q.1.elim λo q=>ol q.1 q.2.2 λ_ _ z=>nomatch aD z) λi v p=>wa h2 (List.getElem?_toArray▸p)))
theorem wQ (c:Cx G Γ A s env R J U V)(hx:VRel G R J s.heap x xv)(e:nr V x=some (items,fz))(hQ:KI G Γ mu A s env R J U V items fz Q):wpAny (model G.prog G.w) A (pyIter xv) Q E s:=by
 cases x <;> first | exact au e | skip
 ·rename_i l
  obtain rfl:=(dD e).1;obtain rfl:=(dD e).2
  refine br hx λa vs p h0 h1 h2=> ?_
  subst p
  have hne:a≠s.heap.objs.size:=λz=>h1.elim λ_ q=>bL (dr _) (z▸q.1)
  exact wpAny_pyIter_tuple h1 (hQ.push c (bK _ rfl) (wP (ax:=a) (P:=λi v=>vs.toArray[i]? =some v) (St:=λi h=>h.IsTupleIter s.heap.objs.size a i∧h.IsTuple a vs.toArray) c ((h2.length:l.length=vs.toArray.size)▸Walks.tuple c.A.hd s.heap.objs.size a hne vs.toArray)
   ⟨⟨_,bK _ rfl,rfl,rfl⟩,h1.at λo e=>cA _ e⟩ (h1.imp λ_ q=>q.1) (λ_=>h0) (bK _ rfl) (λi h' q=>q.1.imp λo q=>⟨_,q.1,q.2.1,by decide⟩) (λi h' q=>q.1.elim λo q=>ol q.1 q.2.2 λ_ _ z=>nomatch aD z) λi v p=>wa h2 (List.getElem?_toArray▸p)))
 ·obtain rfl:=(dD e).1;obtain rfl:=(dD e).2
  exact br hx λa vs p h0 h1 h2=>p▸Dc c h1 h2 (λ_=>h0) hQ
 ·refine aW hx λl hl p=>aw e λob hk e=> ?_
  subst p
  have hO:=c.S.objs _ _ _ hk hl
  cases ob <;> first | exact au e | skip
  ·obtain rfl:=(dD e).1;obtain rfl:=(dD e).2
   exact aS hO λvs n h1 h2 h3=>Dc (fz:=false) c (ji h2) h3 (λz=>Bool.noConfusion z) hQ
  ·rename_i es
   obtain rfl:=(dD e).1;obtain rfl:=(dD e).2
   refine dm hO λxs h1 h2 hr=> ?_
   obtain ⟨o,dd,ep,ho,hex,hda,hen,his,hnd⟩:=h2
   have Yp:dd.size=(es.map λp=>aX p.1).length:=(size_of_entries hen).trans (hr.len.trans (List.length_map _).symm)
   have hne:l.a≠s.heap.objs.size:=λz=>bL (dr _) (z▸ho)
   refine Da (c.S.nomod (c.S.sub l.a (dS hl (.head _)))) ⟨⟨o,ho,hex,hda⟩⟩ (hQ.push c (bK _ rfl) (wP (ax:=l.a) (P:=λi v=> ∃e,dd[i]? =some e∧v=e.key) (St:=λi h=>h.IsKeyIter s.heap.objs.size l.a i dd.size ep∧RawD h l.a dd ep) c (Yp▸Walks.raw (prog:=G.prog) (w:=G.w) (A:=A) c.A.hd s.heap.objs.size l.a hne dd ep)
    ⟨⟨_,bK _ rfl,rfl,rfl⟩,⟨⟨o,cA _ ho,hex,hda⟩⟩⟩ ⟨_,ho⟩ nofun (bK _ rfl) (λi h' q=>q.1.imp λo q=>⟨_,q.1,q.2.1,by decide⟩) (λi h' q=>q.1.elim λo q=>ol q.1 q.2.2 λ_ _ z=>nomatch aD z) λi v p=> ?_))
   obtain ⟨en,hen',rfl⟩:=p
   rw [entry_at hen] at hen'
   exact cr hen' λx hx1 hx2=>aW (rJ hr hx1) λk q1 q2=>⟨aX k,by rw [show (λ(p:GK × AV)=>aX p.1)=aX ∘ (·.1) from rfl,← List.map_map,List.getElem?_map,q1];rfl,hx2▸q2⟩
end
def iX (a:bZ):mo:=λU V=>(a U V).bind λq=>(nr q.2 q.1).map λp=>(p.1,p.2,q.2)
theorem f7 (ha:MX G mu Γ e a):MI G mu Γ e (iX a):=λU V items fz σ' q A s env R J Q c hQ=>aw q λp e1 q=>cr q λp2 e2 q=>by
 obtain rfl:=(bT q).1;obtain rfl:=(bT (bT q).2).1;obtain rfl:=(bT (bT q).2).2
 exact ha _ _ _ _ e1 A s env R J _ c λr s1 R1 J1 g1 c1 r1=>wQ (mu:=mu) c1 r1 e2 λI s2 fp P St fr g2 c2 it=>hQ I s2 _ J1 fp P St (g1.none_of fr) (g1.seqX g2) c2 it
noncomputable def gQ (a:Int)(n:Nat):List AV:=(List.range n).map λ(i:Nat)=>AV.int (a+i)
def jt (a:a7):mo:=λU V=>(a U V).bind λv=>(cq v).bind λn=>if n< 100000∧ -100000< n then some (gQ 0 n.toNat,true,V) else none
theorem sO (h: -100000< a∧a< 100000): -(2 ^ 62)≤a∧a< 2 ^ 62:=by omega
theorem XT:Builtin.Range.rangeSize a b 1=((b - a).toNat:Int):=by rw [rangeSize_one];split <;> omega
theorem vQ:(gQ a n).length=n:=(List.length_map _).trans List.length_range
theorem Pl (h:i< n):(gQ a n)[i]? =some (.int (a+i)):=by rw [gQ,List.getElem?_map,List.getElem?_range h];rfl
theorem Dd (c:Cx G Γ A s env R J U V)(hr:IsRange s.heap r a b 1 t u v)(h1: -100000< a∧a< 100000)(h2: -100000< b∧b< 100000)
  (hQ:KI G Γ mu A s env R J U V (gQ a (b - a).toNat) true Q):wpAny (model G.prog G.w) A (pyIter (.ref r)) Q E s:=
 wpAny_pyIter_range hr (small_one (sO h1).1 (sO h1).2 (sO h2).1 (sO h2).2) (hQ.push c (fp:=[s.heap.objs.size]) (P:=λi v=> ∃t,v= .int (a+i * 1) t) (St:=λi h=>IsRangeIter h s.heap.objs.size (a+(i:Nat) * 1) (((b - a).toNat:Int) - (i:Nat)) 1) (bK _ rfl)
  ⟨(vQ (a:=a) (n:=(b - a).toNat)).symm▸Walks.range c.A.hd s.heap.objs.size a 1 (b - a).toNat,by
   rw [XT]
   show Heap.get? _ _=_
   rw [bK _ rfl,Int.natCast_zero,Int.zero_mul,Int.add_zero,Int.sub_zero],
   ⟨_,bK _ rfl⟩,λi h' ho=>⟨_,_,ho,rfl,by decide⟩, .head _,(c.S.new_out (dr _)).1,(c.S.new_out (dr _)).2,λb m=>aH m▸⟨_,bK _ rfl⟩,λ_ b m=> .inl (aH m),
   λi v hi p=>p.elim λt q=>⟨.int (a+i),Pl ((vQ (a:=a) (n:=(b - a).toNat))▸hi),q▸(Int.mul_one i).symm▸ .i⟩,λi h' ho=>ol ho rfl λ_ _ z=>nomatch aD z⟩)
theorem pc {np pos:Pos}(hv:ev G "range" (.type "range"))(ha:MP G Γ e a)(hk:Γ.names.lookup ("range":Str)=some .globalImplicit:=by kernel_rfl)(he:∀env,starEach [e] env=[(false,eval e env)]:=by exact λ_=>rfl):MI G mu Γ (.Call (.Name "range" np) [e] [] pos) (jt a):=λU V items fz σ' q A s env R J Q c hQ=>
 aw q λw e1 q=>aw q λn e2 q=>cJ q λhh q=>by
  obtain rfl:=(bT q).1;obtain rfl:=(bT (bT q).2).1;obtain rfl:=(bT (bT q).2).2
  refine eX (ky hv hk (by decide +kernel) _ _ _ rfl A s env R J _ c λr s0 k0 r0=>(show r=_ from r0)▸nO (o9 he) (List.cons_ne_nil _ _) (spliced_more (pos:=pos) (env:=env) (rest:=[]) (e:=e) (ha _ _ _ e1 A s0 env R J _ (c.kp k0) λr s1 k1 r1=>spliced_none ?_) (he env)))
  refine (ej r1 e2).elim λt p=>p▸call_range_1 ?_
  have k2:Kp s1 { s1 with heap:=s1.heap.push { cls:= .type "range",data:= .fields #[.int 0 s1.toks, .int n t, .int 1 (s1.toks+1)] },toks:=s1.toks+1+1 }:=⟨⟨_,_,rfl⟩,KB.push _ _⟩
  have k012:=(k0.trans k1).trans k2
  exact Dd (mu:=mu) (a:=0) (b:=n) (c.kp k012) (IsRange.new _ _ _ _ _ _ _) (by decide) ⟨hh.2,hh.1⟩ λI s3 fp P St fr g3 c3 it=>hQ I s3 _ J fp P St ((Go.of_kp (X:=[]) (R:=R) (J:=J) k012).none_of fr) ((Go.of_kp k012).seqX g3) c3 ((Int.sub_zero n)▸it)
def rL (as:gA):mo:=λU V=>(as U V).bind λq=>(l2 q.1).bind λp=>(cq p.1).bind λa=>(cq p.2).bind λb=>if (-100000< a∧a< 100000)∧(-100000< b∧b< 100000) then some (gQ a (b - a).toNat,true,q.2) else none
theorem Pm {np pos:Pos}(hv:ev G "range" (.type "range"))(ha:hV G mu Γ es as)(hk:Γ.names.lookup ("range":Str)=some .globalImplicit:=by kernel_rfl)(hne:es≠ []:=by exact List.cons_ne_nil _ _):MI G mu Γ (.Call (.Name "range" np) es [] pos) (rL as):=λU V items fz σ' q A s env R J Q c hQ=>
 aw q λw e1 q=>aw q λp e2 q=>aw q λa e3 q=>aw q λb e4 q=>cJ q λhh q=>by
  obtain rfl:=(bT q).1;obtain rfl:=(bT (bT q).2).1;obtain rfl:=(bT (bT q).2).2
  refine eX (ky hv hk (by decide +kernel) _ _ _ rfl A s env R J _ c λr s0 k0 r0=>(show r=_ from r0)▸nO ha.1 hne (ha.2 _ _ _ _ e1 A s0 env R J _ pos (c.kp k0) λrs s1 R1 J1 g1 c1 r1=> ?_))
  refine aS (v9 r1 e2) λx y p' r2 r3=>(ej r2 e3).elim λt w1=>(ej r3 e4).elim λu w2=> ?_
  subst p';subst w1;subst w2
  refine call_range_2 ?_
  have k2:Kp s1 { s1 with heap:=s1.heap.push { cls:= .type "range",data:= .fields #[.int a t, .int b u, .int 1 s1.toks] },toks:=s1.toks+1 }:=⟨⟨_,_,rfl⟩,KB.push _ _⟩
  have g012:=((Go.of_kp k0).seqX g1).seqX (Go.of_kp (X:=bs G mu J1) k2)
  exact Dd (mu:=mu) (a:=a) (b:=b) (c1.kp k2) (IsRange.new _ _ _ _ _ _ _) hh.1 hh.2 λI s3 fp P St fr g3 c3 it=>hQ I s3 _ J1 fp P St (g012.none_of fr) (g012.seqX g3) c3 it
end
section
theorem ES (ho:s.heap.get? I=some o)(hc:o.cls= .type n)(hn:owners.contains n=false)(hQ:Q () s):
  wpAny (model prog w) A (letOwnedTupleGo target (.ref I) v) Q E s:=by
 unfold letOwnedTupleGo
 have main:∀a,wpAny (model prog w) A (do
   let o ← load I
   match o.cls,o.data with
   | .type n, .fields vs=>
    if ["enumerate","zip","dict_itemiterator","dict_reverseitemiterator","odict_iterator","itertools.zip_longest","itertools.pairwise"].contains n && vs[0]? == some (rawInt a) then
     rule "for.unpacks-the-owned-tuple"
     updateField I 0 .none
   | _,_=>pure ()) Q E s:=λa=>by
  refine am (wpAny_load ho ?_)
  rw [hc]
  cases o.data with
  | fields vs=>
   show wpAny _ A (if (owners.contains n && _)=true then _ else _) Q E s
   rw [hn,Bool.false_and,if_neg (by decide)]
   exact aC hQ
  | _=>exact aC hQ
 have tl:wpAny (model prog w) A (letOwnedTupleGo (.Tuple [] 0 default) (.ref I) v) Q E s:=by
  cases v <;> first | exact aC hQ | exact main _
 cases target <;> first | exact aC hQ | exact tl
noncomputable def xn (p:Fl × Lo × ar)(k:Option (Fl × Lo × ar)):Option (Fl × Lo × ar):=match p.1 with
 | .next=>k
 | .cont=>k
 | .brk=>some (.next,p.2)
 | .ret _=>some p
def b9 (tgt:iF)(body:aF):List AV→aF
 | [],U,V=>some (.next,U,V)
 | v::r,U,V=>(tgt v U V).bind λp=>(body p.1 p.2).bind λp=>xn p (b9 tgt body r p.2.1 p.2.2)
def cP (it:mo)(tgt:iF)(body:aF):aF:=λU V=>match it U V with
 | some (items,true,σ1)=>b9 tgt body items U σ1
 | _=>none
theorem Go.refl (X:List Addr)(s:Shared)(R:List Addr)(J:aG):Go X s s R J R J:=Go.of_kp (Kp.refl s)
theorem Cx.poke {A:Around}(c:Cx G Γ A s env R J U V)(kb:KB [I] s.heap h')(h1:I∈R)(h2:I∉own J)(h3:I∉G.TB)(h4:I∉fa env)
  (hn: ¬ ey s.heap I)(lv:∃o,h'.get? I=some o):Go [I] s { s with heap:=h',toks:=tk } R J R J∧Cx G Γ A { s with heap:=h',toks:=tk } env R J U V:=
 have hlv:∀b o,s.heap.get? b=some o→∃o',h'.get? b=some o':=λb o e=>if z:b=I then z▸lv else ⟨o,kb b o (λm=>z (aH m)) e⟩
 have go:Go [I] s { s with heap:=h',toks:=tk } R J R J:=⟨⟨_,_,rfl⟩,kb,hlv,λ_ _ e=>e,λ_ _ _ e _=> .inl e,λ_ m=>m,λa m=> .inl m⟩
 have hX:∀a∈ [I],a∈R:=λa m=>aH m▸h1
 ⟨go,c.A,c.S.kb kb (λa m=>aH m▸⟨h1,h2,h3⟩) (λa m=>aH m▸hn) hlv,GJ go hX (λa m=>c.S.resv a (hX a m)) (λa m z=>h4 (aH z▸m)) c.F⟩
theorem Cx.faLive {A:Around}(c:Cx G Γ A s env R J U V):∀a∈fa env,∃o,s.heap.get? a=some o:=λa m=>c.F.elim λ_ F=>F.live a m
theorem Cx.faR {A:Around}(c:Cx G Γ A s env R J U V):∀a∈fa env,a∈R∧a∉own J∧a∉G.TB:=λa m=>c.F.elim λ_ F=>F.faR a m
theorem Cx.fresh {A:Around}(c:Cx G Γ A s env R J U V)(fr:s.heap.get? I=none):I∉fa env:=λm=>c.S.fresh fr (c.faR I m).1
theorem Cx.drop {A:Around}(c:Cx G Γ A s env R J U V)(kb:KB [I] s.heap h')
  (h1:I∈R)(h2:I∉own J)(h3:I∉G.TB)(h4:I∉fa env)(hn: ¬ ey s.heap I):Cx G Γ A { s with heap:=h',toks:=tk } env (dV R [I]) J U V:=
 have hR':∀a o,a∉R→s.heap.get? a=some o→a∉dV R [I]∧h'.get? a=some o:=λa o ha ho=>⟨λm=>ha (mem_outOf.mp m).1,kb a o (λm=>ha (aH m▸h1)) ho⟩
 have hOut:∀{a},a∈R→a≠I→a∈dV R [I]:=λm z=>mem_outOf.mpr ⟨m,λq=>z (aH q)⟩
 have hb:G.g.StaysIn h':=λb o e=>kb b o (λm=>bL (c.S.resv I h1) (aH m▸e)) (c.S.base b o e)
 have hf:∀{a},a∈fa env→a≠I:=λha z=>h4 (z▸ha)
 have hk:∀a∈fa env,∀o,s.heap.get? a=some o→h'.get? a=some o:=λa m o e=>kb a o (λq=>hf m (aH q)) e
 ⟨c.A,c.S.tr hb hR' (λa ha o e=>kb a o (λm=>h2 (aH m▸ha)) e) (λa m q=>hOut m λz=>q.elim (z▸h2) (z▸h3)) (λa m=>c.S.resv a (mem_outOf.mp m).1) (λa m=>(c.S.live a (mem_outOf.mp m).1).imp λo e=>kb a o (mem_outOf.mp m).2 e)
  (G.tabs _ _ [I] kb (λa ha m=>h3 (aH m▸ha)) (λa m=>aH m▸hn) c.S.tabs) (c.F.elim λ_ F=>⟨env.locals,(F.live _ eP).imp λo e=>⟨hk _ eP o e,F.fr.above⟩⟩),
  c.F.imp λm F=>F.tr hb hR' (λ_ _ x=>x) (λa q=>⟨hOut (F.faR a q).1 (hf q),(F.faR a q).2.1⟩) hk⟩
theorem Cx.shed {A:Around}(g:Go X s s2 R J R2 J2)(c:Cx G Γ A s2 env R2 J2 U V)(kb:KB [I] s2.heap h')
  (h1:I∈R2)(h2:I∉own J2)(h3:I∉G.TB)(h4:I∉fa env)(hR:I∉R)(fr:s.heap.get? I=none)(hn: ¬ ey s2.heap I):Go X s { s2 with heap:=h',toks:=tk } R J (dV R2 [I]) J2∧Cx G Γ A { s2 with heap:=h',toks:=tk } env (dV R2 [I]) J2 U V:=
 have pass:∀{b o o'},s.heap.get? b=some o→s2.heap.get? b=some o'→h'.get? b=some o':=λe e'=>kb _ _ (λm=>bL fr (aH m▸e)) e'
 ⟨⟨g.sh.elim λ_ q=>q.elim λ_ q=>q▸⟨_,_,rfl⟩,λb o hb e=>pass e (g.kb b o hb e),λb o e=>(g.live b o e).imp λo' e'=>pass e e',g.jp,g.jn,λa m=>mem_outOf.mpr ⟨g.rs a m,λz=>hR (aH z▸m)⟩,λa m=>g.rf a (mem_outOf.mp m).1⟩,
  c.drop kb h1 h2 h3 h4 hn⟩
structure ForB (G:Gd) (Γ:FI) (mu:Md) (A:Around) (env:Env) (s:Shared) (R:List Addr) (J:aG) (s1:Shared) (R1:List Addr) (J1:aG) (items:List AV) (I:Addr) (fp:List Addr) (P:Nat→Value→Prop) (St:Nat→Heap→Prop):Prop where
 it:ItSt G A R1 J1 s1.heap items true I fp P St
 fr:s.heap.get? I=none
 ifa:I∉fa env
 iR:I∉R
 hX:∀a∈bs G mu J1 ++fa env ++ [I],a∈R1
structure ForI (G:Gd) (Γ:FI) (mu:Md) (A:Around) (env:Env) (s:Shared) (R:List Addr) (J:aG) (s1:Shared) (R1:List Addr) (J1:aG) (I:Addr) (fp:List Addr) (St:Nat→Heap→Prop) (i:Nat) (U:Lo) (V:ar) (s2:Shared) (R2:List Addr) (J2:aG):Prop where
 g:Go (bs G mu J ++fa env) s s2 R J R2 J2
 c:Cx G Γ A s2 env R2 J2 U V
 st:St i s2.heap
 iR:I∈R2
 iJ:I∉own J2
 frz:∀b∈fp,b=I∨b∉R2
 live:∀b∈fp,∃o,s2.heap.get? b=some o
 g1:Go (bs G mu J1 ++fa env ++ [I]) s1 s2 R1 J1 R2 J2
section
variable {A:Around} {env:Env} {s:Shared} {R:List Addr} {J:aG} {s1:Shared} {R1:List Addr} {J1:aG} {items:List AV} {I:Addr} {fp:List Addr} {P:Nat→Value→Prop} {St:Nat→Heap→Prop} {i:Nat} {U ℓ':Lo} {V σ':ar} {s2 s3:Shared} {R2 R3:List Addr} {J2 J3:aG}
theorem ForI.step (B:ForB G Γ mu A env s R J s1 R1 J1 items I fp P St)(L:ForI G Γ mu A env s R J s1 R1 J1 I fp St i U V s2 R2 J2)(hk:KB [I] s2.heap h3)(lv:∃o,h3.get? I=some o)(st:St j h3):
  ForI G Γ mu A env s R J s1 R1 J1 I fp St j U V { s2 with heap:=h3,toks:=tk } R2 J2:=
 (L.c.poke (tk:=tk) hk L.iR L.iJ B.it.itT B.ifa (B.it.nc _ _ L.st) lv).elim λg c=>
 ⟨L.g.trans g λz m=> .inr (aH m▸B.fr),c,st,L.iR,L.iJ,L.frz,λb m=>if z:b=I then z▸lv else (L.live b m).imp λo e=>hk b o (λq=>z (aH q)) e,L.g1.trans g λz m=> .inl (dy _ m)⟩
theorem ForI.item (B:ForB G Γ mu A env s R J s1 R1 J1 items I fp P St)(L:ForI G Γ mu A env s R J s1 R1 J1 I fp St i U V s2 R2 J2)(hlt:i< items.length)
  (hQ:∀v x s3,items[i]? =some x→VRel G R2 J2 s3.heap x v→ForI G Γ mu A env s R J s1 R1 J1 I fp St (i+1) U V s3 R2 J2→(∀{Q:Unit→Shared→Prop} {E},Q () s3→wpAny (model G.prog G.w) A (letOwnedTupleGo target (.ref I) v) Q E s3)→Q (some v) s3):
  wpAny (model G.prog G.w) A (pyNext (.ref I)) Q E s2:=
 B.it.W.item i s2 _ _ hlt L.st λv h3 tk hP st3 hk3=>aS (B.it.cls _ _ st3) λo3 n3 ho3 hc3 hn3=>aW (B.it.val i v hlt hP) λx hx1 hx2=>
  have L3:=L.step B (tk:=tk) hk3 ⟨_,ho3⟩ st3
  hQ v x _ hx1 (L3.g1.val B.hX hx2) L3 λq=>ES (s:={ s2 with heap:=h3,toks:=tk }) ho3 hc3 hn3 q
theorem ForI.out (B:ForB G Γ mu A env s R J s1 R1 J1 items I fp P St)(L:ForI G Γ mu A env s R J s1 R1 J1 I fp St i U V s2 R2 J2)(m:b∈fp):b∉bs G mu J2 ++fa env:=λz=>(L.frz b m).elim
 (λq=>(bC (q▸z)).elim (λz=>(ng z).elim B.it.itT L.iJ) B.ifa)
 λq=>q ((bC z).elim (lO L.c.S) λz=>(L.c.faR b z).1)
theorem ForI.body (B:ForB G Γ mu A env s R J s1 R1 J1 items I fp P St)(L:ForI G Γ mu A env s R J s1 R1 J1 I fp St i U V s2 R2 J2)(g:Go (bs G mu J2 ++fa env) s2 s3 R2 J2 R3 J3)(c:Cx G Γ A s3 env R3 J3 ℓ' σ'):
  ForI G Γ mu A env s R J s1 R1 J1 I fp St i ℓ' σ' s3 R3 J3:=
 ⟨L.g.seq g,c,B.it.W.frame _ _ _ L.st λb m o e=>g.kb b o (L.out B m) e,g.rs _ L.iR,λm=>(g.jf I m).elim L.iJ λz=>(L.live I (B.it.W.sub I bY)).elim λ_ e=>bL z e,
  λb m=>(L.frz b m).imp id λq z=>(g.rf b z).elim q λz=>(L.live b m).elim λ_ e=>bL z e,λb m=>(L.live b m).elim λo e=>g.live b o e,
  L.g1.trans g λz m=>(bC m).elim (λm=>(nF (mu:=mu) (L.g1) m).imp (λw=>dE _ (dE _ w)) id) λm=> .inl (dE _ (dy _ m))⟩
theorem ForI.done (B:ForB G Γ mu A env s R J s1 R1 J1 items I fp P St)(L:ForI G Γ mu A env s R J s1 R1 J1 I fp St i U V s2 R2 J2)(hi:i=items.length)
  (hQ:∀s3,Go (bs G mu J ++fa env) s s3 R J (dV R2 [I]) J2→Cx G Γ A s3 env (dV R2 [I]) J2 U V→Q none s3):wpAny (model G.prog G.w) A (pyNext (.ref I)) Q E s2:=
 B.it.W.done s2 _ _ (hi▸L.st) λh3 tk hk3=>(Cx.shed (tk:=tk) L.g L.c hk3 L.iR L.iJ B.it.itT B.ifa B.iR B.fr (B.it.nc _ _ L.st)).elim (hQ _)
theorem ForB.new (c:Cx G Γ A s env R J U V)(fr:s.heap.get? I=none)(c1:Cx G Γ A s1 env R1 J1 ℓ' σ')(it:ItSt G A R1 J1 s1.heap items true I fp P St):ForB G Γ mu A env s R J s1 R1 J1 items I fp P St:=
 ⟨it,fr,c.fresh fr,c.S.fresh fr,λa m=>(bC m).elim (λm=>(bC m).elim (lO c1.S) λm=>(c1.faR a m).1) λm=>aH m▸it.itR⟩
theorem ForI.new (B:ForB G Γ mu A env s R J s1 R1 J1 items I fp P St)(g:Go (bs G mu J) s s1 R J R1 J1)(c1:Cx G Γ A s1 env R1 J1 U V):ForI G Γ mu A env s R J s1 R1 J1 I fp St 0 U V s1 R1 J1:=
 ⟨g.xs,c1,B.it.st,B.it.itR,B.it.itJ,B.it.frz rfl,B.it.live,Go.refl _ _ _ _⟩
end
theorem wb {α:Type}{l:List α}{x:α}(h:l[i]? =some x):l.drop i=x::l.drop (i+1):=
 (List.getElem?_eq_some_iff.mp h).elim λh1 h2=>(List.drop_eq_getElem_cons h1).trans (congrArg (· ::_) h2)
theorem Pn {l:List AV}(hi:i=l.length)(h:b9 tgt b (l.drop i) U V=some res):(.next,U,V)=res:=by
 rw [hi,List.drop_length] at h;exact aD h
theorem BJ (h:xn p k=some res):(p.1= .next∨p.1= .cont)∧k=some res∨p.1= .brk∧(.next,p.2)=res∨∃u,p.1= .ret u∧p=res:=
 match p,h with
 | (.next,_),h=> .inl ⟨.inl rfl,h⟩
 | (.cont,_),h=> .inl ⟨.inr rfl,h⟩
 | (.brk,_),h=> .inr (.inl ⟨rfl,aD h⟩)
 | (.ret u,_),h=> .inr (.inr ⟨u,rfl,aD h⟩)
theorem NW (h:b9 tgt b (v::r) U V=some res):
  ∃p1 p2,tgt v U V=some p1∧b p1.1 p1.2=some p2∧((p2.1= .next∨p2.1= .cont)∧b9 tgt b r p2.2.1 p2.2.2=some res∨p2.1= .brk∧(.next,p2.2)=res∨∃u,p2.1= .ret u∧p2=res):=
 aw h λp1 h1 h=>aw h λp2 h2 h=>⟨p1,p2,h1,h2,BJ h⟩
section
variable {R:List Addr} {J:aG} {h:Heap} {fl:Fl} {r:Flow} {N B:Prop} {F:Value→Prop}
theorem FlRel.turn (e:FlRel G R J h fl r)(d:fl= .next∨fl= .cont)(n:N):(match (generalizing:=false) r with | .next | .cont=>N | .brk=>B | .ret v=>F v):=by
 rcases d with rfl | rfl <;> cases (show r=_ from e) <;> exact n
theorem FlRel.out (e:FlRel G R J h fl r)(d:fl= .brk)(n:B):(match (generalizing:=false) r with | .next | .cont=>N | .brk=>B | .ret v=>F v):=by
 subst d;cases (show r=_ from e);exact n
theorem FlRel.back (e:FlRel G R J h fl r)(d:fl= .ret u)(n:∀w,FlRel G R J h fl (.ret w)→F w):(match (generalizing:=false) r with | .next | .cont=>N | .brk=>B | .ret v=>F v):=by
 subst d;obtain ⟨w,rfl,e⟩:=e;exact n w ⟨w,rfl,e⟩
end
noncomputable def Hu (G:Gd)(Γ:FI)(mu:Md)(A:Around)(env:Env)(s:Shared)(R:List Addr)(J:aG)(s1:Shared)(R1:List Addr)(J1:aG)(items:List AV)(I:Addr)(fp:List Addr)(St:Nat→Heap→Prop)(tgt:iF)(b:aF)(res:Fl × Lo × ar)(k:Nat)(s2:Shared):Prop:=
 ∃i R2 J2 ℓ2 σ2,i+k=items.length∧ForI G Γ mu A env s R J s1 R1 J1 I fp St i ℓ2 σ2 s2 R2 J2∧b9 tgt b (items.drop i) ℓ2 σ2=some res
theorem Sb (h:Ok (cP it tgt b U V) P):∃items σ1 res,it U V=some (items,true,σ1)∧b9 tgt b items U σ1=some res∧P res:=by
 obtain ⟨res,q,k⟩:=h
 unfold cP at q
 split at q
 ·exact ⟨_,_,res,by assumption,q,k⟩
 ·exact au q
theorem eE (hi:MI G mu Γ iter it)(ht:MA G mu Γ target tgt)(hb:MSs G mu Γ body b)(hs:∀env x,foldedSetIterable iter env x=pure x:=by exact λ_ _=>rfl):
  MS G mu Γ (.For target iter body [] pos) (cP it tgt b):=MS.mk λU V A s env R J Q c h=>gn (Sb h) λitems σ1 res e1 el hQ=>
 wpAny_For (hi _ _ _ _ _ e1 A s env R J _ c λI s1 R1 J1 fp P St fr g1 c1 it=>
  have B:ForB G Γ mu A env s R J s1 R1 J1 items I fp P St:= .new c fr c1 it
  codeAny_forLoop_any (Hu G Γ mu A env s R J s1 R1 J1 items I fp St tgt b res) (pU (λs2 inv=>CV inv λi R2 J2 ℓ2 σ2 hk L hl=>L.done B hk λs3 g3 c3=>wpAny_execs_nil ((Pn hk hl▸hQ:KS G mu Γ A s env R J Q (.next,ℓ2,σ2)) _ s3 _ _ g3 c3 rfl)) λk s2 inv=>CV inv λi R2 J2 ℓ2 σ2 hk L hl=>L.item B (hk▸Nat.lt_add_of_pos_right (Nat.succ_pos k)) (target:=target) λv x s3 hx hv L3 hgo=>hgo
    (aS (NW ((congrArg (λl=>b9 tgt b l ℓ2 σ2) (wb hx)).symm.trans hl)) λp1 p2 ht3 q1 q2=>
     bN (ht _ _ _ _ _ ht3 A _ env R2 J2 v _ L3.c hv λs4 R4 J4 g4 c4=>have L4:=L3.body B g4 c4
      bN (hb _ _ _ _ _ q1 A s4 env R4 J4 _ L4.c λr s5 R5 J5 g5 c5 fr5=>have L5:=L4.body B g5 c5
       q2.elim (λz=>fr5.turn z.1 (⟨k,Nat.lt_succ_self k,i+1,R5,J5,_,_,(Nat.succ_add i k).trans hk,L5,z.2⟩:∃m,m< k+1∧Hu G Γ mu A env s R J s1 R1 J1 items I fp St tgt b res m s5))
        λz=>z.elim (λz=>fr5.out z.1 ((z.2▸hQ:KS G mu Γ A s env R J Q (.next,p2.2)) _ s5 R5 J5 L5.g c5 rfl))
         λz=>z.elim λu z=>fr5.back z.1 λw f=>(z.2▸hQ:KS G mu Γ A s env R J Q p2) _ s5 R5 J5 L5.g c5 f) (λ_ _ z=>z) λ_ _ z=>z.elim) (λ_ _ z=>z) λ_ _ z=>z.elim)) items.length
   ⟨0,R1,J1,U,σ1,Nat.zero_add _, .new B g1 c1,el⟩) (hs env)
end
section
noncomputable def PI (G:Gd)(Γ:FI)(e:Expr)(x:Lo→ar→Option (List AV × Bool)):Prop:=
 ∀U V items fz,x U V=some (items,fz)→∀(A:Around) (s:Shared) (env:Env) (R:List Addr) (J:aG) (Q:Value→Shared→Prop),Cx G Γ A s env R J U V→
  (∀I s' fp P St,s.heap.get? I=none→Kp s s'→Cx G Γ A s' env (I::R) J U V→ItSt G A (I::R) J s'.heap items fz I fp P St→Q (.ref I) s')→
  wpAny (model G.prog G.w) A (eval e env) (λxv s1=>wpAny (model G.prog G.w) A (pyIter xv) Q aI s1) aI s
def iP (a:a7):Lo→ar→Option (List AV × Bool):=λU V=>(a U V).bind λv=>nr V v
theorem eJ (ha:MP G Γ e a):PI G Γ e (iP a):=by
 intro U V items fz q A s env R J Q c hQ
 simp only [iP,Option.bind_eq_some_iff] at q
 obtain ⟨v,e1,e2⟩:=q
 refine ha _ _ _ e1 A s env R J _ c λr s1 k1 r1=> ?_
 refine wQ (mu:=⟨false,J.length⟩) (c.kp k1) r1 e2 λI s2 fp P St fr g2 c2 it=> ?_
 exact hQ I s2 fp P St ((Go.of_kp (X:=[]) (R:=R) (J:=J) k1).none_of fr) (k1.trans (g2.pure (Nat.le_refl _))) c2 it
noncomputable def yz (Γ:FI)(names:List (Str × NameKind)):List (Str × NameKind):=names.map λ(n,k)=>if (k == .free && Γ.names.lookup n == some .cell) then (n, .cell) else (n,k)
noncomputable def eY (g:Str→Addr)(names:List (Str × NameKind)):List (Str × Addr):=names.foldl (λcs p=>if p.2 == .free then (p.1,g p.1)::cs else cs) []
structure CompF (Γ Γc:FI) (scope:Scope) (x:Str) (cap:Option (Str × Nat)):Prop where
 kind:scope.kind= .function
 names:Γc.names=yz Γ scope.names
 nocell:∀y∈scope.names,y.2≠ .cell
 look:∀y∈scope.names,y.2= .local→scope.names.lookup y.1=some .local
 slots:Γc.slots=x::(match cap with | none=>[] | some (n,_)=>[n])
 xl:Γc.names.lookup x=some .local
 clo:∀g,eY g scope.names=(match cap with | none=>[] | some (n,_)=>[(n,g n)])
 free:∀y∈scope.names,y.2= .free→∃i,cap=some (y.1,i)
 capE:∀n i,cap=some (n,i)→Γ.slots[i]? =some n∧Γ.names.lookup n=some .cell∧Γc.names.lookup n=some .cell∧n≠x
 only:∀y,Γc.names.lookup y=some .cell→∃i,cap=some (y,i)
 d:Γc.d=Γ.d∧Γc.code=Γ.code∧Γc.qual=Γ.qual
theorem lQ (g:Str→Addr)(h:∀y∈scope.names,y.2= .free→env.cells.lookup y.1=some (g y.1)):closureFor scope env=pure (eY g scope.names):=by
 have key:∀(names:List (Str × NameKind)) (cs:List (Str × Addr)),(∀y∈names,y.2= .free→env.cells.lookup y.1=some (g y.1))→
   (forIn names cs λ(p:Str × NameKind) (cs:List (Str × Addr))=>(do if p.2 == .free then pure (ForInStep.yield ((p.1,← cellOf env p.1)::cs)) else pure (ForInStep.yield cs):Sem _))=pure (names.foldl (λcs p=>if p.2 == .free then (p.1,g p.1)::cs else cs) cs):=by
  intro names
  induction names with
  | nil=>intro cs _;rfl
  | cons p r ih=>
   intro cs hh
   rw [List.forIn_cons,List.foldl_cons]
   by_cases hp:(p.2 == NameKind.free)=true
   ·have hc:cellOf env p.1=pure (g p.1):=by unfold cellOf;rw [hh p bY (by simpa using hp)]
    simp only [hp,if_true,hc,pure_bind]
    exact ih _ λy hy=>hh y (cQ _ hy)
   ·simp only [hp,if_false,pure_bind,Bool.false_eq_true]
    exact ih _ λy hy=>hh y (cQ _ hy)
 unfold closureFor
 have:=key scope.names [] h
 unfold eY
 rw [← this]
 simp only [bind_pure]
noncomputable def iC (cap:Option (Str × Nat))(U:Lo):Lo:=match cap with
 | none=>[]
 | some (_,i)=>[(U[i]?).join]
noncomputable def gx (ts:List dz)(U:Lo)(V:ar):Option Bool:=match ts with
 | []=>some true
 | t::r=>match t U V with
  | some true=>gx r U V
  | some false=>some false
  | none=>none
def dY (elt:a7)(ts:List dz)(caps:Lo)(V:ar):List AV→Option (List AV)
 | []=>some []
 | v::r=>match gx ts (some v::caps) V with
  | some true=>(elt (some v::caps) V).bind λy=>(dY elt ts caps V r).map λys=>y::ys
  | some false=>dY elt ts caps V r
  | none=>none
def d5 (it:Lo→ar→Option (List AV × Bool))(cap:Option (Str × Nat))(elt:a7)(ts:List dz):a7:=λU V=>(it U V).bind λp=>
 if p.1.length≤10000 then (dY elt ts (iC cap U) V p.1).map AV.lst else none
inductive MTl (G:Gd) (Γ:FI):List Expr→List dz→Prop
 | nil:MTl G Γ [] []
 | cons {e:Expr} {t:dz} {es:List Expr} {ts:List dz}:MT G Γ e t→MTl G Γ es ts→MTl G Γ (e::es) (t::ts)
theorem Cy (h:MTl G Γ ifs ts):∀{U V b},gx ts U V=some b→∀(A:Around) (s:Shared) (env:Env) (R:List Addr) (J:aG) (Q:Bool→Shared→Prop),Cx G Γ A s env R J U V→(∀s',Kp s s'→Q b s')→
  wpAny (model G.prog G.w) A (forIn ifs true λc r=>if r=true then do let ok ← isTrue c env (eval c env);pure (ForInStep.yield ok) else pure (ForInStep.yield r)) Q aI s:=by
 have skip:∀(ifs:List Expr) (A:Around) (s:Shared) (env:Env) (Q:Bool→Shared→Prop),Q false s→wpAny (model G.prog G.w) A (forIn ifs false λc r=>if r=true then do let ok ← isTrue c env (eval c env);pure (ForInStep.yield ok) else pure (ForInStep.yield r)) Q aI s:=by
  intro ifs
  induction ifs with
  | nil=>intro A s env Q h;exact aC h
  | cons c r ih=>
   intro A s env Q h
   rw [List.forIn_cons]
   simp only [Bool.false_eq_true,if_false]
   exact am (aC (ih A s env Q h))
 induction h with
 | nil=>
  intro U V b e A s env R J Q c hQ
  cases e
  exact aC (hQ s (Kp.refl s))
 | @cons e1 t es ts h1 h2 ih=>
  intro U V b e A s env R J Q c hQ
  rw [List.forIn_cons]
  simp only [if_true]
  unfold gx at e
  split at e
  ·rename_i ht
   refine am (am (h1 _ _ _ ht A s env R J _ c λs1 k1=>aC ?_))
   exact ih e A s1 env R J Q (c.kp k1) λs2 k2=>hQ s2 (k1.trans k2)
  ·rename_i ht
   cases e
   refine am (am (h1 _ _ _ ht A s env R J _ c λs1 k1=>aC ?_))
   exact skip _ A s1 env Q (hQ s1 k1)
  ·exact au e
noncomputable def mq (env:Env)(n:Str):Addr:=(env.cells.lookup n).getD 0
theorem pB (h:env.cells.lookup n=some c):mq env n=c:=congrArg (·.getD 0) h
section
variable {scope:Scope} {x:Str} {cap:Option (Str × Nat)}
theorem wR (K:CompF Γ Γc scope x cap)(g:Str→Addr):(cap=none∧eY g scope.names=[])∨∃n i,cap=some (n,i)∧eY g scope.names=[(n,g n)]:=by
 have h:=K.clo g
 cases cap with
 | none=>exact .inl ⟨rfl,h⟩
 | some p=>exact .inr ⟨_,_,rfl,h⟩
theorem DY (K:CompF Γ Γc scope x cap)(m:a∈(eY g scope.names).map (·.2)):∃n i,cap=some (n,i)∧a=g n:=
 (wR K g).elim (λq=>absurd (q.2▸m:a∈([]:List (Str × Addr)).map (·.2)) bq) λq=>cU q λn i h1 h2=>⟨n,i,h1,aH (h2▸m:a∈ [(n,g n)].map (·.2))⟩
theorem De (K:CompF Γ Γc scope x cap)(e:cap=some (n,i)):(eY g scope.names).lookup n=some (g n):=
 (wR K g).elim (λq=>mj (e.symm.trans q.1)) λq=>q.elim λ_ q=>q.elim λ_ q=>by rw [q.2,(dD (e.symm.trans q.1)).1];simp
theorem Hv (K:CompF Γ Γc scope x cap){i:Nat}(h1:Γc.slots[i]? =some y)(h2:(none::iC cap U)[i]? =some (some v)):∃j,cap=some (y,j)∧U[j]? =some (some v):=by
 rw [K.slots] at h1
 cases i with
 | zero=>exact au (aD h2)
 | succ i=>cases cap with
  | none=>exact au h2
  | some p=>cases i with
   | zero=>exact ⟨p.2,aD h1▸rfl,pt (aD h2)⟩
   | succ i=>exact au h2
variable {A:Around} {s:Shared} {env:Env} {R:List Addr} {J:aG} {U:Lo} {V:ar}
theorem BK (K:CompF Γ Γc scope x cap)(c:Cx G Γ A s env R J U V)(k:Kp s s4)(S4:SR G R' J V s4.heap)(hC:C∈R'∧C∉own J∧C∉G.TB)(hsub:∀a∈R,a∈R')(hout:∀a∈R',a∈R∨s.heap.get? a=none)(hns:s4.heap.Ns C λ_=>none)(hCf:s.heap.get? C=none)(hab:G.g.objs.size≤C):
  Cx G Γc A s4 (compEnvC scope (eY (mq env) scope.names) C env) R' J (none::iC cap U) V:=
 c.F.elim λm F=>
 have hcc:∀{a},a∈(eY (mq env) scope.names).map (·.2)→a∈env.cells.map (·.2):=λha=>cU (DY K ha) λn i h1 h2=>(F.celAll n (K.capE n i h1).2.1).elim λce q=>q.elim λw q=>(h2.trans (pB q.1))▸mQ q.1
 have hR:∀a o,a∉R→s.heap.get? a=some o→a∉R'∧s4.heap.get? a=some o:=λa o ha ho=>⟨λz=>(hout a z).elim ha λz=>bL z ho,k.kb.get ho⟩
 have hnm:(relabel scope env).names=Γc.names:=K.names.symm▸List.map_congr_left λp _=>by
  show (if _ then _ else _)=(if _ then _ else _)
  rw [ij F.nms,F.kind];simp
 ⟨⟨c.A.hd,K.d.1▸c.A.dp,K.d.1▸c.A.un⟩,S4,λ_=>none,K.kind,F.glob,⟨F.bt.1,F.bt.2.1.trans K.d.2.1.symm,F.bt.2.2.trans K.d.2.2.symm⟩,hnm,⟨hns,S4.base,hab⟩,
  λa ha=>(aU ha).elim (λz=>z▸hC) λha=>⟨hsub a (F.faR a (.tail _ (hcc ha))).1,(F.faR a (.tail _ (hcc ha))).2⟩,
  List.nodup_cons.mpr ⟨λz=>(F.faR' C (hcc z)).elim λ_ e=>bL hCf e,(wR K (mq env)).elim (λq=>q.2▸List.nodup_nil) λq=>q.elim λ_ q=>q.elim λ_ q=>q.2▸List.nodup_cons.mpr ⟨bq,List.nodup_nil⟩⟩,
  λa ha=>(F.faR' a (hcc ha)).imp λ_ e=>k.kb.get e,
  λi y v h1 h2 h3=>(Hv K h1 h2).elim λj q=>HU h3 (K.capE y j q.1).2.2.1,
  λi y v h1 h2 h3=>(Hv K h1 h2).elim λj q=>(F.cel j y v (K.capE y j q.1).1 q.2 (m4 (K.capE y j q.1).2.1 rfl)).imp λce z=>z.imp λval z=>⟨(De K q.1).trans (congrArg some (pB z.1)),z.2.1.keeps λ_ _ e=>k.kb.get e,VRel.mono hR (λ_ _ x=>x) _ _ z.2.2⟩,
  λy hy=>(K.only y hy).elim λj hj=>(F.celAll y (K.capE y j hj).2.1).imp λce z=>z.imp λw z=>⟨(De K hj).trans (congrArg some (pB z.1)),z.2.keeps λ_ _ e=>k.kb.get e⟩⟩
theorem Qq (K:CompF Γ Γc scope x cap)(c:Cx G Γ A s env R J U V):closureFor scope env=pure (eY (mq env) scope.names):=lQ _ λy hy hf=>
 c.F.elim λm F=>(K.free y hy hf).elim λi hi=>(F.celAll y.1 (K.capE _ _ hi).2.1).elim λce q=>q.elim λw q=>q.1.trans (congrArg some (pB q.1).symm)
end
theorem ItSt.grow {St:Nat→Heap→Prop}(it:ItSt G A R J h items fz I fp P St)(k:∀b o,h.get? b=some o→h'.get? b=some o)(hs:∀a∈R,a∈R')(hn:∀a∈R',a∈R∨h.get? a=none):ItSt G A R' J h' items fz I fp P St:=
 ⟨it.W,it.W.frame _ _ _ it.st λb _ o e=>k b o e,it.it.imp λo e=>k I o e,it.cls,hs I it.itR,it.itJ,it.itT,λb m=>(it.live b m).imp λo e=>k b o e,λz b m=>(it.frz z b m).imp id λq w=>(hn b w).elim q λw=>(it.live b m).elim λ_ e=>bL w e,
  λi v hi p=>(it.val i v hi p).imp λx q=>⟨q.1,VRel.mono (λa o ha e=>⟨λw=>(hn a w).elim ha λw=>bL w e,k a o e⟩) (λ_ _ x=>x) _ _ q.2⟩,it.nc⟩
structure LpB (G:Gd) (A:Around) (s1:Shared) (env:Env) (R:List Addr) (J:aG) (items:List AV) (fz:Bool) (I D:Addr) (fp:List Addr) (P:Nat→Value→Prop) (St:Nat→Heap→Prop):Prop where
 it:ItSt G A R J s1.heap items fz I fp P St
 ifa:I∉fa env
 dR:D∈R
 dJ:D∉own J
 dT:D∉G.TB
 dfa:D∉fa env
 dI:D≠I
 fp:∀b∈fp,b≠D∧b≠env.locals
 lR:env.locals∈R
structure LpA (G:Gd) (Γ:FI) (A:Around) (s1:Shared) (env:Env) (R:List Addr) (J:aG) (V:ar) (I D:Addr) (St:Nat→Heap→Prop) (i:Nat) (U:Lo) (acc:List AV) (s:Shared):Prop where
 sh:∃h tk,s= { s1 with heap:=h,toks:=tk }
 kb:KB [I,D,env.locals] s1.heap s.heap
 c:Cx G Γ A s env R J U V
 st:St i s.heap
 l:∃us n,s.heap.get? D=some (listOf us n)∧VRels G R J s.heap acc us.toList
section
variable {A:Around} {s1:Shared} {env:Env} {R:List Addr} {J:aG} {items:List AV} {fz:Bool} {I D:Addr} {fp:List Addr} {P:Nat→Value→Prop} {St:Nat→Heap→Prop} {i:Nat} {U ℓ':Lo} {V:ar} {acc acc':List AV} {s s':Shared}
theorem LpB.hX (B:LpB G A s1 env R J items fz I D fp P St):∀a∈ [I,D,env.locals],a∈R:=Hl B.it.itR B.dR B.lR
theorem LpA.upd (B:LpB G A s1 env R J items fz I D fp P St)(L:LpA G Γ A s1 env R J V I D St i U acc s)(sh:∃h tk,s'= { s with heap:=h,toks:=tk })(kb:KB X s.heap s'.heap)(hX:∀b∈X,b=D∨b=env.locals)(c:Cx G Γ A s' env R J ℓ' V)
  (l:∃us n,s'.heap.get? D=some (listOf us n)∧VRels G R J s'.heap acc' us.toList):LpA G Γ A s1 env R J V I D St i ℓ' acc' s':=
 ⟨kx L.sh sh,λb o hb e=>kb b o (λm=>hb ((hX b m).elim (λz=>z▸ .tail _ (.head _)) λz=>z▸ .tail _ (.tail _ (.head _)))) (L.kb b o hb e),c,
  B.it.W.frame _ _ _ L.st λb m o e=>kb b o (λz=>(hX b z).elim (B.fp b m).1 (B.fp b m).2) e,l⟩
theorem LpA.kp (B:LpB G A s1 env R J items fz I D fp P St)(L:LpA G Γ A s1 env R J V I D St i U acc s)(k:Kp s s'):LpA G Γ A s1 env R J V I D St i U acc s':=
 L.upd B k.sh k.kb nofun (L.c.kp k) (L.l.imp λ_ q=>q.imp λ_ q=>⟨k.kb.get q.1,q.2.keep k.kb⟩)
theorem LpA.asg (B:LpB G A s1 env R J items fz I D fp P St)(L:LpA G Γ A s1 env R J V I D St i U acc s)(hs:Slot1 Γ j x)(hk:Γ.names.lookup x=some .local)(hr:VRel G R J s.heap v val)
  (hQ:∀s',LpA G Γ A s1 env R J V I D St i (U.set j (some v)) acc s'→Q () s'):wpAny (model G.prog G.w) A (assign (.Name x px) env val) Q E s:=
 wpAny_assign_Name (Cr (mu:=⟨false,0⟩) L.c hs hk hr λh' tk sb g=>
  have kb:KB [env.locals] s.heap h':=λb o hb e=>(sb.2 b λz=>hb (List.mem_singleton.mpr z)).trans e
  hQ _ (L.upd B ⟨_,_,rfl⟩ kb (λb m=> .inr (aH m)) g.2 (L.l.imp λ_ q=>q.imp λ_ q=>⟨kb D _ (λm=>B.dfa (aH m▸eP)) q.1,q.2.kb kb λa m=>aH m▸B.lR⟩)))
theorem LpA.app (B:LpB G A s1 env R J items fz I D fp P St)(L:LpA G Γ A s1 env R J V I D St i U acc s)(hr:VRel G R J s.heap v val)(hsz:acc.length≤10000)
  (hQ:∀u s',LpA G Γ A s1 env R J V I D St i U (acc ++ [v]) s'→Q u s'):wpAny (model G.prog G.w) A (call (.builtin "list.append") [.ref D,val]) Q E s:=
 cU L.l λus n hD hv=>wpAny_list_append_plain (items:=us) ⟨n,hD⟩ (λh' hp hs=>hp.elim λn' hp=>
  have kb:KB [D] s.heap h':=λb o hb e=>(hs.2 b λz=>hb (List.mem_singleton.mpr z)).trans e
  have hX:∀a∈ [D],a∈R:=λa m=>aH m▸B.dR
  hQ _ _ (L.upd (s':={ s with heap:=h' }) B ⟨_,_,rfl⟩ kb (λb m=> .inl (aH m)) (L.c.poke kb B.dR B.dJ B.dT B.dfa (jM hD nofun) ⟨_,hp⟩).2
   ⟨us.push val,n',hp,(Array.toList_push:(us.push val).toList=_)▸(hv.kb kb hX).append (.one (hr.kb kb hX))⟩)) (ba (Nat.le_of_eq (Array.length_toList.symm.trans hv.length.symm)) (fB hsz))
theorem LpA.poke (B:LpB G A s1 env R J items fz I D fp P St)(L:LpA G Γ A s1 env R J V I D St i U acc s)(hk:KB [I] s.heap h')(lv:∃o,h'.get? I=some o)(st:St' j h'):LpA G Γ A s1 env R J V I D St' j U acc { s with heap:=h',toks:=tk }:=
 ⟨kx L.sh ⟨_,_,rfl⟩,λb o hb e=>hk b o (λm=>hb (aH m▸ .head _)) (L.kb b o hb e),(L.c.poke hk B.it.itR B.it.itJ B.it.itT B.ifa (B.it.nc _ _ L.st) lv).2,st,
  L.l.imp λ_ q=>q.imp λ_ q=>⟨hk _ _ (λm=>B.dI (aH m)) q.1,q.2.kb hk λa m=>aH m▸B.it.itR⟩⟩
theorem LpA.item (B:LpB G A s1 env R J items fz I D fp P St)(L:LpA G Γ A s1 env R J V I D St i U acc s)(hlt:i< items.length)
  (hQ:∀v x s',items[i]? =some x→VRel G R J s'.heap x v→LpA G Γ A s1 env R J V I D St (i+1) U acc s'→Q (some v) s'):wpAny (model G.prog G.w) A (pyNext (.ref I)) Q E s:=
 B.it.W.item i _ _ _ hlt L.st λv h' tk hP st hk=>cU (B.it.cls _ _ st) λo n ho _=>aW (B.it.val i v hlt hP) λx hx1 hx2=>
  have L':=L.poke B (tk:=tk) hk ⟨o,ho⟩ st
  hQ v x _ hx1 (hx2.kb L'.kb B.hX) L'
structure LpE (G:Gd) (Γ:FI) (A:Around) (s1:Shared) (env:Env) (R:List Addr) (J:aG) (V:ar) (I D:Addr) (U:Lo) (acc:List AV) (s:Shared):Prop where
 sh:∃h tk,s= { s1 with heap:=h,toks:=tk }
 kb:KB [I,D,env.locals] s1.heap s.heap
 c:Cx G Γ A s env (dV R [I]) J U V
 l:∃us n,s.heap.get? D=some (listOf us n)∧VRels G (dV R [I]) J s.heap acc us.toList
theorem LpA.done (B:LpB G A s1 env R J items fz I D fp P St)(L:LpA G Γ A s1 env R J V I D St i U acc s)(hi:i=items.length)
  (hQ:∀s',LpE G Γ A s1 env R J V I D U acc s'→Q none s'):wpAny (model G.prog G.w) A (pyNext (.ref I)) Q E s:=
 B.it.W.done _ _ _ (hi▸L.st) λh' tk hk=>hQ _
  ⟨kx L.sh ⟨_,_,rfl⟩,λb o hb e=>hk b o (λm=>hb (aH m▸ .head _)) (L.kb b o hb e),L.c.drop hk B.it.itR B.it.itJ B.it.itT B.ifa (B.it.nc _ _ L.st),
  L.l.imp λ_ q=>q.imp λ_ q=>⟨hk _ _ (λm=>B.dI (aH m)) q.1,VRels.mono (λa o ha ho=>⟨λm=>ha (mem_outOf.mp m).1,hk a o (λm=>ha (aH m▸B.it.itR)) ho⟩) (λ_ _ x=>x) _ _ q.2⟩⟩
end
structure CompN (G:Gd) (A:Around) (s s1:Shared) (env:Env) (R:List Addr) (J:aG) (items:List AV) (fz:Bool) (I D:Addr) (fp:List Addr) (P:Nat→Value→Prop) (St:Nat→Heap→Prop):Prop where
 k:Kp s s1
 fr:∀a∈ [I,D,env.locals],s.heap.get? a=none
 B:LpB G A s1 env (env.locals::D::I::R) J items fz I D fp P St
theorem CompN.kp {St:Nat→Heap→Prop}(N:CompN G A s s1 env R J items fz I D fp P St)(sh:∃h tk,s'= { s1 with heap:=h,toks:=tk })(kb:KB [I,D,env.locals] s1.heap s'.heap):Kp s s':=
 ⟨kx N.k.sh sh,λb o _ e=>kb b o (λm=>bL (N.fr b m) e) (N.k.kb.get e)⟩
theorem Po {h h2:Heap}(e:h2.objs.size=h.objs.size+1):h.get? h2.objs.size=none:=Option.eq_none_iff_forall_ne_some.mpr λ_ z=>Nat.not_lt.mpr (Nat.le_succ _) (e▸Heap.lt_size z)
theorem BL
  (K:CompF Γ Γc scope x cap)(hi:PI G Γ iter it)(hs:∀env x,foldedSetIterable iter env x=pure x)(hcl:clausesOf ex=⟨.Name x px,iter,ifs,0⟩::gs)
  (e1:it U V=some (items,fz))(c:Cx G Γ A s env R J U V)
  (h:∀I D Yo s1 fp P St,CompN G A s s1 Yo R J items fz I D fp P St→LpA G Γc A s1 Yo (Yo.locals::D::I::R) J V I D St 0 (none::iC cap U) [] s1→codeAny (model G.prog G.w) A (.compStart ex 0 (.ref I) (.ref D) Yo) (compPost (model G.prog G.w) A aI use Q (.ref D) Yo.locals) s1):
  wpAny (model G.prog G.w) A (comprehension ex scope env pos2 (newList []) false (eval iter env) use) Q aI s:=by
 refine wpAny_comprehension_free (use:=use) hcl (hs env) (Qq K c) K.kind (λy hy hl=>K.look y hy hl) (hi _ _ _ _ e1 A s env R J _ c λI s2 fp P St fr2 k2 c2 it2=> ?_)
 refine wpAny_newObj_type (wpAny_newFunctionEnv K.nocell (λ_ m=>absurd m bq) (λh₁ hns₁ hsb₁=> ?_) K.kind)
 dsimp only at hns₁ hsb₁ ⊢
 generalize hH2:s2.heap.push { cls:= .type "list",dict:=none,data:= .seq ([]:List Value).toArray }=H2 at hns₁ hsb₁ ⊢
 have hC:H2.objs.size=s2.heap.objs.size+1:=hH2▸Heap.size_push _ _
 have hC2:s2.heap.get? H2.objs.size=none:=Po hC
 have hDC:s2.heap.objs.size≠H2.objs.size:=hC▸Nat.ne_of_lt (Nat.lt_succ_self _)
 have hab:G.g.objs.size≤H2.objs.size:=hC▸c2.S.abv.elim λa q=>q.elim λo q=>ba q.2 (Nat.le_of_lt (Nat.lt_succ_of_lt (Heap.lt_size q.1)))
 have old:∀b o,s2.heap.get? b=some o→h₁.get? b=some o:=λb o e=>hsb₁.extBut b o (λz=>bL hC2 (z▸e)) (cA _ (hH2▸cA _ e))
 have hD1:h₁.get? s2.heap.objs.size=some (listOf ([]:List Value).toArray 0):=hsb₁.extBut _ _ hDC (cA _ (hH2▸bK _ rfl))
 have hD2:s2.heap.get? s2.heap.objs.size=none:=dr _
 clear hsb₁ hH2 hC
 generalize s2.heap.objs.size=D at *
 generalize H2.objs.size=C at *
 have k4:Kp s2 { s2 with heap:=h₁,toks:=s2.toks+([]:List (Str × Value)).length }:=gP old
 have n2:∀{a},s2.heap.get? a=none→s.heap.get? a=none:=(Go.of_kp (X:=[]) (R:=R) (J:=J) k2).none_of
 have hs':∀a∈I::R,a∈C::D::I::R:=λa m=> .tail _ (.tail _ m)
 have hn':∀a∈C::D::I::R,a∈I::R∨s2.heap.get? a=none:=λa m=>(aU m).elim (λz=> .inr (z▸hC2)) λm=>(aU m).elim (λz=> .inr (z▸hD2)) .inl
 have RD:SR G (C::D::I::R) J V h₁:=c2.S.grow k4.kb hs' hn' λa m=>(aU m).elim (λz=>z▸hns₁.imp λ_ q=>q.elim λ_ q=>q.elim λ_ q=>q.1) λm=>(aU m).elim (λz=>z▸⟨_,hD1⟩) λm=>(c2.S.live a m).imp λo e=>old a o e
 have cf:∀{a},s.heap.get? a=none→a≠C→a∉fa (compEnvC scope (eY (mq env) scope.names) C env):=λz w m=>(aU m).elim w λm=>cU (DY K m) λn i h1 h2=>c.F.elim λ_ F=>(F.celAll n (K.capE n i h1).2.1).elim λce q=>q.elim λ_ q=>(c.faLive ce (mG q.1)).elim λ_ e=>bL z ((h2.trans (pB q.1))▸e)
 have nI:∀{a},s2.heap.get? a=none→I≠a:=λz w=>it2.it.elim λ_ e=>bL z (w▸e)
 have c4:=BK K c (R':=C::D::I::R) (k2.trans k4) RD ⟨.head _,c2.S.new_out hC2⟩ (λa m=> .tail _ (.tail _ (.tail _ m))) (λa m=>(hn' a m).elim (λm=>(aU m).elim (λz=> .inr (z▸fr2)) .inl) λz=> .inr (n2 z)) hns₁ (n2 hC2) hab
 exact h I D (compEnvC scope (eY (mq env) scope.names) C env) _ fp P St
  ⟨k2.trans k4,Hl fr2 (n2 hD2) (n2 hC2),
   it2.grow old hs' hn',cf fr2 (nI hC2), .tail _ (.head _),(c2.S.new_out hD2).1,(c2.S.new_out hD2).2,cf (n2 hD2) hDC,(nI hD2).symm,λb m=>(it2.live b m).elim λ_ e=>⟨λz=>bL hD2 (z▸e),λz=>bL hC2 (z▸e)⟩, .head _⟩
  ⟨⟨_,_,rfl⟩,KB.refl _ _,c4,it2.W.frame _ _ _ it2.st λb _ o e=>old b o e,#[],0,hD1, .nil⟩
theorem Sc (K:CompF Γ Γc scope x cap):Slot1 Γc 0 x:=⟨K.slots▸rfl,λj hj=>by
 rw [K.slots] at hj
 cases j with
 | zero=>rfl
 | succ j=>cases cap with
  | none=>exact au hj
  | some p=>cases j with
   | zero=>exact absurd (aD hj) (K.capE p.1 p.2 rfl).2.2.2
   | succ j=>exact au hj, .inl K.xl⟩
theorem Mu (h:dY e ts caps V (v::r)=some ys):
  (∃y zs,gx ts (some v::caps) V=some true∧e (some v::caps) V=some y∧dY e ts caps V r=some zs∧y::zs=ys)∨gx ts (some v::caps) V=some false∧dY e ts caps V r=some ys:=by
 unfold dY at h
 split at h
 ·exact aw h λy hy h=>cr h λzs hz h=> .inl ⟨y,zs,by assumption,hy,hz,h⟩
 ·exact .inr ⟨by assumption,h⟩
 ·exact au h
theorem Cz
  (K:CompF Γ Γc scope x cap)(hi:PI G Γ iter it)(he:MP G Γc elt e)(hts:MTl G Γc ifs ts)(hs:∀env x,foldedSetIterable iter env x=pure x)
  (e1:it U V=some (items,fz))(Yp:items.length≤10000)(e2:dY e ts (iC cap U) V items=some ys)
  (c:Cx G Γ A s env R J U V)
  (hpost:∀I D Yo s1 fp P St ℓ' s',CompN G A s s1 Yo R J items fz I D fp P St→LpE G Γc A s1 Yo (Yo.locals::D::I::R) J V I D ℓ' ys s'→compPost (model G.prog G.w) A aI use Q (.ref D) Yo.locals (.ok .next) s'):
  wpAny (model G.prog G.w) A (comprehension (.ListComp elt [⟨.Name x px,iter,ifs,0⟩] scope pos) scope env pos2 (newList []) false (eval iter env) use) Q aI s:=
 BL (ex:= .ListComp elt [⟨.Name x px,iter,ifs,0⟩] scope pos) K hi hs rfl e1 c λI D Yo s1 fp P St N L0=>
 have loop:codeAny (model G.prog G.w) A (.compLoop (.ListComp elt [⟨.Name x px,iter,ifs,0⟩] scope pos) 0 (.ref I) (.ref D) Yo) (compPost (model G.prog G.w) A aI use Q (.ref D) Yo.locals) s1:=
  codeAny_compLoop_tests (λk s5=> ∃i acc o0 rest,i+k=items.length∧acc.length≤i∧dY e ts (iC cap U) V (items.drop i)=some rest∧acc ++rest=ys∧LpA G Γc A s1 Yo (Yo.locals::D::I::R) J V I D St i (o0::iC cap U) acc s5)
   (pU (λs5 inv=>Ck inv λi acc o0 rest hk _ hrun hys L=>L.done N.B hk λs6 L6=>hpost I D Yo s1 fp P St _ s6 N (by
     rw [show i=_ from hk,List.drop_length] at hrun
     cases hrun
     rw [List.append_nil] at hys
     exact hys▸L6)) λk s5 inv=>Ck inv λi acc o0 rest hk hal hrun hys L=>have hlt:i< items.length:=hk▸Nat.lt_add_of_pos_right (Nat.succ_pos k)
    L.item N.B hlt λv y s6 hy hv L6=>L6.asg N.B (Sc K) K.xl hv λs7 L7=>(Mu ((congrArg (dY e ts (iC cap U) V) (wb hy)).symm.trans hrun)).elim
     (λq=>br q λz zs ht hz hr hzs=>bN (Cy hts ht A _ _ _ _ _ L7.c λs8 k8=>have L8:=L7.kp N.B k8
      bN (he _ _ _ hz A s8 _ _ _ _ L8.c λr s9 k9 r9=>(L8.kp N.B k9).app N.B r9 (ba hal (ba (Nat.le_of_lt hlt) Yp)) λ_ s10 L10=>
       ⟨k,Nat.lt_succ_self k,i+1,_,_,zs,(Nat.succ_add i k).trans hk,(List.length_append▸Nat.succ_le_succ hal),hr,(List.append_assoc _ _ _).trans ((congrArg (acc ++ ·) hzs).trans hys),L10⟩) (λ_ _ z=>z) λ_ _ z=>z.elim) (λ_ _ z=>z) λ_ _ z=>z.elim)
     λq=>bN (Cy hts q.1 A _ _ _ _ _ L7.c λs8 k8=>
      ⟨k,Nat.lt_succ_self k,i+1,acc,_,rest,(Nat.succ_add i k).trans hk,Nat.le_succ_of_le hal,q.2,hys,L7.kp N.B k8⟩) (λ_ _ z=>z) λ_ _ z=>z.elim) items.length
   ⟨0,[],none,ys,Nat.zero_add _,Nat.zero_le _,e2,rfl,L0⟩
 codeAny_compStart_list loop (N.B.it.W.self 0 _ _ _ L0.st loop)
theorem LpE.val (L:LpE G Γc A s1 env R J V I D U ys s')(hD:D∉R')(hDC:D≠env.locals)(hR:∀a∈R',a∈dV R [I])(hC:env.locals∈dV R [I])(hs:Heap.SameBut env.locals s'.heap h'):VRel G R' J h' (.lst ys) (.ref D):=
 cU L.l λus n hl hv=>VRel.lst (vs:=us.toList) hD ⟨_,(hs.2 _ hDC).trans hl,rfl,n,Array.toArray_toList.symm▸rfl⟩
  (VRels.mono (λa o ha ho=>⟨λm=>ha (hR a m),(hs.2 a λz=>ha (z▸hC)).trans ho⟩) (λ_ _ x=>x) _ _ hv)
section
variable {A:Around} {s s1 s':Shared} {env:Env} {R:List Addr} {J:aG} {items:List AV} {fz:Bool} {I D:Addr} {fp:List Addr} {P:Nat→Value→Prop} {St:Nat→Heap→Prop} {V σ0:ar} {U:Lo} {ys:List AV} (N:CompN G A s s1 env R J items fz I D fp P St)
include N
theorem CompN.outR (S:SR G R J σ0 s.heap):∀a∈R,a∈dV (env.locals::D::I::R) [I]:=λa m=>mem_outOf.mpr ⟨.tail _ (.tail _ (.tail _ m)),λ(z:a∈ [I])=>S.fresh (N.fr I (.head _)) (aH z▸m)⟩
theorem CompN.outC:env.locals∈dV (env.locals::D::I::R) [I]:=mem_outOf.mpr ⟨.head _,λz=>N.B.ifa (aH z▸eP)⟩
theorem CompN.dC:D≠env.locals:=λz=>N.B.dfa (z▸eP)
theorem LpE.lst (L:LpE G Γc A s1 env (env.locals::D::I::R) J V I D U ys s')(S:SR G R J σ0 s.heap)(hs:Heap.SameBut env.locals s'.heap h'):
  Kp s { s' with heap:=h' }∧VRel G R J h' (.lst ys) (.ref D):=
 have k:=N.kp L.sh L.kb
 ⟨⟨kx k.sh ⟨_,s'.toks,rfl⟩,λb o _ e=>(hs.2 _ λz=>bL (N.fr env.locals (.tail _ (.tail _ (.head _)))) (z▸e)).trans (k.kb.get e)⟩,
  L.val (S.fresh (N.fr D (.tail _ (.head _)))) N.dC (N.outR S) N.outC hs⟩
end
theorem LpE.ns (L:LpE G Γc A s1 env R J V I D U ys s'):∃m,s'.heap.Ns env.locals m:=L.c.F.imp λ_ F=>F.fr.ns
theorem Df (q:d5 it cap e ts U V=some v):∃p ys,it U V=some p∧p.1.length≤10000∧dY e ts (iC cap U) V p.1=some ys∧ .lst ys=v:=
 aw q λp e1 q=>if h:p.1.length≤10000 then cr ((if_pos h).symm.trans q) λys e2 e3=>⟨p,ys,e1,h,e2,e3⟩ else au ((if_neg h).symm.trans q)
theorem iU (K:CompF Γ Γc scope x cap)(hi:PI G Γ iter it)(he:MP G Γc elt e)(hts:MTl G Γc ifs ts)(hs:∀env x,foldedSetIterable iter env x=pure x:=by exact λ_ _=>rfl):
  MP G Γ (.ListComp elt [⟨.Name x px,iter,ifs,0⟩] scope pos) (d5 it cap e ts):=λU V v q A s env R J Q c hQ=>br (Df q) λp ys e1 Yp e2 e3=>
 eval_ListComp .. ▸Cz (use:=none) K hi he hts hs e1 Yp e2 c λI D Yo s1 fp P St ℓ' s' N L=>L.ns.imp λm hm=>⟨hm,λh' hs'=>(L.lst N c.S hs').elim λk r=>hQ _ _ k (e3▸r)⟩
theorem lC {px py:Pos}{pos spos:Pos}(K:CompF Γ Γc scope x cap)(hi:PI G Γ iter it)(he:MP G Γc elt e)(hts:MTl G Γc ifs ts)(hy:Slot1 Γ i y:=by exact slotA)(hs:∀env x,foldedSetIterable iter env x=pure x:=by exact λ_ _=>rfl)(hsw:∀env,env.scope.names=Γ.names→env.scope.kind= .function→swapsWith (.ListComp elt [⟨.Name x px,iter,ifs,0⟩] scope pos) (some (.Name y py)) spos.line env=pure true:=by exact swap_true rfl):
  MS G mu Γ (.Assign [.Name y py] (.ListComp elt [⟨.Name x px,iter,ifs,0⟩] scope pos) spos) (bx i (xP (d5 it cap e ts))):=MS.mk λU V A s env R J Q c hq=>by
 obtain ⟨res,q,hQ⟩:=hq
 unfold bx at q
 split at q
 ·rename_i v σ1 q1
  cases q
  refine cr q1 λv' q2 q3=> ?_
  obtain rfl:=(bT q3).1;obtain rfl:=(bT q3).2
  refine br (Df q2) λp ys e1 Yp e2 e3=> ?_
  refine exec_Assign_Name_used _ _ _ _ (hsw env (c.F.elim λ_ F=>F.nms) (c.F.elim λ_ F=>F.kind))▸am (wpAny_standAt (am (am (bN (Cz (use:=some (assign (.Name y py) env)) (Q:=λ_ s'=>Q .next s') K hi he hts hs e1 Yp e2 c λI D Yo s1 fp P St ℓ' s' N L=>L.ns.elim λm hm=> ?_) (λ_ s' hq=>aC (aC hq)) λ_ _ z=>z))))
  have fC:=N.fr Yo.locals (.tail _ (.tail _ (.head _)))
  refine (c.res (mu:=mu) (N.kp L.sh L.kb) fC (hm.imp λ_ q=>q.elim λ_ q=>q.elim λ_ q=>q.1)).elim λg1 c1=> ?_
  have vr:VRel G (Yo.locals::R) J s'.heap (.lst ys) (.ref D):=L.val (λm=>(aU m).elim N.dC (c.S.fresh (N.fr D (.tail _ (.head _))))) N.dC (λa m=>(aU m).elim (λz=>z▸N.outC) (N.outR c.S a)) N.outC (.refl _ _)
  refine wpAny_assign_Name (j2 (mu:=mu) c1 hy vr λs2 g2 c2=> ?_)
  have hCf:=c.fresh fC
  have hm2:s2.heap.Ns Yo.locals m:=hm.at' λo e=>g2.kb _ o (λm=>(bC m).elim (λm=>c.S.fresh fC (lO c.S m)) hCf) e
  exact ⟨m,hm2,λh' hs'=>(Cx.shed (tk:=s2.toks) (g1.xs.seq g2) c2 (λb o hb e=>(hs'.2 b λz=>hb (List.mem_singleton.mpr z)).trans e) (.head _) (c.S.new_out fC).1 (c.S.new_out fC).2 hCf (c.S.fresh fC) fC (sC hm2)).elim λg3 c3=>hQ _ _ _ _ g3 (e3▸c3) rfl⟩
 ·exact au q
end
theorem nu (st:Stmt):MS G mu Γ st (λ_ _=>none):=λ_ _ _ _ _ q=>au q
noncomputable def kP (f:AV→AV→Option AV)(a b:bZ):bZ:=λU V=>(a U V).bind λp=>(b U p.2).bind λq=>(f p.1 q.1).map λw=>(w,q.2)
theorem xo (hf:fQ G op f)(ha:MX G mu Γ l a)(hb:MX G mu Γ r b):MX G mu Γ (.BinOp l op r pos) (kP f a b):=MX.mk λU V A s env R J Q c k=>
 wpAny_BinOp (ha.run c (k.bind.imp λp k x s1 R1 J1 g1 c1 r1=>hb.run c1 (k.bind.imp λp2 k y s2 R2 J2 g2 c2 r2=>k.map.elim λw k=>
  hf _ _ _ k.1 A s2 R2 J2 x y Q c2.A.u c2.A.hd c2.S.live (g2.val (iE c1) r1) r2 λr s' k' r3=>k.2 r s' R2 J2 ((g1.seqX g2).seqX (Go.of_kp k')) (c2.kp k') r3)))
noncomputable def p9 (f:AV→AV→Option Bool)(a b:bZ):eh:=λU V=>(a U V).bind λp=>(b U p.2).bind λq=>(f p.1 q.1).map λw=>(w,q.2)
noncomputable def n8 (f:AV→AV→Option Bool)(a b:bZ):bZ:=λU V=>(a U V).bind λp=>(b U p.2).bind λq=>(f p.1 q.1).map λw=>(.bool w,q.2)
theorem ET (hf:fe G op f)(ha:MX G mu Γ l a)(hb:MX G mu Γ r b)(hm:behindInMarks op r=false:=by rfl):MX G mu Γ (.Compare l [op] [r] pos) (n8 f a b):=MX.mk λU V A s env R J Q c k=>
 wpAny_Compare1 (ha.run c (k.bind.imp λp k x s1 R1 J1 g1 c1 r1=>hb.run c1 (k.bind.imp λp2 k y s2 R2 J2 g2 c2 r2=>k.map.elim λw k=>
  hf _ _ _ k.1 A s2 _ R2 J2 x y Q c2.A.u c2.A.hd c2.S (g2.val (iE c1) r1) r2 λs' k'=>k.2 _ s' R2 J2 ((g1.seqX g2).seqX (Go.of_kp k')) (c2.kp k') .b))) hm
theorem T7 (hf:fe G op f)(ha:MX G mu Γ l a)(hb:MX G mu Γ r b)(hm:behindInMarks op r=false:=by rfl):MY G mu Γ (.Compare l [op] [r] pos) (p9 f a b):=MY.mk λU V A s env R J Q c k=>
 wpAny_isTrue_Compare1 (ha.run c (k.bind.imp λp k x s1 R1 J1 g1 c1 r1=>hb.run c1 (k.bind.imp λp2 k y s2 R2 J2 g2 c2 r2=>k.map.elim λw k=>
  hf _ _ _ k.1 A s2 _ R2 J2 x y _ c2.A.u c2.A.hd c2.S (g2.val (iE c1) r1) r2 λs' k'=>fj (k.2 s' R2 J2 ((g1.seqX g2).seqX (Go.of_kp k')) (c2.kp k'))))) hm
def yB (a b:bZ):bZ:=λU V=>(a U V).bind λp=>(b U p.2).bind λq=>(gq q.2 p.1 q.1).map λw=>(w,q.2)
theorem T8 (ha:MX G mu Γ e a)(hb:MX G mu Γ i b):MX G mu Γ (.Subscript e i pos) (yB a b):=MX.mk λU V A s env R J Q c k=>
 m5 (ha.run c (k.bind.imp λp k x s1 R1 J1 g1 c1 r1=>hb.run c1 (k.bind.imp λp2 k y s2 R2 J2 g2 c2 r2=>k.map.elim λw k=>
  EM c2.S c2.A.u (g2.val (iE c1) r1) r2 k.1 _ _ λr s3 k3 r3=>k.2 r s3 R2 J2 ((g1.seqX g2).seqX (Go.of_kp k3)) (c2.kp k3) r3)))
theorem KX.after (k:KX G mu Γ A s env R J U Q p)(g:Go (bs G mu J) s s1 R J R1 J1):KX G mu Γ A s1 env R1 J1 U Q p:=λr s2 R2 J2 g2 c2 r2=>k r s2 R2 J2 (g.seqX g2) c2 r2
theorem KY.after (k:KY G mu Γ A s env R J U Q p)(g:Go (bs G mu J) s s1 R J R1 J1):KY G mu Γ A s1 env R1 J1 U Q p:=λs2 R2 J2 g2 c2=>k s2 R2 J2 (g.seqX g2) c2
noncomputable def n9 (t:eh)(a b:bZ):bZ:=λU V=>(t U V).bind λp=>bif p.1 then a U p.2 else b U p.2
theorem T9 (ht:MY G mu Γ e t)(ha:MX G mu Γ e1 a)(hb:MX G mu Γ e2 b):MX G mu Γ (.IfExp e e1 e2 pos) (n9 t a b):=MX.mk λU V A s env R J Q c k=>
 wpAny_IfExp (ht.run c (k.bind.imp λp k s1 R1 J1 g1 c1=>k.cond (λh k=>oj h (ha.run c1 (k.imp λ_ k=>k.after g1))) λh k=>ml h (hb.run c1 (k.imp λ_ k=>k.after g1))))
def qj (a b:bZ):bZ:=λU V=>(a U V).bind λp=>(rP p.1).bind λz=>bif z then some (.bool true,p.2) else b U p.2
theorem Ua (ha:MX G mu Γ e a):MX G mu Γ (.BoolOp op [e] pos) a:=MX.mk λU V A s env R J Q c k=>BoolOp_one (ha.run c k)
theorem Qr (hy:VRel G R J h y v)(e:rP y=some b):v= .bool b:=show VRel G R J h (.bool b) v from BC e▸hy
theorem V9 (ha:MX G mu Γ e a)(hb:MX G mu Γ (.BoolOp .Or (e2::es) pos) b):MX G mu Γ (.BoolOp .Or (e::e2::es) pos) (qj a b):=MX.mk λU V A s env R J Q c k=>
 BoolOp_or (ha.run c (k.bind.imp λp k x s1 R1 J1 g1 c1 r1=>k.bind.elim λz k=>(Qr r1 k.1).symm▸fj (k.2.cond (λh k=>oj h (h▸k.get _ s1 R1 J1 g1 c1 .b)) λh k=>ml h (hb.run c1 (k.imp λ_ k=>k.after g1)))))
noncomputable def ms (G:Gd)(mu:Md)(Γ:FI)(op:BoolOp)(es:List Expr)(x:eh):Prop:=
 ∀U V A s env R J Q,Cx G Γ A s env R J U V→Ok (x U V) (KY G mu Γ A s env R J U Q)→wpAny (model G.prog G.w) A (allTrue op es env) Q aI s
noncomputable def mv (a b:eh):eh:=λU V=>(a U V).bind λp=>bif p.1 then some (true,p.2) else b U p.2
theorem EU (ha:MY G mu Γ e a)(hb:ms G mu Γ .Or es b):ms G mu Γ .Or (e::es) (mv a b):=λU V A s env R J Q c k=>
 wpAny_allTrue_Or_cons (ha.run c (k.bind.imp λp k s1 R1 J1 g1 c1=>k.cond (λh k=>oj h (h▸k.get s1 R1 J1 g1 c1)) λh k=>ml h (hb _ _ A s1 env R1 J1 _ c1 (k.imp λ_ k=>k.after g1))))
theorem DZ (ha:ms G mu Γ op es a):MY G mu Γ (.BoolOp op es pos) a:=MY.mk λU V A s env R J Q c k=>wpAny_isTrue_BoolOp (ha U V A s env R J Q c k)
noncomputable def kQ (b:Bool):eh:=λ_ V=>some (b,V)
theorem NX:ms G mu Γ .Or [] (kQ false):=λU V A s env R J Q c k=>aC (k.get s R J (Go.of_kp (Kp.refl s)) c)
noncomputable def rW (F:bP)(as:gA):bZ:=λU V=>(as U V).bind λp=>(F p.1 p.2).map λv=>(v,p.2)
theorem Qs {np pos:Pos}(hv:aM G x (.lit f))(hkeep:keepIn G.K f=true)(hF:cS G d f F)(ha:hV G mu Γ es as)(hk:Γ.names.lookup x=some .globalImplicit:=by kernel_rfl)(hd:(x == ("__debug__":Str))=false:=by kernel_rfl)(hdd:d≤Γ.d:=by exact bH rfl):MX G mu Γ (.Call (.Name x np) es [] pos) (rW F as):=MX.mk λU V A s env R J Q c k=>k.elim λp k=>aw k.1 λvs e1 q=>cr q λv' e2 e3=>
 eX (aO hv hk hd _ _ _ rfl A s env R J _ c λr s0 k0 r0=>(show r=f from r0)▸gE (c.kp k0).inK hkeep ha.1 (ha.2 _ _ _ _ e1 A s0 env R J _ pos (c.kp k0) λrs s1 R1 J1 g1 c1 r1=>⟨c1.inK,
  wpAny_call <| hF _ _ _ e2 A s1 R1 J1 rs Q (c1.A.le hdd) c1.S r1 λr s2 k2 r2=>(e3▸k.2:KX G mu Γ A s env R J U Q (v',vs.2)) r s2 R1 J1 (((Go.of_kp k0).seqX g1).seqX (Go.of_kp k2)) (c1.kp k2) r2⟩))
def ko (t:eh)(b:aF):Nat→aF
 | 0,_,_=>none
 | n+1,U,V=>(t U V).bind λp=>bif p.1 then (b U p.2).bind λq=>xn q (ko t b n q.2.1 q.2.2) else some (.next,U,p.2)
noncomputable def Hw (G:Gd)(Γ:FI)(mu:Md)(A:Around)(env:Env)(s:Shared)(R:List Addr)(J:aG)(t:eh)(b:aF)(Q:Flow→Shared→Prop)(k:Nat)(s2:Shared):Prop:=
 ∃R2 J2 ℓ2 σ2,Go (bs G mu J ++fa env) s s2 R J R2 J2∧Cx G Γ A s2 env R2 J2 ℓ2 σ2∧Ok (ko t b k ℓ2 σ2) (KS G mu Γ A s env R J Q)
theorem Qt (n:Nat)(ht:MY G mu Γ test t)(hb:MSs G mu Γ body b):MS G mu Γ (.While test body [] pos) (ko t b n):=MS.mk λU V A s env R J Q c k=>
 wpAny_While (codeAny_whileLoop (Hw G Γ mu A env s R J t b Q) (pU (λs2 inv=>pp inv λ_ _ _ _ _ _ k=>k.no) λk s2 inv=>pp inv λR2 J2 ℓ2 σ2 g2 c2 hl=>
  bN (ht.run c2 (hl.bind.imp λp hl s3 R3 J3 g3 c3=>have g23:=g2.seq g3.xs
   hl.cond (λh hl=>oj h (bN (hb.run c3 (hl.bind.imp λq hl r s5 R5 J5 g5 c5 fr5=>hl.elim λres hl=>(BJ hl.1).elim
     (λz=>fr5.turn z.1 (⟨k,Nat.lt_succ_self k,R5,J5,_,_,g23.seq g5,c5,res,z.2,hl.2⟩:∃m,m< k+1∧Hw G Γ mu A env s R J t b Q m s5))
     λz=>z.elim (λz=>fr5.out z.1 ((z.2▸hl.2:KS G mu Γ A s env R J Q (.next,q.2)) _ s5 R5 J5 (g23.seq g5) c5 rfl))
      λz=>z.elim λu z=>fr5.back z.1 λw f=>(z.2▸hl.2:KS G mu Γ A s env R J Q q) _ s5 R5 J5 (g23.seq g5) c5 f)) (λ_ _ z=>z) λ_ _ z=>z.elim))
    λh hl=>ml h (wpAny_execs_nil (hl.get _ s3 R3 J3 g23 c3 rfl)))) (λ_ _ z=>z) λ_ _ z=>z.elim) n ⟨R,J,U,V,Go.of_kp (Kp.refl s),c,k⟩)
def pC (x:AV):Option (Int × Int):=(kv x).bind λl=>(l2 l).bind λp=>(cq p.1).bind λa=>(cq p.2).map λb=>(a,b)
theorem Dg (hx:VRel G R J h x v)(e:pC x=some p):∃a t u,v= .ref a∧h.IsTuple a #[.int p.1 t, .int p.2 u]:=
 aw e λl e1 e=>aw e λq e2 e=>aw e λa e3 e=>cr e λb e4 e=>br (show VRel G R J h (.tup l) v from lD e1▸hx) λad vs p _ h1 h2=>aS (v9 h2 e2) λx y p' r2 r3=>(ej r2 e3).elim λt w1=>(ej r3 e4).elim λu w2=>by
  subst p';subst w1;subst w2;subst e
  exact ⟨ad,t,u,p,h1⟩
def qa (x y:AV):Option Bool:=match x with
 | .int a=>(cq y).map λb=>decide (a≤b)
 | x=>(pC x).bind λp=>(pC y).map λq=>pA p.1 p.2 q.1 q.2
theorem Sd (hA:A.units+80< cLine)(hx:VRel G R J s.heap x a)(hy:VRel G R J s.heap y b)(e:((pC x).bind λp=>(pC y).map λq=>pA p.1 p.2 q.1 q.2)=some w)(hQ:∀s',Kp s s'→Q (.bool w) s'):wpAny (model G.prog G.w) A (compareOp .LtE a b) Q aI s:=
 aw e λp e1 e=>cr e λq e2 e=>da (Dg hx e1) λa1 t1 u1 p1 h1=>da (Dg hy e2) λa2 t2 u2 p2 h2=>p1▸p2▸R8 (dc (Nat.le_add_right _ _) hA) h1 h2 (e▸hQ s (Kp.refl s))
theorem wS:fe G .LtE qa:=λu v w e A s V R J a b Q hA hh S hx hy hQ=>by
 cases u <;> first | exact Sd hA hx hy e hQ | skip
 exact cr e λj e2 e3=>Exists.elim hx λt p=>(ej hy e2).elim λt' q=>p▸q▸le_int (e3▸hQ s (Kp.refl s))
section
section
variable {prog:Program} {w:World} {A:Around} {E:Value→Shared→Prop} {s:Shared} {v:Value} {q:Addr}
theorem Pp (ho:s.heap.get? a=some (seqObj "list" #[v] n))
  (hcall:∀s':Shared,(∃h tk,s'= { s with heap:=h,toks:=tk })→(∀b o,b≠a→s.heap.get? b=some o→s'.heap.get? b=some o)→∀Q':Value→Shared→Prop,(∀k s'',Kp s' s''→Q' k s'')→wpAny (model prog w) A (call (.ref q) [v]) Q' (λ_ _=>False) s')
  (h:∀h' c' tk,(∀b o,b≠a→s.heap.get? b=some o→h'.get? b=some o)→h'.get? a=some (seqObj "list" #[v] c')→P (.done (.ret .none)) { s with heap:=h',toks:=tk }):
  wpAny (model prog w) A (Builtin.«list.sort» ⟨[.ref a],[(Str.ofString "key", .ref q)]⟩) P E s:=by
 rw [ksk_t1]
 haveI ha:a< s.heap.objs.size:=Heap.lt_size ho
 obtain ⟨e1,ho1⟩:∃e1,(s.heap.update a (Obj.mapSeq λ_=>(#[]:Array Value))).get? a=some (seqObj "list" #[] e1):=⟨_,get?_update_seq ho λ_=> #[]⟩
 unfold ksk_tree
 refine am (listItems_at ho rfl ?_)
 refine am (listUpdate_at ho rfl ?_ (by show 1≤_;rw [sizeLine_eq];decide) (Nat.zero_le _))
 refine am (seqEpoch_at ho1 rfl ?_)
 refine am (wpAny_newTuple ?_ (by show 1≤_;rw [sizeLine_eq];decide))
 refine am (wpAny_newList ?_ (Nat.zero_le _))
 refine wpAny_holding ?_
 have keep1:∀b o,b≠a→s.heap.get? b=some o→(((s.heap.update a (Obj.mapSeq λ_=>(#[]:Array Value))).push (seqObj "tuple" [v].toArray 0)).push (seqObj "list" ([]:List Value).toArray 0)).get? b=some o:=λb o hb e=>
  cA _ (cA _ ((Heap.get?_update_other _ _ (Ne.symm hb)).trans e))
 haveI ho3:(((s.heap.update a (Obj.mapSeq λ_=>(#[]:Array Value))).push (seqObj "tuple" [v].toArray 0)).push (seqObj "list" ([]:List Value).toArray 0)).get? a=some (seqObj "list" #[] e1):=cA _ (cA _ ho1)
 haveI hK:(((s.heap.update a (Obj.mapSeq λ_=>(#[]:Array Value))).push (seqObj "tuple" [v].toArray 0)).push (seqObj "list" ([]:List Value).toArray 0)).get? (((s.heap.update a (Obj.mapSeq λ_=>(#[]:Array Value))).push (seqObj "tuple" [v].toArray 0)).objs.size)=some (seqObj "list" ([]:List Value).toArray 0):=bK _ rfl
 have hKa:((s.heap.update a (Obj.mapSeq λ_=>(#[]:Array Value))).push (seqObj "tuple" [v].toArray 0)).objs.size≠a:=by rw [size_push',Heap.size_update];exact Nat.ne_of_gt (Nat.lt_succ_of_lt ha)
 have hKs:s.heap.get? (((s.heap.update a (Obj.mapSeq λ_=>(#[]:Array Value))).push (seqObj "tuple" [v].toArray 0)).objs.size)=none:=by
  rw [size_push',Heap.size_update]
  cases z:s.heap.get? (s.heap.objs.size+1) with
  | none=>rfl
  | some o=>exact absurd (Heap.lt_size z) (Nat.not_lt.mpr (Nat.le_succ _))
 show wpAny (model prog w) A (ksk_rest a (.ref q) false #[v] e1 (.ref (((s.heap.update a (Obj.mapSeq λ_=>(#[]:Array Value))).push (seqObj "tuple" [v].toArray 0)).objs.size))) P E { s with heap:=((s.heap.update a (Obj.mapSeq λ_=>(#[]:Array Value))).push (seqObj "tuple" [v].toArray 0)).push (seqObj "list" ([]:List Value).toArray 0) }
 generalize ((s.heap.update a (Obj.mapSeq λ_=>(#[]:Array Value))).push (seqObj "tuple" [v].toArray 0)).objs.size=kS at hK hKa hKs ⊢
 generalize ((s.heap.update a (Obj.mapSeq λ_=>(#[]:Array Value))).push (seqObj "tuple" [v].toArray 0)).push (seqObj "list" ([]:List Value).toArray 0)=h3 at keep1 ho3 hK ⊢
 unfold ksk_rest
 refine am (wpAny_rule ?_)
 rw [← Array.forIn_toList]
 rw [List.forIn_cons]
 refine am (am (am (wpAny_attempt (bN (hcall { s with heap:=h3 } ⟨_,_,rfl⟩ keep1 (λk s''=>Kp { s with heap:=h3 } s'') λk s'' kp=>kp) (λk s4 k4=> ?_) λ_ _ hF=>hF.elim))))
 obtain ⟨⟨h4,tk4,rfl⟩,kb4⟩:=k4
 haveI ho4:h4.get? a=some (seqObj "list" #[] e1):=kb4 _ _ (by simp) ho3
 haveI hK4:h4.get? kS=some (seqObj "list" #[] 0):=kb4 _ _ (by simp) hK
 refine am (listUpdate_at hK4 rfl ?_ (Nat.zero_le _) (by show 1≤_;rw [sizeLine_eq];decide))
 obtain ⟨c5,hK5⟩:∃c5,(h4.update kS (Obj.mapSeq (·.push k))).get? kS=some (seqObj "list" #[k] c5):=⟨_,get?_update_seq hK4 (·.push k)⟩
 haveI ho5:(h4.update kS (Obj.mapSeq (·.push k))).get? a=some (seqObj "list" #[] e1):=(Heap.get?_update_other _ _ hKa).trans ho4
 haveI keep5:∀b o,b≠a→s.heap.get? b=some o→(h4.update kS (Obj.mapSeq (·.push k))).get? b=some o:=λb o hb e=>(Heap.get?_update_other _ _ (λz=>by exact au ((hKs).symm.trans ((z).symm▸e)))).trans (kb4 _ _ (by simp) (keep1 b o hb e))
 refine aC ?_
 dsimp only
 refine aC ?_
 try dsimp only
 generalize h4.update kS (Obj.mapSeq (·.push k))=h5 at hK5 ho5 keep5 ⊢
 refine am (listItems_at hK5 rfl ?_)
 unfold ksk_end
 dsimp only
 haveI h12:(#[v]:Array Value).size< 2:=by show 1< 2;decide
 rw [if_neg (by decide)]
 rw [if_pos h12,if_pos h12]
 refine am (aC ?_)
 refine am (aC ?_)
 dsimp only
 haveI hz:∀b:Bool,b=false→(if b=true then (arrOf (SortSt.mk' general' (if b=true then ((#[k]:Array Value).zip #[v]).reverse else (#[k]:Array Value).zip #[v]) #[] 7 none)).map (·.2) |>.reverse else (arrOf (SortSt.mk' general' (if b=true then ((#[k]:Array Value).zip #[v]).reverse else (#[k]:Array Value).zip #[v]) #[] 7 none)).map (·.2))= #[v]:=by
  rintro b rfl
  show (Array.map (·.2) ((#[k]:Array Value).zip #[v]))= #[v]
  simp
 unfold ksk_tail
 dsimp only
 refine (hz false rfl).symm▸ ?_
 refine am (listUpdate_at hK5 rfl ?_ (by show 1≤_;rw [sizeLine_eq];decide) (Nat.zero_le _))
 haveI ho6:(h5.update kS (Obj.mapSeq λ_=>(#[]:Array Value))).get? a=some (seqObj "list" #[] e1):=(Heap.get?_update_other _ _ hKa).trans ho5
 have keep6:∀b o,b≠a→s.heap.get? b=some o→(h5.update kS (Obj.mapSeq λ_=>(#[]:Array Value))).get? b=some o:=λb o hb e=>(Heap.get?_update_other _ _ (λz=>by exact au ((hKs).symm.trans ((z).symm▸e)))).trans (keep5 b o hb e)
 generalize h5.update kS (Obj.mapSeq λ_=>(#[]:Array Value))=h6 at ho6 keep6 ⊢
 refine am (wpAny_letGo ?_)
 refine am (seqEpoch_at ho6 rfl ?_)
 refine am (listUpdate_at ho6 rfl ?_ (Nat.zero_le _) (by show 1≤_;rw [sizeLine_eq];decide))
 obtain ⟨c7,ho7⟩:∃c7,(h6.update a (Obj.mapSeq λ_=>(#[v]:Array Value))).get? a=some (seqObj "list" #[v] c7):=⟨_,get?_update_seq ho6 λ_=> #[v]⟩
 simp only [bne_self_eq_false,Bool.false_eq_true,if_false]
 exact aC (h _ c7 _ (λb o hb e=>(Heap.get?_update_other _ _ (Ne.symm hb)).trans (keep6 b o hb e)) ho7)
theorem Nf (hl:s.heap.IsList l #[v])
  (hcall:∀s':Shared,Kp s s'→∀Q':Value→Shared→Prop,(∀k s'',Kp s' s''→Q' k s'')→wpAny (model prog w) A.in1.in1 (call (.ref q) [v]) Q' (λ_ _=>False) s')
  (hQ:∀D s' c,Kp s s'→s'.heap.get? D=some (seqObj "list" #[v] c)→s.heap.get? D=none→Q (.ref D) s'):
  wpAny (model prog w) A (call (.builtin "sorted") [.ref l] [(Str.ofString "key", .ref q)]) Q E s:=by
 refine call_function_entry_kw kind_sorted plain_sorted entry_sorted (ksk_s1 _ _) ?_
 unfold Builtin.«sorted»
 refine am (m:=checkCount "sorted" 1 1 _) (aC ?_)
 refine am (collect_list hl ?_ (by show 1≤_;rw [sizeLine_eq];decide))
 refine am (wpAny_newList ?_ (by show 1≤_;rw [sizeLine_eq];decide))
 have hsz:((s.heap.push (seqObj "list" #[] 0)).update s.heap.objs.size (Obj.mapSeq (· ++ #[v]))).objs.size=s.heap.objs.size+1:=by
  rw [Heap.size_update,size_push']
 haveI hoL:(((s.heap.push (seqObj "list" #[] 0)).update s.heap.objs.size (Obj.mapSeq (· ++ #[v]))).push (seqObj "list" #[v] 0)).get? (s.heap.objs.size+1)=some (seqObj "list" #[v] 0):=by
  exact (hsz)▸bK _ rfl
 have keep:∀b o,s.heap.get? b=some o→(((s.heap.push (seqObj "list" #[] 0)).update s.heap.objs.size (Obj.mapSeq (· ++ #[v]))).push (seqObj "list" #[v] 0)).get? b=some o:=λb o q=>by
  haveI hlt:b< s.heap.objs.size:=Heap.lt_size q
  rw [Heap.get?_push_ne _ _ _ (by exact (hsz)▸Nat.ne_of_lt (Nat.lt_succ_of_lt hlt)),Heap.get?_update_ne _ _ _ _ (Nat.ne_of_lt hlt),Heap.get?_push_ne _ _ _ (Nat.ne_of_lt hlt)]
  exact q
 have hfr:s.heap.get? (s.heap.objs.size+1)=none:=by
  cases z:s.heap.get? (s.heap.objs.size+1) with
  | none=>rfl
  | some o=>exact absurd (Heap.lt_size z) (Nat.not_lt.mpr (Nat.le_succ _))
 show wpAny _ _ _ _ _ { s with heap:=((s.heap.push (seqObj "list" #[] 0)).update s.heap.objs.size (Obj.mapSeq (· ++ #[v]))).push (seqObj "list" #[v] 0) }
 refine (hsz)▸ ?_
 refine am (wpAny_holding (wpAny_call_entry_kw slot_list_sort ⟨_,hoL,rfl⟩ entry_list_sort ?body (ksk_l1 _ _)))
 case body=>
  refine Pp (s:={ s with heap:=((s.heap.push (seqObj "list" #[] 0)).update s.heap.objs.size (Obj.mapSeq (· ++ #[v]))).push (seqObj "list" #[v] 0) }) hoL (λs' ⟨h,tk,e⟩ hk Q' hq=> ?_) λh' c' tk hk hfin=> ?_
  ·refine hcall s' ⟨⟨h,tk,by rw [e]⟩,λb o _ eb=>hk b o (λz=>by exact au ((hfr).symm.trans ((z)▸eb))) (keep b o eb)⟩ Q' hq
  ·refine ⟨_,rfl,aC ⟨_,rfl,hQ _ _ c' ⟨⟨_,_,rfl⟩,λb o _ eb=>hk b o (λz=>by exact au ((hfr).symm.trans ((z)▸eb))) (keep b o eb)⟩ hfin hfr⟩⟩
end
end
structure LamF (G:Gd) (Γ:FI) (P c:Addr) (pos:Pos):Prop where
 code:Γ.code= .ref c
 hd:CodeHd G.g c P
 tb:P∈G.TB
 get:∀h,G.Tabs h→∃ps,h.get? P=some (tabObj ps)∧TriplesOk ps.toList∧(codeAmong pos ps.toList=none∨∃c',codeAmong pos ps.toList=some (.ref c')∧h.CodeRec (.ref c') (Γ.qual ++"<lambda>"))
 put:∀h h' ps c',G.Tabs h→h.get? P=some (tabObj ps)→TriplesOk ps.toList→codeAmong pos ps.toList=none→(∀b o,b≠P→h.get? b=some o→h'.get? b=some o)→h'.get? P=some (tabObj (ps ++ #[rawInt pos.line,rawInt pos.col, .ref c']))→h'.CodeRec (.ref c') (Γ.qual ++"<lambda>")→G.Tabs h'
theorem SR.tb (S:SR G R J V h)(hP:P∈G.TB)(k:∀b o,b≠P→h.get? b=some o→h'.get? b=some o)(lv:∃o,h'.get? P=some o)(t:G.Tabs h'):SR G R J V h':=
 S.tr (λb o e=>k b o (λz=>bL (S.resv _ (S.tbR P hP).1) (z▸e)) (S.base b o e)) (λa o ha e=>⟨ha,k a o (λz=>ha (z▸(S.tbR P hP).1)) e⟩) (λa ha o e=>k a o (λz=>(S.tbR P hP).2 (z▸ha)) e) (λ_ m _=>m) S.resv
  (λa m=>if z:a=P then z▸lv else (S.live a m).imp λo e=>k a o z e) t (S.abv.elim λa q=>q.elim λo q=>if z:a=P then lv.elim λo' e=>⟨P,o',e,z▸q.2⟩ else ⟨a,o,k a o z q.1,q.2⟩)
theorem D0 {h:Heap}{a:Addr}(e:h.objs.size≤a):h.get? a=none:=Option.eq_none_iff_forall_ne_some.mpr λ_ z=>Nat.not_lt.mpr e (Heap.lt_size z)
theorem Dh
  (L:LamF G Γ P c pos)(hmu:mu.tb=true)(cx:Cx G Γ A s env R J U V)(hdef:defaultsOf params env=([],[]))(hcl:closureFor scope env=pure clos)
  (hQ:∀f c' ctv pm s',Go (bs G mu J) s s' R J R J→Cx G Γ A s' env R J U V→s.heap.get? f=none→s'.heap.get? f=some (kla_obj "<lambda>" (Γ.qual ++"<lambda>") params body scope clos pm c' ctv)→s'.heap.CodeRec (.ref c') (Γ.qual ++"<lambda>")→
   (∀b o,b≠P→s.heap.get? b=some o→s'.heap.get? b=some o)→Q (.ref f) s'):
  wpAny (model G.prog G.w) A (eval (.Lambda params body scope pos) env) Q E s:=by
 obtain ⟨m,F⟩:=cx.F
 obtain ⟨hbt,hcode,hqual⟩:=F.bt
 obtain ⟨ps,hP,ht,hcase⟩:=L.get _ cx.S.tabs
 have hPg:G.g.get? P=none:=cx.S.resv P (cx.S.tbR P L.tb).1
 have hg:s.heap.Ns mainGlobals G.mg:=G.top.g.keeps cx.S.base
 have hgP:mainGlobals≠P:=λq=>by
  obtain ⟨o,es,ep,e,hd,_⟩:=hg
  rw [q,hP] at e;cases e;cases hd
 have hb:s.heap.BuiltinsAt G.mg P:=by
  obtain ⟨bm,ob,b1,b2,b3,b4,b5,b6⟩:=G.top.bmain
  have hbG:bm≠mainGlobals:=λq=>by
   obtain ⟨o,es,ep,e,hd,_⟩:=G.top.g
   rw [q,e] at b3;cases b3;rw [hd] at b6;cases b6
  exact ⟨bm,ob,b1,b2,hbG,λq=>bL hPg (q▸b3),cx.S.base _ _ b3,b4,b5,b6⟩
 have hC:CodeHd s.heap c P:=L.hd.keeps cx.S.base
 have hcd:env.code= .ref c:=hcode.trans L.code
 refine kla_eval hdef ?_
 rw [hqual]
 rcases hcase with hnf | ⟨c',hf,hrec⟩
 ·refine kla_makeFunction (mg:=G.mg) hcl F.glob hg hcd hC hP ht hnf hgP hb λc' ctv h' tk hx hge hlt hrec htb=> ?_
  have main:∀O:Obj,(Go (bs G mu J) s { s with heap:=h'.push O,toks:=tk } R J R J∧Cx G Γ A { s with heap:=h'.push O,toks:=tk } env R J U V)∧(h'.push O).CodeRec (.ref c') (Γ.qual ++"<lambda>")∧∀b o,b≠P→s.heap.get? b=some o→(h'.push O).get? b=some o:=λO=>by
   have k1:∀b o,b≠P→s.heap.get? b=some o→(h'.push O).get? b=some o:=λb o hb e=>cA _ (hx b o hb e)
   have hrec':(h'.push O).CodeRec (.ref c') (Γ.qual ++"<lambda>"):=hrec.keeps λb o e=>cA _ e
   have htb':=cA O htb
   have lv:∀b o,s.heap.get? b=some o→∃o',(h'.push O).get? b=some o':=λb o e=>if z:b=P then z▸⟨_,htb'⟩ else ⟨o,k1 b o z e⟩
   have go:Go (bs G mu J) s { s with heap:=h'.push O,toks:=tk } R J R J:=
    ⟨⟨_,_,rfl⟩,λb o hb e=>k1 b o (λz=>hb (dE _ (by rw [hmu,if_pos rfl,z];exact L.tb))) e,lv,λ_ _ e=>e,λ_ _ _ e _=> .inl e,λ_ m=>m,λa m=> .inl m⟩
   exact ⟨⟨go,cx.go go (cx.S.tb L.tb k1 ⟨_,htb'⟩ (L.put _ _ ps c' cx.S.tabs hP ht hnf k1 htb' hrec'))⟩,hrec',k1⟩
  exact (main _).elim λq r=>hQ _ c' ctv _ _ q.1 q.2 (D0 (Nat.le_of_lt (dc hge hlt))) (bK _ rfl) r.1 r.2
 ·refine kla_makeFunctionHit (mg:=G.mg) hcl F.glob hg hcd hC hP ht hf hb λctv h' tk hk hsz=> ?_
  have main:∀O:Obj,Kp s { s with heap:=h'.push O,toks:=tk }:=λO=>gP λb o e=>cA _ (hk b o e)
  exact hQ _ c' ctv _ _ (Go.of_kp (main _)) (cx.kp (main _)) (D0 hsz) (bK _ rfl) (hrec.keeps λb o e=>(main _).kb.get e) λb o _ e=>(main _).kb.get e
structure LamS (Γ:FI) (Γl:Value→Str→FI) (scope:Scope) (x n:Str) (i:Nat):Prop where
 kind:scope.kind= .function
 co:scope.isCoroutine=false
 gen:scope.isGenerator=false
 names:∀cv ql,(Γl cv ql).names=scope.names
 slots:∀cv ql,(Γl cv ql).slots=[x,n]
 d:∀cv ql,(Γl cv ql).d+1≤Γ.d
 code:∀cv ql,(Γl cv ql).code=cv∧(Γl cv ql).qual=ql
 nocell:∀y∈scope.names,y.2≠ .cell
 xl:scope.names.lookup x=some .local
 clo:∀g,eY g scope.names=[(n,g n)]
 free:∀y∈scope.names,y.2= .free→y.1=n
 slot:Γ.slots[i]? =some n
 cell:Γ.names.lookup n=some .cell
 nl:scope.names.lookup n=some .free
theorem Se (K:LamS Γ Γl scope x n i)(c:Cx G Γ A s env R J U V)(hu:(U[i]?).join=some u):
  ∃ce val,closureFor scope env=pure [(n,ce)]∧ce∈fa env∧s.heap.IsCell ce (some val)∧VRel G R J s.heap u val:=by
 obtain ⟨m,F⟩:=c.F
 refine aS (F.cel i n u K.slot (pt hu) (m4 K.cell rfl)) λce val e1 e2 e3=>⟨ce,val,?_,mG e1,e2,e3⟩
 exact (lQ (scope:=scope) (env:=env) (λ_=>ce) λy hy hf=>K.free y hy hf▸e1).trans (congrArg pure (K.clo _))
theorem CA:∀{j:Nat},([x,n]:List Str)[j]? =some z→([some y,some u]:Lo)[j]? =some (some w)→x=z∧y=w∨n=z∧u=w
 | 0,h1,h2=> .inl ⟨aD h1,aD (aD h2)⟩
 | 1,h1,h2=> .inr ⟨aD h1,aD (aD h2)⟩
theorem XU {k:Option NameKind}{P:Prop}(h1:k=some .local)(h2:k=some .free):P:=nomatch h1.symm.trans h2
theorem Qu (K:LamS Γ Γl scope x n i)(he:∀cv ql,MP G (Γl cv ql) body e)
  (hb:∀(v:Value) (qual:Str) (cl:List (Str × Addr)) (pm cdv ct:Value),bindArgs (kla_fn "<lambda>" qual params body scope cl pm cdv ct) ⟨[v],[]⟩=pure [(x,v)])
  (S:SR G R J V s.heap)(hA:A.handled=none∧∀cv ql,A.depth+1+(Γl cv ql).d< recursionLimit∧A.units+3+40 * (Γl cv ql).d+80< cLine)(hf:s.heap.get? f=some (kla_obj "<lambda>" qual params body scope [(n,ce)] pm c' ctv))(hrec:s.heap.CodeRec (.ref c') qual)
  (hce:s.heap.IsCell ce (some val))(hceR:ce∈R∧ce∉own J∧ce∉G.TB)(hu:VRel G R J s.heap u val)(hy:VRel G R J s.heap y v)(hr:e [some y,some u] V=some r)
  (hQ:∀k s',Kp s s'→Q k s'):wpAny (model G.prog G.w) A (call (.ref f) [v]) Q aI s:=by
 refine wpAny_call (kla_callFunE (dc (ba (Nat.le_succ _) (Nat.le_add_right (A.depth+1) _)) (hA.2 .none "").1) hf rfl K.co K.gen rfl hrec ?_)
 rw [hb]
 refine aC (wpAny_newFunctionEnv K.nocell (λz hz=>aH hz▸K.xl) (λh₁ hns hsb=>⟨(G.top.nolimit.keeps S.base).fresh _ hsb,?_⟩) K.kind)
 have old:∀b o,s.heap.get? b=some o→h₁.get? b=some o:=λb o e=>hsb.extBut b o (Nat.ne_of_lt (Heap.lt_size e)) (cA _ e)
 have k1:Kp s { s with heap:=h₁,toks:=s.toks+ [(x,v)].length }:=gP old
 have hL:s.heap.get? s.heap.objs.size=none:=dr _
 have S1:=S.res k1.kb hL (hns.imp λ_ q=>q.elim λ_ q=>q.elim λ_ q=>q.1)
 have hLo:=S.new_out hL
 refine kla_codeExpr (bN (?_:wpAny _ _ _ _ aI _) (λ_ _ z=>z) (λ_ _ z=>z.elim))
 have hce1:h₁.IsCell ce (some val):=kf hce λo e=>old _ o e
 have hnel:s.heap.objs.size≠ce:=λz=>hce.elim λ_ q=>bL hL (z▸q.1)
 have mono:∀{a:AV} {w:Value},VRel G R J s.heap a w→VRel G (s.heap.objs.size::R) J h₁ a w:=λq=>VRel.mono (λa o ha ho=>⟨λm=>(aU m).elim (λz=>bL hL (z▸ho)) ha,old a o ho⟩) (λ_ _ z=>z) _ _ q
 exact he (.ref c') (qual ++".<locals>.") _ _ _ hr _ _ _ (s.heap.objs.size::R) J _ ⟨⟨hA.1,(hA.2 _ _).1,(hA.2 _ _).2⟩,S1,(λz=>[(x,v)].reverse.lookup z),
  K.kind,rfl,⟨rfl,(K.code _ _).1.symm,(K.code _ _).2.symm⟩,(K.names _ _).symm,⟨hns,S1.base,S.abv.elim λa q=>q.elim λo q=>ba q.2 (Nat.le_of_lt (Heap.lt_size q.1))⟩,
  gw ⟨.head _,hLo.1,hLo.2⟩ ⟨.tail _ hceR.1,hceR.2.1,hceR.2.2⟩,List.nodup_cons.mpr ⟨λm=>hnel (aH m),List.nodup_cons.mpr ⟨bq,List.nodup_nil⟩⟩,λa m=>aH m▸hce1.imp λ_ q=>q.1,
  λj z w h1 h2 h3=>(CA (x:=x) (n:=n) (y:=y) (u:=u) (K.slots (.ref c') (qual ++".<locals>.")▸h1) h2).elim (λq=>⟨v,(q.1:x=z)▸(show List.lookup x [(x,v)]=some v by simp),q.2▸mono hy⟩) λq=>XU (K.names (.ref c') (qual ++".<locals>.")▸h3:scope.names.lookup z=some .local) ((q.1:n=z)▸K.nl),
  λj z w h1 h2 h3=>(CA (x:=x) (n:=n) (y:=y) (u:=u) (K.slots (.ref c') (qual ++".<locals>.")▸h1) h2).elim (λq=>HV ((q.1:x=z)▸K.xl) (K.names (.ref c') (qual ++".<locals>.")▸h3:d8 (scope.names.lookup z)=true)) λq=>⟨ce,val,(q.1:n=z)▸(show List.lookup n [(n,ce)]=some ce by simp),hce1,q.2▸mono hu⟩,
  λz h3=>absurd rfl (K.nocell _ (mem_of_lookup (K.names _ _▸h3)))⟩ λk s2 k2 _=>hQ k s2 (k1.trans k2)
def wq (a:a7)(i:Nat)(k:a7):bZ:=λU V=>(a U V).bind λw=>(jy w).bind λl=>(a1 l).bind λv=>((U[i]?).join).bind λu=>(k [some v,some u] V).map λ_=>(.lst [v],V)
theorem Pq (h:d'+1≤d):u+1+1+3+40 * d'+80≤u+40 * d+80:=by omega
theorem NY (hv:ev G "sorted" (.builtin "sorted"))(hk:Γ.names.lookup ("sorted":Str)=some .globalImplicit)
  (L:LamF G Γ P c lp)(hmu:mu.tb=true)(K:LamS Γ Γl scope x n i)(ha:MP G Γ ex a)(he:∀cv ql,MP G (Γl cv ql) body e)(hdef:∀env,defaultsOf params env=([],[]))
  (hb:∀(v:Value) (qual:Str) (cl:List (Str × Addr)) (pm cdv ct:Value),bindArgs (kla_fn "<lambda>" qual params body scope cl pm cdv ct) ⟨[v],[]⟩=pure [(x,v)])
  (hst:∀env,starEach [ex] env=[(false,eval ex env)]):
  MX G mu Γ (.Call (.Name "sorted" np) [ex] [⟨some "key", .Lambda params body scope lp,kp⟩] pos) (wq a i e):=λU V v σ' q A s env R J Q cx hQ=>
 aw q λw e1 q=>aw q λl e2 q=>aw q λy e3 q=>aw q λu e4 q=>cr q λr e5 qf=>
 wpAny_Call_Name_kw (ky hv hk (by decide +kernel) _ _ _ rfl A s env R J _ cx λfv s0 k0 r0=>(show fv=_ from r0)▸by
  have c0:=cx.kp k0
  refine callWith_kw (spliced_more (pos:=pos) (env:=env) (rest:=[]) (e:=ex) (ha _ _ _ e1 A s0 env R J _ c0 λlv s1 k1 r1=>spliced_none (kws_cons ?_)) (hst env)) (by rw [hst];rfl) (by rw [hst];rfl)
  have c1:=c0.kp k1
  refine br (Se K c1 e4) λce val hclo hcefa hcell hu=>Dh L hmu c1 (hdef env) hclo λf c' ctv pm s2 g2 c2 hf2 hf hrec old2=>kws_nil ?_
  refine br (show VRel G R J s1.heap (.lst l) lv from mP e2▸r1) λla vs p hlaR hl hvs=>aW (jj (g2.vals (iE c1) hvs) e3) λyv p2 hy2=> ?_
  subst p;subst p2
  have hceR:=c1.F.elim λ_ F=>F.faR ce hcefa
  have hl2:s2.heap.IsList la #[yv]:=hl.imp λo q=>⟨old2 _ _ (λz=>hlaR (z▸(c1.S.tbR _ L.tb).1)) q.1,q.2⟩
  have hcell2:s2.heap.IsCell ce (some val):=kf hcell λo e=>old2 _ o (λz=>hceR.2.2 (z▸L.tb)) e
  have hu2:=g2.val (iE c1) hu
  refine Nf hl2 (λs3 k3 Q' hq=> ?_) λD s3 cD k3 hD hDf=> ?_
  ·have c3:=c2.kp k3
   exact Qu K he hb c3.S ⟨c3.A.hd,λcv ql=>⟨dc (ba (Nat.le_of_eq (Nat.add_right_comm _ _ _)) (Nat.add_le_add_left (K.d cv ql) _)) c3.A.dp,dc (Pq (K.d cv ql)) c3.A.un⟩⟩ (k3.kb.get hf) (hrec.keeps λb o e=>k3.kb.get e) (hcell2.keeps λb o e=>k3.kb.get e) hceR (hu2.keep k3.kb) (hy2.keep k3.kb) e5 hq
  ·exact hQ _ s3 R J (((Go.of_kp (k0.trans k1)).seqX g2).seqX (Go.of_kp k3)) ((bT qf).2▸c2.kp k3) ((bT qf).1▸ .lst (vs:=[yv]) (c2.S.live.fresh hDf) (ji hD) (.one (hy2.keep k3.kb))))
noncomputable abbrev PG:Program:=PySem.Challenge.rw_pq1163_01.row.toRowW.1
namespace H
noncomputable section
noncomputable def d (n:Nat):Stmt:=PG.main.body.getD n default
noncomputable def m (n k:Nat):Stmt:=match d n with
 | .ClassDef _ _ _ b _ _ _ _ _ _ _=>b.getD k default
 | st=>st
noncomputable def i (n:Int):Value:= .int n 0
noncomputable def r (a:Nat):Value:= .ref a
noncomputable def s (x:Str)(n:Nat):Value:= .str x n
noncomputable def t (l:List Value):Obj:={ cls:= .type "tuple",data:= .seq l.toArray }
noncomputable def f (c:Value)(l:List Value):Obj:={ cls:=c,data:= .fields l.toArray }
noncomputable def p (c:Value)(a:Option Addr)(l:List (Option Value)):Obj:={ cls:=c,dict:=a,slots:=l.toArray }
noncomputable def e (P:Params)(x:Str)(n:Nat)(v:Value):DictEntry:=⟨PyData.keyHash P x, .str x n,v⟩
noncomputable def di (c:Value)(l:List DictEntry)(n:Nat):Obj:={ cls:=c,data:= .dict l.toArray n }
noncomputable def c (n ql:Str)(t:Nat)(ln ac fl:Int)(rc:Nat)(b:Bool)(rt:Nat)(x y z u:Value)(w:Nat):Obj:=
 f (.type "code") [s n t,s ql (t+1),s "/claim/cut.py" (t+2),i ln,i ac,i 0,i 0,i fl,r rc, .bool b,i 181,r rt,x,y,z,u,i w,i ln,s "/claim/cut.py" (w+1)]
noncomputable def fo (st:Stmt)(ql:Str)(c:Value)(g:Nat)(df pm cd:Value):Obj:=match st with
 | .FunctionDef n ps b _ _ _ sc _ _ _=>{ cls:=c,data:= .func { name:=n,qualname:=ql,params:=ps,body:= .stmts b,scope:=sc,globals:=g,closure:=[],defaults:=df,kwdefaults:= .none,pyModule:=pm,code:=cd } }
 | _=>default
noncomputable def cl (n:Str)(b mro:List Value)(ns:Nat)(ql:Str)(sub:List Value)(sl:List (Option Value)):Obj:=
 { cls:= .type "type",data:= .cls { name:=n,bases:=b,mro:=mro,ns:=ns,qualname:=ql,subclasses:=sub },slots:=sl.toArray }
noncomputable def nmOf:Stmt→Str
 | .FunctionDef n _ _ _ _ _ _ _ _ _=>n
 | _=>default
noncomputable def lnOf:Stmt→Int
 | .FunctionDef _ _ _ _ _ _ _ _ _ q=>q.line
 | _=>0
noncomputable def acOf:Stmt→Int
 | .FunctionDef _ ps _ _ _ _ _ _ _ _=>ps.args.length
 | _=>0
noncomputable def nt:Nat→List Str→List Value
 | _,[]=>[]
 | k,x::l=>s x k::nt (k+1) l
noncomputable def D (st:Stmt)(ql:Str)(md df:Value)(a k:Nat)(vs:List Str):List Obj:=
 [t [],f .none [],t (nt (k+3) vs),t [],fo st ql .none 0 .none .none .none,c (nmOf st) ql k (lnOf st) (acOf st) 3 a true (a+1) .none (r (a+2)) (r (a+3)) (r (a+4)) (k+3+vs.length),fo st ql (.type "function") 3 df md (r (a+5))]
noncomputable def N (P:Params):List DictEntry:=[
 e P "__name__" 165 (s "law_pq1163_01" 967),e P "__doc__" 166 .none,e P "__package__" 167 .none,e P "__loader__" 168 (.builtin "__main__.__loader__#opaque"),e P "__spec__" 169 .none,e P "__annotations__" 170 (r 6),
 e P "__builtins__" 171 (r 4),e P "__file__" 173 (s "/claim/cut.py" 172),e P "__cached__" 174 .none,e P "_wall" 193 (r 21),e P "SwitchError" 224 (r 38),e P "SizeError" 240 (r 51),
 e P "TableError" 256 (r 63),e P "StateError" 272 (r 75),e P "put_number" 280 (r 82),e P "put16" 287 (r 89),e P "put48" 294 (r 96),e P "ACTIVITY" 298 (.int 1 297),
 e P "SHORT" 300 (.int 2 299),e P "AGGREGATION" 302 (.int 4 301),e P "SYNCHRONIZATION" 304 (.int 8 303),e P "COLLECTING" 306 (.int 16 305),e P "DISTRIBUTING" 308 (.int 32 307),e P "DEFAULTED" 310 (.int 64 309),
 e P "EXPIRED" 312 (.int 128 311),e P "SUBTYPE" 314 (.int 1 313),e P "VERSION" 316 (.int 1 315),e P "ACTOR_PART" 318 (.int 1 317),e P "PARTNER_PART" 320 (.int 2 319),e P "COLLECTOR_PART" 322 (.int 3 321),
 e P "INFO_SIZE" 324 (.int 20 323),e P "COLLECTOR_SIZE" 326 (.int 16 325),e P "LAST_ROOM" 328 (.int 52 327),e P "NOBODY" 336 (r 99),e P "Lacpdu" 377 (r 124),e P "has_bit" 385 (r 135),
 e P "with_bit" 395 (r 142),e P "packed_info" 408 (r 149),e P "pack_lacpdu" 416 (r 156),e P "SHORT_WAIT" 420 (.int 3 419),e P "LONG_WAIT" 422 (.int 90 421),e P "QUICK_TURN" 424 (.int 1 423),
 e P "SLOW_TURN" 426 (.int 30 425),e P "JOIN_WAIT" 428 (.int 2 427),e P "HOLD" 430 (.int 3 429),e P "LacpRow" 483 (r 188),e P "LacpPort" 600 (r 279),e P "BITS_OF" 618 (r 284),
 e P "move_mux" 627 (r 291),e P "next_mux" 637 (r 298),e P "step_mux" 646 (r 305),e P "have_waited" 652 (r 310),e P "wait_second" 659 (r 317),e P "KNOWN_BITS" 665 (.int 15 664),
 e P "begin_link" 672 (r 324),e P "end_link" 679 (r 331),e P "fall_silent" 686 (r 338),e P "is_same_end" 694 (r 345),e P "knows_us" 702 (r 352),e P "is_in_step" 710 (r 359),
 e P "hear" 719 (r 366),e P "pass_second" 726 (r 373),e P "message_of" 733 (r 380),e P "Chooser" 814 (r 433),e P "MOST_ROUNDS" 818 (.int 12 817),e P "ROOM" 822 (.int 65536 821),
 e P "check_room" 828 (r 442),e P "Bundles" 966 (r 543),e P "_law_pool" 979 (r 554),e P "_law_take" 988 (r 561),e P "_law_one" 996 (r 568),e P "_law_pass" 1009 (r 575),
 e P "_law_joined" 1019 (r 582),e P "_law_alone" 1025 (r 587),e P "_law_own_right" 1031 (r 592),e P "_law_partners_right" 1037 (r 597),e P "_law_heard" 1044 (r 604),e P "_law_refusals_right" 1050 (r 609),
 e P "law" 1064 (r 616)]
noncomputable def n0 (P:Params):List DictEntry:=(N P).drop 1
noncomputable def T3:List (Int × Nat)→List Value
 | []=>[]
 | (a,b)::l=>i a::i 0::r b::T3 l
noncomputable def T:List (Int × Nat):=[(1,20),(5,27),(10,47),(12,59),(14,71),(17,81),(21,88),(23,95),(43,105),(52,134),(54,141),(57,148),(61,155),(72,162),(87,198),(139,290),(144,297),(162,304),(172,309),(175,316),(180,323),(187,330),(195,337),(205,344),(207,351),(209,358),(215,365),(231,372),(243,379),(252,386),(306,441),(310,448),(386,553),(391,560),(398,567),(400,574),(406,581),(411,586),(416,591),(428,596),(437,603),(445,608),(467,615)]
noncomputable def C38 (k:Nat):Obj:=cl "SwitchError" [(.type "Exception")] [(r 38),(.type "Exception"),(.type "BaseException"),(.type "object")] 37 "SwitchError" ([(r 51),(r 63),(r 75)].take k) [(some (r 22)),none,(some (s "SwitchError" 196)),(some (s "SwitchError" 204)),(some (.builtin "Exception.__new__")),(some (.bool true))]
noncomputable def O2 (P:Params):Obj:=di .none [e P "type.__subclasses__.Exception.0" 221 (i 38),e P "type.__subclasses__.Exception.n" 222 (i 1)] 2
noncomputable def A0 (P:Params):List Obj:=[c "<module>" "<module>" 182 1 0 0 11 false 12 .none .none .none .none 185,p (.type "frame") none [(some (r 13)),(some (r 3)),(some (r 3)),none,(some (s "__main__" 164)),none,(some (r 0))]]
noncomputable def A1 (P:Params):List Obj:=D (d 0) "_wall" (s "__main__" 164) .none 15 187 ["k"] ++
 [t [(.type "Exception")],f (.type "builtin_function_or_method") [(.builtin "type.__prepare__"),(.type "type")],di (.type "dict") [e P "__module__" 203 (s "switchloom.errors" 194),e P "__qualname__" 205 (s "SwitchError" 204),e P "__firstlineno__" 207 (.int 5 206),e P "__init__" 215 (r 35),e P "__static_attributes__" 217 (r 36)] 5,t [],f .none [(i 7),(i 4),(r 34)],c "SwitchError" "SwitchError" 198 5 0 0 25 false 26 .none .none .none .none 201,p (.type "frame") none [(some (r 27)),(some (r 3)),(some (r 24)),none,(some (s "switchloom.errors" 194)),none,(some (r 0))]] ++
 D (m 2 0) "SwitchError.__init__" (s "switchloom.errors" 194) .none 29 208 ["self","message"] ++
 [t [(s "message" 216)],di (.type "dict") [e P "__module__" 203 (s "switchloom.errors" 194),e P "__firstlineno__" 207 (.int 5 206),e P "__init__" 215 (r 35),e P "__static_attributes__" 217 (r 36),e P "__weakref__" 219 (r 39),e P "__doc__" 220 .none] 3]
noncomputable def B0 (P:Params):List Obj:=[f (.type "getset_descriptor") [(s "__weakref__" 218),(r 38),(.builtin "ExceptionGroup.__weakref__"), .none],f (.type "super") [(r 38),(r 38),(r 38)],f (.type "builtin_function_or_method") [(.builtin "object.__init_subclass__"),(r 38)]]
noncomputable def B1 (P:Params):List Obj:=[t [(r 38)],f (.type "builtin_function_or_method") [(.builtin "type.__prepare__"),(.type "type")],di (.type "dict") [e P "__module__" 232 (s "switchloom.errors" 194),e P "__qualname__" 234 (s "SizeError" 233),e P "__firstlineno__" 236 (.int 10 235),e P "__static_attributes__" 237 (r 49)] 4,t [],f .none [],c "SizeError" "SizeError" 227 10 0 0 45 false 46 .none .none .none .none 230,p (.type "frame") none [(some (r 47)),(some (r 3)),(some (r 44)),none,(some (s "switchloom.errors" 194)),none,(some (r 0))],t [],di (.type "dict") [e P "__module__" 232 (s "switchloom.errors" 194),e P "__firstlineno__" 236 (.int 10 235),e P "__static_attributes__" 237 (r 49),e P "__doc__" 238 .none] 2,cl "SizeError" [(r 38)] [(r 51),(r 38),(.type "Exception"),(.type "BaseException"),(.type "object")] 50 "SizeError" [] [(some (r 42)),none,(some (s "SizeError" 225)),(some (s "SizeError" 233)),(some (.builtin "Exception.__new__")),(some (.bool true))],f (.type "super") [(r 51),(r 51),(r 51)],f (.type "builtin_function_or_method") [(.builtin "object.__init_subclass__"),(r 51)]]
noncomputable def B2 (P:Params):List Obj:=[t [(r 38)],f (.type "builtin_function_or_method") [(.builtin "type.__prepare__"),(.type "type")],di (.type "dict") [e P "__module__" 248 (s "switchloom.errors" 194),e P "__qualname__" 250 (s "TableError" 249),e P "__firstlineno__" 252 (.int 12 251),e P "__static_attributes__" 253 (r 61)] 4,t [],f .none [],c "TableError" "TableError" 243 12 0 0 57 false 58 .none .none .none .none 246,p (.type "frame") none [(some (r 59)),(some (r 3)),(some (r 56)),none,(some (s "switchloom.errors" 194)),none,(some (r 0))],t [],di (.type "dict") [e P "__module__" 248 (s "switchloom.errors" 194),e P "__firstlineno__" 252 (.int 12 251),e P "__static_attributes__" 253 (r 61),e P "__doc__" 254 .none] 2,cl "TableError" [(r 38)] [(r 63),(r 38),(.type "Exception"),(.type "BaseException"),(.type "object")] 62 "TableError" [] [(some (r 54)),none,(some (s "TableError" 241)),(some (s "TableError" 249)),(some (.builtin "Exception.__new__")),(some (.bool true))],f (.type "super") [(r 63),(r 63),(r 63)],f (.type "builtin_function_or_method") [(.builtin "object.__init_subclass__"),(r 63)]]
noncomputable def B3 (P:Params):List Obj:=[t [(r 38)],f (.type "builtin_function_or_method") [(.builtin "type.__prepare__"),(.type "type")],di (.type "dict") [e P "__module__" 264 (s "switchloom.errors" 194),e P "__qualname__" 266 (s "StateError" 265),e P "__firstlineno__" 268 (.int 14 267),e P "__static_attributes__" 269 (r 73)] 4,t [],f .none [],c "StateError" "StateError" 259 14 0 0 69 false 70 .none .none .none .none 262,p (.type "frame") none [(some (r 71)),(some (r 3)),(some (r 68)),none,(some (s "switchloom.errors" 194)),none,(some (r 0))],t [],di (.type "dict") [e P "__module__" 264 (s "switchloom.errors" 194),e P "__firstlineno__" 268 (.int 14 267),e P "__static_attributes__" 269 (r 73),e P "__doc__" 270 .none] 2,cl "StateError" [(r 38)] [(r 75),(r 38),(.type "Exception"),(.type "BaseException"),(.type "object")] 74 "StateError" [] [(some (r 66)),none,(some (s "StateError" 257)),(some (s "StateError" 265)),(some (.builtin "Exception.__new__")),(some (.bool true))],f (.type "super") [(r 75),(r 75),(r 75)],f (.type "builtin_function_or_method") [(.builtin "object.__init_subclass__"),(r 75)],t [],f .none [],fo (d 7) "put_number" .none 0 .none .none .none,c "put_number" "put_number" 275 17 2 3 78 true 79 .none .none .none (r 80) 278,fo (d 7) "put_number" (.type "function") 3 .none (s "switchloom.octets" 273) (r 81)] ++
 D (d 8) "put16" (s "switchloom.octets" 273) .none 83 281 ["number"] ++
 D (d 9) "put48" (s "switchloom.octets" 273) .none 90 288 ["number"]
noncomputable def B4 (P:Params):List Obj:=[t [(.int 0 329),(.int 0 330)],t [(.int 0 332),(.int 0 333)],t [(r 97),(.int 0 331),(r 98),(.int 56 335)],t [],f (.type "builtin_function_or_method") [(.builtin "type.__prepare__"),(.type "type")],di (.type "dict") [e P "__module__" 344 (s "switchloom.lacpdus" 295),e P "__qualname__" 346 (s "Lacpdu" 345),e P "__firstlineno__" 348 (.int 43 347),e P "__init__" 359 (r 114),e P "told" 366 (r 121),e P "__static_attributes__" 370 (r 122)] 6,t [],f .none [(i 45),(i 4),(r 113),(i 50),(i 4),(r 120)],c "Lacpdu" "Lacpdu" 339 43 0 0 103 false 104 .none .none .none .none 342,p (.type "frame") none [(some (r 105)),(some (r 3)),(some (r 102)),none,(some (s "switchloom.lacpdus" 295)),none,(some (r 0))],t [(.int 0 349)]] ++
 D (m 28 0) "Lacpdu.__init__" (s "switchloom.lacpdus" 295) (r 107) 108 350 ["self","actor","partner","most_delay"] ++
 D (m 28 1) "Lacpdu.told" (s "switchloom.lacpdus" 295) .none 115 360 ["self"] ++
 [t [(s "actor" 367),(s "most_delay" 368),(s "partner" 369)],di (.type "dict") [e P "__module__" 344 (s "switchloom.lacpdus" 295),e P "__firstlineno__" 348 (.int 43 347),e P "__init__" 359 (r 114),e P "told" 366 (r 121),e P "__static_attributes__" 370 (r 122),e P "__dict__" 372 (r 125),e P "__weakref__" 374 (r 126),e P "__doc__" 375 .none] 4,cl "Lacpdu" [(.type "object")] [(r 124),(.type "object")] 123 "Lacpdu" [] [none,none,(some (s "Lacpdu" 337)),(some (s "Lacpdu" 345)),(some (.builtin "object.__new__")),(some (.bool true))],f (.type "getset_descriptor") [(s "__dict__" 371),(r 124),(.builtin "function.__dict__"),(.builtin "function.__dict__#set")],f (.type "getset_descriptor") [(s "__weakref__" 373),(r 124),(.builtin "ExceptionGroup.__weakref__"), .none],f (.type "super") [(r 124),(r 124),(r 124)],f (.type "builtin_function_or_method") [(.builtin "object.__init_subclass__"),(r 124)]] ++
 D (d 29) "has_bit" (s "switchloom.lacpdus" 295) .none 129 378 ["info","bit"]
noncomputable def B5 (P:Params):List Obj:=D (d 30) "with_bit" (s "switchloom.lacpdus" 295) .none 136 386 ["info","bit","is_set","state"] ++
 D (d 31) "packed_info" (s "switchloom.lacpdus" 295) .none 143 396 ["part","info","system","key","port","state","found"] ++
 D (d 32) "pack_lacpdu" (s "switchloom.lacpdus" 295) .none 150 409 ["pdu","found"]
noncomputable def B6 (P:Params):List Obj:=[t [],f (.type "builtin_function_or_method") [(.builtin "type.__prepare__"),(.type "type")],di (.type "dict") [e P "__module__" 438 (s "switchloom.lacp_port" 417),e P "__qualname__" 440 (s "LacpRow" 439),e P "__firstlineno__" 442 (.int 72 441),e P "__init__" 455 (r 171),e P "port_id" 462 (r 178),e P "bits" 469 (r 185),e P "__static_attributes__" 476 (r 186)] 7,t [],f .none [(i 74),(i 4),(r 170),(i 82),(i 4),(r 177),(i 85),(i 4),(r 184)],c "LacpRow" "LacpRow" 433 72 0 0 160 false 161 .none .none .none .none 436,p (.type "frame") none [(some (r 162)),(some (r 3)),(some (r 159)),none,(some (s "switchloom.lacp_port" 417)),none,(some (r 0))],t [(.bool true),(.bool false),(.bool true)]] ++
 D (m 40 0) "LacpRow.__init__" (s "switchloom.lacp_port" 417) (r 164) 165 443 ["self","number","priority","key","is_active","is_short","may_join"] ++
 D (m 40 1) "LacpRow.port_id" (s "switchloom.lacp_port" 417) .none 172 456 ["self"] ++
 D (m 40 2) "LacpRow.bits" (s "switchloom.lacp_port" 417) .none 179 463 ["self"] ++
 [t [(s "is_active" 470),(s "is_short" 471),(s "key" 472),(s "may_join" 473),(s "number" 474),(s "priority" 475)],di (.type "dict") [e P "__module__" 438 (s "switchloom.lacp_port" 417),e P "__firstlineno__" 442 (.int 72 441),e P "__init__" 455 (r 171),e P "port_id" 462 (r 178),e P "bits" 469 (r 185),e P "__static_attributes__" 476 (r 186),e P "__dict__" 478 (r 189),e P "__weakref__" 480 (r 190),e P "__doc__" 481 .none] 4,cl "LacpRow" [(.type "object")] [(r 188),(.type "object")] 187 "LacpRow" [] [none,none,(some (s "LacpRow" 431)),(some (s "LacpRow" 439)),(some (.builtin "object.__new__")),(some (.bool true))],f (.type "getset_descriptor") [(s "__dict__" 477),(r 188),(.builtin "function.__dict__"),(.builtin "function.__dict__#set")],f (.type "getset_descriptor") [(s "__weakref__" 479),(r 188),(.builtin "ExceptionGroup.__weakref__"), .none],f (.type "super") [(r 188),(r 188),(r 188)],f (.type "builtin_function_or_method") [(.builtin "object.__init_subclass__"),(r 188)]]
def B7 (P:Params):List Obj:=[t [],f (.type "builtin_function_or_method") [(.builtin "type.__prepare__"),(.type "type")],di (.type "dict") [e P "__module__" 491 (s "switchloom.lacp_port" 417),e P "__qualname__" 493 (s "LacpPort" 492),e P "__firstlineno__" 495 (.int 87 494),e P "__init__" 504 (r 206),e P "is_up" 511 (r 213),e P "own" 519 (r 220),e P "others" 527 (r 227),e P "set_own" 537 (r 234),e P "is_lone" 544 (r 241),e P "group" 552 (r 248),e P "talks" 559 (r 255),e P "turn" 566 (r 262),e P "heard_wait" 573 (r 269),e P "told_bits" 580 (r 276),e P "__static_attributes__" 593 (r 277)] 15,t [],f .none [(i 89),(i 4),(r 205),(i 103),(i 4),(r 212),(i 106),(i 4),(r 219),(i 109),(i 4),(r 226),(i 112),(i 4),(r 233),(i 117),(i 4),(r 240),(i 122),(i 4),(r 247),(i 126),(i 4),(r 254),(i 129),(i 4),(r 261),(i 132),(i 4),(r 268),(i 135),(i 4),(r 275)],c "LacpPort" "LacpPort" 486 87 0 0 196 false 197 .none .none .none .none 489,p (.type "frame") none [(some (r 198)),(some (r 3)),(some (r 195)),none,(some (s "switchloom.lacp_port" 417)),none,(some (r 0))]] ++
 D (m 41 0) "LacpPort.__init__" (s "switchloom.lacp_port" 417) .none 200 496 ["self","system","row"] ++
 D (m 41 1) "LacpPort.is_up" (s "switchloom.lacp_port" 417) .none 207 505 ["self"] ++
 D (m 41 2) "LacpPort.own" (s "switchloom.lacp_port" 417) .none 214 512 ["self","bit"] ++
 D (m 41 3) "LacpPort.others" (s "switchloom.lacp_port" 417) .none 221 520 ["self","bit"] ++
 D (m 41 4) "LacpPort.set_own" (s "switchloom.lacp_port" 417) .none 228 528 ["self","bit","is_set","before"] ++
 D (m 41 5) "LacpPort.is_lone" (s "switchloom.lacp_port" 417) .none 235 538 ["self"] ++
 D (m 41 6) "LacpPort.group" (s "switchloom.lacp_port" 417) .none 242 545 ["self","number"] ++
 D (m 41 7) "LacpPort.talks" (s "switchloom.lacp_port" 417) .none 249 553 ["self"] ++
 D (m 41 8) "LacpPort.turn" (s "switchloom.lacp_port" 417) .none 256 560 ["self"] ++
 D (m 41 9) "LacpPort.heard_wait" (s "switchloom.lacp_port" 417) .none 263 567 ["self"] ++
 D (m 41 10) "LacpPort.told_bits" (s "switchloom.lacp_port" 417) .none 270 574 ["self"] ++
 [t [(s "actor" 581),(s "bundle" 582),(s "choice" 583),(s "heard" 584),(s "heard_left" 585),(s "join_left" 586),(s "must_send" 587),(s "mux" 588),(s "partner" 589),(s "row" 590),(s "sent_many" 591),(s "turn_left" 592)],di (.type "dict") [e P "__module__" 491 (s "switchloom.lacp_port" 417),e P "__firstlineno__" 495 (.int 87 494),e P "__init__" 504 (r 206),e P "is_up" 511 (r 213),e P "own" 519 (r 220),e P "others" 527 (r 227),e P "set_own" 537 (r 234),e P "is_lone" 544 (r 241),e P "group" 552 (r 248),e P "talks" 559 (r 255),e P "turn" 566 (r 262),e P "heard_wait" 573 (r 269),e P "told_bits" 580 (r 276),e P "__static_attributes__" 593 (r 277),e P "__dict__" 595 (r 280),e P "__weakref__" 597 (r 281),e P "__doc__" 598 .none] 4,cl "LacpPort" [(.type "object")] [(r 279),(.type "object")] 278 "LacpPort" [] [none,none,(some (s "LacpPort" 484)),(some (s "LacpPort" 492)),(some (.builtin "object.__new__")),(some (.bool true))],f (.type "getset_descriptor") [(s "__dict__" 594),(r 279),(.builtin "function.__dict__"),(.builtin "function.__dict__#set")],f (.type "getset_descriptor") [(s "__weakref__" 596),(r 279),(.builtin "ExceptionGroup.__weakref__"), .none],f (.type "super") [(r 279),(r 279),(r 279)],f (.type "builtin_function_or_method") [(.builtin "object.__init_subclass__"),(r 279)]]
noncomputable def B8 (P:Params):List Obj:=[di (.type "dict") [e P "detached" 603 (.int 0 604),e P "waiting" 605 (.int 0 606),e P "attached" 607 (.int 8 303),e P "collecting" 608 (.int 24 609),e P "distributing" 610 (.int 56 612)] 5] ++
 D (d 44) "move_mux" (s "switchloom.lacp_mux" 601) .none 285 619 ["port","word","bit"] ++
 D (d 45) "next_mux" (s "switchloom.lacp_mux" 601) .none 292 628 ["port","is_ready","here","is_held"] ++
 D (d 46) "step_mux" (s "switchloom.lacp_mux" 601) .none 299 638 ["port","is_ready","word"] ++
 [t [],f .none [],fo (d 47) "have_waited" .none 0 .none .none .none,c "have_waited" "have_waited" 647 172 2 3 306 true 307 .none .none .none (r 308) 650,fo (d 47) "have_waited" (.type "function") 3 .none (s "switchloom.lacp_mux" 601) (r 309)] ++
 D (d 48) "wait_second" (s "switchloom.lacp_mux" 601) .none 311 653 ["port"] ++
 D (d 51) "begin_link" (s "switchloom.lacp_receive" 660) .none 318 666 ["port"] ++
 D (d 52) "end_link" (s "switchloom.lacp_receive" 660) .none 325 673 ["port"] ++
 D (d 53) "fall_silent" (s "switchloom.lacp_receive" 660) .none 332 680 ["port"]
noncomputable def B9 (P:Params):List Obj:=D (d 54) "is_same_end" (s "switchloom.lacp_receive" 660) .none 339 687 ["one","other"] ++
 D (d 55) "knows_us" (s "switchloom.lacp_receive" 660) .none 346 695 ["port","pdu"] ++
 D (d 56) "is_in_step" (s "switchloom.lacp_receive" 660) .none 353 703 ["port","pdu"] ++
 D (d 57) "hear" (s "switchloom.lacp_receive" 660) .none 360 711 ["port","pdu","was_slow"] ++
 D (d 58) "pass_second" (s "switchloom.lacp_receive" 660) .none 367 720 ["port"] ++
 D (d 59) "message_of" (s "switchloom.lacp_receive" 660) .none 374 727 ["port"]
noncomputable def B10 (P:Params):List Obj:=[t [],f (.type "builtin_function_or_method") [(.builtin "type.__prepare__"),(.type "type")],di (.type "dict") [e P "__module__" 743 (s "switchloom.lacp_select" 734),e P "__qualname__" 745 (s "Chooser" 744),e P "__firstlineno__" 747 (.int 252 746),e P "__init__" 756 (r 394),e P "number_of" 762 (r 399),e P "drop_empty" 768 (r 404),e P "rank" 776 (r 411),e P "worked" 785 (r 418),e P "choose" 791 (r 423),e P "settle" 803 (r 430),e P "__static_attributes__" 807 (r 431)] 11,t [],f .none [(i 254),(i 4),(r 393),(i 259),(i 4),(r 398),(i 268),(i 4),(r 403),(i 275),(i 4),(r 410),(i 278),(i 4),(r 417),(i 281),(i 4),(r 422),(i 296),(i 4),(r 429)],c "Chooser" "Chooser" 738 252 0 0 384 false 385 .none .none .none .none 741,p (.type "frame") none [(some (r 386)),(some (r 3)),(some (r 383)),none,(some (s "switchloom.lacp_select" 734)),none,(some (r 0))]] ++
 D (m 61 0) "Chooser.__init__" (s "switchloom.lacp_select" 734) .none 388 748 ["self","system","most"] ++
 [t [],f .none [],fo (m 61 1) "Chooser.number_of" .none 0 .none .none .none,c "number_of" "Chooser.number_of" 757 259 2 3 395 true 396 .none .none .none (r 397) 760,fo (m 61 1) "Chooser.number_of" (.type "function") 3 .none (s "switchloom.lacp_select" 734) (r 398),t [],f .none [],fo (m 61 2) "Chooser.drop_empty" .none 0 .none .none .none,c "drop_empty" "Chooser.drop_empty" 763 268 2 3 400 true 401 .none .none .none (r 402) 766,fo (m 61 2) "Chooser.drop_empty" (.type "function") 3 .none (s "switchloom.lacp_select" 734) (r 403)] ++
 D (m 61 3) "Chooser.rank" (s "switchloom.lacp_select" 734) .none 405 769 ["self","port"] ++
 [t [],f .none [],t [(s "self" 780),(s "ports" 781)],t [(s "self" 782)],fo (m 61 4) "Chooser.worked" .none 0 .none .none .none,c "worked" "Chooser.worked" 777 278 2 3 412 true 413 .none (r 414) (r 415) (r 416) 783,fo (m 61 4) "Chooser.worked" (.type "function") 3 .none (s "switchloom.lacp_select" 734) (r 417),t [],f .none [],fo (m 61 5) "Chooser.choose" .none 0 .none .none .none,c "choose" "Chooser.choose" 786 281 2 3 419 true 420 .none .none .none (r 421) 789,fo (m 61 5) "Chooser.choose" (.type "function") 3 .none (s "switchloom.lacp_select" 734) (r 422)] ++
 D (m 61 6) "Chooser.settle" (s "switchloom.lacp_select" 734) .none 424 792 ["self","group","ports","number","chosen","port"] ++
 [t [(s "most" 804),(s "numbers" 805),(s "system" 806)],di (.type "dict") [e P "__module__" 743 (s "switchloom.lacp_select" 734),e P "__firstlineno__" 747 (.int 252 746),e P "__init__" 756 (r 394),e P "number_of" 762 (r 399),e P "drop_empty" 768 (r 404),e P "rank" 776 (r 411),e P "worked" 785 (r 418),e P "choose" 791 (r 423),e P "settle" 803 (r 430),e P "__static_attributes__" 807 (r 431),e P "__dict__" 809 (r 434),e P "__weakref__" 811 (r 435),e P "__doc__" 812 .none] 4,cl "Chooser" [(.type "object")] [(r 433),(.type "object")] 432 "Chooser" [] [none,none,(some (s "Chooser" 736)),(some (s "Chooser" 744)),(some (.builtin "object.__new__")),(some (.bool true))],f (.type "getset_descriptor") [(s "__dict__" 808),(r 433),(.builtin "function.__dict__"),(.builtin "function.__dict__#set")],f (.type "getset_descriptor") [(s "__weakref__" 810),(r 433),(.builtin "ExceptionGroup.__weakref__"), .none],f (.type "super") [(r 433),(r 433),(r 433)],f (.type "builtin_function_or_method") [(.builtin "object.__init_subclass__"),(r 433)]]
noncomputable def B11 (P:Params):List Obj:=[t [],f .none [],fo (d 65) "check_room" .none 0 .none .none .none,c "check_room" "check_room" 823 306 2 3 438 true 439 .none .none .none (r 440) 826,fo (d 65) "check_room" (.type "function") 3 .none (s "switchloom.lacp" 815) (r 441)]
noncomputable def B12 (P:Params):List Obj:=[t [],f (.type "builtin_function_or_method") [(.builtin "type.__prepare__"),(.type "type")],di (.type "dict") [e P "__module__" 836 (s "switchloom.lacp" 815),e P "__qualname__" 838 (s "Bundles" 837),e P "__firstlineno__" 840 (.int 310 839),e P "__init__" 852 (r 457),e P "all_ports" 858 (r 462),e P "port" 866 (r 469),e P "rest" 877 (r 476),e P "link_up" 886 (r 483),e P "link_down" 895 (r 490),e P "receive" 904 (r 497),e P "second" 912 (r 504),e P "take_sent" 922 (r 511),e P "members" 928 (r 516),e P "collectors" 936 (r 523),e P "has_partner" 942 (r 528),e P "bundle_of" 950 (r 535),e P "bundles" 956 (r 540),e P "__static_attributes__" 959 (r 541)] 18,t [],f .none [(i 312),(i 4),(r 456),(i 323),(i 4),(r 461),(i 326),(i 4),(r 468),(i 331),(i 4),(r 475),(i 341),(i 4),(r 482),(i 347),(i 4),(r 489),(i 353),(i 4),(r 496),(i 357),(i 4),(r 503),(i 363),(i 4),(r 510),(i 371),(i 4),(r 515),(i 374),(i 4),(r 522),(i 377),(i 4),(r 527),(i 380),(i 4),(r 534),(i 383),(i 4),(r 539)],c "Bundles" "Bundles" 831 310 0 0 446 false 447 .none .none .none .none 834,p (.type "frame") none [(some (r 448)),(some (r 3)),(some (r 445)),none,(some (s "switchloom.lacp" 815)),none,(some (r 0))],t [(.int 8 841)]] ++
 D (m 66 0) "Bundles.__init__" (s "switchloom.lacp" 815) (r 450) 451 842 ["self","system","rows","most","row"] ++
 [t [],f .none [],fo (m 66 1) "Bundles.all_ports" .none 0 .none .none .none,c "all_ports" "Bundles.all_ports" 853 323 1 3 458 true 459 .none .none .none (r 460) 856,fo (m 66 1) "Bundles.all_ports" (.type "function") 3 .none (s "switchloom.lacp" 815) (r 461)] ++
 D (m 66 2) "Bundles.port" (s "switchloom.lacp" 815) .none 463 859 ["self","number"] ++
 D (m 66 3) "Bundles.rest" (s "switchloom.lacp" 815) .none 470 867 ["self","ports","turn","is_changed","port"] ++
 D (m 66 4) "Bundles.link_up" (s "switchloom.lacp" 815) .none 477 878 ["self","number","port"] ++
 D (m 66 5) "Bundles.link_down" (s "switchloom.lacp" 815) .none 484 887 ["self","number","port"] ++
 D (m 66 6) "Bundles.receive" (s "switchloom.lacp" 815) .none 491 896 ["self","number","pdu"] ++
 D (m 66 7) "Bundles.second" (s "switchloom.lacp" 815) .none 498 905 ["self","port"] ++
 D (m 66 8) "Bundles.take_sent" (s "switchloom.lacp" 815) .none 505 913 ["self","found","port","pdu"] ++
 [t [],f .none [],fo (m 66 9) "Bundles.members" .none 0 .none .none .none,c "members" "Bundles.members" 923 371 2 3 512 true 513 .none .none .none (r 514) 926,fo (m 66 9) "Bundles.members" (.type "function") 3 .none (s "switchloom.lacp" 815) (r 515)] ++
 D (m 66 10) "Bundles.collectors" (s "switchloom.lacp" 815) .none 517 929 ["self","bundle"] ++
 [t [],f .none [],fo (m 66 11) "Bundles.has_partner" .none 0 .none .none .none,c "has_partner" "Bundles.has_partner" 937 377 2 3 524 true 525 .none .none .none (r 526) 940,fo (m 66 11) "Bundles.has_partner" (.type "function") 3 .none (s "switchloom.lacp" 815) (r 527)] ++
 D (m 66 12) "Bundles.bundle_of" (s "switchloom.lacp" 815) .none 529 943 ["self","number"] ++
 [t [],f .none [],fo (m 66 13) "Bundles.bundles" .none 0 .none .none .none,c "bundles" "Bundles.bundles" 951 383 1 3 536 true 537 .none .none .none (r 538) 954,fo (m 66 13) "Bundles.bundles" (.type "function") 3 .none (s "switchloom.lacp" 815) (r 539),t [(s "chooser" 957),(s "ports" 958)],di (.type "dict") [e P "__module__" 836 (s "switchloom.lacp" 815),e P "__firstlineno__" 840 (.int 310 839),e P "__init__" 852 (r 457),e P "all_ports" 858 (r 462),e P "port" 866 (r 469),e P "rest" 877 (r 476),e P "link_up" 886 (r 483),e P "link_down" 895 (r 490),e P "receive" 904 (r 497),e P "second" 912 (r 504),e P "take_sent" 922 (r 511),e P "members" 928 (r 516),e P "collectors" 936 (r 523),e P "has_partner" 942 (r 528),e P "bundle_of" 950 (r 535),e P "bundles" 956 (r 540),e P "__static_attributes__" 959 (r 541),e P "__dict__" 961 (r 544),e P "__weakref__" 963 (r 545),e P "__doc__" 964 .none] 4,cl "Bundles" [(.type "object")] [(r 543),(.type "object")] 542 "Bundles" [] [none,none,(some (s "Bundles" 829)),(some (s "Bundles" 837)),(some (.builtin "object.__new__")),(some (.bool true))],f (.type "getset_descriptor") [(s "__dict__" 960),(r 543),(.builtin "function.__dict__"),(.builtin "function.__dict__#set")],f (.type "getset_descriptor") [(s "__weakref__" 962),(r 543),(.builtin "ExceptionGroup.__weakref__"), .none],f (.type "super") [(r 543),(r 543),(r 543)],f (.type "builtin_function_or_method") [(.builtin "object.__init_subclass__"),(r 543)]]
noncomputable def B13 (P:Params):List Obj:=D (d 68) "_law_pool" (s "law_pq1163_01" 967) .none 548 969 ["script","k","cell","big","mixed"] ++
 D (d 69) "_law_take" (s "law_pq1163_01" 967) .none 555 980 ["source","top","drawn"] ++
 D (d 70) "_law_one" (s "law_pq1163_01" 967) .none 562 989 ["source","things"] ++
 D (d 71) "_law_pass" (s "law_pq1163_01" 967) .none 569 997 ["end","joined","many","turn","again","number","pdu"] ++
 D (d 72) "_law_joined" (s "law_pq1163_01" 967) .none 576 1010 ["pairs","found","one","other"] ++
 [t [],f .none [],fo (d 73) "_law_alone" .none 0 .none .none .none,c "_law_alone" "_law_alone" 1020 411 2 3 583 true 584 .none .none .none (r 585) 1023,fo (d 73) "_law_alone" (.type "function") 3 .none (s "law_pq1163_01" 967) (r 586),t [],f .none [],fo (d 74) "_law_own_right" .none 0 .none .none .none,c "_law_own_right" "_law_own_right" 1026 416 3 3 588 true 589 .none .none .none (r 590) 1029,fo (d 74) "_law_own_right" (.type "function") 3 .none (s "law_pq1163_01" 967) (r 591),t [],f .none [],fo (d 75) "_law_partners_right" .none 0 .none .none .none,c "_law_partners_right" "_law_partners_right" 1032 428 0 3 593 true 594 .none .none .none (r 595) 1035,fo (d 75) "_law_partners_right" (.type "function") 3 .none (s "law_pq1163_01" 967) (r 596)] ++
 D (d 76) "_law_heard" (s "law_pq1163_01" 967) .none 598 1038 ["call"] ++
 [t [],f .none [],fo (d 77) "_law_refusals_right" .none 0 .none .none .none,c "_law_refusals_right" "_law_refusals_right" 1045 445 0 3 605 true 606 .none .none .none (r 607) 1048,fo (d 77) "_law_refusals_right" (.type "function") 3 .none (s "law_pq1163_01" 967) (r 608)] ++
 D (d 78) "law" (s "law_pq1163_01" 967) .none 610 1051 ["script","k","source","rows","number","key","is_active","pairs"]
noncomputable def Bs (P:Params):List (List Obj):=[B0 P,B1 P,B2 P,B3 P,B4 P,B5 P,B6 P,B7 P,B8 P,B9 P,B10 P,B11 P,B12 P,B13 P]
noncomputable def sp:List Obj→List Obj × List Obj
 | []=>([],[])
 | x::l=>(x::(sp l).2,(sp l).1)
noncomputable def tr:Nat→List Obj→BT
 | 0,_=> .nil
 | _+1,[]=> .nil
 | n+1,x::l=> .node x (tr n (sp l).1) (tr n (sp l).2)
noncomputable def O3 (P:Params)(k:Nat)(v:Value):Obj:=di (.type "dict") (e P "__name__" 165 v::(n0 P).take (k - 1)) k
noncomputable def jS (P:Params)(j b:Nat):List Obj:=match j with
 | 0=>[]
 | j=>A1 P ++C38 b::((Bs P).take j).flatten
noncomputable def X (P:Params)(j k a b:Nat)(v:Value):List Obj:=
 boot_o_0 P::boot_o_1 P::(match j with | 0=>boot_o_2 P | _=>O2 P)::O3 P k v::boot_o_4 P::boot_o_5 P::boot_o_6 P::boot_o_7 P::boot_o_8 P::boot_o_9 P::boot_o_10 P::t []::f .none (T3 (T.take a))::(A0 P ++jS P j b)
noncomputable def env:Env:={ scope:=PG.main.scope,locals:=mainNs,globals:=mainNs,cells:=[],code:= .ref 13,frame:=some 14 }
noncomputable def cd:Code:= .body (behindTheImports PG) env
noncomputable def z:Pos:=⟨0,0,0,0⟩
noncomputable def sts (a n:Nat):List Stmt:=(PG.main.body.drop a).take n
noncomputable def S0 (w:World)(os:OsState):SharedT:=⟨tr 11 (X w.params 0 9 0 0 (s "__main__" 164)),15,{},#[],{},187,os⟩
noncomputable def S1 (w:World)(os:OsState):SharedT:=⟨tr 11 (X w.params 1 11 2 0 (s "switchloom.errors" 194)),42,{},#[],{},225,os⟩
noncomputable def S2 (w:World)(os:OsState):SharedT:=⟨tr 11 (X w.params 2 12 3 1 (s "switchloom.errors" 194)),54,{},#[],{},241,os⟩
noncomputable def S3 (w:World)(os:OsState):SharedT:=⟨tr 11 (X w.params 3 13 4 2 (s "switchloom.errors" 194)),66,{},#[],{},257,os⟩
noncomputable def S4 (w:World)(os:OsState):SharedT:=⟨tr 11 (X w.params 4 26 8 3 (s "switchloom.lacpdus" 295)),97,{},#[],{},315,os⟩
noncomputable def S5 (w:World)(os:OsState):SharedT:=⟨tr 11 (X w.params 5 36 10 3 (s "switchloom.lacpdus" 295)),136,{},#[],{},386,os⟩
noncomputable def S6 (w:World)(os:OsState):SharedT:=⟨tr 11 (X w.params 6 45 13 3 (s "switchloom.lacp_port" 417)),157,{},#[],{},431,os⟩
noncomputable def S7 (w:World)(os:OsState):SharedT:=⟨tr 11 (X w.params 7 46 14 3 (s "switchloom.lacp_port" 417)),193,{},#[],{},484,os⟩
noncomputable def S8 (w:World)(os:OsState):SharedT:=⟨tr 11 (X w.params 8 47 15 3 (s "switchloom.lacp_port" 417)),284,{},#[],{},601,os⟩
noncomputable def S9 (w:World)(os:OsState):SharedT:=⟨tr 11 (X w.params 9 57 23 3 (s "switchloom.lacp_receive" 660)),339,{},#[],{},687,os⟩
noncomputable def S10 (w:World)(os:OsState):SharedT:=⟨tr 11 (X w.params 10 63 29 3 (s "switchloom.lacp_select" 734)),381,{},#[],{},736,os⟩
noncomputable def S11 (w:World)(os:OsState):SharedT:=⟨tr 11 (X w.params 11 64 30 3 (s "switchloom.lacp_select" 734)),438,{},#[],{},815,os⟩
noncomputable def S12 (w:World)(os:OsState):SharedT:=⟨tr 11 (X w.params 12 67 31 3 (s "switchloom.lacp" 815)),443,{},#[],{},829,os⟩
noncomputable def S13 (w:World)(os:OsState):SharedT:=⟨tr 11 (X w.params 13 68 32 3 (s "switchloom.lacp" 815)),548,{},#[],{},967,os⟩
noncomputable def S14 (w:World)(os:OsState):SharedT:=⟨tr 11 (X w.params 14 79 43 3 (s "law_pq1163_01" 967)),617,{},#[],{},1065,os⟩
end
theorem g1 (w:World)(os:OsState):segRunT treeTable PG w 11 (some (.ref 6)) 1 267 (S0 w os) (piecesOf (sts 0 3) env cd z [topFrame z])=some (.next,S1 w os,cd,⟨5,0,9,30⟩):=by
 rw [PySem.W.Fast.te10110043849684766642,PySem.W.Fast.te14364793385576792824]
 kernel_rfl
theorem g2 (w:World)(os:OsState):segRunT treeTable PG w 11 (some (.ref 6)) 1 214 (S1 w os) (piecesOf (sts 3 1) env cd ⟨5,0,9,30⟩ [topFrame z])=some (.next,S2 w os,cd,⟨10,0,11,8⟩):=by
 rw [PySem.W.Fast.te10110043849684766642,PySem.W.Fast.te14364793385576792824]
 kernel_rfl
theorem g3 (w:World)(os:OsState):segRunT treeTable PG w 11 (some (.ref 6)) 1 214 (S2 w os) (piecesOf (sts 4 1) env cd ⟨10,0,11,8⟩ [topFrame z])=some (.next,S3 w os,cd,⟨12,0,13,8⟩):=by
 rw [PySem.W.Fast.te10110043849684766642,PySem.W.Fast.te14364793385576792824]
 kernel_rfl
theorem g4 (w:World)(os:OsState):segRunT treeTable PG w 11 (some (.ref 6)) 1 397 (S3 w os) (piecesOf (sts 5 15) env cd ⟨12,0,13,8⟩ [topFrame z])=some (.next,S4 w os,cd,⟨34,0,34,7⟩):=by
 rw [PySem.W.Fast.te10110043849684766642,PySem.W.Fast.te14364793385576792824]
 kernel_rfl
theorem g5 (w:World)(os:OsState):segRunT treeTable PG w 11 (some (.ref 6)) 1 388 (S4 w os) (piecesOf (sts 20 10) env cd ⟨34,0,34,7⟩ [topFrame z])=some (.next,S5 w os,cd,⟨52,0,53,29⟩):=by
 rw [PySem.W.Fast.te10110043849684766642,PySem.W.Fast.te14364793385576792824]
 kernel_rfl
theorem g6 (w:World)(os:OsState):segRunT treeTable PG w 11 (some (.ref 6)) 1 161 (S5 w os) (piecesOf (sts 30 10) env cd ⟨52,0,53,29⟩ [topFrame z])=some (.next,S6 w os,cd,⟨71,0,71,4⟩):=by
 rw [PySem.W.Fast.te10110043849684766642,PySem.W.Fast.te14364793385576792824]
 kernel_rfl
theorem g7 (w:World)(os:OsState):segRunT treeTable PG w 11 (some (.ref 6)) 1 296 (S6 w os) (piecesOf (sts 40 1) env cd ⟨71,0,71,4⟩ [topFrame z])=some (.next,S7 w os,cd,⟨72,0,86,109⟩):=by
 rw [PySem.W.Fast.te10110043849684766642,PySem.W.Fast.te14364793385576792824]
 kernel_rfl
theorem g8 (w:World)(os:OsState):segRunT treeTable PG w 11 (some (.ref 6)) 1 551 (S7 w os) (piecesOf (sts 41 1) env cd ⟨72,0,86,109⟩ [topFrame z])=some (.next,S8 w os,cd,⟨87,0,136,16⟩):=by
 rw [PySem.W.Fast.te10110043849684766642,PySem.W.Fast.te14364793385576792824]
 kernel_rfl
theorem g9f (w:World)(os:OsState):segRunT treeTable PG (w.withFollow "special-get-raises" false) 11 (some (.ref 6)) 1 395 (S8 (w.withFollow "special-get-raises" false) os) (piecesOf (sts 42 12) env cd ⟨87,0,136,16⟩ [topFrame z])=some (.next,S9 (w.withFollow "special-get-raises" false) os,cd,⟨195,0,204,33⟩):=by
 rw [PySem.W.Fast.te10110043849684766642,PySem.W.Fast.te14364793385576792824]
 kernel_rfl
theorem g9t (w:World)(os:OsState):segRunT treeTable PG (w.withFollow "special-get-raises" true) 11 (some (.ref 6)) 1 395 (S8 (w.withFollow "special-get-raises" true) os) (piecesOf (sts 42 12) env cd ⟨87,0,136,16⟩ [topFrame z])=some (.next,S9 (w.withFollow "special-get-raises" true) os,cd,⟨195,0,204,33⟩):=by
 rw [PySem.W.Fast.te10110043849684766642,PySem.W.Fast.te14364793385576792824]
 kernel_rfl
theorem g9 (w:World)(os:OsState):segRunT treeTable PG w 11 (some (.ref 6)) 1 395 (S8 w os) (piecesOf (sts 42 12) env cd ⟨87,0,136,16⟩ [topFrame z])=some (.next,S9 w os,cd,⟨195,0,204,33⟩):=byRow2 "special-get-raises" (P:=λw=> ∀os,segRunT treeTable PG w 11 (some (.ref 6)) 1 395 (S8 w os) (piecesOf (sts 42 12) env cd ⟨87,0,136,16⟩ [topFrame z])=some (.next,S9 w os,cd,⟨195,0,204,33⟩)) g9f g9t w os
theorem H4 (w:World)(os:OsState):segRunT treeTable PG w 11 (some (.ref 6)) 1 189 (S9 w os) (piecesOf (sts 54 7) env cd ⟨195,0,204,33⟩ [topFrame z])=some (.next,S10 w os,cd,⟨251,0,251,8⟩):=by
 rw [PySem.W.Fast.te10110043849684766642,PySem.W.Fast.te14364793385576792824]
 kernel_rfl
theorem H5 (w:World)(os:OsState):segRunT treeTable PG w 11 (some (.ref 6)) 1 411 (S10 w os) (piecesOf (sts 61 1) env cd ⟨251,0,251,8⟩ [topFrame z])=some (.next,S11 w os,cd,⟨252,0,302,69⟩):=by
 rw [PySem.W.Fast.te10110043849684766642,PySem.W.Fast.te14364793385576792824]
 kernel_rfl
theorem H6 (w:World)(os:OsState):segRunT treeTable PG w 11 (some (.ref 6)) 1 60 (S11 w os) (piecesOf (sts 62 4) env cd ⟨252,0,302,69⟩ [topFrame z])=some (.next,S12 w os,cd,⟨306,0,309,53⟩):=by
 rw [PySem.W.Fast.te10110043849684766642,PySem.W.Fast.te14364793385576792824]
 kernel_rfl
theorem H7 (w:World)(os:OsState):segRunT treeTable PG w 11 (some (.ref 6)) 1 637 (S12 w os) (piecesOf (sts 66 1) env cd ⟨306,0,309,53⟩ [topFrame z])=some (.next,S13 w os,cd,⟨310,0,384,97⟩):=by
 rw [PySem.W.Fast.te10110043849684766642,PySem.W.Fast.te14364793385576792824]
 kernel_rfl
theorem H8 (w:World)(os:OsState):segRunT treeTable PG w 11 (some (.ref 6)) 1 340 (S13 w os) (piecesOf (sts 67 12) env cd ⟨310,0,384,97⟩ [topFrame z])=some (.next,S14 w os,cd,⟨467,0,479,32⟩):=by
 rw [PySem.W.Fast.te10110043849684766642,PySem.W.Fast.te14364793385576792824]
 kernel_rfl
end H
namespace H
theorem pre (w:World)(os:OsState):topGo treeTable PG w 11 (some (.ref 6)) 12 ⟨boot_heap w.params,#[],boot_drawn,boot_toks,os⟩ (topStub PG)=some ((S0 w os).abs,⟨denote treeTable cd,cd,z,[topFrame z]⟩):=by
 rw [PySem.W.Fast.te15667345088766844465,PySem.W.Fast.te14364793385576792824,PySem.W.Fast.te11892475500146522536]
 kernel_rfl
theorem blk (w:World)(os:OsState):segRun treeTable PG w 11 (some (.ref 6)) 1 1 (S0 w os).abs (blockOf (behindTheImports PG) env cd z [topFrame z])=some (.next,(S0 w os).abs,cd,z):=by
 rw [PySem.W.Fast.te14374325043358763698,PySem.W.Fast.te14364793385576792824]
 kernel_rfl
noncomputable def XF (P:Params):List Obj:=X P 14 79 43 3 (s "law_pq1163_01" 967)
noncomputable def H1 (P:Params):Heap:=⟨(XF P).toArray,{}⟩
theorem fin (w:World)(os:OsState):topRun treeTable PG w 11 (some (.ref 6)) 2 (S14 w os).abs ⟨doneF .next,cd,⟨467,0,479,32⟩,[topFrame z]⟩=some ⟨H1 w.params,#[],{},1065,os⟩:=by
 rw [PySem.W.Fast.te14082659384304107361,PySem.W.Fast.te14364793385576792824]
 kernel_rfl
theorem bEq:behindTheImports PG=sts 0 3 ++(sts 3 1 ++(sts 4 1 ++(sts 5 15 ++(sts 20 10 ++(sts 30 10 ++(sts 40 1 ++(sts 41 1 ++(sts 42 12 ++(sts 54 7 ++(sts 61 1 ++(sts 62 4 ++(sts 66 1 ++(sts 67 12 ++ []))))))))))))):=by kernel_rfl
theorem run (w:World)(os:OsState):topRun treeTable PG w 11 (some (.ref 6)) (12+(1+(267+(214+(214+(397+(388+(161+(296+(551+(395+(189+(411+(60+(637+(340+2)))))))))))))))) ⟨boot_heap w.params,#[],boot_drawn,boot_toks,os⟩ (topStub PG)=some ⟨H1 w.params,#[],{},1065,os⟩:=by
 refine go_top (pre w os) (piece_block (blk w os) ?_)
 rw [bEq]
 exact (piece_app (segRun_of (g1 w os)) (piece_app (segRun_of (g2 w os)) (piece_app (segRun_of (g3 w os)) (piece_app (segRun_of (g4 w os)) (piece_app (segRun_of (g5 w os)) (piece_app (segRun_of (g6 w os)) (piece_app (segRun_of (g7 w os)) (piece_app (segRun_of (g8 w os)) (piece_app (segRun_of (g9 w os)) (piece_app (segRun_of (H4 w os)) (piece_app (segRun_of (H5 w os)) (piece_app (segRun_of (H6 w os)) (piece_app (segRun_of (H7 w os)) (piece_app (segRun_of (H8 w os)) (piece_nil (fin w os))))))))))))))))
theorem opn:∀w:World,(fencedOpening treeTable PG w 10000).map (λs=>(s.heap,s.gens,s.drawn,s.toks))=some (boot_heap w.params,#[],boot_drawn,boot_toks):=
 boot_open (by kernel_rfl) (by kernel_rfl) (λs=>by kernel_rfl)
theorem size (w:World):((boot_heap w.params).isNs mainGlobals && (#[]:Array GenState).size == 0,(boot_heap w.params).objs.size,(boot_heap w.params).nsMap mainGlobals "__annotations__")=(true,11,some (.ref 6)):=by
 rw [PySem.W.Fast.te8920871248978507458]
 kernel_rfl
noncomputable def q:Program:=view PG ((List.range 79).filter λi=> ![1,6,10,33,42,49,60,62,67].contains i)
noncomputable def lo:List Str:=["NOBODY","BITS_OF","KNOWN_BITS","ROOM"]
noncomputable def lv:List (Str × WData):=[("NOBODY", .tuple [.tuple [.int 0, .int 0], .int 0, .tuple [.int 0, .int 0], .int 56]),("KNOWN_BITS", .int 15),("ROOM", .int 65536)]
noncomputable def as:List Addr:=[2,3,15,17,18,20,21,22,23,24,25,27,28,29,31,32,34,35,36,37,38,39,40,41,42,43,44,45,47,48,49,50,51,52,53,54,55,56,57,59,60,61,62,63,64,65,66,67,68,69,71,72,73,74,75,76,77,78,81,82,83,85,86,88,89,90,92,93,95,96,97,98,99,100,101,102,103,105,106,107,108,110,111,113,114,115,117,118,120,121,122,123,124,125,126,127,128,129,131,132,134,135,136,138,139,141,142,143,145,146,148,149,150,152,153,155,156,157,158,159,160,162,163,164,165,167,168,170,171,172,174,175,177,178,179,181,182,184,185,186,187,188,189,190,191,192,193,194,195,196,198,199,200,202,203,205,206,207,209,210,212,213,214,216,217,219,220,221,223,224,226,227,228,230,231,233,234,235,237,238,240,241,242,244,245,247,248,249,251,252,254,255,256,258,259,261,262,263,265,266,268,269,270,272,273,275,276,277,278,279,280,281,282,283,284,285,287,288,290,291,292,294,295,297,298,299,301,302,304,305,306,309,310,311,313,314,316,317,318,320,321,323,324,325,327,328,330,331,332,334,335,337,338,339,341,342,344,345,346,348,349,351,352,353,355,356,358,359,360,362,363,365,366,367,369,370,372,373,374,376,377,379,380,381,382,383,384,386,387,388,390,391,393,394,395,398,399,400,403,404,405,407,408,410,411,412,414,415,417,418,419,422,423,424,426,427,429,430,431,432,433,434,435,436,437,438,441,442,443,444,445,446,448,449,450,451,453,454,456,457,458,461,462,463,465,466,468,469,470,472,473,475,476,477,479,480,482,483,484,486,487,489,490,491,493,494,496,497,498,500,501,503,504,505,507,508,510,511,512,515,516,517,519,520,522,523,524,527,528,529,531,532,534,535,536,539,540,541,542,543,544,545,546,547,548,550,551,553,554,555,557,558,560,561,562,564,565,567,568,569,571,572,574,575,576,578,579,581,582,583,586,587,588,591,592,593,596,597,598,600,601,603,604,605,608,609,610,612,613,615,616]
noncomputable def pick:Nat→List Nat→List Obj→Frag
 | k,a::l,x::m=>if a=k then (a,x)::pick (k+1) l m else pick (k+1) (a::l) m
 | _,_,_=>[]
noncomputable def K (P:Params):Frag:=pick 0 as (XF P)
theorem asE:∀P,as=(K P).map (·.1):=λP=>by kernel_rfl
noncomputable abbrev hk:Hook:=kmHook K as asE [606,413]
noncomputable abbrev Xt (s:Shared):Bool:=xlAt q lv s && recOk PySem.Challenge.rw_pq1163_01.row.records s
theorem said:PySem.Challenge.rw_pq1163_01.wellSaid=true:=by
 rw [PySem.W.Fast.te9446332074065402090]
 kernel_rfl
end H
namespace H
noncomputable def psOf:Stmt→Arguments
 | .FunctionDef _ p _ _ _ _ _ _ _ _=>p
 | _=>⟨[],[],none,[],[],none,[]⟩
noncomputable def bdOf:Stmt→List Stmt
 | .FunctionDef _ _ b _ _ _ _ _ _ _=>b
 | _=>[]
noncomputable def scOf:Stmt→Scope
 | .FunctionDef _ _ _ _ _ _ s _ _ _=>s
 | _=>default
noncomputable def poOf:Stmt→Pos
 | .FunctionDef _ _ _ _ _ _ _ _ _ p=>p
 | _=>z
noncomputable abbrev sF (w:World)(os:OsState):Shared:=⟨H1 w.params,#[],{},1065,os⟩
theorem k0 (w:World)(os:OsState):(staticsOk (importedModules PG.main.body) (boot_heap w.params) (H1 w.params) && namesBound PG (H1 w.params) && gensDone (sF w os) && laidKept (boot_heap w.params) (H1 w.params))=true:=by
 rw [PySem.W.Fast.te5923862056798008813]
 kernel_rfl
theorem k1 (w:World)(os:OsState):seen ((recsOf q).map (·.name)) (ownsOf q) [] { sF w os with gens:= #[] }=expectedOf q:=by
 rw [PySem.W.Fast.te5160383126252970620,PySem.W.Fast.te3399658132070893891,PySem.W.Fast.te5991557255702980513]
 kernel_rfl
theorem k2 (w:World)(os:OsState):(sF w os).heap.bltView=bltViewBooted:=by kernel_rfl
theorem k3 (w:World)(os:OsState):((sF w os).heap.keysOk (looseW q lo) ((recsOf q).map (·.name)) ((litsOf q).map (·.1)) ((clssOf q (looseW q lo)).map (·.name)) && (sF w os).heap.accountedOkI (importedModules PG.main.body) && (sF w os).heap.isNs mainGlobals && (sF w os).heap.isNs builtinsNs && tablesOk q (sF w os).heap && Xt (sF w os) && (if true then (sF w os).gens.size == 0 else !leftWithCleanup (sF w os).gens))=true:=by
 rw [PySem.W.Fast.te10880121769531294198,PySem.W.Fast.te821141287760084731,PySem.W.Fast.te3399658132070893891,PySem.W.Fast.te7409074990110511671,PySem.W.Fast.te13664370479719496447,PySem.W.Fast.te14722251495701143533,PySem.W.Fast.te5923862056798008813,PySem.W.Fast.te10994771534591457954]
 kernel_rfl
theorem k4 (w:World)(os:OsState):tabsOk q (sF w os)=true:=by
 rw [PySem.W.Fast.te479339242167458305]
 kernel_rfl
theorem k5 (w:World)(os:OsState):pinSeenD q (drecsOf q) (sF w os)=pinGoodD (drecsOf q):=by
 rw [PySem.W.Fast.te16090120013241838585,PySem.W.Fast.te3247288618530077131]
 kernel_rfl
theorem k6 (w:World)(os:OsState):plainSeenE q (looseW q lo) (sF w os)=plainGoodE q (looseW q lo):=by
 rw [PySem.W.Fast.te2386780881361962483,PySem.W.Fast.te821141287760084731]
 kernel_rfl
theorem k7 (w:World)(os:OsState):plainSeenD q lo (sF w os)=plainGoodD q lo:=by
 rw [PySem.W.Fast.te11698064438423848299]
 kernel_rfl
theorem k8 (w:World)(os:OsState):wideSeen q (sF w os)=wideGood q:=by
 rw [PySem.W.Fast.te7317090234206586261]
 kernel_rfl
theorem k9 (w:World)(os:OsState):clsSeenW q lo (sF w os)=clsGoodW q lo:=by
 rw [PySem.W.Fast.te7369524293546568484]
 kernel_rfl
theorem kh (w:World)(os:OsState):hk.obs (sF w os)=hk.val w:=by kernel_rfl
theorem pr {α β:Type}{a a':α}{b b':β}(h:a=a')(k:b=b'):(a,b)=(a',b'):=by rw [h,k]
theorem kk (w:World)(os:OsState):openSeen q lo (importedModules PG.main.body) Xt true (sF w os)=openGood q lo:=by
 unfold openSeen openGood
 refine pr ?_ (pr ?_ (pr ?_ (pr ?_ (pr ?_ (pr ?_ (pr ?_ (pr ?_ ?_)))))))
 ·exact k1 w os
 ·exact k2 w os
 ·exact k3 w os
 ·exact k4 w os
 ·exact k5 w os
 ·exact k6 w os
 ·exact k7 w os
 ·exact k8 w os
 ·exact k9 w os
theorem looks (w:World):(λos=>((staticsOk (importedModules PG.main.body) (boot_heap w.params) (H1 w.params) && namesBound PG (H1 w.params) && gensDone ⟨H1 w.params,#[],{},1065,os⟩ && laidKept (boot_heap w.params) (H1 w.params)),openSeen q lo (importedModules PG.main.body) Xt true ⟨H1 w.params,#[],{},1065,os⟩,hk.obs ⟨H1 w.params,#[],{},1065,os⟩))=λ_=>(true,openGood q lo,hk.val w):=
 funext λos=>pr (k0 w os) (pr (kk w os) (kh w os))
theorem left:LeftO PG q lo Xt hk.obs hk.val 10000 true:=LeftO.of_pieces opn size run (by kernel_rfl) looks
noncomputable abbrev lawD:DefRec:=⟨"law",psOf (d 78),bdOf (d 78),scOf (d 78),poOf (d 78)⟩
theorem hd (walk:WalkO q lo (XL q lv) hk.says PySem.Challenge.rw_pq1163_01.row.toRowW lawD [] λf vs=>PySem.call f vs):PySem.Challenge.rw_pq1163_01.Holds:=
 holds_law said λs=>holds_open (q:=q) (loose:=lo) (Xt:=Xt) (XP:=XL q lv) (Yf:=hk.obs) (Ya:=hk.val) (YP:=hk.says) (d:=lawD) (kwd:=[]) (N:=10000) left hk.of hk.keeps (λs e=>xl_of s (eH e).1) XL.keeps (by kernel_rfl) (by kernel_rfl) (by kernel_rfl) (λs e=>recFacts_of (eH e).2) (by kernel_rfl) s (by kernel_rfl) ⟨rfl,rfl,rfl,rfl,rfl,by decide +kernel⟩
  ⟨[.list []],by decide +kernel,by decide +kernel⟩ walk
end H
noncomputable abbrev fO (fd:FuncData):Obj:={ cls:= .type "function",data:= .func fd }
noncomputable def H.fd (st:Stmt)(ql:Str)(df pm cd:Value):FuncData:={ name:=H.nmOf st,qualname:=ql,params:=H.psOf st,body:= .stmts (H.bdOf st),scope:=H.scOf st,globals:=3,closure:=[],defaults:=df,kwdefaults:= .none,pyModule:=pm,code:=cd }
noncomputable abbrev Wa:List Stmt:=H.bdOf (H.m 2 0)
abbrev GR:FuncData:=H.fd (H.m 2 0) "SwitchError.__init__" .none (.str "switchloom.errors" 194) (.ref 34)
noncomputable abbrev GS:List Stmt:=H.bdOf (H.d 7)
abbrev Wb:FuncData:=H.fd (H.d 7) "put_number" .none (.str "switchloom.octets" 273) (.ref 81)
noncomputable abbrev Wc:List Stmt:=H.bdOf (H.d 8)
abbrev Wd:FuncData:=H.fd (H.d 8) "put16" .none (.str "switchloom.octets" 273) (.ref 88)
noncomputable abbrev We:List Stmt:=H.bdOf (H.d 9)
abbrev Wf:FuncData:=H.fd (H.d 9) "put48" .none (.str "switchloom.octets" 273) (.ref 95)
noncomputable abbrev EV:List Stmt:=H.bdOf (H.m 28 0)
abbrev EW:FuncData:=H.fd (H.m 28 0) "Lacpdu.__init__" (.ref 107) (.str "switchloom.lacpdus" 295) (.ref 113)
noncomputable abbrev EX:List Stmt:=H.bdOf (H.d 29)
abbrev Ub:FuncData:=H.fd (H.d 29) "has_bit" .none (.str "switchloom.lacpdus" 295) (.ref 134)
noncomputable abbrev EY:List Stmt:=H.bdOf (H.d 30)
abbrev Uc:FuncData:=H.fd (H.d 30) "with_bit" .none (.str "switchloom.lacpdus" 295) (.ref 141)
noncomputable abbrev Ud:List Stmt:=H.bdOf (H.d 31)
abbrev Ue:FuncData:=H.fd (H.d 31) "packed_info" .none (.str "switchloom.lacpdus" 295) (.ref 148)
noncomputable abbrev rX:List Stmt:=H.bdOf (H.d 32)
abbrev EZ:FuncData:=H.fd (H.d 32) "pack_lacpdu" .none (.str "switchloom.lacpdus" 295) (.ref 155)
noncomputable abbrev E0:List Stmt:=H.bdOf (H.m 40 0)
abbrev xq:FuncData:=H.fd (H.m 40 0) "LacpRow.__init__" (.ref 164) (.str "switchloom.lacp_port" 417) (.ref 170)
noncomputable abbrev E4:List Stmt:=H.bdOf (H.m 40 1)
abbrev Uf:FuncData:=H.fd (H.m 40 1) "LacpRow.port_id" .none (.str "switchloom.lacp_port" 417) (.ref 177)
noncomputable abbrev E7:List Stmt:=H.bdOf (H.m 40 2)
abbrev Ug:FuncData:=H.fd (H.m 40 2) "LacpRow.bits" .none (.str "switchloom.lacp_port" 417) (.ref 184)
noncomputable abbrev E8:List Stmt:=H.bdOf (H.m 41 0)
abbrev Uh:FuncData:=H.fd (H.m 41 0) "LacpPort.__init__" .none (.str "switchloom.lacp_port" 417) (.ref 205)
noncomputable abbrev E9:List Stmt:=H.bdOf (H.m 41 1)
abbrev Ui:FuncData:=H.fd (H.m 41 1) "LacpPort.is_up" .none (.str "switchloom.lacp_port" 417) (.ref 212)
noncomputable abbrev Fa:List Stmt:=H.bdOf (H.m 41 2)
abbrev Uj:FuncData:=H.fd (H.m 41 2) "LacpPort.own" .none (.str "switchloom.lacp_port" 417) (.ref 219)
noncomputable abbrev Fb:List Stmt:=H.bdOf (H.m 41 3)
abbrev Uk:FuncData:=H.fd (H.m 41 3) "LacpPort.others" .none (.str "switchloom.lacp_port" 417) (.ref 226)
noncomputable abbrev Fc:List Stmt:=H.bdOf (H.m 41 4)
abbrev Ul:FuncData:=H.fd (H.m 41 4) "LacpPort.set_own" .none (.str "switchloom.lacp_port" 417) (.ref 233)
noncomputable abbrev Fd:List Stmt:=H.bdOf (H.m 41 5)
abbrev Um:FuncData:=H.fd (H.m 41 5) "LacpPort.is_lone" .none (.str "switchloom.lacp_port" 417) (.ref 240)
noncomputable abbrev Fe:List Stmt:=H.bdOf (H.m 41 6)
abbrev Un:FuncData:=H.fd (H.m 41 6) "LacpPort.group" .none (.str "switchloom.lacp_port" 417) (.ref 247)
noncomputable abbrev Ff:List Stmt:=H.bdOf (H.m 41 7)
abbrev Uo:FuncData:=H.fd (H.m 41 7) "LacpPort.talks" .none (.str "switchloom.lacp_port" 417) (.ref 254)
noncomputable abbrev Fg:List Stmt:=H.bdOf (H.m 41 8)
abbrev Uq:FuncData:=H.fd (H.m 41 8) "LacpPort.turn" .none (.str "switchloom.lacp_port" 417) (.ref 261)
noncomputable abbrev Fh:List Stmt:=H.bdOf (H.m 41 9)
abbrev Ur:FuncData:=H.fd (H.m 41 9) "LacpPort.heard_wait" .none (.str "switchloom.lacp_port" 417) (.ref 268)
noncomputable abbrev Fi:List Stmt:=H.bdOf (H.d 44)
abbrev Us:FuncData:=H.fd (H.d 44) "move_mux" .none (.str "switchloom.lacp_mux" 601) (.ref 290)
noncomputable abbrev Fj:List Stmt:=H.bdOf (H.d 45)
abbrev Ut:FuncData:=H.fd (H.d 45) "next_mux" .none (.str "switchloom.lacp_mux" 601) (.ref 297)
noncomputable abbrev Fk:List Stmt:=H.bdOf (H.d 46)
abbrev Uu:FuncData:=H.fd (H.d 46) "step_mux" .none (.str "switchloom.lacp_mux" 601) (.ref 304)
noncomputable abbrev Fm:List Stmt:=H.bdOf (H.d 47)
abbrev Uv:FuncData:=H.fd (H.d 47) "have_waited" .none (.str "switchloom.lacp_mux" 601) (.ref 309)
noncomputable abbrev Fo:List Stmt:=H.bdOf (H.d 48)
abbrev Uw:FuncData:=H.fd (H.d 48) "wait_second" .none (.str "switchloom.lacp_mux" 601) (.ref 316)
noncomputable abbrev Fp:List Stmt:=H.bdOf (H.d 51)
abbrev Ux:FuncData:=H.fd (H.d 51) "begin_link" .none (.str "switchloom.lacp_receive" 660) (.ref 323)
noncomputable abbrev Fq:List Stmt:=H.bdOf (H.d 52)
abbrev Uy:FuncData:=H.fd (H.d 52) "end_link" .none (.str "switchloom.lacp_receive" 660) (.ref 330)
noncomputable abbrev Fs:List Stmt:=H.bdOf (H.d 53)
abbrev Uz:FuncData:=H.fd (H.d 53) "fall_silent" .none (.str "switchloom.lacp_receive" 660) (.ref 337)
noncomputable abbrev Ft:List Stmt:=H.bdOf (H.d 54)
abbrev UA:FuncData:=H.fd (H.d 54) "is_same_end" .none (.str "switchloom.lacp_receive" 660) (.ref 344)
noncomputable abbrev Fu:List Stmt:=H.bdOf (H.d 55)
abbrev UB:FuncData:=H.fd (H.d 55) "knows_us" .none (.str "switchloom.lacp_receive" 660) (.ref 351)
noncomputable abbrev Fv:List Stmt:=H.bdOf (H.d 56)
abbrev UC:FuncData:=H.fd (H.d 56) "is_in_step" .none (.str "switchloom.lacp_receive" 660) (.ref 358)
noncomputable abbrev Fw:List Stmt:=H.bdOf (H.d 57)
abbrev UD:FuncData:=H.fd (H.d 57) "hear" .none (.str "switchloom.lacp_receive" 660) (.ref 365)
noncomputable abbrev Fx:List Stmt:=H.bdOf (H.d 58)
abbrev UE:FuncData:=H.fd (H.d 58) "pass_second" .none (.str "switchloom.lacp_receive" 660) (.ref 372)
noncomputable abbrev Fy:List Stmt:=H.bdOf (H.d 59)
abbrev UF:FuncData:=H.fd (H.d 59) "message_of" .none (.str "switchloom.lacp_receive" 660) (.ref 379)
noncomputable abbrev Fz:List Stmt:=H.bdOf (H.m 61 0)
abbrev UG:FuncData:=H.fd (H.m 61 0) "Chooser.__init__" .none (.str "switchloom.lacp_select" 734) (.ref 393)
noncomputable abbrev FA:List Stmt:=H.bdOf (H.m 61 1)
abbrev UH:FuncData:=H.fd (H.m 61 1) "Chooser.number_of" .none (.str "switchloom.lacp_select" 734) (.ref 398)
noncomputable abbrev FC:List Stmt:=H.bdOf (H.m 61 2)
abbrev UI:FuncData:=H.fd (H.m 61 2) "Chooser.drop_empty" .none (.str "switchloom.lacp_select" 734) (.ref 403)
noncomputable abbrev FD:List Stmt:=H.bdOf (H.m 61 3)
abbrev UJ:FuncData:=H.fd (H.m 61 3) "Chooser.rank" .none (.str "switchloom.lacp_select" 734) (.ref 410)
noncomputable abbrev FE:List Stmt:=H.bdOf (H.m 61 4)
abbrev UK:FuncData:=H.fd (H.m 61 4) "Chooser.worked" .none (.str "switchloom.lacp_select" 734) (.ref 417)
noncomputable abbrev FF:List Stmt:=H.bdOf (H.m 61 5)
abbrev UL:FuncData:=H.fd (H.m 61 5) "Chooser.choose" .none (.str "switchloom.lacp_select" 734) (.ref 422)
noncomputable abbrev FG:List Stmt:=H.bdOf (H.m 61 6)
abbrev UM:FuncData:=H.fd (H.m 61 6) "Chooser.settle" .none (.str "switchloom.lacp_select" 734) (.ref 429)
noncomputable abbrev rY:List Stmt:=H.bdOf (H.d 65)
abbrev FH:FuncData:=H.fd (H.d 65) "check_room" .none (.str "switchloom.lacp" 815) (.ref 441)
noncomputable abbrev nv:List Stmt:=H.bdOf (H.m 66 0)
abbrev pD:FuncData:=H.fd (H.m 66 0) "Bundles.__init__" (.ref 450) (.str "switchloom.lacp" 815) (.ref 456)
noncomputable abbrev FJ:List Stmt:=H.bdOf (H.m 66 1)
abbrev UN:FuncData:=H.fd (H.m 66 1) "Bundles.all_ports" .none (.str "switchloom.lacp" 815) (.ref 461)
noncomputable abbrev rZ:List Stmt:=H.bdOf (H.m 66 2)
abbrev FK:FuncData:=H.fd (H.m 66 2) "Bundles.port" .none (.str "switchloom.lacp" 815) (.ref 468)
noncomputable abbrev FL:List Stmt:=H.bdOf (H.m 66 3)
abbrev UO:FuncData:=H.fd (H.m 66 3) "Bundles.rest" .none (.str "switchloom.lacp" 815) (.ref 475)
noncomputable abbrev sd:List Stmt:=H.bdOf (H.m 66 4)
abbrev FM:FuncData:=H.fd (H.m 66 4) "Bundles.link_up" .none (.str "switchloom.lacp" 815) (.ref 482)
noncomputable abbrev FN:List Stmt:=H.bdOf (H.m 66 5)
abbrev UP:FuncData:=H.fd (H.m 66 5) "Bundles.link_down" .none (.str "switchloom.lacp" 815) (.ref 489)
noncomputable abbrev FO:List Stmt:=H.bdOf (H.m 66 6)
abbrev UQ:FuncData:=H.fd (H.m 66 6) "Bundles.receive" .none (.str "switchloom.lacp" 815) (.ref 496)
noncomputable abbrev FP:List Stmt:=H.bdOf (H.m 66 7)
abbrev UR:FuncData:=H.fd (H.m 66 7) "Bundles.second" .none (.str "switchloom.lacp" 815) (.ref 503)
noncomputable abbrev FQ:List Stmt:=H.bdOf (H.m 66 8)
abbrev US:FuncData:=H.fd (H.m 66 8) "Bundles.take_sent" .none (.str "switchloom.lacp" 815) (.ref 510)
noncomputable abbrev FS:List Stmt:=H.bdOf (H.m 66 9)
abbrev UT:FuncData:=H.fd (H.m 66 9) "Bundles.members" .none (.str "switchloom.lacp" 815) (.ref 515)
noncomputable abbrev FT:List Stmt:=H.bdOf (H.m 66 11)
abbrev UU:FuncData:=H.fd (H.m 66 11) "Bundles.has_partner" .none (.str "switchloom.lacp" 815) (.ref 527)
noncomputable abbrev FU:List Stmt:=H.bdOf (H.m 66 12)
abbrev UV:FuncData:=H.fd (H.m 66 12) "Bundles.bundle_of" .none (.str "switchloom.lacp" 815) (.ref 534)
noncomputable abbrev FV:List Stmt:=H.bdOf (H.d 68)
abbrev UW:FuncData:=H.fd (H.d 68) "_law_pool" .none (.str "law_pq1163_01" 967) (.ref 553)
noncomputable abbrev FW:List Stmt:=H.bdOf (H.d 69)
abbrev UX:FuncData:=H.fd (H.d 69) "_law_take" .none (.str "law_pq1163_01" 967) (.ref 560)
noncomputable abbrev FX:List Stmt:=H.bdOf (H.d 70)
abbrev UY:FuncData:=H.fd (H.d 70) "_law_one" .none (.str "law_pq1163_01" 967) (.ref 567)
noncomputable abbrev FY:List Stmt:=H.bdOf (H.d 71)
abbrev UZ:FuncData:=H.fd (H.d 71) "_law_pass" .none (.str "law_pq1163_01" 967) (.ref 574)
noncomputable abbrev FZ:List Stmt:=H.bdOf (H.d 72)
abbrev U0:FuncData:=H.fd (H.d 72) "_law_joined" .none (.str "law_pq1163_01" 967) (.ref 581)
noncomputable abbrev F0:List Stmt:=H.bdOf (H.d 73)
abbrev U1:FuncData:=H.fd (H.d 73) "_law_alone" .none (.str "law_pq1163_01" 967) (.ref 586)
noncomputable abbrev F3:List Stmt:=H.bdOf (H.d 74)
abbrev U2:FuncData:=H.fd (H.d 74) "_law_own_right" .none (.str "law_pq1163_01" 967) (.ref 591)
noncomputable abbrev F4:List Stmt:=H.bdOf (H.d 75)
abbrev U3:FuncData:=H.fd (H.d 75) "_law_partners_right" .none (.str "law_pq1163_01" 967) (.ref 596)
noncomputable abbrev F5:List Stmt:=H.bdOf (H.d 76)
abbrev F6:FuncData:=H.fd (H.d 76) "_law_heard" .none (.str "law_pq1163_01" 967) (.ref 603)
noncomputable abbrev bo_609:List Stmt:=H.bdOf (H.d 77)
abbrev U4:FuncData:=H.fd (H.d 77) "_law_refusals_right" .none (.str "law_pq1163_01" 967) (.ref 608)
noncomputable abbrev F7:List Stmt:=H.bdOf (H.d 78)
noncomputable def kR (a b:eh):eh:=λU V=>(a U V).bind λp=>bif p.1 then b U p.2 else some (false,p.2)
theorem Ng:ms G mu Γ .And [] (kQ true):=λU V A s env R J Q c k=>wpAny_allTrue_And_nil (k.get s R J (Go.of_kp (Kp.refl s)) c)
theorem D1 (ha:MY G mu Γ e a)(hb:ms G mu Γ .And es b):ms G mu Γ .And (e::es) (kR a b):=λU V A s env R J Q c k=>
 wpAny_allTrue_And_cons (ha.run c (k.bind.imp λp k s1 R1 J1 g1 c1=>k.cond (λh k=>oj h (hb _ _ A s1 env R1 J1 _ c1 (k.imp λ_ k=>k.after g1))) λh k=>ml h (h▸k.get s1 R1 J1 g1 c1)))
noncomputable def fieldsT:List Str:=["number","priority","key","is_active","is_short","may_join","row","actor","partner","heard","heard_left","choice","mux","bundle","join_left","turn_left","must_send","sent_many","most_delay","system","most","numbers","ports","chooser"]
def kZ (i:Nat):Str:=match fieldsT[i]? with
 | some x=>x
 | none=>⟨(List.replicate (i+40) 122).toArray⟩
theorem Sg (i j:Nat)(h:kZ i=kZ j):i=j:=by
 have hs:∀(k:Nat) (x:Str),fieldsT[k]? =some x→x.cps.size< 40:=by
  intro k x hx
  have:=d7 hx
  have ha:∀y∈fieldsT,y.cps.size< 40:=by decide +kernel
  exact ha x this
 have hn:fieldsT.Nodup:=by decide +kernel
 unfold kZ at h
 cases hi:fieldsT[i]? with
 | some x=>
  cases hj:fieldsT[j]? with
  | some y=>
   rw [hi,hj] at h
   simp only at h
   subst h
   have hlt:i< fieldsT.length:=(List.getElem?_eq_some_iff.mp hi).1
   exact (List.getElem?_inj hlt hn).mp (hi.trans hj.symm)
  | none=>
   rw [hi,hj] at h
   simp only at h
   have:=hs i x hi
   rw [h] at this
   simp at this
   omega
 | none=>
  cases hj:fieldsT[j]? with
  | some y=>
   rw [hi,hj] at h
   simp only at h
   have:=hs j y hj
   rw [← h] at this
   simp at this
   omega
  | none=>
   rw [hi,hj] at h
   simp only [Str.mk.injEq] at h
   have:=congrArg Array.size h
   simpa using this
structure IsG (G:Gd):Prop where
 lam:∀Γ:FI,Γ.code= .ref 417→Γ.qual="Chooser.worked.<locals>."→LamF G Γ 413 417 ⟨279,33,279,80⟩
 lam2:∀(Γ:FI) (pos:Pos),Γ.code= .ref 608→Γ.qual="_law_refusals_right.<locals>."→LamF G Γ 606 608 pos
 tbd:∀h,G.Tabs h→∀a∈G.TB,∃ps,h.get? a=some (tabObj ps)∧∀q t,ps[1]? ≠some (.str q t)
 K:G.K=H.K G.w.params
 nm:G.nm=kZ
 bv:∀p∈([("len", .builtin "len"),("min", .builtin "min"),("max", .builtin "max"),("sorted", .builtin "sorted"),("int", .type "int"),("range", .type "range"),("set", .type "set"),("list", .type "list"),("Exception", .type "Exception"),("str", .type "str"),("bytes", .type "bytes")]:List (Str × Value)),ev G p.1 p.2
noncomputable abbrev eU (x y:Str)(px cR py py2:Pos)(it1:Expr)(scope:Scope)(pos:Pos):Expr:= .ListComp (.Name y py2) [⟨.Name x px,it1,[],0⟩,⟨.Name y py, .Name x cR,[],0⟩] scope pos
theorem NZ (x y:Str)(px cR py py2:Pos)(it1:Expr)(scope:Scope)(pos:Pos)(it acc:Value)(env:Env):
  compTurn (eU x y px cR py py2 it1 scope pos) 0 it acc env=(standAt it1.pos >>= λ_=>pyNext it >>= λr=>match r with
   | none=>pure (.done .next)
   | some v=>letOwnedTupleGo (.Name x px) it v >>= λ_=>assign (.Name x px) env v >>= λ_=>eval (.Name x cR) env >>= λxv=>standAt cR >>= λ_=>foldedSetIterable (.Name x cR) env xv >>= λxv=>holding [xv] (pyIter xv) >>= λi2=>
     runOwn (.compStart (eU x y px cR py py2 it1 scope pos) 1 i2 acc env) env >>= λ_=>again (.compLoop (eU x y px cR py py2 it1 scope pos) 0 it acc env)):=rfl
theorem N0 (x y:Str)(px cR py py2:Pos)(it1:Expr)(scope:Scope)(pos:Pos)(it acc:Value)(env:Env):
  compTurn (eU x y px cR py py2 it1 scope pos) 1 it acc env=(standAt cR >>= λ_=>pyNext it >>= λr=>match r with
   | none=>pure (.done .next)
   | some v=>letOwnedTupleGo (.Name y py) it v >>= λ_=>assign (.Name y py) env v >>= λ_=>(eval (.Name y py2) env >>= λz=>call (.builtin "list.append") [acc,z] >>= λ_=>pure ()) >>= λ_=>again (.compLoop (eU x y px cR py py2 it1 scope pos) 1 it acc env)):=rfl
theorem Nh {px cR py py2:Pos}
  (h0:codeAny (model prog w) A (.compLoop (eU x y px cR py py2 it1 scope pos) 1 it acc env) R s)
  (h:wpAny (model prog w) A (pyIter it) (λit' s'=>codeAny (model prog w) A (.compLoop (eU x y px cR py py2 it1 scope pos) 1 it' acc env) R s')
   (notedBy (model prog w) A env λx s'=>R (.error x) s') s):
  codeAny (model prog w) A (.compStart (eU x y px cR py py2 it1 scope pos) 1 it acc env) R s:=by
 refine codeAny_of_tree ?_
 show wpAny _ _ ((compStart (eU x y px cR py py2 it1 scope pos) 1 it acc env).onRaise (λx=>do noteFrame x env;standAt theWindowsPlace)) _ _ s
 refine wpAny_notedAt ?_
 unfold compStart
 show wpAny _ _ (ask >>= _) _ _ s
 refine am (wpAny_askSetting (wpAny_ite ?_))
 split
 ·first
   | exact am (aC (aC (And.intro rfl h0)))
   | exact aC (And.intro rfl h0)
 ·first
   | exact am (wpAny_rule (am (wpAny_standAt (am (bN h (λit' s' h'=>aC (And.intro rfl h')) λ_ _ x=>x)))))
   | (refine am (wpAny_rule ?_);show wpAny _ _ (standAt cR >>= _) _ _ s;exact am (wpAny_standAt (am (bN h (λit' s' h'=>aC (And.intro rfl h')) λ_ _ x=>x))))
theorem N4 {px cR py py2:Pos}(I:Nat→Shared→Prop)
  (turn:∀n s,I n s→wpAny (model prog w) A (pyNext it) (λr s₁=>match r with
   | none=>R (.ok .next) s₁
   | some v=>wpAny (model prog w) A (assign (.Name y py) env v) (λ_ s₂=>wpAny (model prog w) A (eval (.Name y py2) env) (λz s₃=>
     wpAny (model prog w) A (call (.builtin "list.append") [acc,z]) (λ_ s₄=> ∃m,m< n∧I m s₄) aI s₃) aI s₂) aI s₁) aI s)
  (n:Nat)(h:I n s):codeAny (model prog w) A (.compLoop (eU x y px cR py py2 it1 scope pos) 1 it acc env) R s:=by
 refine codeAny_loop rfl I (λn s hI=> ?_) n h
 show wpAny _ A ((compTurn (eU x y px cR py py2 it1 scope pos) 1 it acc env).onRaise (λx=>do noteFrame x env;theTreesLotGoes x)) _ _ s
 refine wpAny_noted ?_
 rw [N0]
 refine am (wpAny_standAt (am (bN (turn n s hI) (λr s₁ h₁=> ?_) λ_ _ h'=>h'.elim)))
 cases r with
 | none=>exact aC h₁
 | some v=>
  refine am (wpAny_of_eq rfl ?_)
  exact am (bN h₁ (λ_ s₂ h₂=>am (am (bN h₂ (λz s₃ h₃=>am (bN h₃ (λ_ s₄ h₄=>aC (aC ⟨rfl,h₄⟩)) λ_ _ h'=>h'.elim)) λ_ _ h'=>h'.elim))) λ_ _ h'=>h'.elim)
theorem N5 {px cR py py2:Pos}{s:Shared}(I:Nat→Shared→Prop)
  (turn:∀n s,I n s→wpAny (model prog w) A (pyNext it) (λr s₁=>match r with
   | none=>R (.ok .next) s₁
   | some v=>wpAny (model prog w) A (assign (.Name x px) env v) (λ_ s₂=>wpAny (model prog w) A (eval (.Name x cR) env) (λxv s₃=>
     wpAny (model prog w) A (pyIter xv) (λi2 s₄=>codeAny (model prog w) A (.compStart (eU x y px cR py py2 it1 scope pos) 1 i2 acc env) (λr s'=>match r with | .ok _=> ∃m,m< n∧I m s' | .error _=>False) s₄) aI s₃) aI s₂) aI s₁) aI s)
  (n:Nat)(h:I n s):codeAny (model prog w) A (.compLoop (eU x y px cR py py2 it1 scope pos) 0 it acc env) R s:=by
 refine codeAny_loop rfl I (λn s hI=> ?_) n h
 show wpAny _ A ((compTurn (eU x y px cR py py2 it1 scope pos) 0 it acc env).onRaise (λx=>do noteFrame x env;theTreesLotGoes x)) _ _ s
 refine wpAny_noted ?_
 rw [NZ]
 refine am (wpAny_standAt (am (bN (turn n s hI) (λr s₁ h₁=> ?_) λ_ _ h'=>h'.elim)))
 cases r with
 | none=>exact aC h₁
 | some v=>
  refine am (wpAny_of_eq rfl ?_)
  refine am (bN h₁ (λ_ s₂ h₂=> ?_) λ_ _ h'=>h'.elim)
  refine am (bN h₂ (λxv s₃ h₃=> ?_) λ_ _ h'=>h'.elim)
  refine am (wpAny_standAt (am (wpAny_of_eq rfl ?_)))
  refine am (wpAny_holding (bN h₃ (λi2 s₄ h₄=> ?_) λ_ _ h'=>h'.elim))
  refine am (wpAny_runOwn (codeAny_mono h₄ λr s' hr=> ?_))
  cases r with
  | ok f=>exact aC ⟨rfl,hr⟩
  | error e=>exact hr.elim
theorem Qv (c:Cx G Γ A s env R J [none] V):Cx G { Γ with slots:=sl } A s env R J [none,none] V:=by
 obtain ⟨m,F⟩:=c.F
 refine ⟨c.A,c.S,m,F.kind,F.glob,F.bt,F.nms,F.fr,F.faR,F.faNd,F.faR',λi z v _ h _=> ?_,λi z v _ h _=> ?_,F.celAll⟩
 all_goals (match i,h with | 0,h=>cases h | 1,h=>cases h | (i+2),h=>simp at h)
theorem Pr {α:Type}{l acc:List α}{x:α}(h:l[i]? =some x):(acc ++l.take i) ++ [x]=acc ++l.take (i+1):=
 (List.append_assoc _ _ _).trans (congrArg (acc ++ ·) (List.take_add_one.trans (congrArg (λ(o:Option α)=>l.take i ++o.toList) h)).symm)
theorem N6 {px cR py py2:Pos}{St:Nat→Heap→Prop}
  (sl:Slot1 Γc 1 y)(yl:Γc.names.lookup y=some .local)(hyd:(y == ("__debug__":Str))=false)(B:LpB G A s1 env R J l fz I D fp P St)(L:LpA G Γc A s1 env R J V I D St 0 [o0,o1] acc s)(hsz:acc.length+l.length≤10000)
  (hpost:∀o s',LpE G Γc A s1 env R J V I D [o0,o] (acc ++l) s'→Rp (.ok .next) s'):
  codeAny (model G.prog G.w) A (.compLoop (eU x y px cR py py2 it1 scope pos) 1 (.ref I) (.ref D) env) Rp s:=
 N4 (λk s5=> ∃i o,i+k=l.length∧LpA G Γc A s1 env R J V I D St i [o0,o] (acc ++l.take i) s5)
  (pU (λs5 inv=>cU inv λi o hk L=>L.done B hk λs6 E=>hpost o s6 ((List.take_of_length_le (Nat.le_of_eq hk.symm):l.take i=l)▸E))
   λk s5 inv=>cU inv λi o hk L=>have hlt:i< l.length:=hk▸Nat.lt_add_of_pos_right (Nat.succ_pos k)
    L.item B hlt λv z s6 hz hv L6=>L6.asg B sl yl hv λs7 L7=>af sl.at_ (.inl yl) hyd [o0,some z] V z rfl A s7 env R J _ L7.c λr s8 k8 r8=>
     (L7.kp B k8).app B r8 (ba (Nat.le_of_eq List.length_append) (ba (Nat.add_le_add_left (List.length_take_le' i l) _) hsz)) λ_ s9 L9=>⟨k,Nat.lt_succ_self k,i+1,some z,(Nat.succ_add i k).trans hk,Pr hz▸L9⟩) l.length
  ⟨0,o1,Nat.zero_add _,(List.append_nil acc).symm▸L⟩
def jv:List AV→Option (List AV)
 | []=>some []
 | x::r=>(kv x).bind λl=>(jv r).map λq=>l ++q
theorem Ni (h:jv (z::r)=some q):∃l q',z= .tup l∧jv r=some q'∧l ++q'=q:=
 aw h λl e h=>cr h λq' h1 h2=>⟨l,q',lD e,h1,h2⟩
def pO (a:a7):a7:=λU V=>(a U V).bind λv=>(jy v).bind λl=>if l.length≤100 then (jv l).bind λq=>if q.length≤1000 then some (.lst q) else none else none
theorem Qw (q:pO a U V=some v):∃l ys,a U V=some (.lst l)∧jv l=some ys∧ys.length≤1000∧ .lst ys=v:=
 aw q λu e1 q=>aw q λl e2 q=>if h:l.length≤100 then aw ((if_pos h).symm.trans q) λys e3 q=>if h2:ys.length≤1000 then ⟨l,ys,mP e2▸e1,e3,h2,aD ((if_pos h2).symm.trans q)⟩ else au ((if_neg h2).symm.trans q) else au ((if_neg h).symm.trans q)
theorem N7 (h:I∉R):dV (I::R) [I]=R:=by
 unfold dV
 rw [List.filter_cons_of_neg (by simp)]
 exact List.filter_eq_self.mpr λa m=>decide_eq_true λz=>h (aH z▸m)
theorem GT (hxy:x≠y)(k:Γ.names.lookup x=some .local):Slot1 { Γ with slots:=[x,y] } 0 x:=⟨rfl,λj hj=>match j,hj with
 | 0,_=>rfl
 | 1,hj=>absurd (aD hj).symm hxy, .inl k⟩
theorem Wg (hxy:x≠y)(k:Γ.names.lookup y=some .local):Slot1 { Γ with slots:=[x,y] } 1 y:=⟨rfl,λj hj=>match j,hj with
 | 0,hj=>absurd (aD hj) hxy
 | 1,_=>rfl, .inl k⟩
theorem LpA.in2 {items l:List AV}{St St3:Nat→Heap→Prop}(B:LpB G A s1 env R J items fz I D fp P St)(L:LpA G Γc A s1 env R J V I D St i U acc s8)
  (fr:s8.heap.get? I3=none)(k:Kp s8 s9)(c:Cx G Γc A s9 env (I3::R) J U V)(it:ItSt G A (I3::R) J s9.heap l true I3 fp3 P3 St3):
  LpB G A s9 env (I3::R) J l true I3 D fp3 P3 St3∧LpA G Γc A s9 env (I3::R) J V I3 D St3 0 U acc s9:=
 have hI:=L.c.S.fresh fr
 have hD:D≠I3:=λz=>hI (z▸B.dR)
 have hC:env.locals≠I3:=λz=>hI (z▸B.lR)
 ⟨⟨it,L.c.fresh fr, .tail _ B.dR,B.dJ,B.dT,B.dfa,hD,λb m=>(it.frz rfl b m).elim (λz=>z▸⟨hD.symm,hC.symm⟩) λq=>⟨λz=>q (z▸ .tail _ B.dR),λz=>q (z▸ .tail _ B.lR)⟩, .tail _ B.lR⟩,
  ⟨_,_,rfl⟩,KB.refl _ _,c,it.st,L.l.imp λ_ q=>q.imp λ_ q=>⟨k.kb.get q.1,VRels.mono (λa o ha ho=>⟨λm=>(aU m).elim (λz=>bL fr (z▸ho)) ha,k.kb.get ho⟩) (λ_ _ x=>x) _ _ q.2⟩⟩
theorem LpE.out2 {St:Nat→Heap→Prop}(B:LpB G A s1 env R J items fz I D fp P St)(L:LpA G Γc A s1 env R J V I D St i U acc s8)
  (fr:s8.heap.get? I3=none)(k:Kp s8 s9)(E:LpE G Γc A s9 env (I3::R) J V I3 D ℓ' acc' s'):LpA G Γc A s1 env R J V I D St i ℓ' acc' s':=
 have hI:=N7 (L.c.S.fresh fr)
 L.upd B (X:=[D,env.locals]) (kx k.sh E.sh) (λb o hb e=>E.kb b o (λm=>(aU m).elim (λz=>bL fr (z▸e)) hb) (k.kb.get e)) (λb m=>(aU m).imp id aH) (hI▸E.c) (hI▸E.l)
theorem Sh {px cR py py2:Pos}(K:CompF Γ Γc scope x none)(hsy:∀env z,foldedSetIterable it1 env z=pure z)(yl:Γc.names.lookup y=some .local)(hxy:x≠y)(hxd:(x == ("__debug__":Str))=false)(hyd:(y == ("__debug__":Str))=false)
  (ha:MP G Γ it1 a):MP G Γ (eU x y px cR py py2 it1 scope pos) (pO a):=λU V v q A s env R J Q c hQ=>br (Qw q) λitems ys e1 e2 hy e3=>
 eval_ListComp .. ▸BL (ex:=eU x y px cR py py2 it1 scope pos) (use:=none) K (eJ ha) hsy rfl (show iP a U V=some (items,true) from congrArg (·.bind (nr V)) e1) c λI D Yo s1 fp P St N L0=>
 have L0':LpA G { Γc with slots:=[x,y] } A s1 Yo (Yo.locals::D::I::R) J V I D St 0 [none,none] [] s1:=⟨L0.sh,L0.kb,Qv L0.c,L0.st,L0.l⟩
 have loop:codeAny (model G.prog G.w) A (.compLoop (eU x y px cR py py2 it1 scope pos) 0 (.ref I) (.ref D) Yo) (compPost (model G.prog G.w) A aI none Q (.ref D) Yo.locals) s1:=
  N5 (λk s5=> ∃i acc o0 o1 rest,i+k=items.length∧jv (items.drop i)=some rest∧acc ++rest=ys∧LpA G { Γc with slots:=[x,y] } A s1 Yo (Yo.locals::D::I::R) J V I D St i [o0,o1] acc s5)
   (pU (λs5 inv=>Cl inv λi acc o0 o1 rest hk hr hys L=>L.done N.B hk λs6 L6=>L6.ns.imp λm hm=>⟨hm,λh' hs'=>(L6.lst N c.S hs').elim λk r=>hQ _ _ k (by
     rw [show i=_ from hk,List.drop_length] at hr
     cases hr
     rw [List.append_nil] at hys
     exact e3▸hys▸r)⟩)
    λk s5 inv=>Cl inv λi acc o0 o1 rest hk hr hys L=>L.item N.B (hk▸Nat.lt_add_of_pos_right (Nat.succ_pos k)) λv z s6 hz hv L6=>aS (Ni ((congrArg jv (wb hz)).symm.trans hr)) λl rest' hl hr' hl2=>
     L6.asg N.B (GT hxy K.xl) K.xl (hl▸hv) λs7 L7=>af (GT hxy K.xl).at_ (.inl K.xl) hxd [some (.tup l),o1] V (.tup l) rfl A s7 Yo _ J _ L7.c λr s8 k8 r8=>
      have L8:=L7.kp N.B k8
      wQ (mu:=⟨false,J.length⟩) L8.c r8 rfl λI3 s9 fp3 P3 St3 fr3 g9 c9 it3=>have k9:=g9.pure (Nat.le_refl _)
       (L8.in2 N.B fr3 k9 c9 it3).elim λB2 L2=>
       have inner:=N6 (Rp:=λr s'=>match r with
         | .ok _=> ∃m,m< k+1∧∃i acc o0 o1 rest,i+m=items.length∧jv (items.drop i)=some rest∧acc ++rest=ys∧LpA G { Γc with slots:=[x,y] } A s1 Yo (Yo.locals::D::I::R) J V I D St i [o0,o1] acc s'
         | .error _=>False) (Wg hxy yl) yl hyd B2 L2 (have hl:=congrArg List.length ((List.append_assoc _ _ _).trans ((congrArg (acc ++ ·) hl2).trans hys));ba (ba (Nat.le_of_eq List.length_append.symm) (ba (Nat.le_add_right _ _) (Nat.le_of_eq (List.length_append.symm.trans hl)))) (ba hy (by decide)))
        λo s' E=>⟨k,Nat.lt_succ_self k,i+1,acc ++l,some (.tup l),o,rest',(Nat.succ_add i k).trans hk,hr',(List.append_assoc _ _ _).trans ((congrArg (acc ++ ·) hl2).trans hys),E.out2 N.B L8 fr3 k9⟩
       Nh inner (it3.W.self 0 _ _ _ it3.st inner)) items.length
   ⟨0,[],none,none,ys,Nat.zero_add _,e2,rfl,L0'⟩
 codeAny_compStart_list loop (N.B.it.W.self 0 _ _ _ L0.st loop)
theorem Slot1.of (h:Γ.slots[i]? =some x)(hn:Γ.slots.Nodup)(hk:Γ.names.lookup x=some .local∨Γ.names.lookup x=some .cell):Slot1 Γ i x:=
 ⟨h,λj hj=>by
  have hlt:j< Γ.slots.length:=(List.getElem?_eq_some_iff.mp hj).1
  exact (List.getElem?_inj hlt hn).mp (hj.trans h.symm),hk⟩
theorem yg {vals:List Value}(h:vals.length=0):vals=[]:=List.length_eq_zero_iff.mp h
theorem nx {vals:List Value}(h:vals.length=n+1):∃a r,r.length=n∧vals=a::r:=match vals,h with | a::r,h=>⟨a,r,Nat.succ.inj h,rfl⟩
theorem GU {vals:List Value}(h:vals.length=1):∃a,vals=[a]:=cU (nx h) λa r h e=>⟨a,cc e (yg h)⟩
theorem GV {vals:List Value}(h:vals.length=2):∃a b,vals=[a,b]:=cU (nx h) λa r h e=>⟨a,(GU h).imp λb q=>cc e q⟩
theorem sP {vals:List Value}(h:vals.length=3):∃a b c,vals=[a,b,c]:=cU (nx h) λa r h e=>⟨a,fy (GV h) λb c q=>⟨b,c,cc e q⟩⟩
theorem yh {vals:List Value}(h:vals.length=4):∃a b c d,vals=[a,b,c,d]:=cU (nx h) λa r h e=>⟨a,td (sP h) λb c d q=>⟨b,c,d,cc e q⟩⟩
theorem ju (h:∀vals:List Value,vals.length=n→bindArgs fd ⟨vals,[]⟩=pure (ps.zip vals)):gT G fd ps n []:=λs vals _ hl=>by
 rw [List.append_nil];exact BindsTo.of_eq (h vals hl)
theorem Si {names:List (Str × NameKind)}(hy:y∈names)(hf:y.2= .free)(h:∀z∈names,z.2= .free→z.1=n):∃j,(some (n,i):Option (Str × Nat))=some (y.1,j):=⟨i,by rw [h y hy hf]⟩
theorem Sj (h:∀z∈Γc.names,z.2= .cell→z.1=n):∀y,Γc.names.lookup y=some .cell→∃j,(some (n,i):Option (Str × Nat))=some (y,j):=λy hy=>⟨i,by have e:y=n:=h _ (mem_of_lookup hy) rfl;rw [e]⟩
theorem nocell (h:∀z∈Γc.names,z.2≠ .cell):∀y,Γc.names.lookup y=some .cell→∃j,(none:Option (Str × Nat))=some (y,j):=λy hy=>absurd rfl (h _ (mem_of_lookup hy))
theorem U5 (Z:IsG G)(h:∀y∈fieldsT,y≠x∧x.cps.size< 40):∀g,G.nm g≠x:=λg e=>by
 rw [Z.nm] at e
 unfold kZ at e
 split at e
 ·rename_i y hy
  exact (h y (d7 hy)).1 e
 ·have:=(h "number" (by decide +kernel)).2
  rw [← e] at this
  simp at this
  omega
noncomputable def ti (names:List (Str × NameKind)):Env:={ scope:={ kind:= .function,names:=names,isGenerator:=false,isCoroutine:=false },locals:=0,globals:=0,cells:=[] }
noncomputable def Hx (k:ScopeKind)(names:List (Str × NameKind)):Env:={ scope:={ kind:=k,names:=names,isGenerator:=false,isCoroutine:=false },locals:=0,globals:=0,cells:=[] }
theorem Ps (h1:env.scope.names=names)(h2:env.scope.kind= .function):swapsWith e t l env=swapsWith e t l (ti names):=by
 have:swapsWith e t l env=swapsWith e t l (Hx env.scope.kind env.scope.names):=rfl
 rw [this,h1,h2];rfl
theorem N8 (h1:env.scope.names=names)(h2:env.scope.kind= .function):swappedStores ts e env=swappedStores ts e (ti names):=by
 have:swappedStores ts e env=swappedStores ts e (Hx env.scope.kind env.scope.names):=rfl
 rw [this,h1,h2];rfl
theorem swap_true {px py pos spos:Pos}(h:swapsWith (.ListComp elt [⟨.Name x px,iter,ifs,0⟩] scope pos) (some (.Name y py)) spos.line (ti Γ.names)=pure true):
  ∀env:Env,env.scope.names=Γ.names→env.scope.kind= .function→swapsWith (.ListComp elt [⟨.Name x px,iter,ifs,0⟩] scope pos) (some (.Name y py)) spos.line env=pure true:=λenv h1 h2=>(Ps h1 h2).trans h
theorem swap_any (h:swappedStores ts e (ti Γ.names)=pure r):∀env:Env,env.scope.names=Γ.names→env.scope.kind= .function→swappedStores ts e env=pure r:=λenv h1 h2=>(N8 h1 h2).trans h
theorem Pt (Z:IsG G):aM G "NOBODY" (.tup [.tup [.int 0, .int 0], .int 0, .tup [.int 0, .int 0], .int 56]):=by
 refine ⟨.ref 99,by rw [Z.K];kernel_rfl,λR J h hR hS=> ?_⟩
 have ktup:∀(a:Addr) (items:List Value),G.K.lookup a=some { cls:= .type "tuple",data:= .seq items.toArray }→a∉R∧h.IsTuple a items.toArray:=λa items e=>by
  have e2:=G.inK a _ e
  exact ⟨λm=>(by rw [hR a m] at e2;exact au e2),⟨_,hS _ _ e2,rfl,0,rfl⟩⟩
 obtain ⟨n1,t1⟩:=ktup 97 [.int 0 329, .int 0 330] (by rw [Z.K];rfl)
 obtain ⟨n2,t2⟩:=ktup 98 [.int 0 332, .int 0 333] (by rw [Z.K];rfl)
 obtain ⟨n3,t3⟩:=ktup 99 [.ref 97, .int 0 331, .ref 98, .int 56 335] (by rw [Z.K];rfl)
 simp only [VRel,VRels]
 exact ⟨_,_,rfl,n3,t3,_,_,rfl,⟨_,_,rfl,n1,t1,_,_,rfl,⟨_,rfl⟩,_,_,rfl,⟨_,rfl⟩,rfl⟩,_,_,rfl,⟨_,rfl⟩,_,_,rfl,⟨_,_,rfl,n2,t2,_,_,rfl,⟨_,rfl⟩,_,_,rfl,⟨_,rfl⟩,rfl⟩,_,_,rfl,⟨_,rfl⟩,rfl⟩
theorem CC (x:Str)(t:Tok):Value.isStrOf x (.str x t)=true:=by simp [Value.isStrOf]
noncomputable def bitsT:List (Str × Int):=[("detached",0),("waiting",0),("attached",8),("collecting",24),("distributing",56)]
def yi (a:a7):a7:=λU V=>(a U V).bind λv=>(sD v).bind λx=>(bitsT.lookup x).map AV.int
theorem Hy {α:Type}{P:α→Prop}{a b c d e:α}(h1:P a)(h2:P b)(h3:P c)(h4:P d)(h5:P e):∀x∈ [a,b,c,d,e],P x:=List.forall_mem_cons.mpr ⟨h1,List.forall_mem_cons.mpr ⟨h2,List.forall_mem_cons.mpr ⟨h3,List.forall_mem_cons.mpr ⟨h4,List.forall_mem_cons.mpr ⟨h5,nofun⟩⟩⟩⟩⟩
noncomputable def yj (P:Params):List DictEntry:=[H.e P "detached" 603 (.int 0 604),H.e P "waiting" 605 (.int 0 606),H.e P "attached" 607 (.int 8 303),H.e P "collecting" 608 (.int 24 609),H.e P "distributing" 610 (.int 56 612)]
abbrev Wh (G:Gd)(x:Str):Option Value:=findBy (strKind G.prog G.w).is (yj G.w.params).toArray x
theorem bk (x:Str)(t:Tok)(v:Value):∃k,(strKind G.prog G.w).is k (H.e G.w.params x t v).key=true∧(H.e G.w.params x t v).hash=(strKind G.prog G.w).hash k:=⟨x,CC x t,rfl⟩
theorem Pu (Z:IsG G):∃o,G.K.lookup 284=some o∧o.ExactDict∧∃es ep,o.data= .dict es ep∧KeysOf (strKind G.prog G.w) es∧∀x n,bitsT.lookup x=some n→∃t,findBy (strKind G.prog G.w).is es x=some (.int n t):=
 ⟨{ cls:= .type "dict",data:= .dict (yj G.w.params).toArray 5 },Z.K▸(by kernel_rfl:(H.K G.w.params).lookup 284=_),⟨rfl,rfl,rfl⟩,(yj G.w.params).toArray,5,rfl,
  λen hen=>Hy (P:=λen:DictEntry=> ∃k,(strKind G.prog G.w).is k en.key=true∧en.hash=(strKind G.prog G.w).hash k) (bk _ _ _) (bk _ _ _) (bk _ _ _) (bk _ _ _) (bk _ _ _) en (List.mem_toArray.mp hen),
  λx n hx=>Hy (P:=λp:Str × Int=> ∃t,Wh G p.1=some (.int p.2 t)) ⟨604,rfl⟩ ⟨606,rfl⟩ ⟨303,rfl⟩ ⟨609,rfl⟩ ⟨612,rfl⟩ (x,n) (mem_of_lookup hx)⟩
theorem Sk (Z:IsG G)(hk:Γ.names.lookup ("BITS_OF":Str)=some .globalImplicit)(ha:MP G Γ e a):MP G Γ (.Subscript (.Name "BITS_OF" np) e pos) (yi a):=λU V v q A s env R J Q c hQ=>
 aw q λw e1 q=>aw q λx e2 q=>cr q λn hn e3=>c.F.elim λm F=>
 m5 (nameG_K F.fr G.inK (topRead_of G.top) (v:= .ref 284) (by rw [Z.K];kernel_rfl) (ha _ _ _ e1 A s env R J _ c λr s1 k1 r1=>by
  obtain ⟨o,ho,hex,es,ep,hd,hko,hf⟩:=Pu Z
  refine Exists.elim (show VRel G R J s1.heap (.str x) r from v6 e2▸r1) λt p=>(hf x n hn).elim λtk hv=> ?_
  subst p
  have hm:s1.heap.MapOf (strKind G.prog G.w) 284 (findBy (strKind G.prog G.w).is es):=⟨o,es,ep,(c.kp k1).S.base _ _ (G.inK _ _ ho),hex,hd,hko,λ_=>rfl⟩
  exact ⟨⟨_,_,hm.typeIs,slot_dict_getitem.lookup⟩,wpAny_getItem_of (CC x t) hm hv (hQ _ _ (k1.trans (Kp.tok _ _)) (e3▸ .i))⟩) F.glob F.kind (ij F.nms _▸hk) (by decide +kernel))
def yk (a:bZ)(b:a7):bZ:=λU V=>(a U V).bind λp=>(b U p.2).bind λy=>(jy p.1).bind λ_=>(nk p.1 y).map λz=>(z,p.2)
theorem Sl (ha:MX G mu Γ e a)(hb:MP G Γ i b):MX G mu Γ (.Subscript e (.Slice none (some i) none p) pos) (yk a b):=MX.mk λU V A s env R J Q c k=>
 m5 (ha.run c (k.bind.imp λp k o s1 R1 J1 g1 c1 r1=>k.bind.elim λy k=>k.2.bind.elim λ_ k2=>k2.2.map.elim λz k3=>wpAny_Slice (aC (hb _ _ _ k.1 A s1 env R1 J1 _ c1 λj s2 k4 r2=>aC
  (DS (c1.kp k4).S.live (r1.keep k4.kb) r2 k3.1 _ _ λr s3 k5 r3=>k3.2 r s3 R1 J1 (g1.seqX (Go.of_kp (k4.trans k5))) (c1.kp (k4.trans k5)) r3)))))
theorem I8 (Z:IsG G)(h1:Γ.code= .ref 417:=by rfl)(h2:Γ.qual="Chooser.worked.<locals>.":=by rfl):LamF G Γ 413 417 ⟨279,33,279,80⟩:=Z.lam Γ h1 h2
theorem Xk (Z:IsG G):G.K.lookup 107=some { cls:= .type "tuple",data:= .seq #[.int 0 349] }:=by rw [Z.K];kernel_rfl
theorem Hz (Z:IsG G):G.K.lookup 164=some { cls:= .type "tuple",data:= .seq #[.bool true, .bool false, .bool true] }:=by rw [Z.K];kernel_rfl
theorem Jo (Z:IsG G):gT G EW ["self","actor","partner","most_delay"] 3 [.int 0 349]:=by
 intro s vals hK hl
 obtain ⟨a,b,c,rfl⟩:=sP hl
 exact BindsTo.of_defaults (T:=107) rfl (hK 107 _ (Xk Z)) rfl rfl rfl
theorem I9 (Z:IsG G):gT G xq ["self","number","priority","key","is_active","is_short","may_join"] 4 [.bool true, .bool false, .bool true]:=by
 intro s vals hK hl
 obtain ⟨a,b,c,d,rfl⟩:=yh hl
 exact BindsTo.of_defaults (T:=164) rfl (hK 164 _ (Hz Z)) rfl rfl rfl
theorem HA (Z:IsG G):G.K.lookup 450=some { cls:= .type "tuple",data:= .seq #[.int 8 841] }:=by rw [Z.K];kernel_rfl
theorem zr (Z:IsG G):gT G pD ["self","system","rows","most"] 3 [.int 8 841]:=by
 intro s vals hK hl
 obtain ⟨a,b,c,rfl⟩:=sP hl
 exact BindsTo.of_defaults (T:=450) rfl (hK 450 _ (HA Z)) rfl rfl rfl
theorem Wi {vals:List Value}(h:vals.length=5):∃a b c d e,vals=[a,b,c,d,e]:=cU (nx h) λa r h w=>⟨a,x0 (yh h) λb c d e q=>⟨b,c,d,e,cc w q⟩⟩
theorem Wj {vals:List Value}(h:vals.length=6):∃a b c d e f,vals=[a,b,c,d,e,f]:=cU (nx h) λa r h w=>⟨a,TP (Wi h) λb c d e f q=>⟨b,c,d,e,f,cc w q⟩⟩
theorem IP (Z:IsG G):gT G xq ["self","number","priority","key","is_active","is_short","may_join"] 6 [.bool true]:=by
 intro s vals hK hl
 obtain ⟨a,b,c,d,e,f,rfl⟩:=Wj hl
 exact BindsTo.of_defaults (T:=164) rfl (hK 164 _ (Hz Z)) rfl rfl rfl
theorem zg (Z:IsG G):gT G pD ["self","system","rows","most"] 4 []:=by
 intro s vals hK hl
 obtain ⟨a,b,c,d,rfl⟩:=yh hl
 exact BindsTo.of_defaults (T:=450) rfl (hK 450 _ (HA Z)) rfl rfl rfl
noncomputable def jI (F1 F2:Fn):Fn:=λavs V=>match F1 avs V with
 | some r=>some r
 | none=>F2 avs V
theorem CD (h1:aJ G tb nf d f F1)(h2:aJ G tb nf d f F2):aJ G tb nf d f (jI F1 F2):=by
 intro avs V v σ' q
 unfold jI at q
 split at q
 ·rename_i r e
  cases q
  exact h1 _ _ _ _ e
 ·exact h2 _ _ _ _ q
theorem XV (h:nsIn G.K mainGlobals x=some (some (.int n t))):aM G x (.int n):=⟨_,h,λ_ _ _ _ _=>by simp only [VRel];exact ⟨_,rfl⟩⟩
theorem HX (h:nsIn G.K mainGlobals x=some (some v)):aM G x (.lit v):=⟨_,h,λ_ _ _ _ _=>by simp only [VRel]⟩
theorem slotA (h:Γ.slots[i]? =some x:=by rfl)(hn:Γ.slots.Nodup:=by first | decide +kernel | exact lw_nd)(hk:Γ.names.lookup x=some .local∨Γ.names.lookup x=some .cell:=by exact GI (by kernel_rfl)):Slot1 Γ i x:= .of h hn hk
theorem CompF.of0 {scope:Scope}{x:Str}(k:scope.kind= .function:=by rfl)(nm:Γc.names=yz Γ scope.names:=by kernel_rfl)(nc:∀y∈scope.names,y.2≠ .cell:=by decide)(lk:∀y∈scope.names,y.2= .local→scope.names.lookup y.1=some .local:=by decide +kernel)
  (sl:Γc.slots=[x]:=by rfl)(xl:Γc.names.lookup x=some .local:=by kernel_rfl)(cl:∀g,eY g scope.names=[]:=by exact λ_=>rfl)(fr:∀z∈scope.names,z.2≠ .free:=by decide +kernel)(on:∀z∈Γc.names,z.2≠ .cell:=by decide +kernel)
  (d:Γc.d=Γ.d∧Γc.code=Γ.code∧Γc.qual=Γ.qual:=by exact ⟨rfl,rfl,rfl⟩):CompF Γ Γc scope x none:=⟨k,nm,nc,lk,sl,xl,cl,λy hy hf=>absurd hf (fr y hy),λ_ _ h=>au h,Mine.nocell on,d⟩
theorem CompF.of1 {scope:Scope}{x n:Str}{i:Nat}(k:scope.kind= .function:=by rfl)(nm:Γc.names=yz Γ scope.names:=by kernel_rfl)(nc:∀y∈scope.names,y.2≠ .cell:=by decide)(lk:∀y∈scope.names,y.2= .local→scope.names.lookup y.1=some .local:=by decide +kernel)
  (sl:Γc.slots=[x,n]:=by rfl)(xl:Γc.names.lookup x=some .local:=by kernel_rfl)(cl:∀g,eY g scope.names=[(n,g n)]:=by exact λ_=>rfl)(fr:∀z∈scope.names,z.2= .free→z.1=n:=by decide +kernel)
  (ca:Γ.slots[i]? =some n∧Γ.names.lookup n=some .cell∧Γc.names.lookup n=some .cell∧n≠x:=by exact ⟨rfl,by kernel_rfl,by kernel_rfl,by decide +kernel⟩)(on:∀z∈Γc.names,z.2= .cell→z.1=n:=by decide +kernel)
  (d:Γc.d=Γ.d∧Γc.code=Γ.code∧Γc.qual=Γ.qual:=by exact ⟨rfl,rfl,rfl⟩):CompF Γ Γc scope x (some (n,i)):=⟨k,nm,nc,lk,sl,xl,cl,λy hy hf=>Si hy hf fr,λ_ _ h=>(bT (aD h)).1▸(bT (aD h)).2▸ca,Sj on,d⟩
theorem IsG.kI (Z:IsG G)(h:nsIn (H.K G.w.params) mainGlobals x=some (some (.int n t))):aM G x (.int n):=XV (Z.K▸h)
theorem IsG.kL (Z:IsG G)(h:nsIn (H.K G.w.params) mainGlobals x=some (some (.ref a)):=by kernel_rfl):aM G x (.lit (.ref a)):=HX (Z.K▸h)
theorem IsG.kp (Z:IsG G)(h:keepIn (H.K G.w.params) v=true:=by kernel_rfl):keepIn G.K v=true:=Z.K▸h
theorem IsG.cf (Z:IsG G)(h1:plainGet (H.K G.w.params) C ""=true:=by kernel_rfl)(h2:hasDictIn (H.K G.w.params) C=true:=by kernel_rfl)(h3:findIn (H.K G.w.params) (.ref C) "__setattr__"=some (some (.builtin "object.__setattr__")):=by kernel_rfl)
  (h4:plainOver (H.K G.w.params) C=true:=by kernel_rfl):ClsF G C:=⟨Z.K▸h1,Z.K▸h2,Z.K▸h3,Z.K▸h4⟩
theorem IsG.mkF (Z:IsG G){C f:Addr}(h1:makesIn (H.K G.w.params) C=true:=by kernel_rfl)(h2:findIn (H.K G.w.params) (.ref C) "__init__"=some (some (.ref f)):=by kernel_rfl)(h3:typeIn (H.K G.w.params) (.ref f)=some (.type "function"):=by kernel_rfl):MakeF G C f:=⟨Z.K▸h1,Z.K▸h2,Z.K▸h3⟩
theorem IsG.nmE (Z:IsG G)(h:kZ i=x:=by rfl):G.nm i=x:=Z.nm▸h
theorem IsG.fl (Z:IsG G)(c:ClsF G C)(h:findIn (H.K G.w.params) (.ref C) (kZ i)=some none:=by kernel_rfl):ClsF G C∧dH G C i:=⟨c,show findIn G.K (.ref C) (G.nm i)=some none from Z.nm▸Z.K▸h⟩
theorem IsG.mf (Z:IsG G)(h1:findIn (H.K G.w.params) (.ref C) x=some (some (.ref f)):=by kernel_rfl)(h2:isFn (H.K G.w.params) (.ref f)=true:=by kernel_rfl)(h3:keepIn (H.K G.w.params) (.ref f)=true:=by kernel_rfl)(h4:∀y∈fieldsT,y≠x∧x.cps.size< 40:=by decide +kernel):cO G C x f:=
 ⟨Z.K▸h1,Z.K▸h2,Z.K▸h3,U5 Z h4⟩
theorem IsG.df (Z:IsG G){body:List Stmt}(h1:(H.K G.w.params).lookup f=some (fO fd):=by kernel_rfl)(h2:codeIn (H.K G.w.params) fd.code fd.qualname=true:=by kernel_rfl)(h3:fd.body= .stmts body:=by rfl)(h4:fd.scope.names=Γ.names:=by rfl)
  (h5:fd.scope.kind= .function∧fd.scope.isCoroutine=false∧fd.scope.isGenerator=false∧fd.globals=mainGlobals∧fd.builtins=builtinsNs∧fd.code=Γ.code∧fd.closure=[]:=by exact ⟨rfl,rfl,rfl,rfl,rfl,rfl,rfl⟩)(h6:fd.qualname ++".<locals>."=Γ.qual:=by kernel_rfl):DefF G Γ f fd body:=
 ⟨⟨fO fd,Z.K▸h1,rfl⟩,Z.K▸h2,h3,h4,h5.1,h5.2.1,h5.2.2.1,h5.2.2.2.1,⟨h5.2.2.2.2.1,h5.2.2.2.2.2.1,h6⟩,h5.2.2.2.2.2.2⟩
theorem dX {α:Type}{x:α}{P:α→Prop}(h:P x):∀a∈ [x],P a:=λ_ m=>aH m▸h
theorem XW {ps:List Str}(h:bindArgs fd ⟨[],[]⟩=pure (ps.zip []):=by kernel_rfl)(vals:List Value)(e:vals.length=0):bindArgs fd ⟨vals,[]⟩=pure (ps.zip vals):=(yg e).symm▸h
theorem dQ {ps:List Str}(h:∀a,bindArgs fd ⟨[a],[]⟩=pure (ps.zip [a]):=by intro a;kernel_rfl)(vals:List Value)(e:vals.length=1):bindArgs fd ⟨vals,[]⟩=pure (ps.zip vals):=(GU e).elim λa q=>q▸h a
theorem cF {ps:List Str}(h:∀a b,bindArgs fd ⟨[a,b],[]⟩=pure (ps.zip [a,b]):=by intro a b;kernel_rfl)(vals:List Value)(e:vals.length=2):bindArgs fd ⟨vals,[]⟩=pure (ps.zip vals):=fy (GV e) λa b q=>q▸h a b
theorem lb {ps:List Str}(h:∀a b c,bindArgs fd ⟨[a,b,c],[]⟩=pure (ps.zip [a,b,c]):=by intro a b c;kernel_rfl)(vals:List Value)(e:vals.length=3):bindArgs fd ⟨vals,[]⟩=pure (ps.zip vals):=td (sP e) λa b c q=>q▸h a b c
theorem oa {n d:Nat}{nf:Nat→Nat}(D:DefF G Γ f fd body)(hb:gT G fd ps n dv)
  (hdv:∀(R:List Addr) (J:aG) (h:Heap),(∀a∈R,G.g.get? a=none)→G.g.StaysIn h→VRels G R J h dav dv)(B:∀n0,MSs G ⟨tb,n0⟩ Γ body (b n0))(h1:Γ.slots.take ps.length=ps:=by rfl)(h2:ps.Nodup:=by decide +kernel)(h3:∀x∈ps,Γ.names.lookup x=some .local:=by decide +kernel)
  (h4:ps.length=n+dv.length:=by rfl)(h5:∀x∈Γ.names,d8 (some x.2)=false:=by decide)(h6:Γ.d+1≤d:=by exact Nat.le_refl _):aJ G tb nf d (.ref f) (aR Γ n dav nf b):=O9 D h1 h2 h3 h4 hb hdv h5 h6 B
theorem bJ {n d:Nat}{nf:Nat→Nat}(D:DefF G Γ f fd body)(hb:∀vals:List Value,vals.length=n→bindArgs fd ⟨vals,[]⟩=pure ((Γ.slots.take n).zip vals))(B:∀n0,MSs G ⟨tb,n0⟩ Γ body (b n0))(h2:(Γ.slots.take n).Nodup:=by decide +kernel)
  (h3:∀x∈Γ.slots.take n,Γ.names.lookup x=some .local:=by decide +kernel)(h4:(Γ.slots.take n).length=n:=by rfl)(h5:∀x∈Γ.names,d8 (some x.2)=false:=by decide)(h6:Γ.d+1≤d:=by exact Nat.le_refl _):aJ G tb nf d (.ref f) (aR Γ n [] nf b):=oa D (ju hb) (λ_ _ _ _ _=> .nil) B (congrArg (Γ.slots.take ·) h4) h2 h3 h4 h5 h6
theorem jB {n d:Nat}{nf:Nat→Nat}(D:DefF G Γ f fd body)(hb:∀vals:List Value,vals.length=n→bindArgs fd ⟨vals,[]⟩=pure ((Γ.slots.take n).zip vals))(B:∀n0,MSs G ⟨tb,n0⟩ Γ body (b n0))(h2:(Γ.slots.take n).Nodup:=by decide +kernel)
  (h3:∀x∈Γ.slots.take n,Γ.names.lookup x=some .local∨Γ.names.lookup x=some .cell:=by decide +kernel)(h4:(Γ.slots.take n).length=n:=by rfl)(h5:∀x∈Γ.names,x.2≠ .free:=by decide)(h7:((cellsFrom 0 Γ.names []).map (·.1)).Nodup:=by decide +kernel)(h6:Γ.d+1≤d:=by exact Nat.le_refl _):aJ G tb nf d (.ref f) (aR Γ n [] nf b):=
 Nb D (congrArg (Γ.slots.take ·) h4) h2 h3 h4 hb h5 h7 h6 B
noncomputable abbrev fi (l g:List Str)(d c:Nat)(q:Str):FI:=⟨l.map (·, .local) ++g.map (·, .globalImplicit),l,d, .ref c,q⟩
noncomputable abbrev mw (l g:List Str)(d c:Nat)(q:Str):FI:=⟨(".0", .local)::(l.map (·, .local) ++g.map (·, .globalImplicit)),l,d, .ref c,q⟩
section
noncomputable def TabOk (h:Heap)(P:Addr)(q:Str):Prop:=∃ps,h.get? P=some (tabObj ps)∧TriplesOk ps.toList∧∀pos c,codeAmong pos ps.toList=some c→h.CodeRec c q
theorem wT {ps:Array Value}(h:TriplesOk ps.toList)(q:Str)(t:Nat):ps[1]? ≠some (.str q t):=by
 rw [← Array.getElem?_toList]
 generalize ps.toList=l at h
 fun_induction TriplesOk l with
 | case1=>nofun
 | case2 a t b u x rest ih=>intro e;cases e
 | case3 l h1 h2=>exact h.elim
theorem N9 {p q:Pos}(l:List Value)(h:TriplesOk l)(e:codeAmong p (l ++ [rawInt q.line,rawInt q.col,c])=some x):codeAmong p l=some x∨x=c:=by
 fun_induction TriplesOk l with
 | case1=>
  simp only [List.nil_append,rawInt,codeAmong] at e
  split at e
  ·cases e;exact .inr rfl
  ·exact au e
 | case2 a t b u y rest ih=>
  simp only [List.cons_append,codeAmong] at e ⊢
  split at e
  ·rename_i hc;rw [if_pos hc];exact .inl e
  ·rename_i hc;rw [if_neg hc];exact ih h e
 | case3 l h1 h2=>exact h.elim
theorem TabOk.not (t:TabOk h P q): ¬ ey h P:=by
 obtain ⟨ps,h1,h2,_⟩:=t
 exact ol h1 rfl (wT h2)
theorem TabOk.keep {X:List Addr}(t:TabOk h P q)(k:∀b o,b∉X→h.get? b=some o→h'.get? b=some o)(hP:P∉X)(hX:∀a∈X,¬ ey h a):TabOk h' P q:=by
 obtain ⟨ps,h1,h2,h3⟩:=t
 refine ⟨ps,k _ _ hP h1,h2,λpos c e=> ?_⟩
 obtain ⟨c',o,vs,t,e1,e2,e3,e4⟩:=h3 pos c e
 exact ⟨c',o,vs,t,e1,k _ _ (λm=>hX _ m ⟨o,vs,q,t,e2,e3,e4⟩) e2,e3,e4⟩
theorem TabOk.put {pos:Pos}(t:TabOk h P q)(h1:h.get? P=some (tabObj ps))(k:∀b o,b≠P→h.get? b=some o→h'.get? b=some o)
  (h2:h'.get? P=some (tabObj (ps ++ #[rawInt pos.line,rawInt pos.col, .ref c'])))(h3:h'.CodeRec (.ref c') q):TabOk h' P q:=by
 have hn:=t.not
 obtain ⟨ps',e1,e2,e3⟩:=t
 rw [h1] at e1
 cases e1
 have el:(ps ++ #[rawInt pos.line,rawInt pos.col, .ref c']).toList=ps.toList ++ [rawInt pos.line,rawInt pos.col, .ref c']:=by simp
 refine ⟨_,h2,by rw [el];exact TriplesOk_snoc _ _ _ _ e2,λp c e=> ?_⟩
 rw [el] at e
 rcases N9 _ e2 e with e | rfl
 ·obtain ⟨c',o,vs,t,f1,f2,f3,f4⟩:=e3 p c e
  exact ⟨c',o,vs,t,f1,k _ _ (λm=>hn ⟨o,vs,q,t,m▸f2,f3,f4⟩) f2,f3,f4⟩
 ·exact h3
noncomputable def XX:Str:="Chooser.worked.<locals>." ++"<lambda>"
noncomputable def XY:Str:="_law_refusals_right.<locals>." ++"<lambda>"
noncomputable def sQ (h:Heap):Prop:=TabOk h 413 XX∧TabOk h 606 XY
theorem Wl (h h':Heap)(X:List Addr)(k:∀b o,b∉X→h.get? b=some o→h'.get? b=some o)(hT:∀a∈([413,606]:List Addr),a∉X)(hX:∀a∈X,¬ ey h a)(t:sQ h):sQ h':=
 ⟨t.1.keep k (hT _ (by simp)) hX,t.2.keep k (hT _ (by simp)) hX⟩
variable {prog:Program} {w:World} {g:Heap} {loose:List Str} {mean:ExcName→Option Value} {mg mb:Str→Option Value}
def gd (prog:Program)(w:World)(X:(H.K w.params).In g)(T:Top topProg loose mean mg mb g)(hm:∃o,g.get? sysModules=some o):Gd where
 prog:=prog
 w:=w
 K:=H.K w.params
 g:=g
 p:=topProg
 loose:=loose
 mean:=mean
 mg:=mg
 mb:=mb
 inK:=X
 top:=T
 mods:=hm
 nm:=kZ
 nmInj:=Sg
 TB:=[413,606]
 Tabs:=sQ
 tabs:=Wl
theorem XZ {T:Top topProg loose mean mg mb g}(h1:CodeHd g 417 413)(h2:CodeHd g 608 606)
  (hb:∀x∈(["len","min","max","sorted","int","range","set","list","Exception","str","bytes"]:List Str),mg x=none):IsG (gd prog w X T hm) where
 lam:=λΓ hc hq=>{
  code:=hc
  hd:=h1
  tb:=by show (413:Addr)∈ [413,606];simp
  get:=λh t=>by
   obtain ⟨ps,e1,e2,e3⟩:=t.1
   refine ⟨ps,e1,e2,?_⟩
   cases z:codeAmong ⟨279,33,279,80⟩ ps.toList with
   | none=>exact .inl rfl
   | some c=>
    have r:=e3 _ _ z
    obtain ⟨c',o,vs,u,rfl,r'⟩:=r
    refine .inr ⟨c',rfl,?_⟩
    rw [hq]
    exact ⟨c',o,vs,u,rfl,r'⟩
  put:=λh h' ps c' t e1 e2 e3 k e4 e5=>⟨t.1.put e1 k e4 (by rw [hq] at e5;exact e5),t.2.keep (X:=[413]) (λb o hb ho=>k b o (λz=>hb (by rw [z];exact List.mem_singleton_self _)) ho) (by decide) (λa m=>by rw [aH m];exact t.1.not)⟩ }
 lam2:=λΓ pos hc hq=>{
  code:=hc
  hd:=h2
  tb:=by show (606:Addr)∈ [413,606];simp
  get:=λh t=>by
   obtain ⟨ps,e1,e2,e3⟩:=t.2
   refine ⟨ps,e1,e2,?_⟩
   cases z:codeAmong pos ps.toList with
   | none=>exact .inl rfl
   | some c=>
    have r:=e3 _ _ z
    obtain ⟨c',o,vs,u,rfl,r'⟩:=r
    refine .inr ⟨c',rfl,?_⟩
    rw [hq]
    exact ⟨c',o,vs,u,rfl,r'⟩
  put:=λh h' ps c' t e1 e2 e3 k e4 e5=>⟨t.1.keep (X:=[606]) (λb o hb ho=>k b o (λz=>hb (by rw [z];exact List.mem_singleton_self _)) ho) (by decide) (λa m=>by rw [aH m];exact t.2.not),t.2.put e1 k e4 (by rw [hq] at e5;exact e5)⟩ }
 tbd:=λh t a m=>by
  rcases aU m with rfl | m
  ·obtain ⟨ps,e1,e2,_⟩:=t.1
   exact ⟨ps,e1,wT e2⟩
  ·rw [aH m]
   obtain ⟨ps,e1,e2,_⟩:=t.2
   exact ⟨ps,e1,wT e2⟩
 K:=rfl
 nm:=rfl
 bv:=λp m=>by
  refine ⟨hb _ ?_,?_⟩
  ·have:=List.mem_map_of_mem (f:=λq:Str × Value=>q.1) m
   exact this
  ·have h:=T.builtins p.1
   show mb p.1=some p.2
   simp only [List.mem_cons,List.not_mem_nil,or_false] at m
   rcases m with rfl | rfl | rfl | rfl | rfl | rfl | rfl | rfl | rfl | rfl | rfl <;> exact (h (by decide)).trans rfl
noncomputable def bnames:List Str:=["len","min","max","sorted","int","range","set","list","Exception","str","bytes"]
noncomputable abbrev yX:List Str:=H.lo
theorem Wm:(bnames.all λx=> !(startupNames.contains x) && !((looseW H.q yX).contains x) && !(((recsOf H.q).map (·.name)).contains x) && !(((litsOf H.q).map (·.1)).contains x) && !(((clssOf H.q (looseW H.q yX)).map (·.name)).contains x))=true:=by decide +kernel
theorem bnone (T:Top H.q (looseW H.q yX) mean mg mb h):∀x∈bnames,mg x=none:=λx m=>by
 have:=List.all_eq_true.mp Wm x m
 simp only [Bool.and_eq_true,Bool.not_eq_true',List.contains_eq_mem,decide_eq_false_iff_not] at this
 exact T.free x this.1.1.1.1 this.1.1.1.2 this.1.1.2 this.1.2 this.2
theorem impN:importsNone H.q=true:=by decide +kernel
end
section
variable (Z:IsG G)
include Z
theorem mM:aM G "ACTIVITY" (.int 1):=Z.kI rfl
theorem mW:aM G "SHORT" (.int 2):=Z.kI rfl
theorem mE:aM G "AGGREGATION" (.int 4):=Z.kI rfl
theorem mD:aM G "SYNCHRONIZATION" (.int 8):=Z.kI rfl
theorem vh:aM G "COLLECTING" (.int 16):=Z.kI rfl
theorem Km:aM G "DISTRIBUTING" (.int 32):=Z.kI rfl
theorem j1:aM G "DEFAULTED" (.int 64):=Z.kI rfl
theorem qY:aM G "EXPIRED" (.int 128):=Z.kI rfl
theorem BM:aM G "SUBTYPE" (.int 1):=Z.kI rfl
theorem BN:aM G "VERSION" (.int 1):=Z.kI rfl
theorem AJ:aM G "ACTOR_PART" (.int 1):=Z.kI rfl
theorem Kn:aM G "PARTNER_PART" (.int 2):=Z.kI rfl
theorem vw:aM G "INFO_SIZE" (.int 20):=Z.kI rfl
theorem re:aM G "NOBODY" (.tup [.tup [.int 0, .int 0], .int 0, .tup [.int 0, .int 0], .int 56]):=Pt Z
theorem AK:aM G "SHORT_WAIT" (.int 3):=Z.kI rfl
theorem Mv:aM G "LONG_WAIT" (.int 90):=Z.kI rfl
theorem LC:aM G "QUICK_TURN" (.int 1):=Z.kI rfl
theorem Mw:aM G "SLOW_TURN" (.int 30):=Z.kI rfl
theorem My:aM G "JOIN_WAIT" (.int 2):=Z.kI rfl
theorem Sm:aM G "HOLD" (.int 3):=Z.kI rfl
theorem LD:aM G "KNOWN_BITS" (.int 15):=Z.kI rfl
theorem KV:aM G "MOST_ROUNDS" (.int 12):=Z.kI rfl
theorem D3:aM G "ROOM" (.int 65536):=Z.kI rfl
theorem rh:aM G "Lacpdu" (.lit (.ref 124)):=Z.kL
theorem rl:keepIn G.K (.ref 124)=true:=Z.kp
theorem gf:aM G "LacpRow" (.lit (.ref 188)):=Z.kL
theorem gh:keepIn G.K (.ref 188)=true:=Z.kp
theorem Nj:aM G "LacpPort" (.lit (.ref 279)):=Z.kL
theorem Nk:keepIn G.K (.ref 279)=true:=Z.kp
theorem Oa:aM G "Chooser" (.lit (.ref 433)):=Z.kL
theorem Ob:keepIn G.K (.ref 433)=true:=Z.kp
theorem j3:aM G "Bundles" (.lit (.ref 543)):=Z.kL
theorem j4:keepIn G.K (.ref 543)=true:=Z.kp
theorem j5:aM G "has_bit" (.lit (.ref 135)):=Z.kL
theorem j6:keepIn G.K (.ref 135)=true:=Z.kp
theorem qQ:aM G "with_bit" (.lit (.ref 142)):=Z.kL
theorem qR:keepIn G.K (.ref 142)=true:=Z.kp
theorem Nl:aM G "move_mux" (.lit (.ref 291)):=Z.kL
theorem Nm:keepIn G.K (.ref 291)=true:=Z.kp
theorem Nn:aM G "next_mux" (.lit (.ref 298)):=Z.kL
theorem No:keepIn G.K (.ref 298)=true:=Z.kp
theorem Np:aM G "step_mux" (.lit (.ref 305)):=Z.kL
theorem Nq:keepIn G.K (.ref 305)=true:=Z.kp
theorem KW:aM G "have_waited" (.lit (.ref 310)):=Z.kL
theorem KZ:keepIn G.K (.ref 310)=true:=Z.kp
theorem K0:aM G "wait_second" (.lit (.ref 317)):=Z.kL
theorem K1:keepIn G.K (.ref 317)=true:=Z.kp
theorem AL:aM G "begin_link" (.lit (.ref 324)):=Z.kL
theorem AM:keepIn G.K (.ref 324)=true:=Z.kp
theorem Nr:aM G "end_link" (.lit (.ref 331)):=Z.kL
theorem Nt:keepIn G.K (.ref 331)=true:=Z.kp
theorem K2:aM G "fall_silent" (.lit (.ref 338)):=Z.kL
theorem K3:keepIn G.K (.ref 338)=true:=Z.kp
theorem Ah:aM G "is_same_end" (.lit (.ref 345)):=Z.kL
theorem Ai:keepIn G.K (.ref 345)=true:=Z.kp
theorem Nu:aM G "knows_us" (.lit (.ref 352)):=Z.kL
theorem Nv:keepIn G.K (.ref 352)=true:=Z.kp
theorem LE:aM G "is_in_step" (.lit (.ref 359)):=Z.kL
theorem LF:keepIn G.K (.ref 359)=true:=Z.kp
theorem Sn:aM G "hear" (.lit (.ref 366)):=Z.kL
theorem So:keepIn G.K (.ref 366)=true:=Z.kp
theorem K4:aM G "pass_second" (.lit (.ref 373)):=Z.kL
theorem K5:keepIn G.K (.ref 373)=true:=Z.kp
theorem LG:aM G "message_of" (.lit (.ref 380)):=Z.kL
theorem LH:keepIn G.K (.ref 380)=true:=Z.kp
theorem AN:aM G "check_room" (.lit (.ref 442)):=Z.kL
theorem AP:keepIn G.K (.ref 442)=true:=Z.kp
theorem Mz:aM G "_law_pool" (.lit (.ref 554)):=Z.kL
theorem MC:keepIn G.K (.ref 554)=true:=Z.kp
theorem mH:aM G "_law_take" (.lit (.ref 561)):=Z.kL
theorem mI:keepIn G.K (.ref 561)=true:=Z.kp
theorem Bp:aM G "_law_one" (.lit (.ref 568)):=Z.kL
theorem Bq:keepIn G.K (.ref 568)=true:=Z.kp
theorem MD:aM G "_law_pass" (.lit (.ref 575)):=Z.kL
theorem ME:keepIn G.K (.ref 575)=true:=Z.kp
theorem K6:aM G "_law_joined" (.lit (.ref 582)):=Z.kL
theorem K7:keepIn G.K (.ref 582)=true:=Z.kp
theorem AQ:aM G "_law_alone" (.lit (.ref 587)):=Z.kL
theorem AR:keepIn G.K (.ref 587)=true:=Z.kp
theorem zB:aM G "_law_own_right" (.lit (.ref 592)):=Z.kL
theorem zC:keepIn G.K (.ref 592)=true:=Z.kp
theorem Im:aM G "_law_partners_right" (.lit (.ref 597)):=Z.kL
theorem Io:keepIn G.K (.ref 597)=true:=Z.kp
theorem Ip:aM G "_law_refusals_right" (.lit (.ref 609)):=Z.kL
theorem Iq:keepIn G.K (.ref 609)=true:=Z.kp
theorem wc:ClsF G 124:=Z.cf
theorem Pv:MakeF G 124 114:=Z.mkF
theorem j7:ClsF G 188:=Z.cf
theorem Oc:MakeF G 188 171:=Z.mkF
theorem bn:ClsF G 279:=Z.cf
theorem Nw:MakeF G 279 206:=Z.mkF
theorem je:ClsF G 433:=Z.cf
theorem Od:MakeF G 433 394:=Z.mkF
theorem cy:ClsF G 543:=Z.cf
theorem vR:MakeF G 543 457:=Z.mkF
theorem gF:G.nm 0="number":=Z.nmE
theorem gG:∀C∈([188]:List Addr),ClsF G C∧dH G C 0:=dX (Z.fl (j7 Z))
theorem qS:G.nm 1="priority":=Z.nmE
theorem qU:∀C∈([188]:List Addr),ClsF G C∧dH G C 1:=dX (Z.fl (j7 Z))
theorem pE:G.nm 2="key":=Z.nmE
theorem pF:∀C∈([188]:List Addr),ClsF G C∧dH G C 2:=dX (Z.fl (j7 Z))
theorem Bc:G.nm 3="is_active":=Z.nmE
theorem Bd:∀C∈([188]:List Addr),ClsF G C∧dH G C 3:=dX (Z.fl (j7 Z))
theorem Br:G.nm 4="is_short":=Z.nmE
theorem Bt:∀C∈([188]:List Addr),ClsF G C∧dH G C 4:=dX (Z.fl (j7 Z))
theorem Bu:G.nm 5="may_join":=Z.nmE
theorem Bv:∀C∈([188]:List Addr),ClsF G C∧dH G C 5:=dX (Z.fl (j7 Z))
theorem ny:G.nm 6="row":=Z.nmE
theorem nz:∀C∈([279]:List Addr),ClsF G C∧dH G C 6:=dX (Z.fl (bn Z))
theorem ez:G.nm 7="actor":=Z.nmE
theorem eA:∀C∈([279,124]:List Addr),ClsF G C∧dH G C 7:=gw (Z.fl (bn Z)) (Z.fl (wc Z))
theorem d9:G.nm 8="partner":=Z.nmE
theorem ec:∀C∈([279,124]:List Addr),ClsF G C∧dH G C 8:=gw (Z.fl (bn Z)) (Z.fl (wc Z))
theorem kc:G.nm 9="heard":=Z.nmE
theorem kd:∀C∈([279]:List Addr),ClsF G C∧dH G C 9:=dX (Z.fl (bn Z))
theorem lx:G.nm 10="heard_left":=Z.nmE
theorem ly:∀C∈([279]:List Addr),ClsF G C∧dH G C 10:=dX (Z.fl (bn Z))
theorem fK:G.nm 11="choice":=Z.nmE
theorem fM:∀C∈([279]:List Addr),ClsF G C∧dH G C 11:=dX (Z.fl (bn Z))
theorem kq:G.nm 12="mux":=Z.nmE
theorem kr:∀C∈([279]:List Addr),ClsF G C∧dH G C 12:=dX (Z.fl (bn Z))
theorem gj:G.nm 13="bundle":=Z.nmE
theorem gm:∀C∈([279]:List Addr),ClsF G C∧dH G C 13:=dX (Z.fl (bn Z))
theorem mJ:G.nm 14="join_left":=Z.nmE
theorem mK:∀C∈([279]:List Addr),ClsF G C∧dH G C 14:=dX (Z.fl (bn Z))
theorem lz:G.nm 15="turn_left":=Z.nmE
theorem lA:∀C∈([279]:List Addr),ClsF G C∧dH G C 15:=dX (Z.fl (bn Z))
theorem iK:G.nm 16="must_send":=Z.nmE
theorem iL:∀C∈([279]:List Addr),ClsF G C∧dH G C 16:=dX (Z.fl (bn Z))
theorem oP:G.nm 17="sent_many":=Z.nmE
theorem oQ:∀C∈([279]:List Addr),ClsF G C∧dH G C 17:=dX (Z.fl (bn Z))
theorem LI:G.nm 18="most_delay":=Z.nmE
theorem LJ:∀C∈([124]:List Addr),ClsF G C∧dH G C 18:=dX (Z.fl (wc Z))
theorem CE:G.nm 19="system":=Z.nmE
theorem CF:∀C∈([433]:List Addr),ClsF G C∧dH G C 19:=dX (Z.fl (je Z))
theorem D4:G.nm 20="most":=Z.nmE
theorem D5:∀C∈([433]:List Addr),ClsF G C∧dH G C 20:=dX (Z.fl (je Z))
theorem iO:G.nm 21="numbers":=Z.nmE
theorem iQ:∀C∈([433]:List Addr),ClsF G C∧dH G C 21:=dX (Z.fl (je Z))
theorem jo:G.nm 22="ports":=Z.nmE
theorem jq:∀C∈([543]:List Addr),ClsF G C∧dH G C 22:=dX (Z.fl (cy Z))
theorem BO:G.nm 23="chooser":=Z.nmE
theorem BP:∀C∈([543]:List Addr),ClsF G C∧dH G C 23:=dX (Z.fl (cy Z))
theorem Ja:cO G 188 "port_id" 178:=Z.mf
theorem Ko:cO G 188 "bits" 185:=Z.mf
theorem lm:cO G 279 "is_up" 213:=Z.mf
theorem jY:cO G 279 "own" 220:=Z.mf
theorem i9:cO G 279 "others" 227:=Z.mf
theorem jV:cO G 279 "set_own" 234:=Z.mf
theorem zh:cO G 279 "is_lone" 241:=Z.mf
theorem ul:cO G 279 "group" 248:=Z.mf
theorem Jp:cO G 279 "talks" 255:=Z.mf
theorem uz:cO G 279 "turn" 262:=Z.mf
theorem Ir:cO G 279 "heard_wait" 269:=Z.mf
theorem IE:cO G 433 "number_of" 399:=Z.mf
theorem Iv:cO G 433 "drop_empty" 404:=Z.mf
theorem Kq:cO G 433 "rank" 411:=Z.mf
theorem Jq:cO G 433 "worked" 418:=Z.mf
theorem Jr:cO G 433 "choose" 423:=Z.mf
theorem Js:cO G 433 "settle" 430:=Z.mf
theorem ow:cO G 543 "all_ports" 462:=Z.mf
theorem oH:cO G 543 "port" 469:=Z.mf
theorem qD:cO G 543 "rest" 476:=Z.mf
theorem oC:cO G 543 "link_up" 483:=Z.mf
theorem IF:cO G 543 "link_down" 490:=Z.mf
theorem zt:cO G 543 "receive" 497:=Z.mf
theorem zD:cO G 543 "second" 504:=Z.mf
theorem IG:cO G 543 "take_sent" 511:=Z.mf
theorem zu:cO G 543 "members" 516:=Z.mf
theorem y7:cO G 543 "has_partner" 528:=Z.mf
theorem oy:cO G 543 "bundle_of" 535:=Z.mf
theorem lS:ev G "len" (.builtin "len"):=Z.bv ("len", .builtin "len") (d7 (i:=0) rfl)
theorem F8:ev G "min" (.builtin "min"):=Z.bv ("min", .builtin "min") (d7 (i:=1) rfl)
theorem U6:ev G "max" (.builtin "max"):=Z.bv ("max", .builtin "max") (d7 (i:=2) rfl)
theorem pd:ev G "sorted" (.builtin "sorted"):=Z.bv ("sorted", .builtin "sorted") (d7 (i:=3) rfl)
theorem gR:ev G "int" (.type "int"):=Z.bv ("int", .type "int") (d7 (i:=4) rfl)
theorem lH:ev G "range" (.type "range"):=Z.bv ("range", .type "range") (d7 (i:=5) rfl)
theorem U7:ev G "set" (.type "set"):=Z.bv ("set", .type "set") (d7 (i:=6) rfl)
theorem Sp:ev G "list" (.type "list"):=Z.bv ("list", .type "list") (d7 (i:=7) rfl)
end
section
variable (Z:IsG G)
include Z
noncomputable abbrev vS:FI:=fi ["info","bit"] [] 0 134 "has_bit.<locals>."
def CG (n0:Nat):aF:=(ai (a9 (xP (er cY (a8 (bc nH) (bz (aa 0) (ah (.int 3))) (aa 1)) (ah (.int 0))))) aq)
theorem Pw (n0:Nat):MSs G ⟨false,n0⟩ vS EX (CG n0):=
 (al (bj (ay (fD eT (be rS (bM af an) af) an))) av)
theorem Px:DefF G vS 135 Ub EX:=Z.df
def CH:Fn:=aR vS 2 [] id CG
theorem Py:aJ G false id 1 (.ref 135) CH:=bJ (Px Z) cF (Pw Z)
def gH:bP:=dj CH
theorem j8:cS G 1 (.ref 135) gH:=dM (Py Z)
noncomputable abbrev vB:FI:=fi ["info","bit","is_set","state"] [] 0 141 "with_bit.<locals>."
def BQ (n0:Nat):aF:=(ai (bx 3 (xP (a8 (bc yx) (bz (aa 0) (ah (.int 3))) (aa 1)))) (ai (a9 (xP (a8 eI (iq (aa 0) (ah (.int 3))) (bl (ae (et (bU (aa 2)) (aa 3) (a8 (bc jF) (aa 3) (aa 1))) aj))))) aq))
theorem Oe (n0:Nat):MSs G ⟨false,n0⟩ vB EY (BQ n0):=
 (al (cV (ay (be GM (bM af an) af))) (al (bj (ay (be fP (jr af an) (cE (ag (gN (cG af) af (be kj af af)) ak))))) av))
theorem Of:DefF G vB 142 Uc EY:=Z.df
def BR:Fn:=aR vB 3 [] id BQ
theorem Og:aJ G false id 1 (.ref 142) BR:=bJ (Of Z) lb (Oe Z)
def j9:bP:=dj BR
theorem qV:cS G 1 (.ref 142) j9:=dM (Og Z)
noncomputable abbrev ug:FI:=fi ["self"] [] 0 177 "LacpRow.port_id.<locals>."
def zE (n0:Nat):aF:=(ai (a9 (xP (bl (ae (aB 1 [188] (aa 0)) (ae (aB 0 [188] (aa 0)) aj))))) aq)
theorem Jt (n0:Nat):MSs G ⟨false,n0⟩ ug E4 (zE n0):=
 (al (bj (ay (cE (ag (aE (qS Z) (qU Z) af) (ag (aE (gF Z) (gG Z) af) ak))))) av)
theorem Ju:DefF G ug 178 Uf E4:=Z.df
def zF:Fn:=aR ug 1 [] id zE
theorem Jv:aJ G false id 1 (.ref 178) zF:=bJ (Ju Z) dQ (Jt Z)
def um:bP:=dj zF
theorem Jb:cS G 1 (.ref 178) um:=dM (Jv Z)
noncomputable abbrev uN:FI:=fi ["self"] ["ACTIVITY","int","SHORT","AGGREGATION"] 0 184 "LacpRow.bits.<locals>."
def Aj (n0:Nat):aF:=(ai (a9 (xP (a8 eI (a8 eI (a8 (bc eu) (aY (.int 1)) (aL fU (ae (aB 3 [188] (aa 0)) aj))) (a8 (bc eu) (aY (.int 2)) (aL fU (ae (aB 4 [188] (aa 0)) aj)))) (a8 (bc eu) (aY (.int 4)) (aL fU (ae (aB 5 [188] (aa 0)) aj)))))) aq)
theorem K8 (n0:Nat):MSs G ⟨false,n0⟩ uN E7 (Aj n0):=
 (al (bj (ay (be fP (be fP (be fR (aO (mM Z)) (dA (gR Z) gU (ag (aE (Bc Z) (Bd Z) af) ak))) (be fR (aO (mW Z)) (dA (gR Z) gU (ag (aE (Br Z) (Bt Z) af) ak)))) (be fR (aO (mE Z)) (dA (gR Z) gU (ag (aE (Bu Z) (Bv Z) af) ak)))))) av)
theorem K9:DefF G uN 185 Ug E7:=Z.df
def Ak:Fn:=aR uN 1 [] id Aj
theorem La:aJ G false id 1 (.ref 185) Ak:=bJ (K9 Z) dQ (K8 Z)
def uT:bP:=dj Ak
theorem Kr:cS G 1 (.ref 185) uT:=dM (La Z)
noncomputable abbrev uo:FI:=fi ["self"] [] 0 212 "LacpPort.is_up.<locals>."
def zN (n0:Nat):aF:=(ai (a9 (xP (er cY (aB 9 [279] (aa 0)) (ah (.str "disabled"))))) aq)
theorem JJ (n0:Nat):MSs G ⟨false,n0⟩ uo E9 (zN n0):=
 (al (bj (ay (fD eT (aE (kc Z) (kd Z) af) bI))) av)
theorem JK:DefF G uo 213 Ui E9:=Z.df
def zO:Fn:=aR uo 1 [] id zN
theorem JL:aJ G false id 1 (.ref 213) zO:=bJ (JK Z) dQ (JJ Z)
def fY:bP:=dj zO
theorem lq:cS G 1 (.ref 213) fY:=dM (JL Z)
noncomputable abbrev uO:FI:=fi ["self","bit"] ["has_bit"] 1 219 "LacpPort.own.<locals>."
def Al (n0:Nat):aF:=(ai (a9 (xP (aL gH (ae (aB 7 [279,124] (aa 0)) (ae (aa 1) aj))))) aq)
theorem Lb (n0:Nat):MSs G ⟨false,n0⟩ uO Fa (Al n0):=
 (al (bj (ay (cj (j5 Z) (j6 Z) (j8 Z) (ag (aE (ez Z) (eA Z) af) (ag af ak))))) av)
theorem Lc:DefF G uO 220 Uj Fa:=Z.df
def Am:Fn:=aR uO 2 [] id Al
theorem Ld:aJ G false id 2 (.ref 220) Am:=bJ (Lc Z) cF (Lb Z)
def ie:bP:=dj Am
theorem jZ:cS G 2 (.ref 220) ie:=dM (Ld Z)
noncomputable abbrev uh:FI:=fi ["self","bit"] ["has_bit"] 1 226 "LacpPort.others.<locals>."
def zG (n0:Nat):aF:=(ai (a9 (xP (aL gH (ae (aB 8 [279,124] (aa 0)) (ae (aa 1) aj))))) aq)
theorem Jw (n0:Nat):MSs G ⟨false,n0⟩ uh Fb (zG n0):=
 (al (bj (ay (cj (j5 Z) (j6 Z) (j8 Z) (ag (aE (d9 Z) (ec Z) af) (ag af ak))))) av)
theorem Jx:DefF G uh 227 Uk Fb:=Z.df
def zH:Fn:=aR uh 2 [] id zG
theorem Jy:aJ G false id 2 (.ref 227) zH:=bJ (Jx Z) cF (Jw Z)
def gc:bP:=dj zH
theorem ja:cS G 2 (.ref 227) gc:=dM (Jy Z)
noncomputable abbrev ud:FI:=fi ["self"] ["DEFAULTED","AGGREGATION"] 2 240 "LacpPort.is_lone.<locals>."
def zv (n0:Nat):aF:=(ai (aQ (yT (d4 (bU (aT 279 ie (aa 0) (ae (aY (.int 64)) aj))) (d4 (aV bp (bz (aB 8 [279,124] (aa 0)) (ah (.int 0))) (bz (aB 7 [279,124] (aa 0)) (ah (.int 0)))) (dF false)))) (ai (a9 (xP (ah (.bool true)))) aq) aq) (ai (a9 (xP (mn (kK (aT 279 ie (aa 0) (ae (aY (.int 4)) aj))) (kK (aT 279 gc (aa 0) (ae (aY (.int 4)) aj)))))) aq))
theorem Jc (n0:Nat):MSs G ⟨false,n0⟩ ud Fd (zv n0):=
 (al (bG (bA (eB (eQ (cG (bi (bn Z) (jY Z) (jZ Z) af (ag (aO (j1 Z)) ak))) (eQ (bF cX (bM (aE (d9 Z) (ec Z) af) an) (bM (aE (ez Z) (eA Z) af) an)) jd)))) (al (bj (ay cZ)) av) av) (al (bj (ay (x8 (pz (bi (bn Z) (jY Z) (jZ Z) af (ag (aO (mE Z)) ak))) (lN (pz (bi (bn Z) (i9 Z) (ja Z) af (ag (aO (mE Z)) ak))))))) av))
theorem Jd:DefF G ud 241 Um Fd:=Z.df
def zw:Fn:=aR ud 1 [] id zv
theorem Je:aJ G false id 3 (.ref 241) zw:=bJ (Jd Z) dQ (Jc Z)
def qw:bP:=dj zw
theorem zi:cS G 3 (.ref 241) qw:=dM (Je Z)
end
section
variable (Z:IsG G)
include Z
noncomputable abbrev uq:FI:=fi ["self","number"] [] 3 247 "LacpPort.group.<locals>."
def zP (n0:Nat):aF:=(ai (bx 1 (xP (et (bU (aT 279 qw (aa 0) aj)) (aB 0 [188] (aB 6 [279] (aa 0))) (ah (.int 0))))) (ai (a9 (xP (bl (ae (aB 2 [188] (aB 6 [279] (aa 0))) (ae (bz (aB 8 [279,124] (aa 0)) (ah (.int 0))) (ae (bz (aB 8 [279,124] (aa 0)) (ah (.int 1))) (ae (aa 1) aj))))))) aq))
theorem JM (n0:Nat):MSs G ⟨false,n0⟩ uq Fe (zP n0):=
 (al (cV (ay (gN (cG (bi (bn Z) (zh Z) (zi Z) af ak)) (aE (gF Z) (gG Z) (aE (ny Z) (nz Z) af)) an))) (al (bj (ay (cE (ag (aE (pE Z) (pF Z) (aE (ny Z) (nz Z) af)) (ag (bM (aE (d9 Z) (ec Z) af) an) (ag (bM (aE (d9 Z) (ec Z) af) an) (ag af ak))))))) av))
theorem JN:DefF G uq 248 Un Fe:=Z.df
def zQ:Fn:=aR uq 1 [] id zP
theorem JO:aJ G false id 4 (.ref 248) zQ:=bJ (JN Z) dQ (JM Z)
def iI:bP:=dj zQ
theorem ur:cS G 4 (.ref 248) iI:=dM (JO Z)
noncomputable abbrev ut:FI:=fi ["self"] ["ACTIVITY"] 2 254 "LacpPort.talks.<locals>."
def zR (n0:Nat):aF:=(ai (a9 (xP (jE (aT 279 fY (aa 0) aj) (mn (aT 279 ie (aa 0) (ae (aY (.int 1)) aj)) (aT 279 gc (aa 0) (ae (aY (.int 1)) aj)))))) aq)
theorem JP (n0:Nat):MSs G ⟨false,n0⟩ ut Ff (zR n0):=
 (al (bj (ay (pw (bi (bn Z) (lm Z) (lq Z) af ak) (lN (x8 (bi (bn Z) (jY Z) (jZ Z) af (ag (aO (mM Z)) ak)) (lN (bi (bn Z) (i9 Z) (ja Z) af (ag (aO (mM Z)) ak)))))))) av)
theorem JQ:DefF G ut 255 Uo Ff:=Z.df
def zS:Fn:=aR ut 1 [] id zR
theorem JR:aJ G false id 3 (.ref 255) zS:=bJ (JQ Z) dQ (JP Z)
def uA:bP:=dj zS
theorem Jz:cS G 3 (.ref 255) uA:=dM (JR Z)
noncomputable abbrev uB:FI:=fi ["self"] ["SHORT","QUICK_TURN","SLOW_TURN"] 2 261 "LacpPort.turn.<locals>."
def z3 (n0:Nat):aF:=(ai (a9 (xP (et (bU (aT 279 gc (aa 0) (ae (aY (.int 2)) aj))) (aY (.int 1)) (aY (.int 30))))) aq)
theorem Ks (n0:Nat):MSs G ⟨false,n0⟩ uB Fg (z3 n0):=
 (al (bj (ay (gN (cG (bi (bn Z) (i9 Z) (ja Z) af (ag (aO (mW Z)) ak))) (aO (LC Z)) (aO (Mw Z))))) av)
theorem Kt:DefF G uB 262 Uq Fg:=Z.df
def z4:Fn:=aR uB 1 [] id z3
theorem Ku:aJ G false id 3 (.ref 262) z4:=bJ (Kt Z) dQ (Ks Z)
def oJ:bP:=dj z4
theorem uC:cS G 3 (.ref 262) oJ:=dM (Ku Z)
noncomputable abbrev tT:FI:=fi ["self"] ["SHORT","SHORT_WAIT","LONG_WAIT"] 2 268 "LacpPort.heard_wait.<locals>."
def y9 (n0:Nat):aF:=(ai (a9 (xP (et (bU (aT 279 ie (aa 0) (ae (aY (.int 2)) aj))) (aY (.int 3)) (aY (.int 90))))) aq)
theorem Iw (n0:Nat):MSs G ⟨false,n0⟩ tT Fh (y9 n0):=
 (al (bj (ay (gN (cG (bi (bn Z) (jY Z) (jZ Z) af (ag (aO (mW Z)) ak))) (aO (AK Z)) (aO (Mv Z))))) av)
theorem Ix:DefF G tT 269 Ur Fh:=Z.df
def za:Fn:=aR tT 1 [] id y9
theorem Iy:aJ G false id 3 (.ref 269) za:=bJ (Ix Z) dQ (Iw Z)
def tV:bP:=dj za
theorem Is:cS G 3 (.ref 269) tV:=dM (Iy Z)
noncomputable abbrev vC:FI:=fi ["port","is_ready","here","is_held"] ["SYNCHRONIZATION","COLLECTING"] 2 297 "next_mux.<locals>."
def BS (n0:Nat):aF:=(ai (bx 2 (xP (aB 12 [279] (aa 0)))) (ai (aQ (yT (aV bp (aa 2) (ah (.str "detached")))) (ai (a9 (xP (et (aV cY (aB 11 [279] (aa 0)) (ah (.str "unselected"))) (ah (.str "waiting")) (aa 2)))) aq) aq) (ai (aQ (yT (aV bp (aa 2) (ah (.str "waiting")))) (ai (aQ (yT (aV bp (aB 11 [279] (aa 0)) (ah (.str "unselected")))) (ai (a9 (xP (ah (.str "detached")))) aq) aq) (ai (a9 (xP (et (cK (aV bp (aB 11 [279] (aa 0)) (ah (.str "selected"))) (cK (bU (aa 1)) (dF true))) (ah (.str "attached")) (aa 2)))) aq)) aq) (ai (bx 3 (xP (er bp (aB 11 [279] (aa 0)) (ah (.str "selected"))))) (ai (aQ (yT (aV bp (aa 2) (ah (.str "attached")))) (ai (aQ (yT (dn (bU (aa 3)))) (ai (a9 (xP (ah (.str "detached")))) aq) aq) (ai (a9 (xP (et (bU (aT 279 gc (aa 0) (ae (aY (.int 8)) aj))) (ah (.str "collecting")) (aa 2)))) aq)) aq) (ai (aQ (yT (d4 (dn (bU (aa 3))) (d4 (dn (bU (aT 279 gc (aa 0) (ae (aY (.int 8)) aj)))) (dF false)))) (ai (a9 (xP (ah (.str "attached")))) aq) aq) (ai (aQ (yT (aV bp (aa 2) (ah (.str "collecting")))) (ai (a9 (xP (et (bU (aT 279 gc (aa 0) (ae (aY (.int 16)) aj))) (ah (.str "distributing")) (aa 2)))) aq) aq) (ai (a9 (xP (et (bU (aT 279 gc (aa 0) (ae (aY (.int 16)) aj))) (aa 2) (ah (.str "collecting"))))) aq))))))))
theorem Oh (n0:Nat):MSs G ⟨false,n0⟩ vC Fj (BS n0):=
 (al (cV (ay (aE (kq Z) (kr Z) af))) (al (bG (bA (bF cX af bI)) (al (bj (ay (gN (bF eT (aE (fK Z) (fM Z) af) bI) bI af))) av) av) (al (bG (bA (bF cX af bI)) (al (bG (bA (bF cX (aE (fK Z) (fM Z) af) bI)) (al (bj (ay bI)) av) av) (al (bj (ay (gN (eB (ef (bF cX (aE (fK Z) (fM Z) af) bI) (ef (cG af) iM))) bI af))) av)) av) (al (cV (ay (fD cX (aE (fK Z) (fM Z) af) bI))) (al (bG (bA (bF cX af bI)) (al (bG (bA (dU (cG af))) (al (bj (ay bI)) av) av) (al (bj (ay (gN (cG (bi (bn Z) (i9 Z) (ja Z) af (ag (aO (mD Z)) ak))) bI af))) av)) av) (al (bG (bA (eB (eQ (dU (cG af)) (eQ (dU (cG (bi (bn Z) (i9 Z) (ja Z) af (ag (aO (mD Z)) ak)))) jd)))) (al (bj (ay bI)) av) av) (al (bG (bA (bF cX af bI)) (al (bj (ay (gN (cG (bi (bn Z) (i9 Z) (ja Z) af (ag (aO (vh Z)) ak))) bI af))) av) av) (al (bj (ay (gN (cG (bi (bn Z) (i9 Z) (ja Z) af (ag (aO (vh Z)) ak))) af bI))) av))))))))
theorem Oi:DefF G vC 298 Ut Fj:=Z.df
def BU:Fn:=aR vC 2 [] id BS
theorem Oj:aJ G false id 3 (.ref 298) BU:=bJ (Oi Z) cF (Oh Z)
def mN:bP:=dj BU
theorem Nx:cS G 3 (.ref 298) mN:=dM (Oj Z)
noncomputable abbrev uU:FI:=⟨[("ports", .local),("bundle", .cell),("waiting", .local)],["ports","bundle","waiting"],0, .ref 309,"have_waited.<locals>."⟩
abbrev JS:FI:=mw ["port"] [] 0 309 "have_waited.<locals>."
noncomputable abbrev JT:FI:=⟨[(".0", .local),("port", .local),("bundle", .cell)],["port","bundle"],0, .ref 309,"have_waited.<locals>."⟩
def AS (n0:Nat):aF:=(ai (bx 2 (xP (d5 (iP (aa 0)) (some ("bundle",1)) (aa 0) [(cK (aV bp (aB 13 [279] (aa 0)) (aa 1)) (cK (aV bp (aB 12 [279] (aa 0)) (ah (.str "waiting"))) (cK (aV bp (aB 11 [279] (aa 0)) (ah (.str "selected"))) (dF true))))]))) (ai (a9 (xP (er bp (d5 (iP (aa 2)) none (aa 0) [(aV (de λa b=>decide (b< a)) (aB 14 [279] (aa 0)) (ah (.int 0)))]) (bD aj)))) aq))
theorem LK (n0:Nat):MSs G ⟨false,n0⟩ uU Fm (AS n0):=
 (al (lC (Γc:=JT) .of1 (eJ af) af (.cons (eB (ef (bF cX (aE (gj Z) (gm Z) af) af) (ef (bF cX (aE (kq Z) (kr Z) af) bI) (ef (bF cX (aE (fK Z) (fM Z) af) bI) iM)))) .nil)) (al (bj (ay (fD cX (iU (Γc:=JS) .of0 (eJ af) af (.cons (bF sH (aE (mJ Z) (mK Z) af) an) .nil)) (cN ak)))) av))
theorem LL:DefF G uU 310 Uv Fm:=Z.df
def AT:Fn:=aR uU 2 [] id AS
theorem LM:aJ G false id 1 (.ref 310) AT:=jB (LL Z) cF (LK Z)
def qN:bP:=dj AT
theorem Le:cS G 1 (.ref 310) qN:=dM (LM Z)
noncomputable abbrev uV:FI:=fi ["one","other"] ["has_bit","AGGREGATION"] 1 344 "is_same_end.<locals>."
def AU (n0:Nat):aF:=(ai (a9 (xP (jE (er bp (iq (aa 0) (ah (.int 3))) (iq (aa 1) (ah (.int 3)))) (er bp (aL gH (ae (aa 0) (ae (aY (.int 4)) aj))) (aL gH (ae (aa 1) (ae (aY (.int 4)) aj))))))) aq)
theorem LN (n0:Nat):MSs G ⟨false,n0⟩ uV Ft (AU n0):=
 (al (bj (ay (pw (fD cX (jr af an) (jr af an)) (lN (fD cX (cj (j5 Z) (j6 Z) (j8 Z) (ag af (ag (aO (mE Z)) ak))) (cj (j5 Z) (j6 Z) (j8 Z) (ag af (ag (aO (mE Z)) ak)))))))) av)
theorem LP:DefF G uV 345 UA Ft:=Z.df
def AW:Fn:=aR uV 2 [] id AU
theorem LQ:aJ G false id 2 (.ref 345) AW:=bJ (LP Z) cF (LN Z)
def oK:bP:=dj AW
theorem An:cS G 2 (.ref 345) oK:=dM (LQ Z)
noncomputable abbrev vD:FI:=fi ["port","pdu"] ["KNOWN_BITS"] 0 351 "knows_us.<locals>."
def BV (n0:Nat):aF:=(ai (a9 (xP (jE (er bp (iq (aB 8 [279,124] (aa 1)) (ah (.int 3))) (iq (aB 7 [279,124] (aa 0)) (ah (.int 3)))) (er bp (a8 (bc nH) (a8 (bc Ho) (bz (aB 8 [279,124] (aa 1)) (ah (.int 3))) (bz (aB 7 [279,124] (aa 0)) (ah (.int 3)))) (aY (.int 15))) (ah (.int 0)))))) aq)
theorem Ol (n0:Nat):MSs G ⟨false,n0⟩ vD Fu (BV n0):=
 (al (bj (ay (pw (fD cX (jr (aE (d9 Z) (ec Z) af) an) (jr (aE (ez Z) (eA Z) af) an)) (lN (fD cX (be rS (be TV (bM (aE (d9 Z) (ec Z) af) an) (bM (aE (ez Z) (eA Z) af) an)) (aO (LD Z))) an))))) av)
theorem Om:DefF G vD 352 UB Fu:=Z.df
def BW:Fn:=aR vD 2 [] id BV
theorem On:aJ G false id 1 (.ref 352) BW:=bJ (Om Z) cF (Ol Z)
def vT:bP:=dj BW
theorem Ny:cS G 1 (.ref 352) vT:=dM (On Z)
end
section
variable (Z:IsG G)
include Z
noncomputable abbrev vi:FI:=fi ["port","pdu"] ["has_bit","SYNCHRONIZATION","ACTIVITY","is_same_end","AGGREGATION"] 2 358 "is_in_step.<locals>."
def Be (n0:Nat):aF:=(ai (aQ (yT (dn (bU (aL gH (ae (aB 7 [279,124] (aa 1)) (ae (aY (.int 8)) aj)))))) (ai (a9 (xP (ah (.bool false)))) aq) aq) (ai (aQ (yT (cK (dn (bU (aL gH (ae (aB 7 [279,124] (aa 1)) (ae (aY (.int 1)) aj))))) (cK (dn (cK (bU (aT 279 ie (aa 0) (ae (aY (.int 1)) aj))) (cK (bU (aL gH (ae (aB 8 [279,124] (aa 1)) (ae (aY (.int 1)) aj)))) (dF true)))) (dF true)))) (ai (a9 (xP (ah (.bool false)))) aq) aq) (ai (a9 (xP (mn (aL oK (ae (aB 8 [279,124] (aa 1)) (ae (aB 7 [279,124] (aa 0)) aj))) (kK (aL gH (ae (aB 7 [279,124] (aa 1)) (ae (aY (.int 4)) aj))))))) aq)))
theorem MF (n0:Nat):MSs G ⟨false,n0⟩ vi Fv (Be n0):=
 (al (bG (bA (dU (cG (cj (j5 Z) (j6 Z) (j8 Z) (ag (aE (ez Z) (eA Z) af) (ag (aO (mD Z)) ak)))))) (al (bj (ay cZ)) av) av) (al (bG (bA (eB (ef (dU (cG (cj (j5 Z) (j6 Z) (j8 Z) (ag (aE (ez Z) (eA Z) af) (ag (aO (mM Z)) ak))))) (ef (dU (eB (ef (cG (bi (bn Z) (jY Z) (jZ Z) af (ag (aO (mM Z)) ak))) (ef (cG (cj (j5 Z) (j6 Z) (j8 Z) (ag (aE (d9 Z) (ec Z) af) (ag (aO (mM Z)) ak)))) iM)))) iM)))) (al (bj (ay cZ)) av) av) (al (bj (ay (x8 (cj (Ah Z) (Ai Z) (An Z) (ag (aE (d9 Z) (ec Z) af) (ag (aE (ez Z) (eA Z) af) ak))) (lN (pz (cj (j5 Z) (j6 Z) (j8 Z) (ag (aE (ez Z) (eA Z) af) (ag (aO (mE Z)) ak)))))))) av)))
theorem MG:DefF G vi 359 UC Fv:=Z.df
def Bf:Fn:=aR vi 2 [] id Be
theorem MH:aJ G false id 3 (.ref 359) Bf:=bJ (MG Z) cF (MF Z)
def vx:bP:=dj Bf
theorem LR:cS G 3 (.ref 359) vx:=dM (MH Z)
noncomputable abbrev uP:FI:=fi ["self","port"] [] 3 410 "Chooser.rank.<locals>."
def Ao (n0:Nat):aF:=(ai (a9 (xP (et (d4 (aV qa (aB 19 [433] (aa 0)) (bz (aB 8 [279,124] (aa 1)) (ah (.int 0)))) (d4 (bU (aT 279 qw (aa 1) aj)) (dF false))) (bz (aB 7 [279,124] (aa 1)) (ah (.int 2))) (bz (aB 8 [279,124] (aa 1)) (ah (.int 2)))))) aq)
theorem Lg (n0:Nat):MSs G ⟨false,n0⟩ uP FD (Ao n0):=
 (al (bj (ay (gN (eB (eQ (bF wS (aE (CE Z) (CF Z) af) (bM (aE (d9 Z) (ec Z) af) an)) (eQ (cG (bi (bn Z) (zh Z) (zi Z) af ak)) jd))) (bM (aE (ez Z) (eA Z) af) an) (bM (aE (d9 Z) (ec Z) af) an)))) av)
theorem Lh:DefF G uP 411 UJ FD:=Z.df
def Ap:Fn:=aR uP 2 [] id Ao
theorem Li:aJ G false id 4 (.ref 411) Ap:=bJ (Lh Z) cF (Lg Z)
def qJ:bP:=dj Ap
theorem Kv:cS G 4 (.ref 411) qJ:=dM (Li Z)
noncomputable abbrev vj:FI:=fi ["system","row","small"] ["SizeError"] 0 441 "check_room.<locals>."
abbrev Kw:FI:=mw ["number"] ["ROOM"] 0 441 "check_room.<locals>."
def Bg (n0:Nat):aF:=(ai (bx 2 (xP (bD (ae (bz (aa 0) (ah (.int 0))) (ae (a8 (bc jF) (aB 0 [188] (aa 1)) (ah (.int 1))) (ae (aB 0 [188] (aa 1)) (ae (aB 1 [188] (aa 1)) (ae (aB 2 [188] (aa 1)) aj)))))))) (ai (aQ (yT (d4 (aV cY (d5 (iP (aa 2)) none (aa 0) [(dn (iZ (ah (.int 0)) (i3 (de λa b=>decide (a≤b)) (aa 0) (i1 (de λa b=>decide (a< b)) (aY (.int 65536))))))]) (bD aj)) (d4 (dn (iZ (ah (.int 0)) (i3 (de λa b=>decide (a≤b)) (bz (aa 0) (ah (.int 1))) (i1 (de λa b=>decide (a< b)) (a8 (bc pV) (ah (.int 1)) (ah (.int 48))))))) (dF false)))) (ai (λ_ _=>none) aq) aq) aq))
theorem MJ (n0:Nat):MSs G ⟨false,n0⟩ vj rY (Bg n0):=
 (al (cV (ay (cN (ag (bM af an) (ag (be kj (aE (gF Z) (gG Z) af) an) (ag (aE (gF Z) (gG Z) af) (ag (aE (qS Z) (qU Z) af) (ag (aE (pE Z) (pF Z) af) ak)))))))) (al (bG (bA (eB (eQ (bF eT (iU (Γc:=Kw) .of0 (eJ af) af (.cons (dU (mU an (mT nJ af (mS i0 (aO (D3 Z)))))) .nil)) (cN ak)) (eQ (dU (mU an (mT nJ (bM af an) (mS i0 (be rT an an))))) jd)))) (al (nu _) av) av) av))
theorem MK:DefF G vj 442 FH rY:=Z.df
def vy:Fn:=aR vj 2 [] id Bg
theorem ML:aJ G false id 1 (.ref 442) vy:=bJ (MK Z) cF (MJ Z)
def oR:bP:=dj vy
theorem LS:cS G 1 (.ref 442) oR:=dM (ML Z)
noncomputable abbrev t7:FI:=⟨[("self", .cell),("sorted", .globalImplicit)],["self"],0, .ref 461,"Bundles.all_ports.<locals>."⟩
noncomputable abbrev It:FI:=⟨[(".0", .local),("number", .local),("self", .cell)],["number","self"],0, .ref 461,"Bundles.all_ports.<locals>."⟩
def zj (n0:Nat):aF:=(ai (a9 (xP (d5 (iP (aL iT (ae (aB 22 [543] (aa 0)) aj))) (some ("self",0)) (bz (aB 22 [543] (aa 1)) (aa 0)) []))) aq)
theorem IQ (n0:Nat):MSs G ⟨false,n0⟩ t7 FJ (zj n0):=
 (al (bj (ay (iU (Γc:=It) .of1 (eJ (dA (pd Z) ry (ag (aE (jo Z) (jq Z) af) ak))) (bM (aE (jo Z) (jq Z) af) af) .nil))) av)
theorem IR:DefF G t7 462 UN FJ:=Z.df
def zk:Fn:=aR t7 1 [] id zj
theorem IS:aJ G false id 1 (.ref 462) zk:=jB (IR Z) dQ (IQ Z)
def jW:bP:=dj zk
theorem oz:cS G 1 (.ref 462) jW:=dM (IS Z)
noncomputable abbrev uQ:FI:=fi ["self","number"] ["TableError"] 0 468 "Bundles.port.<locals>."
def Aq (n0:Nat):aF:=(ai (aQ (yT (jN true (aa 1) (aB 22 [543] (aa 0)))) (ai (λ_ _=>none) aq) aq) (ai (a9 (xP (bz (aB 22 [543] (aa 0)) (aa 1)))) aq))
theorem Lj (n0:Nat):MSs G ⟨false,n0⟩ uQ rZ (Aq n0):=
 (al (bG (bA (wm af (aE (jo Z) (jq Z) af))) (al (nu _) av) av) (al (bj (ay (bM (aE (jo Z) (jq Z) af) af))) av))
theorem Lk:DefF G uQ 469 FK rZ:=Z.df
def Ar:Fn:=aR uQ 2 [] id Aq
theorem Ll:aJ G false id 1 (.ref 469) Ar:=bJ (Lk Z) cF (Lj Z)
def lw:bP:=dj Ar
theorem qE:cS G 1 (.ref 469) lw:=dM (Ll Z)
noncomputable abbrev ui:FI:=⟨[("self", .local),("bundle", .cell)],["self","bundle"],1, .ref 515,"Bundles.members.<locals>."⟩
noncomputable abbrev IH:FI:=⟨[(".0", .local),("port", .local),("bundle", .cell)],["port","bundle"],1, .ref 515,"Bundles.members.<locals>."⟩
def zI (n0:Nat):aF:=(ai (a9 (xP (d5 (iP (aT 543 jW (aa 0) aj)) (some ("bundle",1)) (aB 0 [188] (aB 6 [279] (aa 0))) [(cK (aV bp (aB 13 [279] (aa 0)) (aa 1)) (cK (aV bp (aB 12 [279] (aa 0)) (ah (.str "distributing"))) (dF true)))]))) aq)
theorem JA (n0:Nat):MSs G ⟨false,n0⟩ ui FS (zI n0):=
 (al (bj (ay (iU (Γc:=IH) .of1 (eJ (bi (cy Z) (ow Z) (oz Z) af ak)) (aE (gF Z) (gG Z) (aE (ny Z) (nz Z) af)) (.cons (eB (ef (bF cX (aE (gj Z) (gm Z) af) af) (ef (bF cX (aE (kq Z) (kr Z) af) bI) iM))) .nil)))) av)
theorem JB:DefF G ui 516 UT FS:=Z.df
def zJ:Fn:=aR ui 2 [] id zI
theorem JC:aJ G false id 2 (.ref 516) zJ:=jB (JB Z) cF (JA Z)
def oE:bP:=dj zJ
theorem zx:cS G 2 (.ref 516) oE:=dM (JC Z)
noncomputable abbrev tU:FI:=⟨[("self", .local),("bundle", .cell)],["self","bundle"],2, .ref 527,"Bundles.has_partner.<locals>."⟩
noncomputable abbrev Ii:FI:=⟨[(".0", .local),("port", .local),("DEFAULTED", .globalImplicit),("bundle", .cell)],["port","bundle"],2, .ref 527,"Bundles.has_partner.<locals>."⟩
def zb (n0:Nat):aF:=(ai (a9 (xP (er cY (d5 (iP (aT 543 jW (aa 0) aj)) (some ("bundle",1)) (aa 0) [(cK (aV bp (aB 13 [279] (aa 0)) (aa 1)) (cK (dn (bU (aT 279 ie (aa 0) (ae (aY (.int 64)) aj)))) (dF true)))]) (bD aj)))) aq)
theorem Iz (n0:Nat):MSs G ⟨false,n0⟩ tU FT (zb n0):=
 (al (bj (ay (fD eT (iU (Γc:=Ii) .of1 (eJ (bi (cy Z) (ow Z) (oz Z) af ak)) af (.cons (eB (ef (bF cX (aE (gj Z) (gm Z) af) af) (ef (dU (cG (bi (bn Z) (jY Z) (jZ Z) af (ag (aO (j1 Z)) ak)))) iM))) .nil)) (cN ak)))) av)
theorem IA:DefF G tU 528 UU FT:=Z.df
def zc:Fn:=aR tU 2 [] id zb
theorem IB:aJ G false id 3 (.ref 528) zc:=jB (IA Z) cF (Iz Z)
def tW:bP:=dj zc
theorem y8:cS G 3 (.ref 528) tW:=dM (IB Z)
noncomputable abbrev t8:FI:=fi ["self","number"] [] 1 534 "Bundles.bundle_of.<locals>."
def zl (n0:Nat):aF:=(ai (a9 (xP (aB 13 [279] (aT 543 lw (aa 0) (ae (aa 1) aj))))) aq)
theorem IT (n0:Nat):MSs G ⟨false,n0⟩ t8 FU (zl n0):=
 (al (bj (ay (aE (gj Z) (gm Z) (bi (cy Z) (oH Z) (qE Z) af (ag af ak))))) av)
theorem IU:DefF G t8 535 UV FU:=Z.df
def zm:Fn:=aR t8 2 [] id zl
theorem IV:aJ G false id 2 (.ref 535) zm:=bJ (IU Z) cF (IT Z)
def ic:bP:=dj zm
theorem oA:cS G 2 (.ref 535) ic:=dM (IV Z)
end
section
variable (Z:IsG G)
include Z
noncomputable abbrev vz:FI:=⟨[("end", .cell),("numbers", .local),("held", .local),("len", .globalImplicit),("set", .globalImplicit)],["end","numbers","held"],2, .ref 586,"_law_alone.<locals>."⟩
noncomputable abbrev Lm:FI:=⟨[(".0", .local),("number", .local),("end", .cell)],["number","end"],2, .ref 586,"_law_alone.<locals>."⟩
noncomputable abbrev Ln:FI:=⟨[(".0", .local),("number", .local),("end", .cell)],["number","end"],2, .ref 586,"_law_alone.<locals>."⟩
def Bw (n0:Nat):aF:=(ai (bx 2 (xP (d5 (iP (aa 1)) (some ("end",0)) (aT 543 ic (aa 1) (ae (aa 0) aj)) []))) (ai (aQ (yT (d4 (aV fb (ah .none) (aa 2)) (d4 (aV cY (rH (aa 2)) (aL fq (ae (aa 2) aj))) (dF false)))) (ai (a9 (xP (ah (.bool false)))) aq) aq) (ai (a9 (xP (er bp (d5 (iP (aa 1)) (some ("end",0)) (aa 0) [(aV cY (aT 543 oE (aa 1) (ae (aT 543 ic (aa 1) (ae (aa 0) aj)) aj)) (bD (ae (aa 0) aj)))]) (bD aj)))) aq)))
theorem Nz (n0:Nat):MSs G ⟨false,n0⟩ vz F0 (Bw n0):=
 (al (lC (Γc:=Ln) .of1 (eJ af) (bi (cy Z) (oy Z) (oA Z) af (ag af ak)) .nil) (al (bG (bA (eB (eQ (bF yd ki af) (eQ (bF eT (Ph (lS Z) (U7 Z) af) (dA (lS Z) nP (ag af ak))) jd)))) (al (bj (ay cZ)) av) av) (al (bj (ay (fD cX (iU (Γc:=Lm) .of1 (eJ af) af (.cons (bF eT (bi (cy Z) (zu Z) (zx Z) af (ag (bi (cy Z) (oy Z) (oA Z) af (ag af ak)) ak)) (cN (ag af ak))) .nil)) (cN ak)))) av)))
theorem NA:DefF G vz 587 U1 F0:=Z.df
def Bx:Fn:=aR vz 2 [] id Bw
theorem NB:aJ G false id 3 (.ref 587) Bx:=jB (NA Z) cF (Nz Z)
def qW:bP:=dj Bx
theorem Bh:cS G 3 (.ref 587) qW:=dM (NB Z)
noncomputable abbrev uX:FI:=fi ["self","actor","partner","most_delay"] [] 0 113 "Lacpdu.__init__.<locals>."
def AX (n0:Nat):aF:=(ai (aN n0 7 [279,124] (aa 0) (xP (aa 1))) (ai (aN n0 8 [279,124] (aa 0) (xP (aa 2))) (ai (aN n0 18 [124] (aa 0) (xP (aa 3))) aq)))
theorem LT (n0:Nat):MSs G ⟨false,n0⟩ uX EV (AX n0):=
 (al (aZ (ez Z) (eA Z) (ay af) af) (al (aZ (d9 Z) (ec Z) (ay af) af) (al (aZ (LI Z) (LJ Z) (ay af) af) av)))
theorem LU:DefF G uX 114 EW EV:=Z.df
def AY:Fn:=aR uX 3 [.int 0] (λn=>n - 1) AX
theorem LV:aJ G false (λn=>n - 1) 1 (.ref 114) AY:=oa (LU Z) (Jo Z) (λ_ _ _ _ _=> .cons .i (.nil)) (LT Z)
def mX:bP:=nX 124 AY
theorem rm:cS G 2 (.ref 124) mX:=BE (Pv Z) (LV Z)
noncomputable abbrev qF:FI:=fi ["self","number","priority","key","is_active","is_short","may_join"] [] 0 170 "LacpRow.__init__.<locals>."
def uY (n0:Nat):aF:=(ai (aN n0 0 [188] (aa 0) (xP (aa 1))) (ai (aN n0 1 [188] (aa 0) (xP (aa 2))) (ai (aN n0 2 [188] (aa 0) (xP (aa 3))) (ai (aN n0 3 [188] (aa 0) (xP (aa 4))) (ai (aN n0 4 [188] (aa 0) (xP (aa 5))) (ai (aN n0 5 [188] (aa 0) (xP (aa 6))) aq))))))
theorem As (n0:Nat):MSs G ⟨false,n0⟩ qF E0 (uY n0):=
 (al (aZ (gF Z) (gG Z) (ay af) af) (al (aZ (qS Z) (qU Z) (ay af) af) (al (aZ (pE Z) (pF Z) (ay af) af) (al (aZ (Bc Z) (Bd Z) (ay af) af) (al (aZ (Br Z) (Bt Z) (ay af) af) (al (aZ (Bu Z) (Bv Z) (ay af) af) av))))))
theorem Au:DefF G qF 171 xq E0:=Z.df
def uD:Fn:=aR qF 4 [.bool true, .bool false, .bool true] (λn=>n - 1) uY
theorem JU:aJ G false (λn=>n - 1) 1 (.ref 171) uD:=oa (Au Z) (I9 Z) (λ_ _ _ _ _=> .cons .b (.cons .b (.cons .b (.nil)))) (As Z)
def zT:Fn:=aR qF 6 [.bool true] (λn=>n - 1) uY
theorem JV:aJ G false (λn=>n - 1) 1 (.ref 171) zT:=oa (Au Z) (IP Z) (λ_ _ _ _ _=> .cons .b (.nil)) (As Z)
def Av:Fn:=jI uD zT
theorem Lp:aJ G false (λn=>n - 1) 1 (.ref 171) Av:=CD (JU Z) (JV Z)
def ed:bP:=nX 188 Av
theorem gi:cS G 2 (.ref 188) ed:=BE (Oc Z) (Lp Z)
noncomputable abbrev uE:FI:=fi ["self","system","row"] ["DEFAULTED","NOBODY"] 1 205 "LacpPort.__init__.<locals>."
def z5 (n0:Nat):aF:=(ai (aN n0 6 [279] (aa 0) (xP (aa 2))) (ai (aN n0 7 [279,124] (aa 0) (xP (bl (ae (aa 1) (ae (aB 2 [188] (aa 2)) (ae (aT 188 um (aa 2) aj) (ae (a8 (bc yx) (aT 188 uT (aa 2) aj) (aY (.int 64))) aj))))))) (ai (aN n0 8 [279,124] (aa 0) (xP (aY (.tup [.tup [.int 0, .int 0], .int 0, .tup [.int 0, .int 0], .int 56])))) (ai (aN n0 9 [279] (aa 0) (xP (ah (.str "disabled")))) (ai (aN n0 10 [279] (aa 0) (xP (ah (.int 0)))) (ai (aN n0 11 [279] (aa 0) (xP (ah (.str "unselected")))) (ai (aN n0 12 [279] (aa 0) (xP (ah (.str "detached")))) (ai (aN n0 13 [279] (aa 0) (xP (ah .none))) (ai (aN n0 14 [279] (aa 0) (xP (ah (.int 0)))) (ai (aN n0 15 [279] (aa 0) (xP (ah (.int 0)))) (ai (aN n0 16 [279] (aa 0) (xP (ah (.bool false)))) (ai (aN n0 17 [279] (aa 0) (xP (ah (.int 0)))) aq))))))))))))
theorem Kx (n0:Nat):MSs G ⟨false,n0⟩ uE E8 (z5 n0):=
 (al (aZ (ny Z) (nz Z) (ay af) af) (al (aZ (ez Z) (eA Z) (ay (cE (ag af (ag (aE (pE Z) (pF Z) af) (ag (bi (j7 Z) (Ja Z) (Jb Z) af ak) (ag (be GM (bi (j7 Z) (Ko Z) (Kr Z) af ak) (aO (j1 Z))) ak)))))) af) (al (aZ (d9 Z) (ec Z) (ay (aO (re Z))) af) (al (aZ (kc Z) (kd Z) (ay bI) af) (al (aZ (lx Z) (ly Z) (ay an) af) (al (aZ (fK Z) (fM Z) (ay bI) af) (al (aZ (kq Z) (kr Z) (ay bI) af) (al (aZ (gj Z) (gm Z) (ay ki) af) (al (aZ (mJ Z) (mK Z) (ay an) af) (al (aZ (lz Z) (lA Z) (ay an) af) (al (aZ (iK Z) (iL Z) (ay cZ) af) (al (aZ (oP Z) (oQ Z) (ay an) af) av))))))))))))
theorem Ky:DefF G uE 206 Uh E8:=Z.df
def z6:Fn:=aR uE 3 [] (λn=>n - 1) z5
theorem Kz:aJ G false (λn=>n - 1) 2 (.ref 206) z6:=bJ (Ky Z) lb (Kx Z)
def qZ:Fn:=l6 279 z6
theorem NC:aJ G false id 3 (.ref 279) qZ:=v7 (Nw Z) (Kz Z)
noncomputable abbrev uR:FI:=fi ["self","system","most"] [] 0 393 "Chooser.__init__.<locals>."
def Aw (n0:Nat):aF:=(ai (aN n0 19 [433] (aa 0) (xP (aa 1))) (ai (aN n0 20 [433] (aa 0) (xP (aa 2))) (ai (aN n0 21 [433] (aa 0) ye) aq)))
theorem Lq (n0:Nat):MSs G ⟨false,n0⟩ uR Fz (Aw n0):=
 (al (aZ (CE Z) (CF Z) (ay af) af) (al (aZ (D4 Z) (D5 Z) (ay af) af) (al (aZ (iO Z) (iQ Z) DO af) av)))
theorem Lr:DefF G uR 394 UG Fz:=Z.df
def Ax:Fn:=aR uR 3 [] (λn=>n - 1) Aw
theorem Ls:aJ G false (λn=>n - 1) 1 (.ref 394) Ax:=bJ (Lr Z) lb (Lq Z)
def wd:Fn:=l6 433 Ax
theorem Oo:aJ G false id 2 (.ref 433) wd:=v7 (Od Z) (Ls Z)
noncomputable abbrev qG:FI:=fi ["self","system","rows","most","row"] ["SizeError","check_room","TableError","LacpPort","Chooser"] 3 456 "Bundles.__init__.<locals>."
def uZ (n0:Nat):aF:=(ai (aQ (yT (aV (de λa b=>decide (a< b)) (aa 3) (ah (.int 1)))) (ai (λ_ _=>none) aq) aq) (ai (aN n0 22 [543] (aa 0) sK) (ai (cP (iX (xP (aa 2))) (bh 4) (ai (bo (xP (aL oR (ae (aa 1) (ae (aa 4) aj))))) (ai (aQ (yT (jN false (aB 0 [188] (aa 4)) (aB 22 [543] (aa 0)))) (ai (λ_ _=>none) aq) aq) (ai (iu (iA n0 (aB 22 [543] (aa 0)) (aB 0 [188] (aa 4))) (bB n0 id qZ (yA (ae (aa 1) (ae (aa 4) aj))))) aq)))) (ai (aN n0 23 [543] (aa 0) (bB n0 id wd (yA (ae (aa 1) (ae (aa 3) aj))))) aq))))
theorem Ay (n0:Nat):MSs G ⟨false,n0⟩ qG nv (uZ n0):=
 (al (bG (bA (bF i0 af an)) (al (nu _) av) av) (al (aZ (jo Z) (jq Z) wN af) (al (eE (f7 (ay af)) cz (al (cC (ay (cj (AN Z) (AP Z) (LS Z) (ag af (ag af ak))))) (al (bG (bA (V5 (aE (gF Z) (gG Z) af) (aE (jo Z) (jq Z) af))) (al (nu _) av) av) (al (js (dk (Nj Z) (Nk Z) (NC Z) (aP (ag af (ag af ak)))) (nq (aE (jo Z) (jq Z) af) (aE (gF Z) (gG Z) af))) av)))) (al (aZ (BO Z) (BP Z) (dk (Oa Z) (Ob Z) (Oo Z) (aP (ag af (ag af ak)))) af) av))))
theorem Az:DefF G qG 457 pD nv:=Z.df
def zU:Fn:=aR qG 3 [.int 8] (λn=>n - 1) uZ
theorem JW:aJ G false (λn=>n - 1) 4 (.ref 457) zU:=oa (Az Z) (zr Z) (λ_ _ _ _ _=> .cons .i (.nil)) (Ay Z)
def uF:Fn:=aR qG 4 [] (λn=>n - 1) uZ
theorem JX:aJ G false (λn=>n - 1) 4 (.ref 457) uF:=oa (Az Z) (zg Z) (λ_ _ _ _ _=> .nil) (Ay Z)
def qK:Fn:=jI zU uF
theorem Lu:aJ G false (λn=>n - 1) 4 (.ref 457) qK:=CD (JW Z) (JX Z)
def mR:Fn:=l6 543 qK
theorem vU:aJ G false id 5 (.ref 543) mR:=v7 (vR Z) (Lu Z)
noncomputable abbrev ue:FI:=fi ["self","bit","is_set","before"] ["with_bit"] 1 233 "LacpPort.set_own.<locals>."
def zy (n0:Nat):aF:=(ai (bx 3 (xP (aB 7 [279,124] (aa 0)))) (ai (aN n0 7 [279,124] (aa 0) (xP (aL j9 (ae (aa 3) (ae (aa 1) (ae (aa 2) aj)))))) (ai (a9 (xP (er cY (aB 7 [279,124] (aa 0)) (aa 3)))) aq)))
theorem Jf (n0:Nat):MSs G ⟨false,n0⟩ ue Fc (zy n0):=
 (al (cV (ay (aE (ez Z) (eA Z) af))) (al (aZ (ez Z) (eA Z) (ay (cj (qQ Z) (qR Z) (qV Z) (ag af (ag af (ag af ak))))) af) (al (bj (ay (fD eT (aE (ez Z) (eA Z) af) af))) av)))
theorem Jg:DefF G ue 234 Ul Fc:=Z.df
def gD:Fn:=aR ue 3 [] (λ_=>0) zy
theorem jX:aJ G false (λ_=>0) 2 (.ref 234) gD:=bJ (Jg Z) lb (Jf Z)
noncomputable abbrev vE:FI:=fi ["port","word","bit"] ["SYNCHRONIZATION","COLLECTING","DISTRIBUTING","BITS_OF"] 2 290 "move_mux.<locals>."
def BX (n0:Nat):aF:=(ai (aN n0 12 [279] (aa 0) (xP (aa 1))) (ai (cP (iX (xP (bl (ae (aY (.int 8)) (ae (aY (.int 16)) (ae (aY (.int 32)) aj)))))) (bh 2) (ai (aQ (fX (bW n0 (λ_=>0) 279 gD (aa 0) (yA (ae (aa 2) (ae (er cY (a8 (bc nH) (yi (aa 1)) (aa 2)) (ah (.int 0))) aj))))) (ai (aN n0 16 [279] (aa 0) (xP (ah (.bool true)))) aq) aq) aq)) aq))
theorem Op (n0:Nat):MSs G ⟨false,n0⟩ vE Fi (BX n0):=
 (al (aZ (kq Z) (kr Z) (ay af) af) (al (eE (f7 (ay (cE (ag (aO (mD Z)) (ag (aO (vh Z)) (ag (aO (Km Z)) ak)))))) cz (al (bG (sG (dB (bn Z) (jV Z) (jX Z) af (aP (ag af (ag (fD eT (be rS (Sk Z (by kernel_rfl) af) af) an) ak))))) (al (aZ (iK Z) (iL Z) (ay cZ) af) av) av) av)) av))
theorem Oq:DefF G vE 291 Us Fi:=Z.df
def vV:Fn:=aR vE 2 [] (λ_=>0) BX
theorem Os:aJ G false (λ_=>0) 3 (.ref 291) vV:=bJ (Oq Z) cF (Op Z)
end
section
variable (Z:IsG G)
include Z
noncomputable abbrev vF:FI:=fi ["port","is_ready","word"] ["next_mux","move_mux","JOIN_WAIT"] 3 304 "step_mux.<locals>."
def BY (n0:Nat):aF:=(ai (bx 2 (xP (aL mN (ae (aa 0) (ae (aa 1) aj))))) (ai (aQ (yT (aV bp (aa 2) (aB 12 [279] (aa 0)))) (ai (a9 (xP (ah (.bool false)))) aq) aq) (ai (bo (bB n0 (λ_=>0) vV (yA (ae (aa 0) (ae (aa 2) aj))))) (ai (aQ (yT (aV bp (aa 2) (ah (.str "waiting")))) (ai (aN n0 14 [279] (aa 0) (xP (aY (.int 2)))) aq) aq) (ai (aQ (yT (aV bp (aa 2) (ah (.str "detached")))) (ai (aN n0 13 [279] (aa 0) (xP (ah .none))) aq) aq) (ai (a9 (xP (ah (.bool true)))) aq))))))
theorem Ot (n0:Nat):MSs G ⟨false,n0⟩ vF Fk (BY n0):=
 (al (cV (ay (cj (Nn Z) (No Z) (Nx Z) (ag af (ag af ak))))) (al (bG (bA (bF cX af (aE (kq Z) (kr Z) af))) (al (bj (ay cZ)) av) av) (al (cC (dk (Nl Z) (Nm Z) (Os Z) (aP (ag af (ag af ak))))) (al (bG (bA (bF cX af bI)) (al (aZ (mJ Z) (mK Z) (ay (aO (My Z))) af) av) av) (al (bG (bA (bF cX af bI)) (al (aZ (gj Z) (gm Z) (ay ki) af) av) av) (al (bj (ay cZ)) av))))))
theorem Ou:DefF G vF 305 Uu Fk:=Z.df
def oX:Fn:=aR vF 2 [] (λ_=>0) BY
theorem Ov:aJ G false (λ_=>0) 4 (.ref 305) oX:=bJ (Ou Z) cF (Ot Z)
noncomputable abbrev u6:FI:=fi ["port"] [] 0 316 "wait_second.<locals>."
def AZ (n0:Nat):aF:=(ai (aQ (yT (cK (aV bp (aB 12 [279] (aa 0)) (ah (.str "waiting"))) (cK (aV (de λa b=>decide (b< a)) (aB 14 [279] (aa 0)) (ah (.int 0))) (dF true)))) (ai (aN n0 14 [279] (aa 0) (xP (a8 (bc jF) (aB 14 [279] (aa 0)) (ah (.int 1))))) aq) aq) aq)
theorem LW (n0:Nat):MSs G ⟨false,n0⟩ u6 Fo (AZ n0):=
 (al (bG (bA (eB (ef (bF cX (aE (kq Z) (kr Z) af) bI) (ef (bF sH (aE (mJ Z) (mK Z) af) an) iM)))) (al (aZ (mJ Z) (mK Z) (ay (be kj (aE (mJ Z) (mK Z) af) an)) af) av) av) av)
theorem LX:DefF G u6 317 Uw Fo:=Z.df
def oL:Fn:=aR u6 1 [] (λ_=>0) AZ
theorem LY:aJ G false (λ_=>0) 1 (.ref 317) oL:=bJ (LX Z) dQ (LW Z)
noncomputable abbrev vl:FI:=fi ["port"] ["SHORT_WAIT","with_bit","SYNCHRONIZATION","SHORT","EXPIRED"] 3 323 "begin_link.<locals>."
def Bi (n0:Nat):aF:=(ai (aN n0 9 [279] (aa 0) (xP (ah (.str "expired")))) (ai (aN n0 10 [279] (aa 0) (xP (aY (.int 3)))) (ai (aN n0 8 [279,124] (aa 0) (xP (aL j9 (ae (aL j9 (ae (aB 8 [279,124] (aa 0)) (ae (aY (.int 8)) (ae (ah (.bool false)) aj)))) (ae (aY (.int 2)) (ae (ah (.bool true)) aj)))))) (ai (bo (bW n0 (λ_=>0) 279 gD (aa 0) (yA (ae (aY (.int 128)) (ae (ah (.bool true)) aj))))) (ai (aN n0 16 [279] (aa 0) (xP (ah (.bool true)))) (ai (aN n0 15 [279] (aa 0) (xP (aT 279 oJ (aa 0) aj))) aq))))))
theorem MM (n0:Nat):MSs G ⟨false,n0⟩ vl Fp (Bi n0):=
 (al (aZ (kc Z) (kd Z) (ay bI) af) (al (aZ (lx Z) (ly Z) (ay (aO (AK Z))) af) (al (aZ (d9 Z) (ec Z) (ay (cj (qQ Z) (qR Z) (qV Z) (ag (cj (qQ Z) (qR Z) (qV Z) (ag (aE (d9 Z) (ec Z) af) (ag (aO (mD Z)) (ag cZ ak)))) (ag (aO (mW Z)) (ag cZ ak))))) af) (al (cC (dB (bn Z) (jV Z) (jX Z) af (aP (ag (aO (qY Z)) (ag cZ ak))))) (al (aZ (iK Z) (iL Z) (ay cZ) af) (al (aZ (lz Z) (lA Z) (ay (bi (bn Z) (uz Z) (uC Z) af ak)) af) av))))))
theorem MN:DefF G vl 324 Ux Fp:=Z.df
def qO:Fn:=aR vl 1 [] (λ_=>0) Bi
theorem Bj:aJ G false (λ_=>0) 4 (.ref 324) qO:=bJ (MN Z) dQ (MM Z)
noncomputable abbrev vG:FI:=fi ["port"] ["NOBODY","EXPIRED","DEFAULTED"] 2 330 "end_link.<locals>."
def BZ (n0:Nat):aF:=(ai (aN n0 9 [279] (aa 0) (xP (ah (.str "disabled")))) (ai (aN n0 10 [279] (aa 0) (xP (ah (.int 0)))) (ai (aN n0 11 [279] (aa 0) (xP (ah (.str "unselected")))) (ai (aN n0 8 [279,124] (aa 0) (xP (aY (.tup [.tup [.int 0, .int 0], .int 0, .tup [.int 0, .int 0], .int 56])))) (ai (bo (bW n0 (λ_=>0) 279 gD (aa 0) (yA (ae (aY (.int 128)) (ae (ah (.bool false)) aj))))) (ai (bo (bW n0 (λ_=>0) 279 gD (aa 0) (yA (ae (aY (.int 64)) (ae (ah (.bool true)) aj))))) (ai (aN n0 16 [279] (aa 0) (xP (ah (.bool false)))) aq)))))))
theorem Ow (n0:Nat):MSs G ⟨false,n0⟩ vG Fq (BZ n0):=
 (al (aZ (kc Z) (kd Z) (ay bI) af) (al (aZ (lx Z) (ly Z) (ay an) af) (al (aZ (fK Z) (fM Z) (ay bI) af) (al (aZ (d9 Z) (ec Z) (ay (aO (re Z))) af) (al (cC (dB (bn Z) (jV Z) (jX Z) af (aP (ag (aO (qY Z)) (ag cZ ak))))) (al (cC (dB (bn Z) (jV Z) (jX Z) af (aP (ag (aO (j1 Z)) (ag cZ ak))))) (al (aZ (iK Z) (iL Z) (ay cZ) af) av)))))))
theorem Ox:DefF G vG 331 Uy Fq:=Z.df
def vW:Fn:=aR vG 1 [] (λ_=>0) BZ
theorem Oy:aJ G false (λ_=>0) 3 (.ref 331) vW:=bJ (Ox Z) dQ (Ow Z)
noncomputable abbrev u9:FI:=fi ["port"] ["begin_link","NOBODY","DEFAULTED","EXPIRED"] 4 337 "fall_silent.<locals>."
def A2 (n0:Nat):aF:=(ai (aQ (yT (aV bp (aB 9 [279] (aa 0)) (ah (.str "current")))) (ai (bo (bB n0 (λ_=>0) qO (yA (ae (aa 0) aj)))) (ai nG aq)) aq) (ai (aN n0 9 [279] (aa 0) (xP (ah (.str "defaulted")))) (ai (aQ (yT (d4 (aV cY (iq (aB 8 [279,124] (aa 0)) (ah (.int 3))) (iq (aY (.tup [.tup [.int 0, .int 0], .int 0, .tup [.int 0, .int 0], .int 56])) (ah (.int 3)))) (d4 (dn (bU (aT 279 ie (aa 0) (ae (aY (.int 64)) aj)))) (dF false)))) (ai (aN n0 11 [279] (aa 0) (xP (ah (.str "unselected")))) aq) aq) (ai (aN n0 8 [279,124] (aa 0) (xP (aY (.tup [.tup [.int 0, .int 0], .int 0, .tup [.int 0, .int 0], .int 56])))) (ai (bo (bW n0 (λ_=>0) 279 gD (aa 0) (yA (ae (aY (.int 128)) (ae (ah (.bool false)) aj))))) (ai (bo (bW n0 (λ_=>0) 279 gD (aa 0) (yA (ae (aY (.int 64)) (ae (ah (.bool true)) aj))))) aq))))))
theorem LZ (n0:Nat):MSs G ⟨false,n0⟩ u9 Fs (A2 n0):=
 (al (bG (bA (bF cX (aE (kc Z) (kd Z) af) bI)) (al (cC (dk (AL Z) (AM Z) (Bj Z) (aP (ag af ak)))) (al rF av)) av) (al (aZ (kc Z) (kd Z) (ay bI) af) (al (bG (bA (eB (eQ (bF eT (jr (aE (d9 Z) (ec Z) af) an) (jr (aO (re Z)) an)) (eQ (dU (cG (bi (bn Z) (jY Z) (jZ Z) af (ag (aO (j1 Z)) ak)))) jd)))) (al (aZ (fK Z) (fM Z) (ay bI) af) av) av) (al (aZ (d9 Z) (ec Z) (ay (aO (re Z))) af) (al (cC (dB (bn Z) (jV Z) (jX Z) af (aP (ag (aO (qY Z)) (ag cZ ak))))) (al (cC (dB (bn Z) (jV Z) (jX Z) af (aP (ag (aO (j1 Z)) (ag cZ ak))))) av))))))
theorem Ma:DefF G u9 338 Uz Fs:=Z.df
def vm:Fn:=aR u9 1 [] (λ_=>0) A2
theorem Mb:aJ G false (λ_=>0) 5 (.ref 338) vm:=bJ (Ma Z) dQ (LZ Z)
noncomputable abbrev wU:FI:=fi ["port","pdu","was_slow"] ["is_same_end","DEFAULTED","knows_us","SHORT","with_bit","SYNCHRONIZATION","is_in_step","EXPIRED"] 3 365 "hear.<locals>."
def F9 (n0:Nat):aF:=(ai (aQ (yT (dn (bU (aT 279 fY (aa 0) aj)))) (ai nG aq) aq) (ai (aQ (yT (d4 (dn (bU (aL oK (ae (aB 7 [279,124] (aa 1)) (ae (aB 8 [279,124] (aa 0)) aj))))) (d4 (bU (aT 279 ie (aa 0) (ae (aY (.int 64)) aj))) (dF false)))) (ai (aN n0 11 [279] (aa 0) (xP (ah (.str "unselected")))) aq) aq) (ai (aQ (yT (dn (bU (aL vT (ae (aa 0) (ae (aa 1) aj)))))) (ai (aN n0 16 [279] (aa 0) (xP (ah (.bool true)))) aq) aq) (ai (bx 2 (xP (kK (aT 279 gc (aa 0) (ae (aY (.int 2)) aj))))) (ai (aN n0 8 [279,124] (aa 0) (xP (aL j9 (ae (aB 7 [279,124] (aa 1)) (ae (aY (.int 8)) (ae (aL vx (ae (aa 0) (ae (aa 1) aj))) aj)))))) (ai (bo (bW n0 (λ_=>0) 279 gD (aa 0) (yA (ae (aY (.int 64)) (ae (ah (.bool false)) aj))))) (ai (bo (bW n0 (λ_=>0) 279 gD (aa 0) (yA (ae (aY (.int 128)) (ae (ah (.bool false)) aj))))) (ai (aN n0 9 [279] (aa 0) (xP (ah (.str "current")))) (ai (aN n0 10 [279] (aa 0) (xP (aT 279 tV (aa 0) aj))) (ai (aQ (yT (cK (bU (aa 2)) (cK (bU (aT 279 gc (aa 0) (ae (aY (.int 2)) aj))) (dF true)))) (ai (aN n0 15 [279] (aa 0) (xP (ah (.int 0)))) (ai (aN n0 16 [279] (aa 0) (xP (ah (.bool true)))) aq)) aq) aq))))))))))
theorem U8 (n0:Nat):MSs G ⟨false,n0⟩ wU Fw (F9 n0):=
 (al (bG (bA (dU (cG (bi (bn Z) (lm Z) (lq Z) af ak)))) (al rF av) av) (al (bG (bA (eB (eQ (dU (cG (cj (Ah Z) (Ai Z) (An Z) (ag (aE (ez Z) (eA Z) af) (ag (aE (d9 Z) (ec Z) af) ak))))) (eQ (cG (bi (bn Z) (jY Z) (jZ Z) af (ag (aO (j1 Z)) ak))) jd)))) (al (aZ (fK Z) (fM Z) (ay bI) af) av) av) (al (bG (bA (dU (cG (cj (Nu Z) (Nv Z) (Ny Z) (ag af (ag af ak)))))) (al (aZ (iK Z) (iL Z) (ay cZ) af) av) av) (al (cV (ay (pz (bi (bn Z) (i9 Z) (ja Z) af (ag (aO (mW Z)) ak))))) (al (aZ (d9 Z) (ec Z) (ay (cj (qQ Z) (qR Z) (qV Z) (ag (aE (ez Z) (eA Z) af) (ag (aO (mD Z)) (ag (cj (LE Z) (LF Z) (LR Z) (ag af (ag af ak))) ak))))) af) (al (cC (dB (bn Z) (jV Z) (jX Z) af (aP (ag (aO (j1 Z)) (ag cZ ak))))) (al (cC (dB (bn Z) (jV Z) (jX Z) af (aP (ag (aO (qY Z)) (ag cZ ak))))) (al (aZ (kc Z) (kd Z) (ay bI) af) (al (aZ (lx Z) (ly Z) (ay (bi (bn Z) (Ir Z) (Is Z) af ak)) af) (al (bG (bA (eB (ef (cG af) (ef (cG (bi (bn Z) (i9 Z) (ja Z) af (ag (aO (mW Z)) ak))) iM)))) (al (aZ (lz Z) (lA Z) (ay an) af) (al (aZ (iK Z) (iL Z) (ay cZ) af) av)) av) av))))))))))
theorem U9:DefF G wU 366 UD Fw:=Z.df
def se:Fn:=aR wU 2 [] (λ_=>0) F9
theorem Va:aJ G false (λ_=>0) 4 (.ref 366) se:=bJ (U9 Z) cF (U8 Z)
noncomputable abbrev va:FI:=fi ["port"] ["fall_silent","min"] 5 372 "pass_second.<locals>."
def A3 (n0:Nat):aF:=(ai (aN n0 17 [279] (aa 0) (xP (ah (.int 0)))) (ai (aQ (yT (dn (bU (aT 279 fY (aa 0) aj)))) (ai nG aq) aq) (ai (aQ (yT (aV cY (aB 9 [279] (aa 0)) (ah (.str "defaulted")))) (ai (aN n0 10 [279] (aa 0) (xP (a8 (bc jF) (aB 10 [279] (aa 0)) (ah (.int 1))))) (ai (aQ (yT (aV qa (aB 10 [279] (aa 0)) (ah (.int 0)))) (ai (bo (bB n0 (λ_=>0) vm (yA (ae (aa 0) aj)))) aq) aq) aq)) aq) (ai (aN n0 15 [279] (aa 0) (xP (a8 (bc jF) (aL th (ae (aB 15 [279] (aa 0)) (ae (aT 279 oJ (aa 0) aj) aj))) (ah (.int 1))))) (ai (aQ (yT (aV qa (aB 15 [279] (aa 0)) (ah (.int 0)))) (ai (aN n0 15 [279] (aa 0) (xP (aT 279 oJ (aa 0) aj))) (ai (aN n0 16 [279] (aa 0) (xP (ah (.bool true)))) aq)) aq) aq)))))
theorem Mc (n0:Nat):MSs G ⟨false,n0⟩ va Fx (A3 n0):=
 (al (aZ (oP Z) (oQ Z) (ay an) af) (al (bG (bA (dU (cG (bi (bn Z) (lm Z) (lq Z) af ak)))) (al rF av) av) (al (bG (bA (bF eT (aE (kc Z) (kd Z) af) bI)) (al (aZ (lx Z) (ly Z) (ay (be kj (aE (lx Z) (ly Z) af) an)) af) (al (bG (bA (bF wS (aE (lx Z) (ly Z) af) an)) (al (cC (dk (K2 Z) (K3 Z) (Mb Z) (aP (ag af ak)))) av) av) av)) av) (al (aZ (lz Z) (lA Z) (ay (be kj (dA (F8 Z) GQ (ag (aE (lz Z) (lA Z) af) (ag (bi (bn Z) (uz Z) (uC Z) af ak) ak))) an)) af) (al (bG (bA (bF wS (aE (lz Z) (lA Z) af) an)) (al (aZ (lz Z) (lA Z) (ay (bi (bn Z) (uz Z) (uC Z) af ak)) af) (al (aZ (iK Z) (iL Z) (ay cZ) af) av)) av) av)))))
theorem Me:DefF G va 373 UE Fx:=Z.df
def oM:Fn:=aR va 1 [] (λ_=>0) A3
theorem Mf:aJ G false (λ_=>0) 6 (.ref 373) oM:=bJ (Me Z) dQ (Mc Z)
noncomputable abbrev vn:FI:=fi ["port"] ["HOLD","Lacpdu"] 3 379 "message_of.<locals>."
def Bk (n0:Nat):aF:=(ai (aQ (yT (dn (bU (aT 279 uA (aa 0) aj)))) (ai (aN n0 16 [279] (aa 0) (xP (ah (.bool false)))) aq) aq) (ai (aQ (yT (d4 (dn (bU (aB 16 [279] (aa 0)))) (d4 (aV (de λa b=>decide (b≤a)) (aB 17 [279] (aa 0)) (aY (.int 3))) (dF false)))) (ai (a9 (xP (ah .none))) aq) aq) (ai (aN n0 16 [279] (aa 0) (xP (ah (.bool false)))) (ai (aN n0 17 [279] (aa 0) (xP (a8 eI (aB 17 [279] (aa 0)) (ah (.int 1))))) (ai (a9 (xP (aL mX (ae (aB 7 [279,124] (aa 0)) (ae (aB 8 [279,124] (aa 0)) aj))))) aq)))))
theorem MO (n0:Nat):MSs G ⟨false,n0⟩ vn Fy (Bk n0):=
 (al (bG (bA (dU (cG (bi (bn Z) (Jp Z) (Jz Z) af ak)))) (al (aZ (iK Z) (iL Z) (ay cZ) af) av) av) (al (bG (bA (eB (eQ (dU (cG (aE (iK Z) (iL Z) af))) (eQ (bF GN (aE (oP Z) (oQ Z) af) (aO (Sm Z))) jd)))) (al (bj (ay ki)) av) av) (al (aZ (iK Z) (iL Z) (ay cZ) af) (al (aZ (oP Z) (oQ Z) (ay (be fP (aE (oP Z) (oQ Z) af) an)) af) (al (bj (ay (cj (rh Z) (rl Z) (rm Z) (ag (aE (ez Z) (eA Z) af) (ag (aE (d9 Z) (ec Z) af) ak))))) av)))))
theorem MQ:DefF G vn 380 UF Fy:=Z.df
def oS:Fn:=aR vn 1 [] (λ_=>0) Bk
theorem MR:aJ G false (λ_=>0) 4 (.ref 380) oS:=bJ (MQ Z) dQ (MO Z)
end
section
variable (Z:IsG G)
include Z
noncomputable abbrev t9:FI:=⟨[("self", .cell),("group", .local),("used", .local),("number", .local)],["self","group","used","number"],0, .ref 398,"Chooser.number_of.<locals>."⟩
noncomputable abbrev Iu:FI:=⟨[(".0", .local),("other", .local),("self", .cell)],["other","self"],0, .ref 398,"Chooser.number_of.<locals>."⟩
def zn (n0:Nat):aF:=(ai (aQ (yT (jN true (aa 1) (aB 21 [433] (aa 0)))) (ai (bx 2 (xP (d5 (iP (aB 21 [433] (aa 0))) (some ("self",0)) (bz (aB 21 [433] (aa 1)) (aa 0)) []))) (ai (bx 3 (xP (ah (.int 1)))) (ai (ko (yT (aV fb (aa 3) (aa 2))) (ai (bx 3 (xP (a8 eI (aa 3) (ah (.int 1))))) aq) 60) (ai (iu (iA n0 (aB 21 [433] (aa 0)) (aa 1)) (xP (aa 3))) aq)))) aq) (ai (a9 (xP (bz (aB 21 [433] (aa 0)) (aa 1)))) aq))
theorem IW (n0:Nat):MSs G ⟨false,n0⟩ t9 FA (zn n0):=
 (al (bG (bA (wm af (aE (iO Z) (iQ Z) af))) (al (lC (Γc:=Iu) .of1 (eJ (aE (iO Z) (iQ Z) af)) (bM (aE (iO Z) (iQ Z) af) af) .nil) (al (cV (ay an)) (al (Qt 60 (bA (bF yd af af)) (al (cV (ay (be fP af an))) av)) (al (js (ay af) (nq (aE (iO Z) (iQ Z) af) af)) av)))) av) (al (bj (ay (bM (aE (iO Z) (iQ Z) af) af))) av))
theorem IX:DefF G t9 399 UH FA:=Z.df
def oB:Fn:=aR t9 2 [] (λ_=>0) zn
theorem IY:aJ G false (λ_=>0) 1 (.ref 399) oB:=jB (IX Z) cF (IW Z)
noncomputable abbrev tX:FI:=fi ["self","ports","held","groups","group"] ["list"] 4 403 "Chooser.drop_empty.<locals>."
abbrev Ij:FI:=mw ["port"] [] 4 403 "Chooser.drop_empty.<locals>."
abbrev Ik:FI:=mw ["port"] [] 4 403 "Chooser.drop_empty.<locals>."
def zd (n0:Nat):aF:=(ai (bx 2 (xP (d5 (iP (aa 1)) none (aB 13 [279] (aa 0)) []))) (ai (bx 3 (xP (d5 (iP (aa 1)) none (aT 279 iI (aa 0) aj) [(bU (aT 279 fY (aa 0) aj))]))) (ai (cP (iX (xP (aL yf (ae (aB 21 [433] (aa 0)) aj)))) (bh 4) (ai (aQ (yT (cK (aV (λx y=>(fb x y).map not) (aa 4) (aa 3)) (cK (aV (λx y=>(fb x y).map not) (bz (aB 21 [433] (aa 0)) (aa 4)) (aa 2)) (dF true)))) (ai (bo (hZ "dict" n0 pZ (aB 21 [433] (aa 0)) (yA (ae (aa 4) aj)))) aq) aq) aq)) aq)))
theorem II (n0:Nat):MSs G ⟨false,n0⟩ tX FC (zd n0):=
 (al (lC (Γc:=Ik) .of0 (eJ af) (aE (gj Z) (gm Z) af) .nil) (al (lC (Γc:=Ij) .of0 (eJ af) (bi (bn Z) (ul Z) (ur Z) af ak) (.cons (cG (bi (bn Z) (lm Z) (lq Z) af ak)) .nil)) (al (eE (f7 (ay (dA (Sp Z) T4 (ag (aE (iO Z) (iQ Z) af) ak)))) cz (al (bG (bA (eB (ef (bF C7 af af) (ef (bF C7 (bM (aE (iO Z) (iQ Z) af) af) af) iM)))) (al (cC (rz PySem.F.plainAttrs_dict PySem.F.slot_dict_pop PySem.F.type_dict_pop T6 (aE (iO Z) (iQ Z) af) (aP (ag af ak)))) av) av) av)) av)))
theorem IJ:DefF G tX 404 UI FC:=Z.df
def ua:Fn:=aR tX 2 [] (λ_=>0) zd
theorem IK:aJ G false (λ_=>0) 5 (.ref 404) ua:=bJ (IJ Z) cF (II Z)
noncomputable abbrev uu:FI:=⟨[("self", .cell),("ports", .local),("sorted", .globalImplicit)],["self","ports"],5, .ref 417,"Chooser.worked.<locals>."⟩
noncomputable abbrev Jh (cv:Value)(ql:Str):FI:=⟨[("port", .local),("self", .free)],["port","self"],4,cv,ql⟩
def zV (n0:Nat):aF:=(ai (a9 (yk (wq (aa 1) 0 (bl (ae (aT 433 qJ (aa 1) (ae (aa 0) aj)) (ae (aB 0 [188] (aB 6 [279] (aa 0))) aj)))) (aB 20 [433] (aa 0)))) aq)
theorem JY (n0:Nat):MSs G ⟨true,n0⟩ uu FE (zV n0):=
 (al (bj (Sl (NY (x:="port") (n:="self") (Γl:=Jh) (pd Z) (by kernel_rfl) (I8 Z) rfl ⟨rfl,rfl,rfl,λ_ _=>rfl,λ_ _=>rfl,λ_ _=>Nat.le_refl _,λ_ _=>⟨rfl,rfl⟩,by decide,by kernel_rfl,λ_=>rfl,by decide +kernel,rfl,by kernel_rfl,by kernel_rfl⟩ af (λcv ql=>(cE (ag (bi (je Z) (Kq Z) (Kv Z) kg (ag af ak)) (ag (aE (gF Z) (gG Z) (aE (ny Z) (nz Z) af)) ak)))) (λ_=>rfl) (λ_ _ _ _ _ _=>rfl) λ_=>rfl) (aE (D4 Z) (D5 Z) af))) av)
theorem JZ:DefF G uu 418 UK FE:=Z.df
def uG:Fn:=aR uu 2 [] (λ_=>0) zV
theorem J0:aJ G true (λ_=>0) 6 (.ref 418) uG:=jB (JZ Z) cF (JY Z)
noncomputable abbrev qx:FI:=fi ["self","group","ports","number","chosen","port"] [] 6 429 "Chooser.settle.<locals>."
def uH (n0:Nat):aF:=(ai (nM 3 4 (nZ (cH (bW n0 (λ_=>0) 433 oB (aa 0) (yA (ae (aa 1) aj))) (cH (bW n0 (λ_=>0) 433 uG (aa 0) (yA (ae (aa 2) aj))) gv)))) (ai (cP (iX (xP (aa 2))) (bh 5) (ai (aQ (yT (cK (aV bp (aB 11 [279] (aa 5)) (ah (.str "unselected"))) (cK (aV cY (aB 12 [279] (aa 5)) (ah (.str "detached"))) (dF true)))) (ai x9 aq) aq) (ai (aN n0 13 [279] (aa 5) (xP (aa 3))) (ai (aN n0 11 [279] (aa 5) (xP (et (aV fb (aa 5) (aa 4)) (ah (.str "selected")) (ah (.str "standby"))))) aq)))) aq))
theorem J6 (n0:Nat):MSs G ⟨true,n0⟩ qx FG (uH n0):=
 (al (DT (xm (fc (dB (je Z) (IE Z) (IY Z) af (aP (ag af ak))) (fc (dB (je Z) (Jq Z) (J0 Z) af (aP (ag af ak))) lK)))) (al (eE (f7 (ay af)) cz (al (bG (bA (eB (ef (bF cX (aE (fK Z) (fM Z) af) bI) (ef (bF eT (aE (kq Z) (kr Z) af) bI) iM)))) (al RM av) av) (al (aZ (gj Z) (gm Z) (ay af) af) (al (aZ (fK Z) (fM Z) (ay (gN (bF yd af af) bI bI)) af) av)))) av))
theorem J7:DefF G qx 430 UM FG:=Z.df
def qA:Fn:=aR qx 3 [] (λ_=>0) uH
theorem J8:aJ G true (λ_=>0) 7 (.ref 430) qA:=bJ (J7 Z) lb (J6 Z)
noncomputable abbrev uv:FI:=fi ["self","ports","port","before","groups","group"] ["sorted"] 7 422 "Chooser.choose.<locals>."
abbrev IZ:FI:=mw ["port"] [] 7 422 "Chooser.choose.<locals>."
abbrev I0:FI:=mw ["port"] [] 7 422 "Chooser.choose.<locals>."
def zW (n0:Nat):aF:=(ai (bx 3 (xP (d5 (iP (aa 1)) none (bl (ae (aB 11 [279] (aa 0)) (ae (aB 13 [279] (aa 0)) aj))) []))) (ai (bx 4 ye) (ai (cP (iX (xP (aa 1))) (bh 2) (ai (aQ (yT (dn (bU (aT 279 fY (aa 2) aj)))) (ai (aN n0 11 [279] (aa 2) (xP (ah (.str "unselected")))) aq) (ai (aQ (kR (yT (aV (λx y=>(kY x y).map not) (aB 13 [279] (aa 2)) (ah .none))) (kR (p9 cY (hZ "dict" n0 pY (aB 21 [433] (aa 0)) (yA (ae (aT 279 iI (aa 2) aj) aj))) (xP (aB 13 [279] (aa 2)))) (kQ true))) (ai (aN n0 11 [279] (aa 2) (xP (ah (.str "unselected")))) aq) (ai (bo (rK n0 (aa 4) (aT 279 iI (aa 2) aj) (aa 2))) aq)) aq)) aq)) (ai (cP (iX (xP (aL iT (ae (aa 4) aj)))) (bh 5) (ai (bo (bW n0 (λ_=>0) 433 qA (aa 0) (yA (ae (aa 5) (ae (bz (aa 4) (aa 5)) aj))))) aq)) (ai (bo (bW n0 (λ_=>0) 433 ua (aa 0) (yA (ae (aa 1) aj)))) (ai (a9 (xP (er cY (d5 (iP (aa 1)) none (bl (ae (aB 11 [279] (aa 0)) (ae (aB 13 [279] (aa 0)) aj))) []) (aa 3)))) aq))))))
theorem J9 (n0:Nat):MSs G ⟨true,n0⟩ uv FF (zW n0):=
 (al (lC (Γc:=I0) .of0 (eJ af) (cE (ag (aE (fK Z) (fM Z) af) (ag (aE (gj Z) (gm Z) af) ak))) .nil) (al (cV DO) (al (eE (f7 (ay af)) cz (al (bG (bA (dU (cG (bi (bn Z) (lm Z) (lq Z) af ak)))) (al (aZ (fK Z) (fM Z) (ay bI) af) av) (al (bG (DZ (D1 (bA (bF C6 (aE (gj Z) (gm Z) af) ki)) (D1 (T7 eT (rz PySem.F.plainAttrs_dict PySem.F.slot_dict_get PySem.F.type_dict_get T5 (aE (iO Z) (iQ Z) af) (aP (ag (bi (bn Z) (ul Z) (ur Z) af ak) ak))) (ay (aE (gj Z) (gm Z) af))) Ng))) (al (aZ (fK Z) (fM Z) (ay bI) af) av) (al (cC (Pk af (bi (bn Z) (ul Z) (ur Z) af ak) af (λ_=>rfl) (λ_=>rfl) (λ_=>⟨_,rfl⟩) λ_=>⟨_,rfl⟩)) av)) av)) av)) (al (eE (f7 (ay (dA (pd Z) ry (ag af ak)))) cz (al (cC (dB (je Z) (Js Z) (J8 Z) af (aP (ag af (ag (bM af af) ak))))) av)) (al (cC (dB (je Z) (Iv Z) (IK Z) af (aP (ag af ak)))) (al (bj (ay (fD eT (iU (Γc:=IZ) .of0 (eJ af) (cE (ag (aE (fK Z) (fM Z) af) (ag (aE (gj Z) (gm Z) af) ak))) .nil) af))) av))))))
theorem Ka:DefF G uv 423 UL FF:=Z.df
def uw:Fn:=aR uv 2 [] (λ_=>0) zW
theorem JD:aJ G true (λ_=>0) 8 (.ref 423) uw:=bJ (Ka Z) cF (J9 Z)
def qB:Fn:=pL uw
theorem Kb:aJ G true (λ_=>0) 8 (.ref 423) qB:=NU (JD Z)
noncomputable abbrev uS:FI:=fi ["self","ports","turn","is_changed","port"] ["range","MOST_ROUNDS","len","step_mux","have_waited","StateError"] 8 475 "Bundles.rest.<locals>."
def AA (n0:Nat):aF:=(ai (bx 1 (xP (aT 543 jW (aa 0) aj))) (ai (cP (jt (a8 (bc eu) (aY (.int 12)) (a8 eI (aL fq (ae (aa 1) aj)) (ah (.int 1))))) (bh 2) (ai (bx 3 (bW n0 (λ_=>0) 433 qB (aB 23 [543] (aa 0)) (yA (ae (aa 1) aj)))) (ai (cP (iX (xP (aa 1))) (bh 4) (ai (bx 3 (qj (bB n0 (λ_=>0) oX (yA (ae (aa 4) (ae (aL qN (ae (aa 1) (ae (aB 13 [279] (aa 4)) aj))) aj)))) (xP (aa 3)))) aq)) (ai (aQ (yT (dn (bU (aa 3)))) (ai nG aq) aq) aq)))) (ai (λ_ _=>none) aq)))
theorem Lv (n0:Nat):MSs G ⟨true,n0⟩ uS FL (AA n0):=
 (al (cV (ay (bi (cy Z) (ow Z) (oz Z) af ak))) (al (eE (pc (lH Z) (be fR (aO (KV Z)) (be fP (dA (lS Z) nP (ag af ak)) an))) cz (al (cV (dB (je Z) (Jr Z) (Kb Z) (aE (BO Z) (BP Z) af) (aP (ag af ak)))) (al (eE (f7 (ay af)) cz (al (cV (V9 (dk (Np Z) (Nq Z) (Ov Z) (aP (ag af (ag (cj (KW Z) (KZ Z) (Le Z) (ag af (ag (aE (gj Z) (gm Z) af) ak))) ak)))) (Ua (ay af)))) av)) (al (bG (bA (dU (cG af))) (al rF av) av) av)))) (al (nu _) av)))
theorem Lw:DefF G uS 476 UO FL:=Z.df
def j0:Fn:=aR uS 1 [] (λ_=>0) AA
theorem qL:aJ G true (λ_=>0) 9 (.ref 476) j0:=bJ (Lw Z) dQ (Lv Z)
noncomputable abbrev uj:FI:=fi ["self","number","port"] ["begin_link"] 9 482 "Bundles.link_up.<locals>."
def zK (n0:Nat):aF:=(ai (bx 2 (xP (aT 543 lw (aa 0) (ae (aa 1) aj)))) (ai (aQ (yT (dn (bU (aT 279 fY (aa 2) aj)))) (ai (bo (bB n0 (λ_=>0) qO (yA (ae (aa 2) aj)))) (ai (bo (bW n0 (λ_=>0) 543 j0 (aa 0) (yA aj))) aq)) aq) aq))
theorem JE (n0:Nat):MSs G ⟨true,n0⟩ uj sd (zK n0):=
 (al (cV (ay (bi (cy Z) (oH Z) (qE Z) af (ag af ak)))) (al (bG (bA (dU (cG (bi (bn Z) (lm Z) (lq Z) af ak)))) (al (cC (dk (AL Z) (AM Z) (Bj Z) (aP (ag af ak)))) (al (cC (dB (cy Z) (qD Z) (qL Z) af (aP ak))) av)) av) av))
theorem JF:DefF G uj 483 FM sd:=Z.df
def lu:Fn:=aR uj 2 [] (λ_=>0) zK
theorem qy:aJ G true (λ_=>0) 10 (.ref 483) lu:=bJ (JF Z) cF (JE Z)
noncomputable abbrev ub:FI:=fi ["self","number","port"] ["end_link"] 9 489 "Bundles.link_down.<locals>."
def zo (n0:Nat):aF:=(ai (bx 2 (xP (aT 543 lw (aa 0) (ae (aa 1) aj)))) (ai (aQ (yT (bU (aT 279 fY (aa 2) aj))) (ai (bo (bB n0 (λ_=>0) vW (yA (ae (aa 2) aj)))) (ai (bo (bW n0 (λ_=>0) 543 j0 (aa 0) (yA aj))) aq)) aq) aq))
theorem I1 (n0:Nat):MSs G ⟨true,n0⟩ ub FN (zo n0):=
 (al (cV (ay (bi (cy Z) (oH Z) (qE Z) af (ag af ak)))) (al (bG (bA (cG (bi (bn Z) (lm Z) (lq Z) af ak))) (al (cC (dk (Nr Z) (Nt Z) (Oy Z) (aP (ag af ak)))) (al (cC (dB (cy Z) (qD Z) (qL Z) af (aP ak))) av)) av) av))
theorem I2:DefF G ub 490 UP FN:=Z.df
def qu:Fn:=aR ub 2 [] (λ_=>0) zo
theorem I4:aJ G true (λ_=>0) 10 (.ref 490) qu:=bJ (I2 Z) cF (I1 Z)
end
section
variable (Z:IsG G)
include Z
noncomputable abbrev uk:FI:=fi ["self","number","pdu"] ["hear"] 9 496 "Bundles.receive.<locals>."
def zL (n0:Nat):aF:=(ai (bo (bB n0 (λ_=>0) se (yA (ae (aT 543 lw (aa 0) (ae (aa 1) aj)) (ae (aa 2) aj))))) (ai (bo (bW n0 (λ_=>0) 543 j0 (aa 0) (yA aj))) aq))
theorem JG (n0:Nat):MSs G ⟨true,n0⟩ uk FO (zL n0):=
 (al (cC (dk (Sn Z) (So Z) (Va Z) (aP (ag (bi (cy Z) (oH Z) (qE Z) af (ag af ak)) (ag af ak))))) (al (cC (dB (cy Z) (qD Z) (qL Z) af (aP ak))) av))
theorem JH:DefF G uk 497 UQ FO:=Z.df
def oF:Fn:=aR uk 3 [] (λ_=>0) zL
theorem zM:aJ G true (λ_=>0) 10 (.ref 497) oF:=bJ (JH Z) lb (JG Z)
noncomputable abbrev ux:FI:=fi ["self","port"] ["pass_second","wait_second"] 9 503 "Bundles.second.<locals>."
def zX (n0:Nat):aF:=(ai (cP (iX (xP (aT 543 jW (aa 0) aj))) (bh 1) (ai (bo (bB n0 (λ_=>0) oM (yA (ae (aa 1) aj)))) (ai (bo (bB n0 (λ_=>0) oL (yA (ae (aa 1) aj)))) aq))) (ai (bo (bW n0 (λ_=>0) 543 j0 (aa 0) (yA aj))) aq))
theorem Kc (n0:Nat):MSs G ⟨true,n0⟩ ux FP (zX n0):=
 (al (eE (f7 (ay (bi (cy Z) (ow Z) (oz Z) af ak))) cz (al (cC (dk (K4 Z) (K5 Z) (Mf Z) (aP (ag af ak)))) (al (cC (dk (K0 Z) (K1 Z) (LY Z) (aP (ag af ak)))) av))) (al (cC (dB (cy Z) (qD Z) (qL Z) af (aP ak))) av))
theorem Kd:DefF G ux 504 UR FP:=Z.df
def oG:Fn:=aR ux 1 [] (λ_=>0) zX
theorem zY:aJ G true (λ_=>0) 10 (.ref 504) oG:=bJ (Kd Z) dQ (Kc Z)
noncomputable abbrev uc:FI:=fi ["self","found","port","pdu"] ["message_of"] 4 510 "Bundles.take_sent.<locals>."
def zp (n0:Nat):aF:=(ai (bx 1 (nK aj)) (ai (cP (iX (xP (aT 543 jW (aa 0) aj))) (bh 2) (ai (bx 3 (bB n0 (λ_=>0) oS (yA (ae (aa 2) aj)))) (ai (aQ (yT (aV (λx y=>(kY x y).map not) (aa 3) (ah .none))) (ai (bo (hZ "list" n0 n7 (aa 1) (yA (ae (bl (ae (aB 0 [188] (aB 6 [279] (aa 2))) (ae (aa 3) aj))) aj)))) aq) aq) aq))) (ai (a9 (xP (aa 1))) aq)))
theorem I5 (n0:Nat):MSs G ⟨false,n0⟩ uc FQ (zp n0):=
 (al (cV (wM ak)) (al (eE (f7 (ay (bi (cy Z) (ow Z) (oz Z) af ak))) cz (al (cV (dk (LG Z) (LH Z) (MR Z) (aP (ag af ak)))) (al (bG (bA (bF C6 af ki)) (al (cC (rz PySem.F.plainAttrs_list slot_list_append type_list_append ER af (aP (ag (cE (ag (aE (gF Z) (gG Z) (aE (ny Z) (nz Z) af)) (ag af ak))) ak)))) av) av) av))) (al (bj (ay af)) av)))
theorem I6:DefF G uc 511 US FQ:=Z.df
def ze:Fn:=aR uc 1 [] (λ_=>0) zp
theorem IL:aJ G false (λ_=>0) 5 (.ref 511) ze:=bJ (I6 Z) dQ (I5 Z)
def qv:Fn:=pW ze
theorem I7:aJ G false (λ_=>0) 5 (.ref 511) qv:=Pd (IL Z)
noncomputable abbrev vH:FI:=fi ["source","top","drawn"] ["int"] 0 560 "_law_take.<locals>."
def Ca (n0:Nat):aF:=(ai (aQ (yT (aV (de λa b=>decide (b< a)) (bz (aa 0) (ah (.int 0))) (ah (.int 0)))) (ai (bx 2 (xP (a8 (bc kN) (aL fU (ae (bz (aa 0) (ah (.int 0))) aj)) (aa 1)))) (ai (iu (iA n0 (aa 0) (ah (.int 0))) (xP (a8 (bc yw) (bz (aa 0) (ah (.int 0))) (aa 1)))) (ai (a9 (xP (aa 2))) aq))) aq) (ai (iu (iA n0 (aa 0) (ah (.int 1))) (xP (a8 (bc kN) (aL fU (ae (a8 eI (a8 (bc eu) (bz (aa 0) (ah (.int 1))) (ah (.int 39373))) (ah (.int 7))) aj)) (ah (.int 2147483647))))) (ai (a9 (xP (a8 (bc kN) (aL fU (ae (a8 (bc yw) (a8 (bc kN) (aL fU (ae (a8 (bc eu) (bz (aa 0) (ah (.int 1))) (bz (aa 0) (ah (.int 1)))) aj)) (ah (.int 2147483629))) (ah (.int 32))) aj)) (aa 1)))) aq)))
theorem Oz (n0:Nat):MSs G ⟨false,n0⟩ vH FW (Ca n0):=
 (al (bG (bA (bF sH (bM af an) an)) (al (cV (ay (be nh (dA (gR Z) gU (ag (bM af an) ak)) af))) (al (js (ay (be EH (bM af an) af)) (nq af an)) (al (bj (ay af)) av))) av) (al (js (ay (be nh (dA (gR Z) gU (ag (be fP (be fR (bM af an) an) an) ak)) an)) (nq af an)) (al (bj (ay (be nh (dA (gR Z) gU (ag (be EH (be nh (dA (gR Z) gU (ag (be fR (bM af an) (bM af an)) ak)) an) an) ak)) af))) av)))
theorem OB:DefF G vH 561 UX FW:=Z.df
def jg:Fn:=aR vH 2 [] (λ_=>0) Ca
theorem mO:aJ G false (λ_=>0) 1 (.ref 561) jg:=bJ (OB Z) cF (Oz Z)
noncomputable abbrev vX:FI:=fi ["source","things"] ["_law_take","len"] 1 567 "_law_one.<locals>."
def CI (n0:Nat):aF:=(ai (a9 (yB (xP (aa 1)) (bB n0 (λ_=>0) jg (yA (ae (aa 0) (ae (aL fq (ae (aa 1) aj)) aj)))))) aq)
theorem PA (n0:Nat):MSs G ⟨false,n0⟩ vX FX (CI n0):=
 (al (bj (T8 (ay af) (dk (mH Z) (mI Z) (mO Z) (aP (ag af (ag (dA (lS Z) nP (ag af ak)) ak)))))) av)
theorem PB:DefF G vX 568 UY FX:=Z.df
def pe:Fn:=aR vX 2 [] (λ_=>0) CI
theorem CJ:aJ G false (λ_=>0) 2 (.ref 568) pe:=bJ (PB Z) cF (PA Z)
noncomputable abbrev vI:FI:=fi ["end","joined","many","turn","again","number","pdu"] ["range"] 10 574 "_law_pass.<locals>."
def Cb (n0:Nat):aF:=(ai (cP (jt (aa 2)) (bh 3) (ai (cP (jt (ah (.int 4))) (bh 4) (ai (cP (iX (bW n0 (λ_=>0) 543 qv (aa 0) (yA aj))) (iB [(bh 5),(bh 6)]) (ai (bo (bW n0 (λ_=>0) 543 oF (aa 0) (yA (ae (bz (aa 1) (aa 5)) (ae (aa 6) aj))))) aq)) aq)) (ai (bo (bW n0 (λ_=>0) 543 oG (aa 0) (yA aj))) aq))) aq)
theorem OC (n0:Nat):MSs G ⟨true,n0⟩ vI FY (Cb n0):=
 (al (eE (pc (lH Z) af) cz (al (eE (pc (lH Z) an) cz (al (eE (f7 (dB (cy Z) (IG Z) (I7 Z) af (aP ak))) (lP (ei cz (ei cz lL))) (al (cC (dB (cy Z) (zt Z) (zM Z) af (aP (ag (bM af af) (ag af ak))))) av)) av)) (al (cC (dB (cy Z) (zD Z) (zY Z) af (aP ak))) av))) av)
theorem OD:DefF G vI 575 UZ FY:=Z.df
def vY:Fn:=aR vI 3 [] (λ_=>0) Cb
theorem OE:aJ G true (λ_=>0) 11 (.ref 575) vY:=bJ (OD Z) lb (OC Z)
noncomputable abbrev vo:FI:=fi ["pairs","found","one","other"] [] 0 581 "_law_joined.<locals>."
def Bl (n0:Nat):aF:=(ai (bx 1 sK) (ai (cP (iX (xP (aa 0))) (iB [(bh 2),(bh 3)]) (ai (iu (iB [(iA n0 (aa 1) (aa 2)),(iA n0 (aa 1) (aa 3))]) (xP (bl (ae (aa 3) (ae (aa 2) aj))))) aq)) (ai (a9 (xP (aa 1))) aq)))
theorem MU (n0:Nat):MSs G ⟨false,n0⟩ vo FZ (Bl n0):=
 (al (cV wN) (al (eE (f7 (ay af)) (lP (ei cz (ei cz lL))) (al (js (ay (cE (ag af (ag af ak)))) (lP (ei (nq af af) (ei (nq af af) lL)))) av)) (al (bj (ay af)) av)))
theorem MV:DefF G vo 582 U0 FZ:=Z.df
def mL:Fn:=aR vo 1 [] id Bl
theorem MZ:aJ G false id 1 (.ref 582) mL:=bJ (MV Z) dQ (MU Z)
noncomputable abbrev uI:FI:=⟨[("rows", .local),("pairs", .local),("most", .local),("end", .cell),("joined", .local),("number", .local),("Bundles", .globalImplicit),("_law_joined", .globalImplicit),("sorted", .globalImplicit),("_law_pass", .globalImplicit),("_law_alone", .globalImplicit)],["rows","pairs","most","end","joined","number"],11, .ref 591,"_law_own_right.<locals>."⟩
noncomputable abbrev Ji:FI:=⟨[(".0", .local),("pair", .local),("number", .local)],["pair"],11, .ref 591,"_law_own_right.<locals>."⟩
noncomputable abbrev Jj:FI:=⟨[(".0", .local),("number", .local),("end", .cell)],["number","end"],11, .ref 591,"_law_own_right.<locals>."⟩
def z7 (n0:Nat):aF:=(ai (iu (iB [(bh 3),(bh 4)]) (nZ (cH (bB n0 id mR (yA (ae (bl (ae (ah (.int 3)) (ae (ah (.int 77)) aj))) (ae (aa 0) (ae (aa 2) aj))))) (cH (bB n0 id mL (yA (ae (aa 1) aj))) gv)))) (ai (cP (iX (xP (aL iT (ae (aa 4) aj)))) (bh 5) (ai (bo (bW n0 (λ_=>0) 543 lu (aa 3) (yA (ae (aa 5) aj)))) aq)) (ai (bo (bB n0 (λ_=>0) vY (yA (ae (aa 3) (ae (aa 4) (ae (ah (.int 6)) aj)))))) (ai (aQ (yT (dn (bU (aL qW (ae (aa 3) (ae (aL iT (ae (aa 4) aj)) aj)))))) (ai (a9 (xP (ah (.bool false)))) aq) aq) (ai (cP (iX (xP (bz (aa 1) (ah (.int 0))))) (bh 5) (ai (bo (bW n0 (λ_=>0) 543 qu (aa 3) (yA (ae (aa 5) aj)))) aq)) (ai (aQ (yT (aV cY (d5 (iP (bz (aa 1) (ah (.int 0)))) (some ("end",3)) (aT 543 ic (aa 1) (ae (aa 0) aj)) []) (bD (ae (ah .none) (ae (ah .none) aj))))) (ai (a9 (xP (ah (.bool false)))) aq) aq) (ai (a9 (xP (aL qW (ae (aa 3) (ae (pO (pN (aa 1) (ah (.int 1)))) aj))))) aq)))))))
theorem KC (n0:Nat):MSs G ⟨true,n0⟩ uI F3 (z7 n0):=
 (al (js (xm (fc (dk (j3 Z) (j4 Z) (vU Z) (aP (ag (cE (ag an (ag an ak))) (ag af (ag af ak))))) (fc (dk (K6 Z) (K7 Z) (MZ Z) (aP (ag af ak))) lK))) (lP (ei cz (ei cz lL)))) (al (eE (f7 (ay (dA (pd Z) ry (ag af ak)))) cz (al (cC (dB (cy Z) (oC Z) (qy Z) af (aP (ag af ak)))) av)) (al (cC (dk (MD Z) (ME Z) (OE Z) (aP (ag af (ag af (ag an ak)))))) (al (bG (bA (dU (cG (cj (AQ Z) (AR Z) (Bh Z) (ag af (ag (dA (pd Z) ry (ag af ak)) ak)))))) (al (bj (ay cZ)) av) av) (al (eE (f7 (ay (bM af an))) cz (al (cC (dB (cy Z) (IF Z) (I4 Z) af (aP (ag af ak)))) av)) (al (bG (bA (bF eT (iU (Γc:=Jj) .of1 (eJ (bM af an)) (bi (cy Z) (oy Z) (oA Z) af (ag af ak)) .nil) (cN (ag ki (ag ki ak))))) (al (bj (ay cZ)) av) av) (al (bj (ay (cj (AQ Z) (AR Z) (Bh Z) (ag af (ag (Sh (Γc:=Ji) .of0 (λ_ _=>rfl) (by kernel_rfl) (by decide +kernel) (by kernel_rfl) (by kernel_rfl) (RY af an)) ak))))) av)))))))
theorem KE:DefF G uI 592 U2 F3:=Z.df
def jb:Fn:=aR uI 3 [] (λ_=>0) z7
theorem Ke:aJ G true (λ_=>0) 12 (.ref 592) jb:=jB (KE Z) lb (KC Z)
def jc:Fn:=tg jb
theorem z8:aJ G true (λ_=>0) 12 (.ref 592) jc:=Pc (nf:=λ_=>0) (Ke Z)
end
section
variable (Z:IsG G)
include Z
noncomputable abbrev tY:FI:=⟨[("end", .cell),("turn", .local),("told", .local),("Bundles", .globalImplicit),("LacpRow", .globalImplicit),("Lacpdu", .globalImplicit),("range", .globalImplicit)],["end","turn","told"],10, .ref 596,"_law_partners_right.<locals>."⟩
noncomputable abbrev Il:FI:=⟨[(".0", .local),("number", .local),("end", .cell)],["number","end"],10, .ref 596,"_law_partners_right.<locals>."⟩
def zf (n0:Nat):aF:=(ai (bx 0 (bB n0 id mR (yA (ae (bl (ae (ah (.int 3)) (ae (ah (.int 77)) aj))) (ae (bD (ae (aL ed (ae (ah (.int 1)) (ae (ah (.int 8)) (ae (ah (.int 4)) aj)))) (ae (aL ed (ae (ah (.int 2)) (ae (ah (.int 8)) (ae (ah (.int 4)) aj)))) aj))) aj))))) (ai (bo (bW n0 (λ_=>0) 543 lu (aa 0) (yA (ae (ah (.int 1)) aj)))) (ai (bo (bW n0 (λ_=>0) 543 lu (aa 0) (yA (ae (ah (.int 2)) aj)))) (ai (bo (bW n0 (λ_=>0) 543 oF (aa 0) (yA (ae (ah (.int 2)) (ae (aL mX (ae (bl (ae (bl (ae (ah (.int 1)) (ae (ah (.int 9)) aj))) (ae (ah (.int 4)) (ae (bl (ae (ah (.int 8)) (ae (ah (.int 2)) aj))) (ae (ah (.int 61)) aj))))) (ae (bl (ae (bl (ae (ah (.int 3)) (ae (ah (.int 77)) aj))) (ae (ah (.int 4)) (ae (bl (ae (ah (.int 8)) (ae (ah (.int 2)) aj))) (ae (ah (.int 13)) aj))))) aj))) aj))))) (ai (cP (jt (ah (.int 4))) (bh 1) (ai (bo (bW n0 (λ_=>0) 543 oG (aa 0) (yA aj))) aq)) (ai (bx 2 (xP (d5 (iP (bD (ae (ah (.int 1)) (ae (ah (.int 2)) aj)))) (some ("end",0)) (aT 543 tW (aa 1) (ae (aT 543 ic (aa 1) (ae (aa 0) aj)) aj)) []))) (ai (a9 (xP (jE (er bp (aa 2) (bD (ae (ah (.bool false)) (ae (ah (.bool true)) aj)))) (jE (er bp (aT 543 oE (aa 0) (ae (aT 543 ic (aa 0) (ae (ah (.int 1)) aj)) aj)) (bD (ae (ah (.int 1)) aj))) (kK (aT 543 tW (aa 0) (ae (ah (.int 99)) aj))))))) aq)))))))
theorem IM (n0:Nat):MSs G ⟨true,n0⟩ tY F4 (zf n0):=
 (al (cV (dk (j3 Z) (j4 Z) (vU Z) (aP (ag (cE (ag an (ag an ak))) (ag (cN (ag (cj (gf Z) (gh Z) (gi Z) (ag an (ag an (ag an ak)))) (ag (cj (gf Z) (gh Z) (gi Z) (ag an (ag an (ag an ak)))) ak))) ak))))) (al (cC (dB (cy Z) (oC Z) (qy Z) af (aP (ag an ak)))) (al (cC (dB (cy Z) (oC Z) (qy Z) af (aP (ag an ak)))) (al (cC (dB (cy Z) (zt Z) (zM Z) af (aP (ag an (ag (cj (rh Z) (rl Z) (rm Z) (ag (cE (ag (cE (ag an (ag an ak))) (ag an (ag (cE (ag an (ag an ak))) (ag an ak))))) (ag (cE (ag (cE (ag an (ag an ak))) (ag an (ag (cE (ag an (ag an ak))) (ag an ak))))) ak))) ak))))) (al (eE (pc (lH Z) an) cz (al (cC (dB (cy Z) (zD Z) (zY Z) af (aP ak))) av)) (al (lC (Γc:=Il) .of1 (eJ (cN (ag an (ag an ak)))) (bi (cy Z) (y7 Z) (y8 Z) af (ag (bi (cy Z) (oy Z) (oA Z) af (ag af ak)) ak)) .nil) (al (bj (ay (pw (fD cX af (cN (ag cZ (ag cZ ak)))) (pw (fD cX (bi (cy Z) (zu Z) (zx Z) af (ag (bi (cy Z) (oy Z) (oA Z) af (ag an ak)) ak)) (cN (ag an ak))) (lN (pz (bi (cy Z) (y7 Z) (y8 Z) af (ag an ak)))))))) av)))))))
theorem IN:DefF G tY 597 U3 F4:=Z.df
def tZ:Fn:=aR tY 0 [] (λ_=>0) zf
theorem ID:aJ G true (λ_=>0) 11 (.ref 597) tZ:=jB (IN Z) XW (IM Z)
def mC:Fn:=te tZ
theorem IO:aJ G true (λ_=>0) 11 (.ref 597) mC:=Pa (nf:=λ_=>0) (ID Z)
noncomputable abbrev vJ:FI:=fi ["script","k","cell","big","mixed"] ["len","max","int"] 0 553 "_law_pool.<locals>."
def Cc (n0:Nat):aF:=(ai (bx 2 (xP (et (aV (de λa b=>decide (a< b)) (aa 1) (aL fq (ae (aa 0) aj))) (bz (aa 0) (aa 1)) (ah (.int 0))))) (ai (bx 3 (xP (aL Ht (ae (aL fU (ae (aa 2) aj)) (ae (aL fU (ae (a8 (bc jF) (kM (ah (.int 1))) (aa 2)) aj)) aj))))) (ai (bx 4 (xP (a8 (bc kN) (aL fU (ae (a8 (bc eu) (a8 eI (a8 eI (a8 eI (a8 (bc kN) (aL fU (ae (aa 3) aj)) (ah (.int 2147483629))) (a8 (bc eu) (a8 (bc eu) (ah (.int 7919)) (aa 1)) (aa 1))) (a8 (bc eu) (ah (.int 31)) (aa 1))) (ah (.int 17))) (ah (.int 48271))) aj)) (ah (.int 2147483647))))) (ai (a9 (nK (ae (a8 (bc eu) (aa 3) (aL fU (ae (er (de λa b=>decide (b≤a)) (aa 3) (a8 (bc tf) (ah (.int 10)) (ah (.int 18)))) aj))) (ae (aa 4) aj)))) aq))))
theorem OF (n0:Nat):MSs G ⟨false,n0⟩ vJ FV (Cc n0):=
 (al (cV (ay (gN (bF i0 af (dA (lS Z) nP (ag af ak))) (bM af af) an))) (al (cV (ay (dA (U6 Z) V6 (ag (dA (gR Z) gU (ag af ak)) (ag (dA (gR Z) gU (ag (be kj (na an) af) ak)) ak))))) (al (cV (ay (be nh (dA (gR Z) gU (ag (be fR (be fP (be fP (be fP (be nh (dA (gR Z) gU (ag af ak)) an) (be fR (be fR an af) af)) (be fR an af)) an) an) ak)) an))) (al (bj (wM (ag (be fR af (dA (gR Z) gU (ag (fD GN af (be xi an an)) ak))) (ag af ak)))) av))))
theorem OG:DefF G vJ 554 UW FV:=Z.df
def oY:Fn:=aR vJ 2 [] id Cc
theorem OH:aJ G false id 1 (.ref 554) oY:=bJ (OG Z) cF (OF Z)
end
section
structure Up (base:Heap) (l:List Env) (C e L:Addr) (h:Heap):Prop where
 st:base.StaysIn h
 en:base.get? e=none
 ff:h.FunFrames base l
 tr:∃a0,(∃oe vs,h.get? e=some oe∧oe.cls= .ref C∧oe.data= .fields vs∧vs[0]? =some a0∧vs[1]? =some .none)∨h.TracedAtW base e (.ref C) a0 .none∨h.TracedAtW base e (.ref C) a0 (rawInt L)
theorem Up.of_fly (x:Heap.FlyingW base l e (.ref C) a0 h):Up base l C e L h:=
 ⟨x.1,x.2.1,x.2.2.1,a0, .inr (.inl x.2.2.2)⟩
theorem Up.of_held (x:Heap.HeldW base l e (.ref C) a0 L h):Up base l C e L h:=
 ⟨x.1,x.2.1,x.2.2.1,a0, .inr (.inr x.2.2.2)⟩
section
variable {M:Model} {A:Around} {E:Value→Shared→Prop} {s:Shared} {base:Heap} {env:Env} {Yn:List Env} {C e L:Addr}
theorem Up.note (u:Up base (env::Yn) C e L s.heap)(hfr:A.frames=some (env::Yn))(hf:env.frame=some L)
  (hQ:∀h' a0,Heap.HeldW base (env::Yn) e (.ref C) a0 L h'→s.heap.UpToSlots h'→Q () { s with heap:=h' }):wpAny M A (noteFrame (.ref e) env) Q E s:=by
 obtain ⟨st,en,ff,a0,⟨oe,vs,he,hc,hd,h0,h1⟩ | ht | ht⟩:=u
 ·unfold noteFrame
  rw [hf]
  refine am (wpAny_field he hd h1 ?_)
  refine wpAny_entryW hfr ff hf he st en hd (Array.getElem?_eq_some_iff.mp h1).1 h0 λh' ⟨x1,x2,x3,x4⟩=>hQ h' a0 ⟨x1,en,x2,hc▸x3⟩ x4
 ·exact wpAny_looks_onW hfr hf ⟨st,en,ff,ht⟩ λh' x y=>hQ h' a0 x y
 ·exact wpAny_noteFrame_againW hf ht (hQ s.heap a0 ⟨st,en,ff,ht⟩ (.refl _))
theorem Up.leave (u:Up base (env::Yn) C e L s.heap)(hfr:A.frames=some (env::Yn))(hf:env.frame=some L)
  (hQ:∀h' a0,Heap.FlyingW base Yn e (.ref C) a0 h'→s.heap.UpToSlots h'→Q () { s with heap:=h' }):wpAny M A (leaving env (.ref e)) Q E s:=by
 unfold leaving
 refine am (u.note hfr hf λh1 a0 x y=> ?_)
 refine wpAny_landsW x λh2 ⟨k1,k2,⟨_,_,k3⟩,k4⟩ y2=>hQ h2 a0 ⟨k1,k2,k3,k4⟩ (y.trans y2)
theorem Up.back (x:Heap.HeldW base (env::Yn) e (.ref C) a0 L s.heap)(hf:env.frame=some L)
  (hQ:∀h',Heap.HeldW base (env::Yn) e (.ref C) a0 L h'→s.heap.UpToSlots h'→E (.ref e) { s with heap:=h' }):cameBackBy M A env E (.ref e) s:=by
 refine l3 x λst en ff ht=> ?_
 refine KU ht λoe vs T oT ts he hcls hd h1 hnT hTe hT hdT h3=> ?_
 unfold cameBackBy
 refine am (wpAny_field he hd h1 ?_)
 haveI hsz3:3< ts.size:=(Array.getElem?_eq_some_iff.mp h3).1
 have other:∀b,b≠T→(s.heap.update T (Obj.mapFields (·.setIfInBounds 3 (env.frame.elim Value.none λf=>rawInt f)))).get? b=s.heap.get? b:=
  λb hb=>Heap.get?_update_other _ _ (Ne.symm hb)
 have noRecord:∀b o,s.heap.get? b=some o→(∀vs,o.data≠ .fields vs)→b≠T:=λb o hb hnf q=>by
  rw [q,hT] at hb;injection hb with hb;subst hb;exact hnf ts hdT
 unfold setFlight
 refine am (wpAny_field he hd h1 ?_)
 refine wpAny_setField hT hdT hsz3 (hQ _ ⟨λb o hbo=>(other b λq=>by exact au ((hnT).symm.trans ((q)▸hbo))).trans (st b o hbo),en,
  ff.of_keeps λb o hb hnf=>⟨o,(other b (noRecord b o hb hnf)).trans hb,rfl⟩,?_⟩ λb o hb hnf=>⟨o.slots,(other b (noRecord b o hb hnf)).trans hb⟩)
 exact ⟨oe,vs,T,_,_,(other e (Ne.symm hTe)).trans he,hcls,hd,h1,hnT,hTe,Heap.get?_update_self _ hT (Obj.isFreed_of_fields (Obj.data_mapFields hdT _)),Obj.data_mapFields hdT _,by simp [hsz3,hf]⟩
end
noncomputable def kT (L:List Addr)(h:Heap):Heap:={ h with objs:=h.objs.mapIdx λi o=>if i∈L then ⟨.none,none, .freed,#[]⟩ else o }
theorem D6 (m:b∈L):(kT L h).get? b=none:=by
 unfold kT Heap.get?
 rw [Array.getElem?_mapIdx]
 cases h.objs[b]? with
 | none=>rfl
 | some o=>simp [m]
theorem Di (m:b∉L):(kT L h).get? b=h.get? b:=by
 unfold kT Heap.get?
 rw [Array.getElem?_mapIdx]
 cases h.objs[b]? with
 | none=>rfl
 | some o=>simp [m]
theorem OI (L:List Addr)(h:Heap):(kT L h).StaysIn h:=λb o e=>by
 by_cases m:b∈L
 ·rw [D6 m] at e;exact au e
 ·rw [Di m] at e;exact e
structure KSl (L:List Addr) (s s':Shared):Prop where
 sh:∃h tk,s'= { s with heap:=h,toks:=tk }
 kb:∀b o,b∉L→s.heap.get? b=some o→s'.heap.get? b=some o
 sl:∀b o,b∈L→s.heap.get? b=some o→∃sl,s'.heap.get? b=some { o with slots:=sl }
theorem KSl.of_kp (k:Kp s s'):KSl L s s':=⟨k.sh,λb o _ e=>k.kb b o (by simp) e,λb o _ e=>⟨o.slots,k.kb b o (by simp) e⟩⟩
theorem KSl.trans (x:KSl L a b)(y:KSl L b c):KSl L a c:=by
 obtain ⟨⟨h,t,rfl⟩,k,l⟩:=x
 obtain ⟨⟨h',t',rfl⟩,k',l'⟩:=y
 exact ⟨⟨h',t',rfl⟩,λb o hb e=>k' b o hb (k b o hb e),λb o hb e=>by
  refine xE (l b o hb e) λs1 e1=> ?_
  refine xE (l' b _ hb e1) λs2 e2=> ?_
  exact ⟨s2,e2⟩⟩
theorem KSl.live (k:KSl L s s')(e:s.heap.get? b=some o):∃o',s'.heap.get? b=some o':=by
 by_cases m:b∈L
 ·refine xE (k.sl b o m e) λsl e'=> ?_;exact ⟨_,e'⟩
 ·exact ⟨o,k.kb b o m e⟩
structure LOk (G:Gd) (L:List Addr) (R:List Addr) (J:aG) (h:Heap):Prop where
 r:∀a∈L,a∈R∧a∉own J∧a∉G.TB
 d:∀a∈L,∃o es ep,h.get? a=some o∧o.data= .dict es ep
theorem LOk.nc (l:LOk G L R J h):∀a∈L,¬ ey h a:=λa m=>by
 refine da (l.d a m) λo es ep e hd=> ?_
 exact jM e λvs q=>by rw [hd] at q;cases q
theorem SR.ks (S:SR G R J V s.heap)(l:LOk G L R J s.heap)(k:KSl L s s'):SR G R J V s'.heap:=
 S.kb (X:=L) (λb o hb e=>k.kb b o hb e) l.r l.nc λb o e=>k.live e
theorem LOk.ks (l:LOk G L R J s.heap)(k:KSl L s s'):LOk G L R J s'.heap:=
 ⟨l.r,λa m=>by
  refine da (l.d a m) λo es ep e hd=> ?_
  refine xE (k.sl a o m e) λsl e'=> ?_
  exact ⟨_,es,ep,e',hd⟩⟩
theorem KSl.ns (k:KSl L s s')(h:s.heap.Ns a m):s'.heap.Ns a m:=by
 refine gn h λo es ep e hd r=> ?_
 by_cases q:a∈L
 ·refine xE (k.sl a o q e) λsl e'=> ?_;exact ⟨_,es,ep,e',hd,r⟩
 ·exact ⟨o,es,ep,k.kb a o q e,hd,r⟩
theorem KSl.cell (l:LOk G L R J s.heap)(k:KSl L s s')(h:s.heap.IsCell a v):s'.heap.IsCell a v:=by
 refine aW h λo e hd=> ?_
 refine ⟨o,k.kb a o (λm=> ?_) e,hd⟩
 refine da (l.d a m) λo' es ep e' hd'=> ?_
 rw [e] at e';replace e':=aD e';subst e';rw [hd] at hd';exact nomatch hd'
theorem Cx.ks {A:Around}(c:Cx G Γ A s env R J U V)(l:LOk G L R J s.heap)(k:KSl L s s'):Cx G Γ A s' env R J U V:=by
 obtain ⟨hA,S,m,F⟩:=c
 have vk:∀{y:AV} {w:Value},VRel G R J s.heap y w→VRel G R J s'.heap y w:=λe=>e.kb (X:=L) (λb o hb e=>k.kb b o hb e) (λa m=>(l.r a m).1)
 refine ⟨hA,S.ks l k,m,⟨F.kind,F.glob,F.bt,F.nms,⟨k.ns F.fr.ns,λb o e=>k.kb b o (λm=> ?_) (F.fr.keep b o e),F.fr.above⟩,F.faR,F.faNd,?_,?_,?_,?_⟩⟩
 ·haveI:=S.resv b (l.r b m).1
  exact au ((this).symm.trans e)
 ·intro a ha
  refine xE (F.faR' a ha) λo ho=> ?_
  exact k.live ho
 ·intro i x v h1 h2 h3
  refine aW (F.loc i x v h1 h2 h3) λval e1 e2=> ?_
  exact ⟨val,e1,vk e2⟩
 ·intro i x v h1 h2 h3
  refine aS (F.cel i x v h1 h2 h3) λce val e1 e2 e3=> ?_
  exact ⟨ce,val,e1,k.cell l e2,vk e3⟩
 ·intro x h1
  refine cU (F.celAll x h1) λce w e1 e2=> ?_
  exact ⟨ce,w,e1,k.cell l e2⟩
end
section
noncomputable abbrev fA:List Value:=[.ref 38, .type "Exception", .type "BaseException", .type "object"]
abbrev sR (C:Addr)(x:Str × Str × Addr × List Value × List Str × List Value × Bool × Option Bool × Option Addr × Option Value × Option Value × Option Value × Option Value × Option Value):Obj:=
 excClassObj x.1 x.2.1 C x.2.2.1 x.2.2.2.1 fA true x.2.2.2.2.1 x.2.2.2.2.2.1 x.2.2.2.2.2.2.1 x.2.2.2.2.2.2.2.1 x.2.2.2.2.2.2.2.2.1 x.2.2.2.2.2.2.2.2.2.1 x.2.2.2.2.2.2.2.2.2.2.1 x.2.2.2.2.2.2.2.2.2.2.2.1 x.2.2.2.2.2.2.2.2.2.2.2.2.1 x.2.2.2.2.2.2.2.2.2.2.2.2.2 "Exception.__new__"
structure ExcK (G:Gd) (C:Addr):Prop where
 cls:∃x,G.K.lookup C=some (sR C x)
 init:findIn G.K (.ref C) "__init__"=some (some (.ref 35))
 sa:findIn G.K (.ref C) "__setattr__"=some (some (.builtin "object.__setattr__"))
 msg:findIn G.K (.ref C) "message"=some none
theorem pf (Z:IsG G):ExcK G 51:=⟨⟨(_,_,_,_,_,_,_,_,_,_,_,_,_,_),by exact congrArg _ (Z.K)⟩,by rw [Z.K];kernel_rfl,by rw [Z.K];kernel_rfl,by rw [Z.K];kernel_rfl⟩
theorem vZ (Z:IsG G):ExcK G 63:=⟨⟨(_,_,_,_,_,_,_,_,_,_,_,_,_,_),by exact congrArg _ (Z.K)⟩,by rw [Z.K];kernel_rfl,by rw [Z.K];kernel_rfl,by rw [Z.K];kernel_rfl⟩
section
variable {prog:Program} {w:World} {M:Model} {A:Around} {E:Value→Shared→Prop} {h:Heap} {g:Array GenState} {d:Drawn} {t:Nat} {os:OsState}
variable {nm q:Str} {C N:Addr} {bs:List Value} {hdct:Bool} {sn:List Str} {sub:List Value} {ab:Bool} {col:Option Bool} {dd:Option Addr} {k0 k1 k2 k3 k5:Option Value}
theorem ym:(Value.ref C::fA).contains (.type "Exception")=true:=rfl
theorem GW:(Value.ref C::fA).contains (.type "BaseException")=true:=rfl
theorem GX:(Value.ref C::fA).contains (.ref C)=true:=by simp
theorem Wn:(Value.ref C::fA).contains (.type "AttributeError")=false:=rfl
theorem Wo:(Value.ref C::fA).contains (.type "NameError")=false:=rfl
theorem Wr:(Value.ref C::fA).contains (.type "object")=true:=rfl
theorem PC (hC:h.get? C=some (excClassObj nm q C N bs fA hdct sn sub ab col dd k0 k1 k2 k3 k5 "Exception.__new__"))
  (hq:Q () ⟨h,g,d,t,os⟩):wpAny M A (checkBuiltinCall "Exception.__new__" ⟨.ref C::rest,[]⟩) Q E ⟨h,g,d,t,os⟩:=by
 haveI F:=PySem.F.excBase_Exception
 haveI hcont:=ym (C:=C)
 haveI hstar:=F.noStar
 rw [checkBuiltinCall,F.newKind,F.newSplit,F.newRow]
 repeat (first | refine wpAny_loadPart_at hC ?_ | (refine wpAny_isSubtype_exc hC ?_;skip) | refine wpAny_staticBase_exc hC ?_ | refine wpAny_madeBy_exc hC ?_ | rw [bne_self_eq_false,Bool.false_eq_true,if_false] | wp_step)
 exact hq
theorem Sq (hC:h.get? C=some (excClassObj nm q C N bs fA hdct sn sub ab col dd k0 k1 k2 k3 k5 "Exception.__new__"))
  (hq:R (.ok (.ret (.ref (h.objs.size+1)))) ⟨(h.push { cls:= .type "tuple",data:= .seq rest.toArray }).push
   { cls:= .ref C,data:= .fields #[.ref h.objs.size, .none, .none, .none, .bool false, .none] },g,d,t,os⟩)(hrest:rest.length≤sizeLine):
  codeAny (model prog w) A (.builtin "Exception.__new__" ⟨.ref C::rest,[]⟩) R ⟨h,g,d,t,os⟩:=by
 haveI F:=PySem.F.excBase_Exception
 haveI hends:=F.ends
 haveI hcB:=ym (C:=C)
 haveI hcA:=Wn (C:=C)
 haveI hcN:=Wo (C:=C)
 refine codeAny_builtinAt F.entry ?_
 unfold Builtin.«BaseException.__new__»
 refine PySem.wpAt_bind ?_
 refine PySem.wpAt_bind (PySem.wpAt_stack λp bS=>PySem.wpAt_of_wpAny ?_)
 wp_walk
 refine PySem.wpAt_of_wpAny ?_
 refine (F.owner)▸ ?_
 repeat (first | with_reducible refine wpAny_madeHere_exc F.canon hC ?_ | with_reducible refine wpAny_loadPart_at hC ?_ | (with_reducible refine wpAny_isSubtype_exc hC ?_;first | skip | rw [hcA] | rw [hcN]) | wp_step)
 show R _ _
 rw [Heap.size_push]
 exact hq
theorem M0 {K:Frag}(X:K.In h)
  (hC:h.get? C=some (excClassObj nm q C N bs fA hdct sn sub ab col dd k0 k1 k2 k3 k5 "Exception.__new__"))(hi:findIn K (.ref C) "__init__"=some (some (.ref fI)))
  (hfI:h.get? fI=some oI)(hfc:oI.cls= .type "function")
  (hq:∀h' e,Heap.MadeExcOf h h' e (.ref C) rest→
   wpAny (model prog w) A (call (.ref fI) (.ref e::rest)) (λr s'=>r= .none∧Q (.done (.ret (.ref e))) s') E ⟨h',g,d,t,os⟩)(hrest:rest.length≤sizeLine):
  wpAny (model prog w) A (Builtin.«type.__call__» ⟨.ref C::rest,[]⟩) Q E ⟨h,g,d,t,os⟩:=by
 haveI F:=PySem.F.excBase_Exception
 repeat (first | with_reducible refine wpAny_loadPart_at hC ?_ | with_reducible refine wpAny_madeBy_exc hC ?_ | wp_step)
 refine codeAny_call_builtin_code (Code.quiet_builtin _ F.quiet) (PC hC ?_)
 refine Sq hC ?_ hrest
 have keep:∀b o,h.get? b=some o→((h.push { cls:= .type "tuple",data:= .seq rest.toArray }).push
   { cls:= .ref C,data:= .fields #[.ref h.objs.size, .none, .none, .none, .bool false, .none] }).get? b=some o:=λb o e=>cA _ (cA _ e)
 haveI hC₁:=keep _ _ hC
 haveI hfI₁:=keep _ _ hfI
 haveI hget:((h.push { cls:= .type "tuple",data:= .seq rest.toArray }).push
   { cls:= .ref C,data:= .fields #[.ref h.objs.size, .none, .none, .none, .bool false, .none] }).get? (h.objs.size+1)=some
   { cls:= .ref C,data:= .fields #[.ref h.objs.size, .none, .none, .none, .bool false, .none] }:=by heap_get
 haveI hcC:=GX (C:=C)
 unfold isInstance
 repeat (first | with_reducible refine wpAny_loadPart_at hget ?_ | (with_reducible refine wpAny_isSubtype_exc hC₁ ?_;refine (hcC).symm▸ ?_) | wp_step)
 refine looks_findIn (X.keeps keep) hi _ _ _ _ (λ_ _ e=>e) ?_
 refine wpAny_holding (am ?_)
 unfold bindSpecial
 refine am (wpAny_typeOf (T:="function") ⟨_,hfI₁,hfc⟩ ?_)
 refine aC (am (bN (hq _ (h.objs.size+1) ⟨keep,Heap.get?_none_of_le (Nat.le_succ _),h.objs.size,hget,Heap.get?_none_of_le (Nat.le_refl _),?_⟩) (λr s' hr=> ?_) λ_ _ x=>x))
 ·exact cA _ (Heap.get?_push_at rfl rfl)
 ·obtain ⟨rfl,hQ⟩:=hr
  wp_walk
  exact hQ
theorem Qx {K:Frag}(X:K.In h)
  (hC:h.get? C=some (excClassObj nm q C N bs fA hdct sn sub ab col dd k0 k1 k2 k3 k5 "Exception.__new__"))(hi:findIn K (.ref C) "__init__"=some (some (.ref fI)))
  (hfI:h.get? fI=some oI)(hfc:oI.cls= .type "function")
  (hq:∀h' e,Heap.MadeExcOf h h' e (.ref C) rest→
   wpAny (model prog w) (A.under (.builtin "type.__call__" ⟨.ref C::rest,[]⟩)) (call (.ref fI) (.ref e::rest)) (λr s'=>r= .none∧Q (.ref e) s') E ⟨h',g,d,t,os⟩)(hrest:rest.length≤sizeLine):
  wpAny (model prog w) A (call (.ref C) rest) Q E ⟨h,g,d,t,os⟩:=by
 haveI f1:=tc_lookup
 haveI f2:=tc_bind (.ref C)
 haveI hT:(⟨h,g,d,t,os⟩:Shared).TypeIs (.ref C) "type":=⟨_,hC,rfl⟩
 refine wpAny_call (codeAny_of_tree ?_)
 show wpAny _ _ (callAny (.ref C) _) _ _ _
 repeat (any_goals (first | assumption | with_reducible refine wpAny_loadPart_at hC ?_ | wp_step))
 refine ⟨rfl,?_⟩
 refine codeAny_call_builtin_at (Code.quiet_builtin _ (by decide +kernel)) entry_typeCall (wpAny_check_type_call_sub hC (M0 X hC hi hfI hfc (λh' e hm=> ?_) hrest))
 exact hq h' e hm
end
end
section
open Builtin Builtin.ObjectAttr
section
variable {prog:Program} {w:World} {M:Model} {A:Around} {E:Value→Shared→Prop} {h:Heap} {g:Array GenState} {d:Drawn} {t:Nat} {os:OsState}
variable {nm q:Str} {C N x:Addr} {bs:List Value} {sn:List Str} {sub:List Value} {ab:Bool} {col:Option Bool} {dd:Option Addr} {k0 k1 k2 k3 k5:Option Value} {name:Str} {v:Value} {K:Frag}
theorem M1
  (hC:h.get? C=some (excClassObj nm q C N bs fA true sn sub ab col dd k0 k1 k2 k3 k5 "Exception.__new__"))(hx:h.get? x=some o)(hc:o.cls= .ref C)(hq:Q () ⟨h,g,d,t,os⟩):
  wpAny M A (checkBuiltinCall "object.__setattr__" ⟨[.ref x,nameV,v],[]⟩) Q E ⟨h,g,d,t,os⟩:=by
 have SF:=PySem.F.store_Exception
 have hcB:=Wr (C:=C)
 have ha:=SF.args (.ref x) nameV v
 simp only [checkBuiltinCall,SF.kind,SF.split]
 refine am ?_
 ·unfold isInstance
  repeat (first | (with_reducible refine wpAny_loadPart_at hx ?_;rw [hc]) | (with_reducible refine wpAny_isSubtype_exc hC ?_;rw [hcB]) | wp_step)
  exact hq
theorem PD (X:K.In h)
  (hC:h.get? C=some (excClassObj nm q C N bs fA true sn sub ab col dd k0 k1 k2 k3 k5 "Exception.__new__"))(hna:findIn K (.ref C) name=some none)
  (hx:h.get? x=some o)(hc:o.cls= .ref C)(hdn:o.dict=none)(hd:o.data= .fields vs)
  (hq:∀h' tk' dx,h'.get? x=some { o with dict:=some dx }→(∀b o,b≠x→h.get? b=some o→h'.get? b=some o)→Q (.done (.ret .none)) ⟨h',g,d,tk',os⟩):
  wpAny (model prog w) A (Builtin.«object.__setattr__» ⟨[.ref x, .str name tk,v],[]⟩) Q E ⟨h,g,d,t,os⟩:=by
 have hpass:=PySem.F.store_Exception.passes (.ref x)
 unfold Builtin.«object.__setattr__»
 repeat (first | rw [refuse_eq] | (rw [refuseLoop_ref,refuseLoop_ref,hpass]) | (with_reducible refine wpAny_loadPart_at hx ?_;rw [hc]) | with_reducible refine wpAny_mroOf_exc hC ?_ | (refine (looks_findIn X hna).here ?_) | wp_step)
 rw [hdn,if_neg (by simp [typeHasDict])]
 split
 ·rename_i hcd
  exact au hcd
 split
 ·rename_i c hcd
  rw [hd] at hcd;cases hcd
 ·have hx₁:(h.push { cls:= .type "dict",data:= .dict #[] }).get? x=some o:=cA _ hx
  have hxs:x≠h.objs.size:=Nat.ne_of_lt (Heap.lt_size hx)
  refine am (wpAny_alloc' ?_)
  refine am (wpAny_update' hx₁ ?_)
  refine aC ?_
  have hgd:((h.push { cls:= .type "dict",data:= .dict #[] }).update x λo=>{ cls:=o.cls,dict:=some h.objs.size,data:=o.data,slots:=o.slots }).get? h.objs.size
    =some { cls:= .type "dict",data:= .dict #[] }:=
   (Heap.get?_update_ne _ _ _ _ hxs.symm).trans (Heap.get?_push_at rfl rfl)
  have hnd:((h.push { cls:= .type "dict",data:= .dict #[] }).update x λo=>{ cls:=o.cls,dict:=some h.objs.size,data:=o.data,slots:=o.slots }).Ns h.objs.size (λ_=>none):=
   ⟨_,#[],_,hgd,rfl,λe he=>absurd he (by simp),λ_=>rfl⟩
  show wpAny _ _ (storeInDict h.objs.size (.str name tk) name v) _ _ _
  unfold storeInDict newKeyGuard
  refine am (aC (am (wpAny_nsSet1 (Heap.Ns1.of_empty hnd) λh' hn' hs=> ?_)))
  obtain ⟨oD,esD,epD,hoD,hdD,hcD⟩:=hn'.count (Within.cons name v Within.nil)
  refine am (wpAny_lookBehind hoD (by rw [hdD];exact pastItsLine_dict (ba hcD (by rw [List.length_cons,List.length_nil,sizeLine_eq];omega))) ?_)
  wp_walk
  refine hq h' _ h.objs.size ?_ λb ob hbx hb=> ?_
  ·refine (hs.2 x hxs).trans (Heap.get?_update_self _ hx₁ ?_)
   have hfr:=(Heap.get?_some_iff.mp hx).2
   obtain ⟨oc,od,odt,osl⟩:=o
   cases odt <;> first | rfl | exact hfr
  ·exact (hs.2 b (Nat.ne_of_lt (Heap.lt_size hb))).trans ((Heap.get?_update_ne _ _ _ _ hbx).trans (cA _ hb))
theorem ND (X:K.In h)
  (hC:h.get? C=some (excClassObj nm q C N bs fA true sn sub ab col dd k0 k1 k2 k3 k5 "Exception.__new__"))(hsa:findIn K (.ref C) "__setattr__"=some (some (.builtin "object.__setattr__")))(hna:findIn K (.ref C) name=some none)
  (hx:h.get? x=some o)(hc:o.cls= .ref C)(hdn:o.dict=none)(hd:o.data= .fields vs)
  (hq:∀h' tk' dx,h'.get? x=some { o with dict:=some dx }→(∀b o,b≠x→h.get? b=some o→h'.get? b=some o)→Q () ⟨h',g,d,tk',os⟩):
  wpAny (model prog w) A (setAttr (.ref x) name v) Q E ⟨h,g,d,t,os⟩:=by
 have SF:=PySem.F.store_Exception
 have f3:=SF.slot.bind (.ref x)
 unfold setAttr callSpecial? specialOf
 repeat (any_goals (first | assumption | (with_reducible refine wpAny_loadPart_at hx ?_;rw [hc]) | (refine (looks_findIn X hsa).here ?_) | wp_step))
 refine codeAny_call_builtin SF.slot.plain SF.entry (M1 hC hx hc (PD X hC hna hx hc hdn hd λh' tk' dx e1 e2=> ?_))
 repeat (any_goals (first | assumption | wp_step))
 exact hq h' tk' dx e1 e2
theorem Mg
  (hC:h.get? C=some (excClassObj nm q C N bs fA true sn sub ab col dd k0 k1 k2 k3 k5 "Exception.__new__"))
  (hx:h.get? x=some { cls:= .ref C,data:= .fields #[.ref t0, .none, .none, .none, .bool false, .none] })(hr:rest.length≤sizeLine)
  (hq:∀h' t1,h'.get? x=some { cls:= .ref C,data:= .fields #[.ref t1, .none, .none, .none, .bool false, .none] }→(∀b o,b≠x→h.get? b=some o→h'.get? b=some o)→Q .none ⟨h',g,d,t,os⟩):
  wpAny (model prog w) A (call (.builtin "Exception.__init__") (.ref x::rest)) Q E ⟨h,g,d,t,os⟩:=by
 have F:=PySem.F.excBase_Exception
 have hchk:∀{A:Around} {Q:Unit→Shared→Prop} {E:Value→Shared→Prop},Q () ⟨h,g,d,t,os⟩→wpAny (model prog w) A (checkBuiltinCall "Exception.__init__" ⟨.ref x::rest,[]⟩) Q E ⟨h,g,d,t,os⟩:=by
  intro A Q E hq
  have hcB:=ym (C:=C)
  have hshort:=F.noStar
  simp only [checkBuiltinCall,F.initKind,F.initSplit,F.initRow]
  repeat (first | (with_reducible refine wpAny_loadPart_at hx ?_) | with_reducible refine wpAny_loadPart_at hC ?_ | (with_reducible refine wpAny_isSubtype_exc hC ?_;rw [hcB]) | wp_step)
  refine wpAny_onRaise ?_
  rw [show ∀(a b:String) (n:Nat),Bind.check ⟨.positional,"*","Exception", .self,[⟨"args", .varPos,false⟩]⟩ a b n (List.map (λx=>x.fst) ({ pos:=Value.ref x::rest }:Args).kw)=pure () from
   λa b n=>check_star_args _ _ _ _ _ _]
  exact aC hq
 refine wpAny_call (codeAny_call_builtin F.init.plain F.initEntry (hchk ?_))
 wp_walk
 refine hq _ (h.objs.size) ?_ λb ob hbx hb=> ?_
 ·rw [Heap.get?_update_self _ (cA _ hx) rfl]
  rfl
 ·rw [Heap.get?_update_other _ _ (Ne.symm hbx)]
  exact cA _ hb
end
end
theorem lX {b h:Heap}(st:b.StaysIn h)(e:h.get? a=none):b.get? a=none:=match z:b.get? a with
 | none=>rfl
 | some o=>au (e.symm.trans (st a o z))
noncomputable def Lf (l:List Env):List Addr:=l.filterMap (·.frame)
theorem pu (h:e.frame=some L):Lf (e::l)=L::Lf l:=List.filterMap_cons_some h
noncomputable def UpL (l:List Env)(s s':Shared):Prop:=∀b o,b∈Lf l→s.heap.get? b=some o→(∀vs,o.data≠ .fields vs)→∃sl,s'.heap.get? b=some { o with slots:=sl }
theorem UpL.trans (x:UpL l a b)(y:UpL l b c):UpL l a c:=λz o m e hn=>(x z o m e hn).elim λ_ e1=>have q:=y z _ m e1 hn;q
theorem UpL.of (x:a.heap.UpToSlots b.heap):UpL l a b:=λz o _ e hn=>x z o e hn
theorem wV (m:a∈Lf l):a∈Lf (e::l):=(List.mem_filterMap.mp m).elim λx q=>List.mem_filterMap.mpr ⟨x, .tail _ q.1,q.2⟩
theorem UpL.tail (x:UpL (env::l) a b):UpL l a b:=λz o m e hn=>x z o (wV m) e hn
structure Fly (G:Gd) (mu:Md) (W:List Addr) (base:Heap) (A:Around) (env:Env) (Yn:List Env) (s:Shared) (R:List Addr) (J:aG):Prop where
 fr:A.frames=some (env::Yn)
 fm:env.frame=some env.locals
 st:base.StaysIn s.heap
 ff:s.heap.FunFrames base (env::Yn)
 nb:∀a∈bs G mu J ++W,base.get? a=none
 lo:∀a∈Lf Yn,a∈R∧a∉own J∧a∉G.TB∧a∉W
theorem we (k:KB X h h'):∀{l:List Env},(∀a∈Lf l,a∉X)→h.FunFrames base l→h'.FunFrames base l
 | [],_,_=>trivial
 | _::_,hl,⟨k1,⟨L,o,q⟩,r⟩=>⟨k1,⟨L,o,q.1,q.2.1,k L o (hl L (pu q.1▸ .head _)) q.2.2.1,q.2.2.2⟩,we k (λa m=>hl a (wV m)) r⟩
theorem GY {h:Heap}(n:h.Ns a m):∃o,h.get? a=some o∧∀vs,o.data≠ .fields vs:=gn n λo _ _ ho hd _=>⟨o,ho,λ_ q=>nomatch (hd.symm.trans q)⟩
theorem Fly.go (f:Fly G mu W base A env Yn s R J)(g:Go (bs G mu J ++W) s s' R J R' J')(c:Cx G Γ A s' env R' J' U V):
  Fly G mu W base A env Yn s' R' J'∧UpL Yn s s':=
 have hL:∀a∈Lf Yn,a∉bs G mu J ++W:=λa m q=>(bC q).elim (λq=>(ng q).elim (f.lo a m).2.2.1 (f.lo a m).2.1) (f.lo a m).2.2.2
 ⟨⟨f.fr,f.fm,λb o e=>g.kb b o (λm=>au ((f.nb b m).symm.trans e)) (f.st b o e),
  ⟨f.ff.1,f.ff.2.1.elim λL q=>q.elim λo q=>c.F.elim λ_ F=>(GY F.fr.ns).elim λo' p=>⟨_,o',f.fm,aD (q.1.symm.trans f.fm)▸q.2.1,p.1,p.2⟩,we g.kb hL f.ff.2.2⟩,
  λa m=>(bC m).elim (λm=>(nF g m).elim (λq=>f.nb a (dE _ q)) λq=>lX f.st q) λm=>f.nb a (dy _ m),
  λa m=>⟨g.rs a (f.lo a m).1,λq=>(g.jf a q).elim (f.lo a m).2.1 λq=>(f.ff.2.2.mem m).2.elim λo e=>au (q.symm.trans e.1),(f.lo a m).2.2⟩⟩,
  λb o m e _=>⟨o.slots,g.kb b o (hL b m) e⟩⟩
theorem Fly.kp (f:Fly G mu W base A env Yn s R J)(c:Cx G Γ A s env R J U V)(k:Kp s s'):Fly G mu W base A env Yn s' R J∧UpL Yn s s':=
 f.go (Go.of_kp k) (c.kp k)
theorem Fly.goX (f:Fly G mu W base A env Yn s R J)(g:Go (bs G mu J) s s' R J R' J')(c:Cx G Γ A s' env R' J' U V):
  Fly G mu W base A env Yn s' R' J'∧UpL Yn s s':=f.go (g.wide λz m=>dE _ m) c
theorem Fly.drop (f:Fly G mu W base A env Yn s R J):Fly G mu [] base A env Yn s R J:=
 ⟨f.fr,f.fm,f.st,f.ff,λa m=>f.nb a (dE _ ((bC m).resolve_right bq)),λa m=>⟨(f.lo a m).1,(f.lo a m).2.1,(f.lo a m).2.2.1,bq⟩⟩
theorem Cx.inter {A:Around}(c:Cx G Γ A s env R J U V):interactive env=false:=c.F.elim λ_ F=>by unfold interactive;rw [F.kind];rfl
theorem LOk.enter {s s1:Shared}(l:LOk G (Lf fr) R J s.heap)(c:Cx G Γ A s1 env R1 J U V)(hf:env.frame=some env.locals)(hR:∀a∈R,a∈R1)(kb:KB [] s.heap s1.heap):LOk G (Lf (env::fr)) R1 J s1.heap:=
 (pu hf).symm▸⟨λa m=>(aU m).elim (λe=>e▸c.F.elim λ_ F=>F.faR _ eP) λm=>(l.r a m).imp (hR a) id,
  λa m=>(aU m).elim (λe=>e▸c.F.elim λ_ F=>gn F.fr.ns λo es ep ho hd _=>⟨o,es,ep,ho,hd⟩) λm=>da (l.d a m) λo es ep ho hd=>⟨o,es,ep,kb a o bq ho,hd⟩⟩
theorem KSl.leave (k:KSl (Lf (env::fr)) s1 s')(hf:env.frame=some env.locals)(fL:s.heap.get? env.locals=none)(sh:∃h tk,s1= { s with heap:=h,toks:=tk })(kb:KB [] s.heap s1.heap):KSl (Lf fr) s s':=
 ⟨fy sh λ_ _ e=>fy k.sh λh tk q=>⟨h,tk,q.trans (e▸rfl)⟩,λb o hb e=>k.kb b o (λm=>(aU (pu hf▸m:b∈env.locals::Lf fr)).elim (λz=>au (fL.symm.trans (z▸e))) hb) (kb b o bq e),λb o hb e=>k.sl b o (wV hb) (kb b o bq e)⟩
noncomputable def Thr (base:Heap)(env:Env)(Yn:List Env)(C:Addr)(s:Shared)(v:Value)(s':Shared):Prop:=
 ∃e,v= .ref e∧(∃h tk,s'= { s with heap:=h,toks:=tk })∧Up base (env::Yn) C e env.locals s'.heap∧UpL Yn s s'
theorem du {s s1 s':Shared}(x:∃h tk,s1= { s with heap:=h,toks:=tk })(y:∃h tk,s'= { s1 with heap:=h,toks:=tk }):∃h tk,s'= { s with heap:=h,toks:=tk }:=fy x λ_ _ e=>fy y λh tk q=>⟨h,tk,q.trans (e▸rfl)⟩
theorem Thr.after (sh:∃h tk,s1= { s with heap:=h,toks:=tk })(u:UpL Yn s s1)(t:Thr base env Yn C s1 v s'):Thr base env Yn C s v s':=
 t.imp λe q=>⟨q.1,du sh q.2.1,q.2.2.1,u.trans q.2.2.2⟩
abbrev RX:=Lo→ar→Option Addr
noncomputable def RT (G:Gd)(mu:Md)(Γ:FI){α:Type}(W:Env→List Addr)(t:Env→Sem α)(x:RX):Prop:=∀U V C,x U V=some C→∀(A:Around) (s:Shared) (env:Env) (Yn:List Env) (R:List Addr) (J:aG) (base:Heap) (E:Value→Shared→Prop),Cx G Γ A s env R J U V→Fly G mu (W env) base A env Yn s R J→
 (∀v s',Thr base env Yn C s v s'→E v s')→wpAny (model G.prog G.w) A (t env) (λ_ _=>False) E s
noncomputable abbrev RE (G:Gd)(mu:Md)(Γ:FI)(e:Expr)(x:RX):Prop:=RT G mu Γ (λ_=>[]) (eval e) x
noncomputable abbrev RS (G:Gd)(mu:Md)(Γ:FI)(st:Stmt)(x:RX):Prop:=RT G mu Γ fa (exec st) x
noncomputable abbrev eL (G:Gd)(mu:Md)(Γ:FI)(sts:List Stmt)(x:RX):Prop:=RT G mu Γ fa (execs sts) x
noncomputable def RF (G:Gd)(tb:Bool)(nf:Nat→Nat)(d:Nat)(f:Value)(F:List AV→ar→Option Addr):Prop:=
 ∀avs V C,F avs V=some C→∀(A:Around) (s:Shared) (R:List Addr) (J:aG) (vals:List Value) (Yn:List Env) (base:Heap) (E:Value→Shared→Prop),AOk d A→SR G R J V s.heap→VRels G R J s.heap avs vals→
  A.frames=some Yn→base.StaysIn s.heap→s.heap.FunFrames base Yn→(∀a∈bs G ⟨tb,nf V.length⟩ J,base.get? a=none)→(∀a∈Lf Yn,a∈R∧a∉own J∧a∉G.TB)→
  (∀e a0 s',(∃h tk,s'= { s with heap:=h,toks:=tk })→Heap.FlyingW base Yn e (.ref C) a0 s'.heap→UpL Yn s s'→E (.ref e) s')→
  codeAny (model G.prog G.w) A (.call f ⟨vals,[]⟩) (λr s'=>match r with | .ok _=>False | .error x=>E x s') s
noncomputable def yY:Fl→Option Unit
 | .next=>some ()
 | _=>none
theorem Sr (h:yY f=some u):f= .next:=by cases f <;> first | rfl | exact au h
theorem Ss (e:yY f=some u)(k:FlRel G R J h f r):r= .next:=show FlRel G R J h .next r from Sr e▸k
def sS (a:aF)(b:RX):RX:=λU V=>(a U V).bind λp=>(yY p.1).bind λ_=>b p.2.1 p.2.2
theorem wt {st:Stmt}(ha:MS G mu Γ st a)(hb:eL G mu Γ sts b):eL G mu Γ (st::sts) (sS a b):=λU V C q A s env Yn R J base E c f hE=>
 aw q λp e1 q=>aw q λu e2 q=>dO (wE (ha _ _ _ _ _ e1 A s env R J _ c λr s1 R1 J1 g1 c1 fr=>(f.go g1 c1).elim λf1 u1=>(Ss e2 fr).symm▸
  hb _ _ _ q A s1 env Yn R1 J1 base E c1 f1 λv s' t=>hE v s' (t.after g1.sh u1)))
theorem fN {st:Stmt}(ha:RS G mu Γ st a):eL G mu Γ (st::sts) a:=λU V C q A s env Yn R J base E c f hE=>
 dO (wF (ha _ _ _ q A s env Yn R J base E c f hE))
theorem X3 {α:Type}{x y:Option α}{C:α}{P:Prop}(q:(bif b then x else y)=some C)(k1:b=true→x=some C→P)(k2:b=false→y=some C→P):P:=match b,q with
 | true,q=>k1 rfl q
 | false,q=>k2 rfl q
noncomputable def qk (t:eh)(a b:RX):RX:=λU V=>(t U V).bind λp=>bif p.1 then a U p.2 else b U p.2
theorem sT (ht:MY G mu Γ e t)(ha:eL G mu Γ bd a)(hb:eL G mu Γ el b):RS G mu Γ (.If e bd el pos) (qk t a b):=λU V C q A s env Yn R J base E c f hE=>
 aw q λp e1 q=>wpAny_If (wE (ht _ _ _ _ e1 A s env R J _ c λs1 R1 J1 g1 c1=>(f.go g1.xs c1).elim λf1 u1=>X3 q
  (λh q=>oj h (ha _ _ _ q A s1 env Yn R1 J1 base E c1 f1 λv s' t=>hE v s' (t.after g1.sh u1))) λh q=>ml h (hb _ _ _ q A s1 env Yn R1 J1 base E c1 f1 λv s' t=>hE v s' (t.after g1.sh u1))))
noncomputable def qm:RX:=λ_ _=>none
theorem sf:eL G mu Γ sts qm:=λ_ _ _ q=>au q
noncomputable abbrev GZ:FI:=⟨[("self", .local),("message", .local),("Exception", .globalImplicit)],["self","message"],0, .ref 34,"SwitchError.__init__.<locals>."⟩
theorem HB (Z:IsG G):DefF G GZ 35 GR Wa:=Z.df
theorem M2 (Z:IsG G):ev G "Exception" (.type "Exception"):=Z.bv ("Exception", .type "Exception") (d7 (i:=8) rfl)
theorem Qy {K:Frag}(X:K.In s.heap)
  (h:Q (.builtin "Exception.__init__",[]) { s with toks:=s.toks+1 }):wpAny (model prog w) A (getMethod (.type "Exception") "__init__" pl) Q E s:=by
 haveI hstub:opaqueClassAbove (.type "Exception")=pure none:=by unfold opaqueClassAbove;dsimp only;rfl
 haveI ht:typeOf (.type "Exception")=pure (.type "type"):=by first | rfl | kernel_rfl
 haveI L0:Looks (model prog w) s.heap (typeOf (.type "Exception")) (.type "type"):=Looks.of_pure ht
 haveI hg:findIn K (.type "type") "__getattribute__"=some (some (.builtin "type.__getattribute__")):=type_tga
 haveI hcan:(Manifest.canonical "type.__getattribute__" != "object.__getattribute__")=true:=by decide +kernel
 haveI e:findCls K (.type "Exception") (.type "type") "__init__"=some (.val (.builtin "Exception.__init__")):=by rfl
 unfold getMethod specialOf
 refine am (am (L0.here ((looks_findIn X hg).here ?_)))
 dsimp only
 refine am (bN (Q:=λv=>Q (v,[])) (E:=E) ?_ (λ_ _ z=>aC z) λ_ _ z=>z)
 haveI LO:Looks (model prog w) s.heap (opaqueClassAbove (.type "Exception")) none:=Looks.of_pure hstub
 refine cls_open X LO L0 hg (looks_hook X (r:=none) (by rfl)) (by show subIn K _ _=_;rfl) e ?_
 exact aC (aC h)
theorem Qz (Z:IsG G)(K:ExcK G C)(hA:AOk 1 A)(S:SR G R J V s.heap)(heG:G.g.get? e=none)
  (he:s.heap.get? e=some { cls:= .ref C,data:= .fields #[.ref t0, .none, .none, .none, .bool false, .none] })
  (hP:∀s' dx t1,(∃h tk,s'= { s with heap:=h,toks:=tk })→(∀b o,b≠e→s.heap.get? b=some o→s'.heap.get? b=some o)→s'.heap.get? e=some { cls:= .ref C,dict:=some dx,data:= .fields #[.ref t1, .none, .none, .none, .bool false, .none] }→P (.ok (.ret .none)) s'):
  codeAny (model G.prog G.w) A (.call (.ref 35) ⟨[.ref e,msg],[]⟩) P s:=by
 refine lB (Γ:=GZ) (ps:=["self","message"]) (n:=2) (dv:=[]) (dav:=[]) (d:=1) (avs:=[.lit (.ref e), .lit msg]) (HB Z) rfl (by decide +kernel) (by decide +kernel) rfl
  (ju cF) (λ_ _ _ _ _=> .nil) (by decide +kernel) (by decide) rfl hA S (.cons rfl (.one rfl)) λenv s1 L sh kb fL hL hcl hf go c=>c.F.elim λm F=>aW (F.loc 0 "self" (.lit (.ref e)) rfl rfl rfl) λv1 hv1 r1=>aW (F.loc 1 "message" (.lit msg) rfl rfl rfl) λv2 hv2 r2=>K.cls.elim λx hx=> ?_
 subst hL
 have hv1:m "self"=some (.ref e):=(show v1=_ from r1)▸hv1
 have hv2:m "message"=some msg:=(show v2=_ from r2)▸hv2
 have hLe:env.locals≠e:=λz=>au (fL.symm.trans (z▸he))
 have nself:∀{s2:Shared} {p:Pos} {Q:Value→Shared→Prop} {E:Value→Shared→Prop} {A:Around},s2.heap.Ns env.locals m→Q (.ref e) s2→wpAny (model G.prog G.w) A (eval (.Name "self" p) env) Q E s2:=λhn hq=>wpAny_Name (wpAny_loadName_local F.kind (ij F.nms _) hn hv1 hq) (by kernel_rfl)
 have nmsg:∀{s2:Shared} {p:Pos} {Q:Value→Shared→Prop} {E:Value→Shared→Prop} {A:Around},s2.heap.Ns env.locals m→Q msg s2→wpAny (model G.prog G.w) A (eval (.Name "message" p) env) Q E s2:=λhn hq=>wpAny_Name (wpAny_loadName_local F.kind (ij F.nms _) hn hv2 hq) (by kernel_rfl)
 have X1:=G.inK.keeps c.S.base
 have bv:=M2 Z
 refine dO (wpAny_Expr (MethodCall_ (Name_function_global F.kind (ij F.nms _) (loadGlobal_builtin (env:=env) (mg:=G.mg) (mb:=G.mb) (F.glob▸G.top.g.keeps F.fr.keep) bv.1 (F.bt.1▸G.top.b.keeps F.fr.keep) bv.2 (Qy X1
  (nN (λ_ _=>rfl) (List.cons_ne_nil _ _) (spliced_more (nself F.fr.ns (spliced_more (nmsg F.fr.ns (spliced_none ?_)) rfl)) rfl)))) (by kernel_rfl)) rfl) c.inter rfl)
 refine Mg (X1 _ _ hx) (kb e _ bq he) (by show 1≤sizeLine;rw [sizeLine_eq];omega) λh2 t1 he2 kp2=> ?_
 have ns2:h2.Ns env.locals m:=da F.fr.ns λo es ep ho r=>⟨o,es,ep,kp2 env.locals o hLe ho,r⟩
 have X2:=G.inK.keeps (show G.g.StaysIn h2 from λb o e'=>kp2 b o (λz=>au (heG.symm.trans (z▸e'))) (c.S.base b o e'))
 exact dO (plainObj_wpAny_Assign_Attribute (nmsg ns2 (nself ns2 (ND X2 (X2 _ _ hx) K.sa K.msg he2 rfl rfl rfl λh3 tk3 dx he3 kp3=>wpAny_execs_nil (hP _ dx t1 (du sh ⟨h3,tk3,rfl⟩) (λb o hb e'=>kp3 b o hb (kp2 b o hb (kb b o bq e'))) he3)))) rfl)
theorem QA (Z:IsG G)(K:ExcK G C)(hA:AOk 2 A)(S:SR G R J V s.heap)
  (hQ:∀e s' dx t1,(∃h tk,s'= { s with heap:=h,toks:=tk })→KB [] s.heap s'.heap→s.heap.get? e=none→s'.heap.get? e=some { cls:= .ref C,dict:=some dx,data:= .fields #[.ref t1, .none, .none, .none, .bool false, .none] }→Q (.ref e) s'):
  wpAny (model G.prog G.w) A (call (.ref C) [msg]) Q E s:=by
 obtain ⟨x,hx⟩:=K.cls
 have X:=G.inK.keeps S.base
 obtain ⟨o,ho,hod⟩:=(HB Z).obj
 have hfc:o.cls= .type "function":=by
  have:=ho
  rw [Z.K] at this
  have h2:(H.K G.w.params).lookup 35=some { cls:= .type "function",data:= .func GR }:=by kernel_rfl
  rw [h2] at this
  cases this
  rfl
 obtain ⟨hh,gg,dd,t,os⟩:=s
 refine Qx X (X _ _ hx) K.init (X _ _ ho) hfc (λh' e hm=> ?_) (by show 1≤sizeLine;rw [sizeLine_eq];omega)
 obtain ⟨t0,he,_,_⟩:=hm.there
 have hA':AOk 1 (A.under (.builtin "type.__call__" ⟨.ref C::[msg],[]⟩)):=⟨hA.hd,by rw [depth_under_make];have:=hA.dp;omega,by rw [units_under_make];have:=hA.un;omega⟩
 have heG:G.g.get? e=none:=by
  cases z:G.g.get? e with
  | none=>rfl
  | some o=>have:=S.base _ _ z;rw [hm.new] at this;exact au this
 refine wpAny_call (Qz Z K hA' (s:=⟨h',gg,dd,t,os⟩) (S.keep λb o _ e=>hm.keeps b o e) heG he λs' dx t1 sh kp he'=> ?_)
 refine ⟨rfl,hQ e s' dx t1 sh (λb o _ e'=>kp b o (λz=> ?_) (hm.keeps b o e')) hm.new he'⟩
 subst z
 rw [hm.new] at e';exact au e'
noncomputable def MW (G:Gd)(Γ:FI)(e:Expr)(w:Lo→ar→Bool):Prop:=
 ∀U V,w U V=true→∀(A:Around) (s:Shared) (env:Env) (R:List Addr) (J:aG) (Q:Value→Shared→Prop),Cx G Γ A s env R J U V→
  (∀r s',Kp s s'→Q r s')→wpAny (model G.prog G.w) A (eval e env) Q aI s
theorem tj (ha:MP G Γ e a):MW G Γ e λU V=>(a U V).isSome:=λU V q A s env R J Q c hQ=>(Option.isSome_iff_exists.mp q).elim λv hv=>ha _ _ _ hv A s env R J Q c λr s' k _=>hQ r s' k
theorem PE (hh:A.handled=none)
  (h:wpAny M A x (λv s₁=> ∃e t dx,v= .ref e∧s₁.heap.get? C=some (sR C y)∧
   s₁.heap.get? e=some { cls:= .ref C,dict:=some dx,data:= .fields #[.ref t, .none, .none, .none, .bool false, .none] }∧E (.ref e) s₁) E s):
  wpAny M A (raiseStmt env (some x) none) Q E s:=by
 have hcB:=GW (C:=C)
 unfold raiseStmt
 refine am (bN h (λv s₁ h₁=> ?_) λ_ _ x=>x)
 obtain ⟨e,t,dx,rfl,hC,he,hE⟩:=h₁
 obtain ⟨hp,g,d,tk,os⟩:=s₁
 repeat (first | with_reducible refine wpAny_loadPart_at he ?_ | with_reducible refine wpAny_loadPart_at hC ?_ | (with_reducible refine wpAny_isSubtype_exc hC ?_;rw [hcB]) | wp_step)
 exact wpAny_raiseNew_none hh hE
noncomputable def pG (C:Addr)(w:Lo→ar→Bool):RX:=λU V=>if w U V then some C else none
theorem rA (Z:IsG G)(K:ExcK G C)(hv:aM G n (.lit (.ref C)))(hk:Γ.names.lookup n=some .globalImplicit)(hd:(n == ("__debug__":Str))=false)(hkeep:keepIn G.K (.ref C)=true)
  (hdd:2≤Γ.d)(hm:MW G Γ m w)(he:∀env,starEach [m] env=[(false,eval m env)]):
  RS G mu Γ (.Raise (some (.Call (.Name n np) [m] [] cpos)) none pos) (pG C w):=λU V C' q A s env Yn R J base E c f hE=>cJ q λhw e=>K.cls.elim λy hy=>by
 subst e
 rw [arm_exec_Raise]
 refine am (wpAny_standAt (PE (C:=C) (y:=y) c.A.hd (am ?_)))
 refine eX (wE (aO hv hk hd _ _ _ rfl A s env R J _ c λr s0 k0 r0=>(show r= .ref C from r0).symm▸gE (c.kp k0).inK hkeep (o9 he)
  (spliced_more (pos:=cpos) (env:=env) (rest:=[]) (e:=m) (wE (hm _ _ hw A s0 env R J _ (c.kp k0) λr s1 k1=>spliced_none ⟨((c.kp k0).kp k1).inK,?_⟩)) (he env))))
 have c1:=(c.kp k0).kp k1
 have k01:=k0.trans k1
 exact QA Z K (c1.A.le hdd) c1.S λe s' dx t1 sh kb fre he'=>(f.kp c k01).elim λf1 u1=>(f1.kp c1 (s':=s') ⟨sh,kb⟩).elim λf2 u2=>
  am (wpAny_standAt (aC ⟨e,t1,dx,rfl,G.inK.keeps (λb o e'=>kb b o bq (c1.S.base b o e')) _ _ hy,he',hE _ _ ⟨e,rfl,(k01.trans ⟨sh,kb⟩).sh,⟨f2.st,lX f1.st fre,f2.ff, .ref t1, .inl ⟨_,_,he',rfl,rfl,rfl,rfl⟩⟩,u1.trans u2⟩⟩))
noncomputable def gB (x:Lo→ar→Option (List AV × ar))(n0:Nat)(nf:Nat→Nat)(F:List AV→ar→Option Addr):RX:=λU V=>(x U V).bind λp=>if n0≤nf p.2.length then F p.1 p.2 else none
theorem Fly.call
  (fl:Fly G mu [] base A env Yn s R J)(c:Cx G Γ A s env R J U V)(hF:RF G tb nf d f F)(q:F vs V=some C)(ht:tb=true→mu.tb=true)(hle:mu.n0≤nf V.length)(hdd:d≤Γ.d)(r1:VRels G R J s.heap vs rs)(hE:∀v s',Thr base env Yn C s v s'→E v s'):
  wpAny (model G.prog G.w) A (call f rs) (λ_ _=>False) E s:=
 wpAny_call (codeAny_mono (hF _ _ _ q A s R J rs (env::Yn) base E (c.A.le hdd) c.S r1 fl.fr fl.st fl.ff (λa m=>fl.nb a (dE _ (yc ht hle a m)))
  (λa m=>(aU (pu fl.fm▸m:a∈env.locals::Lf Yn)).elim (λe=>e▸c.F.elim λ_ F=>F.faR _ eP) λm=>have q:=fl.lo a m;⟨q.1,q.2.1,q.2.2.1⟩) λe a0 s' sh fl' u'=>hE _ _ ⟨e,rfl,sh, .of_fly fl',u'.tail⟩)
  λr s' z=>match r,z with
   | .error _,z=>z
   | .ok _,z=>z.elim)
theorem gM {np pos:Pos}(hv:aM G x (.lit f))(hkeep:keepIn G.K f=true)(hF:RF G tb nf d f F)(ha:hV G mu Γ es as)(ht:tb=true→mu.tb=true:=by first | exact λ_=>rfl | exact λh=>ft h)(hk:Γ.names.lookup x=some .globalImplicit:=by kernel_rfl)(hd:(x == ("__debug__":Str))=false:=by kernel_rfl)(hdd:d≤Γ.d:=by exact bH rfl):RE G mu Γ (.Call (.Name x np) es [] pos) (gB as mu.n0 nf F):=λU V C q A s env Yn R J base E c fl hE=>
 aw q λp e1 q=>fH q λhle q=>eX (wE (aO hv hk hd _ _ _ rfl A s env R J _ c λr s0 k0 r0=>(show r=f from r0)▸(fl.kp c k0).elim λf0 u0=>
  gE (c.kp k0).inK hkeep ha.1 (wE (ha.2 _ _ _ _ e1 A s0 env R J _ pos (c.kp k0) λrs s1 R1 J1 g1 c1 r1=>⟨c1.inK,(f0.goX g1 c1).elim λf1 u1=>f1.call c1 hF q ht hle hdd r1 λv s' t=>hE v s' (Thr.after k0.sh u0 (Thr.after g1.sh u1 t))⟩))))
theorem Ga (ha:RE G mu Γ e a):RS G mu Γ (.Return (some e) pos) a:=λU V C q A s env Yn R J base E c f hE=>wpAny_Return_some (wF (ha _ _ _ q A s env Yn R J base E c f.drop hE))
theorem Su (ha:RE G mu Γ e a)(hs:∀env,swapsWith e none pos.line env=pure false):RS G mu Γ (.Expr e pos) a:=λU V C q A s env Yn R J base E c f hE=>
 wpAny_Expr (wF (ha _ _ _ q A s env Yn R J base E c f.drop hE)) c.inter (hs env)
theorem Bm (kb:KB [] h h')(f:h.FunFrames base l):h'.FunFrames base l:=f.of_keeps λb o e _=>⟨o,kb b o (by simp) e,rfl⟩
theorem Fly.enter {A:Around}{s s1:Shared}{R R1:List Addr}(hfr:A.frames=some Yn)(st:base.StaysIn s.heap)(ff:s.heap.FunFrames base Yn)(nb:∀a∈bs G mu J,base.get? a=none)
  (lo:∀a∈Lf Yn,a∈R∧a∉own J∧a∉G.TB)(kb:KB [] s.heap s1.heap)(fresh:∀a∈W,s.heap.get? a=none)(fL:s.heap.get? env.locals=none)(hf:env.frame=some env.locals)(hR:∀a∈R,a∈R1)(c:Cx G Γ (A.deeper env) s1 env R1 J U V):
  Fly G mu W base (A.deeper env) env Yn s1 R1 J:=c.F.elim λm F=>(GY F.fr.ns).elim λo ho=>
 ⟨Around.frames_deeper hfr,hf,λb o e=>kb b o bq (st b o e),⟨(λz=>nomatch (F.kind.symm.trans z)),⟨env.locals,o,hf,lX st fL,ho.1,ho.2⟩,Bm kb ff⟩,λa m=>(bC m).elim (nb a) λm=>lX st (fresh a m),
  λa m=>have q:=lo a m;⟨hR a q.1,q.2.1,q.2.2,λz=>(ff.mem m).2.elim λo e=>au ((fresh a z).symm.trans e.1)⟩⟩
theorem Thr.out {E E':Value→Shared→Prop}(t:Thr base env Yn C s1 v s')(hfr:A.frames=some (env::Yn))(hf:env.frame=some env.locals)(sh:∃h tk,s1= { s with heap:=h,toks:=tk })(kb:KB [] s.heap s1.heap)
  (hE:∀e a0 s',(∃h tk,s'= { s with heap:=h,toks:=tk })→Heap.FlyingW base Yn e (.ref C) a0 s'.heap→UpL Yn s s'→E (.ref e) s'):wpAny M A (leaving env v) (λ_ s''=>E v s'') E' s':=
 xY t λe p sh' up u=>p.symm▸up.leave hfr hf λh2 a0 fl u2=>hE e a0 _ (du sh (du sh' ⟨h2,_,rfl⟩)) fl (((UpL.of (l:=Yn) (.of_keeps λb o e=>kb b o bq e)).trans u).trans (UpL.of u2))
def iG (Γ:FI)(n:Nat)(dav:List AV)(nf:Nat→Nat)(b:Nat→RX):List AV→ar→Option Addr:=λavs V=>if avs.length=n then b (nf V.length) (eZ Γ.slots.length (avs ++dav)) V else none
theorem xr (D:DefF G Γ f fd body)(hps:Γ.slots.take ps.length=ps)(hnd:ps.Nodup)
  (hpl:∀x∈ps,Γ.names.lookup x=some .local)(hn:ps.length=n+dv.length)(hb:gT G fd ps n dv)(hdv:∀(R:List Addr) (J:aG) (h:Heap),(∀a∈R,G.g.get? a=none)→G.g.StaysIn h→VRels G R J h dav dv)
  (hcell':∀x∈Γ.names,d8 (some x.2)=false)(hd:Γ.d+1≤d)(B:∀n0,eL G ⟨tb,n0⟩ Γ body (b n0)):RF G tb nf d (.ref f) (iG Γ n dav nf b):=λavs V C q A s R J vals Yn base E hA S hv hfr st ff nb lo hE=>fH q λYp q=>lB D hps hnd hpl hn hb hdv hcell' hd Yp hA S hv λenv s1 L sh kb fL hL hcl hf go c=>
 have efa:fa env=[L]:=by unfold fa;rw [hcl,hL];rfl
 have f1:=Fly.enter (W:=fa env) hfr st ff nb lo kb (λa m=>aH (efa▸m:a∈ [L])▸fL) (hL▸fL) (hL▸hf) (λa m=> .tail _ m) c
 wF (B _ _ _ _ q _ s1 env Yn (L::R) J base _ c f1 λv s' t=>t.out f1.fr f1.fm sh kb hE)
theorem pP {n d:Nat}{nf:Nat→Nat}(D:DefF G Γ f fd body)(hb:∀vals:List Value,vals.length=n→bindArgs fd ⟨vals,[]⟩=pure ((Γ.slots.take n).zip vals))(B:∀n0,eL G ⟨tb,n0⟩ Γ body (b n0))(h2:(Γ.slots.take n).Nodup:=by decide +kernel)
  (h3:∀x∈Γ.slots.take n,Γ.names.lookup x=some .local:=by decide +kernel)(h4:(Γ.slots.take n).length=n:=by rfl)(h5:∀x∈Γ.names,d8 (some x.2)=false:=by decide)(h6:Γ.d+1≤d:=by exact Nat.le_refl _):RF G tb nf d (.ref f) (iG Γ n [] nf b):=xr (dv:=[]) (dav:=[]) D (congrArg (Γ.slots.take ·) h4) h2 h3 h4 (ju hb) (λ_ _ _ _ _=> .nil) h5 h6 B
noncomputable def yC (C:Addr)(F:List AV→ar→Option Addr):List AV→ar→Option Addr:=λavs V=>F (.ref V.length::avs) (V ++ [.inst C []])
theorem Gb (mf:MakeF G C fI)(h:RF G tb (λn=>n - 1) d (.ref fI) F):RF G tb id (d+1) (.ref C) (yC C F):=by
 intro avs V X0 q A s R J vals Yn base E hA S hv hfr st ff nb lo hE
 have X:=G.inK.keeps S.base
 haveI Y:=makes_of (M:=model G.prog G.w) X mf.mks
 obtain ⟨hh,gg,dd,t,os⟩:=s
 dsimp only at S hv X Y
 refine make_core Y (looks_findIn X mf.init) (λself=>bind_fn X self mf.fn) (.inl (by rfl)) ?_
 let n:=hh.objs.size
 have kb:KB [] hh ((hh.push emptyDict).push (instObj C n)):=(KB.push hh _).trans (KB.push _ _)
 haveI hn0:hh.get? n=none:=dr hh
 haveI hn1:hh.get? (n+1)=none:=by
  cases z:hh.get? (n+1) with
  | none=>rfl
  | some o=>haveI:=Heap.lt_size z;exact absurd this (by show ¬ (n+1< n);omega)
 haveI g0:((hh.push emptyDict).push (instObj C n)).get? n=some emptyDict:=cA _ (bK _ rfl)
 have g1:((hh.push emptyDict).push (instObj C n)).get? (n+1)=some (instObj C n):=by
  haveI:=bK (o:=instObj C n) (hh.push emptyDict) rfl
  rwa [Heap.size_push] at this
 have hl:∀a∈(⟨n+1,some n⟩:Loc).own,hh.get? a=none∧∃o,((hh.push emptyDict).push (instObj C n)).get? a=some o:=by
  intro a m
  simp only [Loc.own,Option.toList,List.mem_cons,List.not_mem_nil,or_false] at m
  rcases m with rfl | rfl
  ·exact ⟨hn1,_,g1⟩
  ·exact ⟨hn0,_,g0⟩
 haveI S1:=SR.add (l:=⟨n+1,some n⟩) (o:= .inst C []) S kb hl (by simp [Loc.own]) ⟨n,[],0,rfl,g1,g0,rfl⟩
 have go1:=xh (X:=bs G ⟨tb,V.length⟩ J) (R:=R) (J:=J) (s:=⟨hh,gg,dd,t,os⟩) (h':=(hh.push emptyDict).push (instObj C n)) (tk:=t) (l:=⟨n+1,some n⟩) kb (λa m=>(hl a m).1)
 haveI hA':AOk d (A.under (.builtin "type.__call__" ⟨.ref C::vals,[]⟩)):=⟨hA.hd,by rw [depth_under_make];haveI:=hA.dp;omega,by rw [units_under_make];haveI:=hA.un;omega⟩
 haveI hrefs:VRels G ((⟨n+1,some n⟩:Loc).own ++R) (J ++ [⟨n+1,some n⟩]) ((hh.push emptyDict).push (instObj C n)) (.ref V.length::avs) (.ref (n+1)::vals):=by
  refine ⟨_,_,rfl,?_,go1.vals (λa m=>lO S m) hv⟩
  refine ⟨⟨n+1,some n⟩,?_,rfl⟩
  rw [← S.len,List.getElem?_append_right (Nat.le_refl _)]
  simp
 haveI bf:∀a,hh.get? a=none→base.get? a=none:=λa e=>by
  cases z:base.get? a with
  | none=>rfl
  | some o=>haveI:=st a o z;simp only at this;exact au ((e).symm.trans this)
 haveI hfr':(A.under (.builtin "type.__call__" ⟨.ref C::vals,[]⟩)).frames=some Yn:=hfr
 refine codeAny_mono (h _ _ _ q _ ⟨(hh.push emptyDict).push (instObj C n),gg,dd,t,os⟩ _ _ _ Yn base E hA' S1 hrefs hfr' (λb o e=>kb b o (by simp) (st b o e)) (Bm kb ff) (λa m=> ?_) (λa m=> ?_) λe a0 s' sh fl u=> ?_) (λr s' z=> ?_)
 ·haveI Yp:(V ++ [AO.inst C []]).length - 1=V.length:=by simp
  dsimp only at m
  rw [Yp] at m
  refine Or.elim (nF go1 m) (λq=> ?_) λq=> ?_
  ·exact nb a q
  ·exact bf a q
 ·refine qh (lo a m) λh1 h2 h3=> ?_
  refine ⟨dy _ h1,λq=> ?_,h3⟩
  refine Or.elim (go1.jf a q) (λq=> ?_) λq=> ?_
  ·exact h2 q
  ·refine Hk (ff.mem m) λ_ o ho _=> ?_
   simp only at ho q
   exact au ((q).symm.trans ho)
 ·obtain ⟨h',t',rfl⟩:=sh
  exact hE e a0 _ ⟨_,_,rfl⟩ fl ((UpL.of (l:=Yn) (.of_keeps λb o e=>kb b o (by simp) e)).trans u)
 ·cases r with
  | ok f=>
   cases f with
   | ret v=>exact z.elim
   | _=>exact z
  | error x=>exact z
theorem Thr.noted (hfr:A.frames=some (env::Yn))(hf:env.frame=some env.locals)(t:Thr base env Yn C s v s')
  (hE:∀v s',Thr base env Yn C s v s'→E v s'):notedBy M A env (λe s'=>cameBackBy M A env E e s') v s':=by
 obtain ⟨e,rfl,⟨h,tk,rfl⟩,up,u⟩:=t
 refine up.note hfr hf λh2 a0 held u2=> ?_
 refine Up.back (s:={ s with heap:=h2,toks:=tk }) held hf λh3 held3 u3=> ?_
 exact hE _ _ ⟨e,rfl,⟨_,_,rfl⟩, .of_held held3,(u.trans (UpL.of u2)).trans (UpL.of u3)⟩
noncomputable def HY:List AV→Option AV
 | x::_=>some x
 | []=>none
theorem Sv (h:HY l=some x):∃r,l=x::r:=match l,h with
 | _::r,h=>⟨r,congrArg (· ::r) (aD h)⟩
 | [],h=>au h
def HC (it:mo)(tgt:iF)(b:RX):RX:=λU V=>(it U V).bind λp=>(HY p.1).bind λx=>(tgt x U p.2.2).bind λw=>b w.1 w.2
theorem Fly.poke {s s0:Shared}(f:Fly G mu (fa env) base A env Yn s R J)(c:Cx G Γ A s env R J U V)(kb:KB [I] s.heap h')(hI:s0.heap.get? I=none)(st0:base.StaysIn s0.heap)(hb:s0.heap.FunFrames base (env::Yn))(hfa:I∉fa env):
  Fly G mu (fa env) base A env Yn { s with heap:=h',toks:=tk } R J∧UpL Yn s { s with heap:=h',toks:=tk }:=
 have hIo:I∉Lf Yn:=λm=>(hb.2.2.mem m).2.elim λo e=>au (hI.symm.trans e.1)
 ⟨⟨f.fr,f.fm,λb o e=>kb b o (λz=>au ((lX st0 hI).symm.trans (aH z▸e))) (f.st b o e),we kb (λa m z=>(aU (pu f.fm▸m:a∈env.locals::Lf Yn)).elim (λe=>hfa (aH z▸e▸eP)) λm=>hIo (aH z▸m)) f.ff,f.nb,f.lo⟩,
  λb o m e _=>⟨o.slots,kb b o (λz=>hIo (aH z▸m)) e⟩⟩
theorem Vb (hi:MI G mu Γ iter it)(ht:MA G mu Γ target tgt)(hb:eL G mu Γ body b)(hs:∀env x,foldedSetIterable iter env x=pure x):
  RS G mu Γ (.For target iter body [] pos) (HC it tgt b):=λU V C q A s env Yn R J base E c fl hE=>
 aw q λp e1 q=>aw q λx e2 q=>aw q λw ht3 q=>(Sv e2).elim λitems e2=>by
  refine wpAny_For (bN (hi _ _ _ _ _ e1 A s env R J _ c λI s1 R1 J1 fp P St fr g1 c1 it=> ?_) (λ_ _ h1=>wE h1) λ_ _ z=>z.elim) (hs env)
  have hIfa:I∉fa env:=λm=>(c.faLive I m).elim λo ho=>au (fr.symm.trans ho)
  refine (fl.go g1.xs c1).elim λf1 u1=>codeAny_mono (codeAny_forLoop_any (R:=λr s'=>match r with | .ok f=>False | .error e=>cameBackBy (model G.prog G.w) A env E e s') (λk s2=>k=1∧s2=s1) (λk s2 e=> ?_) 1 ⟨rfl,rfl⟩) λr s' z=>match r,z with
   | .error _,z=>z
   | .ok _,z=>z.elim
  have hl:0< p.1.length:=e2▸Nat.succ_pos _
  refine it.W.item 0 s2 _ _ hl (e.2▸it.st) λv h3 tk hP st3 hk3=>aS (it.cls _ _ st3) λo3 n3 ho3 hc3 hn3=>ES (s:={ s2 with heap:=h3,toks:=tk }) ho3 hc3 hn3 ?_
  obtain rfl:=e.2
  refine aW (it.val 0 v hl hP) λx' hx1 hx2=>(c1.poke (tk:=tk) hk3 it.itR it.itJ it.itT hIfa (it.nc _ _ it.st) ⟨_,ho3⟩).elim λg3 c3=>(f1.poke (tk:=tk) c1 hk3 fr fl.st fl.ff hIfa).elim λf3 u3=> ?_
  have hxv:VRel G R1 J1 h3 x v:=(aD ((e2▸hx1:(x::items)[0]? =some x')):x=x')▸VRel.kb (X:=[I]) hk3 (λa m=>aH m▸it.itR) hx2
  exact wE (ht _ _ _ _ _ ht3 A _ env R1 J1 v _ c3 hxv λs4 R4 J4 g4 c4=>(f3.go g4 c4).elim λf4 u4=>wF (hb _ _ _ q A s4 env Yn R4 J4 base _ c4 f4 λv s' t=>
   Thr.noted (M:=model G.prog G.w) (E:=E) (s:=s4) f4.fr f4.fm t λv s' t=>hE v s' (Thr.after g1.sh u1 (Thr.after (s1:={ s2 with heap:=h3,toks:=tk }) ⟨_,_,rfl⟩ u3 (Thr.after g4.sh u4 t)))))
theorem xt (ha:RE G mu Γ e a)(hw:∀env,swapsWith e (some (.Name x pos')) pos.line env=pure false):RS G mu Γ (.Assign [.Name x pos'] e pos) a:=λU V C q A s env Yn R J base E c f hE=>
 wpAny_Assign_Name (wF (ha _ _ _ q A s env Yn R J base E c f.drop hE)) (hw env)
def yn (n0:Nat)(nf:Nat→Nat)(C:Addr)(F:List AV→ar→Option Addr)(a:a7)(as:gA):RX:=λU V=>(a U V).bind λu=>(eR V u).bind λp=>if p.1=C then (as U V).bind λw=>if n0≤nf w.2.length then F (u::w.1) w.2 else none else none
theorem D7 {ap pos:Pos}(cf:ClsF G C)(mf:cO G C x f)(hF:RF G tb nf d (.ref f) F)(ho:MP G Γ o a)(ha:hV G mu Γ es as)(ht:tb=true→mu.tb=true:=by first | exact λ_=>rfl | exact λh=>ft h)(hdd:d≤Γ.d:=by exact bH rfl)(he:∀env,∃pl:Sem Bool,eval (.Call (.Attribute o x ap) es [] pos) env=(do let ov ← eval o env;standAt ap.atName;let (f,first) ← holding [ov] (getMethod ov x pl);callWith pos f first (backTo pos (starEach es env)) []):=by exact λ_=>⟨_,rfl⟩):
  RE G mu Γ (.Call (.Attribute o x ap) es [] pos) (yn mu.n0 nf C F a as):=λU V X q A s env Yn R J base E c fl hE=>
 aw q λu e1 q=>aw q λp e2 q=>fH q λhC q=>aw q λw e3 q=>fH q λhle q=>(he env).elim λpl he=>
 MethodCall_ (wE (ho _ _ _ e1 A s env R J _ c λr s1 k1 r1=>(fl.kp c k1).elim λf1 u1=>wI (c.kp k1).S r1 e2 (hC.symm▸cf) (hC.symm▸mf) (gE (c.kp k1).inK mf.2.2.1 ha.1
  (wE (ha.2 _ _ _ _ e3 A s1 env R J _ pos (c.kp k1) λrs s2 R2 J2 g2 c2 r2=>⟨c2.inK,(f1.goX g2 c2).elim λf2 u2=>f2.call c2 hF q ht hle hdd (.cons (g2.val (iE (c.kp k1)) r1) r2) λv s' t=>hE v s' (Thr.after k1.sh u1 (Thr.after g2.sh u2 t))⟩))))) he
theorem oU (Z:IsG G):aM G "SizeError" (.lit (.ref 51)):=Z.kL
theorem A4 (Z:IsG G):aM G "TableError" (.lit (.ref 63)):=Z.kL
theorem vA (Z:IsG G):keepIn G.K (.ref 51)=true:=Z.kp
theorem Mh (Z:IsG G):keepIn G.K (.ref 63)=true:=Z.kp
noncomputable abbrev vb:FI:=fi ["system","row","small"] ["SizeError"] 2 441 "check_room.<locals>."
abbrev Kf:FI:=mw ["number"] ["ROOM"] 2 441 "check_room.<locals>."
def A5 (n0:Nat):RX:=(sS (bx 2 (xP (bD (ae (bz (aa 0) (ah (.int 0))) (ae (a8 (bc jF) (aB 0 [188] (aa 1)) (ah (.int 1))) (ae (aB 0 [188] (aa 1)) (ae (aB 1 [188] (aa 1)) (ae (aB 2 [188] (aa 1)) aj)))))))) (qk (yT (d4 (aV cY (d5 (iP (aa 2)) none (aa 0) [(dn (iZ (ah (.int 0)) (i3 (de λa b=>decide (a≤b)) (aa 0) (i1 (de λa b=>decide (a< b)) (aY (.int 65536))))))]) (bD aj)) (d4 (dn (iZ (ah (.int 0)) (i3 (de λa b=>decide (a≤b)) (bz (aa 0) (ah (.int 1))) (i1 (de λa b=>decide (a< b)) (a8 (bc pV) (ah (.int 1)) (ah (.int 48))))))) (dF false)))) (pG 51 λU V=>((ah (.str "a port that cannot be told")) U V).isSome) qm))
theorem Mi (Z:IsG G)(n0:Nat):eL G ⟨false,n0⟩ vb rY (A5 n0):=
 (wt (cV (ay (cN (ag (bM af an) (ag (be kj (aE (gF Z) (gG Z) af) an) (ag (aE (gF Z) (gG Z) af) (ag (aE (qS Z) (qU Z) af) (ag (aE (pE Z) (pF Z) af) ak)))))))) (fN (sT (bA (eB (eQ (bF eT (iU (Γc:=Kf) .of0 (eJ af) af (.cons (dU (mU an (mT nJ af (mS i0 (aO (D3 Z)))))) .nil)) (cN ak)) (eQ (dU (mU an (mT nJ (bM af an) (mS i0 (be rT an an))))) jd)))) (fN (rA Z (pf Z) (oU Z) (by kernel_rfl) (by kernel_rfl) (vA Z) (by decide) (tj bI) λ_=>rfl)) sf)))
theorem Mj (Z:IsG G):DefF G vb 442 FH rY:=Z.df
def A6:List AV→ar→Option Addr:=iG vb 2 [] id A5
theorem Mk (Z:IsG G):RF G false id 3 (.ref 442) A6:=pP (Mj Z) cF (Mi Z)
noncomputable abbrev uJ:FI:=fi ["self","system","rows","most","row"] ["SizeError","check_room","TableError","LacpPort","Chooser"] 3 456 "Bundles.__init__.<locals>."
def z9 (n0:Nat):RX:=(sS (aQ (yT (aV (de λa b=>decide (a< b)) (aa 3) (ah (.int 1)))) (ai (λ_ _=>none) aq) aq) (sS (aN n0 22 [543] (aa 0) sK) (HC (iX (xP (aa 2))) (bh 4) (gB (yA (ae (aa 1) (ae (aa 4) aj))) n0 id A6))))
theorem KF (Z:IsG G)(n0:Nat):eL G ⟨false,n0⟩ uJ nv (z9 n0):=
 (wt (bG (bA (bF i0 af an)) (al (nu _) av) av) (wt (aZ (jo Z) (jq Z) wN af) (fN (Vb (f7 (ay af)) cz (fN (Su (gM (AN Z) (AP Z) (Mk Z) (aP (ag af (ag af ak)))) λ_=>rfl)) λ_ _=>rfl))))
theorem KG (Z:IsG G):DefF G uJ 457 pD nv:=Z.df
def Aa:List AV→ar→Option Addr:=iG uJ 3 [.int 8] (λn=>n - 1) z9
theorem KH (Z:IsG G):RF G false (λn=>n - 1) 4 (.ref 457) Aa:=xr (ps:=["self","system","rows","most"]) (dv:=[.int 8 841]) (KG Z) rfl (by decide +kernel) (by decide +kernel) rfl (zr Z) (λ_ _ _ _ _=> .cons .i (.nil)) (by decide) (Nat.le_refl _) (KF Z)
noncomputable abbrev uy:FI:=fi ["self","system","rows","most","row"] ["SizeError","check_room","TableError","LacpPort","Chooser"] 3 456 "Bundles.__init__.<locals>."
def zZ (n0:Nat):RX:=(qk (yT (aV (de λa b=>decide (a< b)) (aa 3) (ah (.int 1)))) (pG 51 λU V=>((ah (.str "one link of a bundle works at least")) U V).isSome) qm)
theorem Kg (Z:IsG G)(n0:Nat):eL G ⟨false,n0⟩ uy nv (zZ n0):=
 (fN (sT (bA (bF i0 af an)) (fN (rA Z (pf Z) (oU Z) (by kernel_rfl) (by kernel_rfl) (vA Z) (by decide) (tj bI) λ_=>rfl)) sf))
theorem Kh (Z:IsG G):DefF G uy 457 pD nv:=Z.df
def z0:List AV→ar→Option Addr:=iG uy 4 [] (λn=>n - 1) zZ
theorem Ki (Z:IsG G):RF G false (λn=>n - 1) 4 (.ref 457) z0:=xr (ps:=["self","system","rows","most"]) (dv:=[]) (Kh Z) rfl (by decide +kernel) (by decide +kernel) rfl (zg Z) (λ_ _ _ _ _=> .nil) (by decide) (Nat.le_refl _) (Kg Z)
noncomputable abbrev uK:FI:=fi ["self","number"] ["TableError"] 2 468 "Bundles.port.<locals>."
def Ab (n0:Nat):RX:=(qk (yT (jN true (aa 1) (aB 22 [543] (aa 0)))) (pG 63 λU V=>((ah (.str "there is no such port")) U V).isSome) qm)
theorem KJ (Z:IsG G)(n0:Nat):eL G ⟨false,n0⟩ uK rZ (Ab n0):=
 (fN (sT (bA (wm af (aE (jo Z) (jq Z) af))) (fN (rA Z (vZ Z) (A4 Z) (by kernel_rfl) (by kernel_rfl) (Mh Z) (by decide) (tj bI) λ_=>rfl)) sf))
theorem KK (Z:IsG G):DefF G uK 469 FK rZ:=Z.df
def Ac:List AV→ar→Option Addr:=iG uK 2 [] id Ab
theorem KL (Z:IsG G):RF G false id 3 (.ref 469) Ac:=pP (KK Z) cF (KJ Z)
noncomputable abbrev uf:FI:=fi ["self","number","port"] ["begin_link"] 3 482 "Bundles.link_up.<locals>."
def zz (n0:Nat):RX:=(yn n0 id 543 Ac (aa 0) (yA (ae (aa 1) aj)))
theorem Jk (Z:IsG G)(n0:Nat):eL G ⟨false,n0⟩ uf sd (zz n0):=
 (fN (xt (D7 (cy Z) (oH Z) (KL Z) af (aP (ag af ak))) λ_=>rfl))
theorem Jl (Z:IsG G):DefF G uf 483 FM sd:=Z.df
def zA:List AV→ar→Option Addr:=iG uf 2 [] id zz
theorem Jm (Z:IsG G):RF G false id 4 (.ref 483) zA:=pP (Jl Z) cF (Jk Z)
def q9:List AV→ar→Option Addr:=yC 543 Aa
theorem vK (Z:IsG G):RF G false id 5 (.ref 543) q9:=Gb (vR Z) (KH Z)
def vL:List AV→ar→Option Addr:=yC 543 z0
theorem Bn (Z:IsG G):RF G false id 5 (.ref 543) vL:=Gb (vR Z) (Ki Z)
structure LamZ (Γl:Value→Str→FI) (scope:Scope) (fr:List Str) (d:Nat):Prop where
 kind:scope.kind= .function
 co:scope.isCoroutine=false
 gen:scope.isGenerator=false
 names:∀cv ql,(Γl cv ql).names=scope.names
 slots:∀cv ql,(Γl cv ql).slots=fr
 d:∀cv ql,(Γl cv ql).d+1≤d
 code:∀cv ql,(Γl cv ql).code=cv∧(Γl cv ql).qual=ql
 nocell:∀y∈scope.names,y.2≠ .cell
 free:∀x∈fr,scope.names.lookup x=some .free
noncomputable abbrev jw:Arguments:=⟨[],[],none,[],[],none,[]⟩
theorem CK (K:LamZ Γl scope fr d)
  {us:List AV}
  (hA:AOk d A)(S:SR G R J V s.heap)(hf:s.heap.get? f=some (kla_obj "<lambda>" qual jw body scope clos pm c' ctv))(hrec:s.heap.CodeRec (.ref c') qual)
  (hn:clos.map (·.1)=fr)(hnd:fr.Nodup)(hnd2:(clos.map (·.2)).Nodup)(hcl:∀(i:Nat) (n:Str) (ce:Addr),clos[i]? =some (n,ce)→ce∈R∧ce∉own J∧ce∉G.TB∧∃o,s.heap.get? ce=some o)
  (hus:∀(i:Nat) (n:Str) (ce:Addr) (u:AV),clos[i]? =some (n,ce)→us[i]? =some u→∃val,s.heap.IsCell ce (some val)∧VRel G R J s.heap u val)
  (hP:∀(env:Env) (s1:Shared) (L:Addr),(∃h tk,s1= { s with heap:=h,toks:=tk })→KB [] s.heap s1.heap→s.heap.get? L=none→env.locals=L→env.frame=some L→(∀a∈fa env,a=L∨∃p∈clos,a=p.2)→Cx G (Γl (.ref c') (qual ++".<locals>.")) (A.deeper env) s1 env (L::R) J (us.map some) V→
   wpAny (model G.prog G.w) (A.deeper env) (eval body env) (λv s'=>P (.ok (.ret v)) s')
    (λe s'=>wpAny (model G.prog G.w) (A.deeper env) (leaving env e) (λ_ s''=>P (.error e) s'') (λe' s''=>P (.error e') s'') s') s1):
  codeAny (model G.prog G.w) A (.call (.ref f) ⟨[],[]⟩) P s:=by
 haveI hd1:=K.d .none ""
 refine kla_callFunE (by haveI:=hA.dp;omega) hf rfl K.co K.gen rfl hrec ?_
 haveI hb:bindArgs (kla_fn "<lambda>" qual jw body scope clos pm (.ref c') ctv) ⟨[],[]⟩=pure []:=rfl
 refine (hb)▸ ?_
 refine aC (wpAny_newFunctionEnv K.nocell (by intro z hz;exact nomatch hz) (λh₁ hns hsb=>⟨(G.top.nolimit.keeps S.base).fresh _ hsb,?_⟩) K.kind)
 have old:∀b o,s.heap.get? b=some o→h₁.get? b=some o:=λb o e=>hsb.extBut b o (Nat.ne_of_lt (Heap.lt_size e)) (cA _ e)
 haveI hL:s.heap.get? s.heap.objs.size=none:=dr _
 haveI hLl:∃o,h₁.get? s.heap.objs.size=some o:=by refine da hns λo _ _ ho _=> ?_;exact ⟨o,ho⟩
 haveI kb:KB [] s.heap h₁:=λb o _ e=>old b o e
 haveI S1:=S.res kb hL hLl
 haveI hLo:=S.new_out hL
 refine kla_codeExpr ?_
 have mono:∀{a:AV} {w:Value},VRel G R J s.heap a w→VRel G (s.heap.objs.size::R) J h₁ a w:=λq=>VRel.mono (λa o ha ho=>⟨λm=>by
  rcases aU m with rfl | m
  ·exact au ((hL).symm.trans ho)
  ·exact ha m,old a o ho⟩) (λ_ _ z=>z) _ _ q
 haveI lkc:∀(l:List (Str × Addr)),(l.map (·.1)).Nodup→∀(i:Nat) (n:Str) (ce:Addr),l[i]? =some (n,ce)→l.lookup n=some ce:=λl nd i n ce e=>v8 nd (d7 e)
 haveI slotc:∀(i:Nat) (x:Str),fr[i]? =some x→∃ce,clos[i]? =some (x,ce):=λi x e=>by
  rw [← hn,List.getElem?_map,Option.map_eq_some_iff] at e
  obtain ⟨⟨n,ce⟩,e1,rfl⟩:=e
  exact ⟨ce,e1⟩
 refine hP _ _ s.heap.objs.size ⟨_,_,rfl⟩ kb hL rfl rfl (λa m=> ?_) ⟨⟨hA.hd,by have:=hA.dp;have:=K.d (.ref c') (qual ++".<locals>.");show A.depth+1+_< _;omega,by have:=hA.un;have:=K.d (.ref c') (qual ++".<locals>.");show A.units+3+40 * _+80< _;omega⟩,S1,(λz=>([]:List (Str × Value)).reverse.lookup z),?_⟩
 ·have m':a∈s.heap.objs.size::clos.map (·.2):=m
  rcases aU m' with rfl | m'
  ·exact .inl rfl
  ·refine aW (List.mem_map.mp m') λp hp rf2=> ?_;subst rf2
   exact .inr ⟨p,hp,rfl⟩
 ·refine ⟨K.kind,rfl,⟨rfl,(K.code _ _).1.symm,(K.code _ _).2.symm⟩,(K.names _ _).symm,⟨hns,S1.base,?_⟩,λa m=> ?_,?_,λa m=> ?_,λj z w h1 h2 h3=> ?_,λj z w h1 h2 h3=> ?_,λz h3=> ?_⟩
  ·refine cU S.abv λa o ho hle=> ?_
   exact ba hle (Nat.le_of_lt (Heap.lt_size ho))
  ·haveI m':a∈s.heap.objs.size::clos.map (·.2):=m
   rcases aU m' with rfl | m'
   ·exact ⟨bY,hLo.1,hLo.2⟩
   ·obtain ⟨⟨n,ce⟩,hp,rfl⟩:=List.mem_map.mp m'
    obtain ⟨i,hi⟩:=List.getElem?_of_mem hp
    refine l3 (hcl i n ce hi) λq1 q2 q3 _=> ?_
    exact ⟨cQ _ q1,q2,q3⟩
  ·show (s.heap.objs.size::clos.map (·.2)).Nodup
   refine List.nodup_cons.mpr ⟨λm'=> ?_,hnd2⟩
   obtain ⟨⟨n,ce⟩,hp,e⟩:=List.mem_map.mp m'
   obtain ⟨i,hi⟩:=List.getElem?_of_mem hp
   refine xX (hcl i n ce hi) λ_ _ _ o ho=> ?_
   simp only at e
   exact au ((hL).symm.trans ((e)▸ho))
  ·have m':a∈clos.map (·.2):=m
   obtain ⟨⟨n,ce⟩,hp,rfl⟩:=List.mem_map.mp m'
   obtain ⟨i,hi⟩:=List.getElem?_of_mem hp
   refine xX (hcl i n ce hi) λ_ _ _ o ho=> ?_
   exact ⟨o,old _ _ ho⟩
  ·rw [K.slots] at h1
   rw [K.names,K.free z (d7 h1)] at h3
   exact absurd h3 (by decide)
  ·rw [K.slots] at h1
   refine xE (slotc j z h1) λce hce=> ?_
   haveI hu:us[j]? =some w:=by
    rw [List.getElem?_map] at h2
    cases q:us[j]? with
    | none=>rw [q] at h2;exact au h2
    | some u=>rw [q] at h2;cases h2;rfl
   refine aW (hus j z ce w hce hu) λval hv1 hv2=> ?_
   refine ⟨ce,val,lkc clos (by exact (hn)▸hnd) j z ce hce,?_,mono hv2⟩
   refine aW hv1 λo ho r=> ?_
   exact ⟨o,old _ _ ho,r⟩
  ·rw [K.names] at h3
   exact absurd rfl (K.nocell _ (mem_of_lookup h3))
noncomputable def ThrowsAt (G:Gd)(d:Nat)(f:Value)(C:Addr)(s:Shared)(R:List Addr)(J:aG)(V:ar):Prop:=
 ∀(A:Around) (s1:Shared) (R1:List Addr) (Yn:List Env) (base:Heap) (E:Value→Shared→Prop),AOk d A→KB [] s.heap s1.heap→(∀a∈R,a∈R1)→(∀a∈R1,a∈R∨s.heap.get? a=none)→SR G R1 J V s1.heap→
  A.frames=some Yn→base.StaysIn s1.heap→s1.heap.FunFrames base Yn→(∀a∈Lf Yn,a∈R1∧a∉own J∧a∉G.TB)→
  (∀e a0 s',(∃h tk,s'= { s1 with heap:=h,toks:=tk })→Heap.FlyingW base Yn e (.ref C) a0 s'.heap→UpL Yn s1 s'→E (.ref e) s')→
  codeAny (model G.prog G.w) A (.call f ⟨[],[]⟩) (λr s'=>match r with | .ok _=>False | .error x=>E x s') s1
theorem Cd {x:Nat→RX}(K:LamZ Γl scope fr d)(he:∀cv ql n0,RE G ⟨false,n0⟩ (Γl cv ql) body (x n0))
  {us:List AV}(Yp:J.length=V.length)(hx:x V.length (us.map some) V=some C)
  (hf:s.heap.get? f=some (kla_obj "<lambda>" qual jw body scope clos pm c' ctv))(hrec:s.heap.CodeRec (.ref c') qual)
  (hn:clos.map (·.1)=fr)(hnd:fr.Nodup)(hnd2:(clos.map (·.2)).Nodup)(hcl:∀(i:Nat) (n:Str) (ce:Addr),clos[i]? =some (n,ce)→ce∈R∧ce∉own J∧ce∉G.TB∧∃o,s.heap.get? ce=some o)
  (hus:∀(i:Nat) (n:Str) (ce:Addr) (u:AV),clos[i]? =some (n,ce)→us[i]? =some u→∃val,s.heap.IsCell ce (some val)∧VRel G R J s.heap u val):ThrowsAt G d (.ref f) C s R J V:=by
 intro A s1 R1 Yn base E hA kb hR hR' S hfr st ff lo hE
 haveI mono:∀{a:AV} {w:Value},VRel G R J s.heap a w→VRel G R1 J s1.heap a w:=λq=>VRel.mono (λa o ha ho=>⟨λm=>(hR' a m).elim ha (λz=>by exact mj ((ho).symm.trans z)),kb a o (by simp) ho⟩) (λ_ _ z=>z) _ _ q
 refine CK (us:=us) K hA S (kb _ _ (by simp) hf) (hrec.keeps λb o e=>kb b o (by simp) e) hn hnd hnd2 (λi n ce e=> ?_) (λi n ce u e1 e2=> ?_) ?_
 ·refine xX (hcl i n ce e) λh1 h2 h3 o ho=> ?_
  exact ⟨hR _ h1,h2,h3,o,kb _ _ (by simp) ho⟩
 ·obtain ⟨val,⟨o,ho,hd⟩,hv⟩:=hus i n ce u e1 e2
  exact ⟨val,⟨o,kb _ _ (by simp) ho,hd⟩,mono hv⟩
 ·intro env s2 L sh kb2 fL hL hf2 _ c
  haveI hbs:bs G ⟨false,V.length⟩ J=[]:=by
   unfold bs
   rw [← Yp,List.drop_length]
   rfl
  have f1:=Fly.enter (W:=[]) (mu:=⟨false,V.length⟩) hfr st ff (by refine (hbs)▸ ?_;simp) lo kb2 (by simp) (hL▸fL) (hL▸hf2) (λa m=>cQ _ m) c
  refine bN (he _ _ _ _ _ _ hx _ s2 env Yn (L::R1) J base _ c f1 λv s' t=> ?_) (λ_ _ z=>z.elim) λ_ _ z=>z
  refine xY t λe rf1 sh' up u=> ?_;subst rf1
  refine up.leave f1.fr f1.fm λh2 a0 fl u2=> ?_
  obtain ⟨h',t',rfl⟩:=sh'
  refine fy sh λh1 t1 rf2=> ?_;subst rf2
  exact hE e a0 _ ⟨_,_,rfl⟩ fl (((UpL.of (l:=Yn) (.of_keeps λb o e=>kb2 b o (by simp) e)).trans u).trans (UpL.of u2))
noncomputable def FrK (l:List Env):Prop:=∀e∈l,e.scope.kind≠ .module∧∃L,e.frame=some L
theorem D8 {h:Heap}:∀{l:List Env},(∀a∈Lf l,a∈X)→FrK l→(∀a∈Lf l,∃o es ep,h.get? a=some o∧o.data= .dict es ep)→h.FunFrames (kT X h) l
 | [],_,_,_=>trivial
 | e::r,hX,hk,d=>by
  refine HS (hk e bY) λh1 L hL=> ?_
  have m0:∀a,a=L∨a∈Lf r→a∈Lf (e::r):=λa m=>by
   unfold Lf;rw [List.filterMap_cons,hL];exact List.mem_cons.mpr m
  refine da (d L (m0 L (.inl rfl))) λo es ep ho hd=> ?_
  exact ⟨h1,⟨L,o,hL,D6 (hX L (m0 L (.inl rfl))),ho,λvs q=>by rw [hd] at q;cases q⟩,D8 (λa m=>hX a (m0 a (.inr m))) (λe' m=>hk e' (cQ _ m)) λa m=>d a (m0 a (.inr m))⟩
theorem KSl.ofL (sh:∃h tk,s'= { s with heap:=h,toks:=tk })(st:(kT (Lf l) s.heap).StaysIn s'.heap)(u:UpL l s s')(d:∀a∈Lf l,∃o es ep,s.heap.get? a=some o∧o.data= .dict es ep):KSl (Lf l) s s' where
 sh:=sh
 kb:=λb o m e=>st b o (by exact (Di m).trans (e))
 sl:=λb o m e=>by
  refine da (d b m) λo' es ep e' hd=> ?_
  rw [e] at e';replace e':=aD e';subst e'
  exact u b o m e λvs q=>by rw [hd] at q;cases q
theorem Dj {os:OsState}(hC:h.get? C=some (sR C x))(hD:h.get? D=some (sR D y))
  (he:h.get? e=some oe)(hcls:oe.cls= .ref C)(hb:(Value.ref C::fA).contains (.ref D)=b)(hq:Q b ⟨h,g,d,t,os⟩):wpAny M A (excMatches (.ref e) (.ref D)) Q E ⟨h,g,d,t,os⟩:=by
 haveI hcB:=GW (C:=D)
 haveI f:=tc_notTuple
 unfold excMatches
 repeat (first | (with_reducible refine wpAny_loadPart_at he ?_;refine (hcls)▸ ?_) | with_reducible refine wpAny_loadPart_at hC ?_ | with_reducible refine wpAny_loadPart_at hD ?_ | (with_reducible refine wpAny_isSubtype_exc hD ?_;first | skip) | (with_reducible refine wpAny_isSubtype_exc hC ?_;first | refine (hb)▸ ?_) | wp_step)
 cases b <;> (repeat wp_step) <;> exact hq
theorem Gc (c:Cx G Γ A s env R J U V)(hv:aM G x (.lit v))(hk:Γ.names.lookup x=some .globalImplicit)(hd:(x == ("__debug__":Str))=false)
  (hQ:Q v s):wpAny (model G.prog G.w) A' (eval (.Name x pos) env) Q E s:=by
 refine xE c.F λm F=> ?_
 refine aW hv λval e1 e2=> ?_
 haveI:=e2 R J _ c.S.resv c.S.base
 simp only [VRel] at this
 subst this
 exact nameG_K F.fr G.inK (topRead_of G.top) e1 hQ F.glob F.kind (by unfold Env.kindOf;exact (F.nms)▸hk) hd
noncomputable abbrev Dk:FI:=⟨[("call", .local),("SizeError", .globalImplicit),("TableError", .globalImplicit)],["call"],8, .ref 603,"_law_heard.<locals>."⟩
theorem Sw (Z:IsG G):DefF G Dk 604 F6 F5:=Z.df
theorem D9
  (K:ExcK G C)(c:Cx G Γ A s env R J U V)(hv:aM G x (.lit (.ref C)))(hk:Γ.names.lookup x=some .globalImplicit)(hd:(x == ("__debug__":Str))=false)(fl:Heap.FlyingW base l e (.ref C) a0 s.heap)
  (hQ:∀h' t,base.StaysIn h'→s.heap.UpToSlots h'→Q (.ret (.str w t)) { s with heap:=h',toks:=s.toks+1 }):
  wpAny (model G.prog G.w) A (handleBy (.ref e) env (.ExceptHandler (some (.Name x np)) none [.Return (some (.Constant (.str w) k cp)) rp] pos::rest)) Q E s:=by
 refine xE K.cls λy hy=> ?_
 haveI hC:=c.inK _ _ hy
 refine aW fl.there λoe he hcls=> ?_
 refine l3 fl λf1 f2 f3 f4=> ?_
 refine wpAny_handleBy_cons (codeAny_handlers_test (Gc c hv hk hd ?_)) (by intro q;cases q)
 obtain ⟨hh,gg,dd,tk,os⟩:=s
 refine Dj hC hC he hcls (b:=true) GX ?_
 dsimp only [if_true]
 refine codeAny_handlers_suite ?_
 refine wpAny_setFlight_noneW f1 f3 f4.at λh' k1 k2 k3 k4=> ?_
 refine dO (wpAny_Return_some ?_)
 exact Constant_str (hQ h' _ k1 λb o hb hn=>⟨o.slots,k4 b o hb hn⟩)
theorem QB
  (K:ExcK G C)(KD:ExcK G D)(c:Cx G Γ A s env R J U V)(hv:aM G x (.lit (.ref D)))(hk:Γ.names.lookup x=some .globalImplicit)(hd:(x == ("__debug__":Str))=false)(fl:Heap.FlyingW base l e (.ref C) a0 s.heap)
  (hb:(Value.ref C::fA).contains (.ref D)=false)(hQ:wpAny (model G.prog G.w) A (handleBy (.ref e) env rest) Q E s):
  wpAny (model G.prog G.w) A (handleBy (.ref e) env (.ExceptHandler (some (.Name x np)) none [b0] pos::rest)) Q E s:=by
 refine xE K.cls λy hy=> ?_
 refine xE KD.cls λz hz=> ?_
 haveI hC:=c.inK _ _ hy
 have hD:=c.inK _ _ hz
 obtain ⟨oe,he,hcls⟩:=fl.there
 refine wpAny_handleBy_cons (codeAny_handlers_test (Gc c hv hk hd ?_)) (by intro q;cases q)
 obtain ⟨hh,gg,dd,tk,os⟩:=s
 refine Dj hC hD he hcls (b:=false) hb ?_
 exact hQ
theorem ThrowsAt.run (T:ThrowsAt G d f C s R J V)(hA:AOk d A)(kb:KB [] s.heap s1.heap)(hR:∀a∈R,a∈R1)(hR':∀a∈R1,a∈R∨s.heap.get? a=none)(S:SR G R1 J V s1.heap)
  (hfr:A.frames=some Yn)(st:base.StaysIn s1.heap)(ff:s1.heap.FunFrames base Yn)(lo:∀a∈Lf Yn,a∈R1∧a∉own J∧a∉G.TB)
  (hP:∀e a0 s',(∃h tk,s'= { s1 with heap:=h,toks:=tk })→Heap.FlyingW base Yn e (.ref C) a0 s'.heap→UpL Yn s1 s'→P (.error (.ref e)) s'):codeAny (model G.prog G.w) A (.call f ⟨[],[]⟩) P s1:=
 codeAny_mono (T A s1 R1 Yn base (λx s'=>P (.error x) s') hA kb hR hR' S hfr st ff lo hP) λr s' z=>match r,z with
  | .error _,z=>z
  | .ok _,z=>z.elim
theorem FrK.enter (hk:FrK fr)(c:Cx G Γ A s env R J U V)(hf:env.frame=some L):FrK (env::fr):=λe m=>(aU m).elim (λz=>z▸⟨c.F.elim (λ_ F q=>nomatch (F.kind.symm.trans q)),_,hf⟩) (hk e)
theorem FnAt.kb (x:FnAt f h)(k:KB [] h h'):FnAt f h':=x0 x λa b c d e=>⟨a,b,c,d,k f _ bq e⟩
theorem NE (Z:IsG G){w:Str}(hw:(C=51∧w="size")∨(C=63∧w="table"))(hA:AOk 9 A)(hd:d≤8)(S:SR G R J V s.heap)
  (hfr:A.frames=some fr)(hk:FrK fr)(lok:LOk G (Lf fr) R J s.heap)(T:ThrowsAt G d (.ref f) C s R J V)(hfn:FnAt f s.heap)(hP:∀s' t,KSl (Lf fr) s s'→P (.ok (.ret (.str w t))) s'):
  codeAny (model G.prog G.w) A (.call (.ref 604) ⟨[.ref f],[]⟩) P s:=by
 refine lB (Γ:=Dk) (ps:=["call"]) (n:=1) (dv:=[]) (dav:=[]) (d:=9) (avs:=[.lit (.ref f)]) (Sw Z) rfl (by decide +kernel) (by decide +kernel) rfl
  (ju dQ) (λ_ _ _ _ _=> .nil) (by decide +kernel) (by decide) rfl hA S (.one rfl) λenv s1 L sh kb fL hL hcl hf go c=> ?_
 subst hL
 have hfr1:(A.deeper env).frames=some (env::fr):=Around.frames_deeper hfr
 have lok1:=lok.enter c hf (λa m=> .tail _ m) kb
 refine dO (wpAny_Try_except (dO (wpAny_Expr (eX (wE (af (i:=0) (x:="call") rfl (.inl (by kernel_rfl)) (by kernel_rfl) _ _ (.lit (.ref f)) rfl _ s1 env _ J _ c λr s2 k2 r2=>(show r= .ref f from r2).symm▸callWith_F0 (FnAt.kb (FnAt.kb hfn kb) k2.kb) (wpAny_call ?_)))) c.inter rfl)))
 have c2:=c.kp k2
 have lok2:=lok1.ks (KSl.of_kp k2)
 refine T.run (c2.A.le hd) (kb.trans k2.kb) (λa m=> .tail _ m) (λa m=>(aU m).elim (λz=> .inr (z▸fL)) .inl) c2.S hfr1 (OI (Lf (env::fr)) s2.heap) (D8 (λa m=>m) (hk.enter c hf) lok2.d) lok2.r λe a0 s' sh' fl u=> ?_
 refine wpAny_looks_onW hfr1 hf fl λh3 held u3=>wpAny_landsW (s:={ s' with heap:=h3 }) held λh4 fl4 u4=>fy sh' λh' t' e'=> ?_
 subst e'
 have u04:UpL (env::fr) s2 { s2 with heap:=h4,toks:=t' }:=(u.trans (UpL.of (b:={ s2 with heap:=h3,toks:=t' }) u3)).trans (UpL.of (a:={ s2 with heap:=h3,toks:=t' }) u4)
 have c4:=c2.ks lok2 (KSl.ofL ⟨h4,t',rfl⟩ fl4.1 u04 lok2.d)
 have fin:∀h5 tk5,(kT (Lf (env::fr)) s2.heap).StaysIn h5→h4.UpToSlots h5→KSl (Lf fr) s { s2 with heap:=h5,toks:=tk5 }:=λh5 tk5 st5 u5=>
  ((KSl.of_kp k2).trans (KSl.ofL ⟨_,_,rfl⟩ st5 (u04.trans (UpL.of (a:={ s2 with heap:=h4,toks:=t' }) (b:={ s2 with heap:=h5,toks:=tk5 }) u5)) lok2.d)).leave hf fL sh kb
 exact hw.elim
  (λz=>D9 (pf Z) c4 (oU Z) (by kernel_rfl) (by kernel_rfl) (z.1▸fl4) λh5 t5 st5 u5=>hP _ _ (fin h5 _ st5 u5) |> λq=>z.2▸q)
  λz=>QB (vZ Z) (pf Z) c4 (oU Z) (by kernel_rfl) (by kernel_rfl) (z.1▸fl4) (by decide) (D9 (vZ Z) c4 (A4 Z) (by kernel_rfl) (by kernel_rfl) (z.1▸fl4) λh5 t5 st5 u5=>z.2▸hP _ _ (fin h5 _ st5 u5))
section
section
open Builtin
variable {prog:Program} {w:World} {A:Around} {E:Value→Shared→Prop} {s:Shared}
theorem M3:typeLookup (.type "int") "__bytes__"=pure none:=by rw [typeLookup_type,builtinLookup_eq_fast];kernel_rfl
theorem PF:typeLookup (.type "int") "__index__"=pure (some (.builtin "int.__index__")):=by rw [typeLookup_type,builtinLookup_eq_fast];kernel_rfl
theorem NF (h0:0≤n)(h1:n≤1000)
  (hQ:∀x t k,x.size=n.toNat→Q (.bytes x t) { s with toks:=k }):
  codeAny (model prog w) A (.call (.builtin "bytes.__new__") ⟨[.type "bytes", .int n t],[]⟩) (wants Q E) s:=by
 refine codeAny_of_tree ?_
 show wpAny _ A.in1 (do checkBuiltinCall "bytes.__new__" ⟨[.type "bytes", .int n t],[]⟩;again (.builtin "bytes.__new__" ⟨[.type "bytes", .int n t],[]⟩)) _ _ s
 refine am (wpAny_of_eq (F.bm_newCall _) (aC ⟨plainId_quiet F.bm_plain _,codeAny_builtin F.bm_entry ?_⟩))
 unfold Builtin.«bytes.__new__»
 refine am (wpAny_of_eq (a:=true) rfl ?_)
 refine bm_if_false rfl ?_
 refine am (wpAny_of_eq F.bm_sub ?_)
 refine bm_if_false rfl ?_
 refine am (wpAny_of_eq (F.bm_bind _) ?_)
 refine am (wpAny_of_eq (a:=()) rfl ?_)
 refine am (wpAny_of_eq (a:=()) rfl ?_)
 refine bm_if_false rfl ?_
 refine am (wpAny_of_eq (a:=none) M3 ?_)
 refine am (am (wpAny_of_eq (a:=none) rfl (aC ?_)))
 refine bm_if_false rfl ?_
 haveI hix:specialOf (.int n t) "__index__"=pure (some (.builtin "int.__index__")):=by
  haveI e:specialOf (.int n t) "__index__"=typeLookup (.type "int") "__index__":=rfl
  rw [e,PF]
 refine am (wpAny_of_eq hix ?_)
 refine bm_if_false rfl ?_
 refine am (wpAny_of_eq (a:= .ok n) rfl ?_)
 dsimp only
 haveI hfi:Bytes.fitsIndex n=true:=by unfold Bytes.fitsIndex;simp;omega
 refine (hfi).symm▸ ?_
 refine bm_if_false rfl ?_
 rw [if_neg (by omega),if_neg (by omega)]
 haveI htl:Bytes.tooLong n.toNat=false:=KBy.tooLong_not (by omega)
 refine (htl)▸ ?_
 refine bm_if_false rfl ?_
 refine am (wpAny_rule ?_)
 haveI hsz:(Array.replicate n.toNat (0:UInt8)).size≤sizeLine:=by rw [Array.size_replicate,sizeLine_eq];omega
 refine am (wpAny_mkBytes ?_ hsz)
 refine bm_if_true rfl ?_
 refine am (aC (aC ?_))
 exact hQ _ _ _ (by simp)
theorem M4 (h0:0≤n)(h1:n≤1000)
  (hQ:∀x t k,x.size=n.toNat→Q (.bytes x t) { s with toks:=k }):wpAny (model prog w) A (call (.type "bytes") [.int n t]) Q E s:=by
 refine callType_codes (Q₁:=λobj s₁=>s₁.TypeIs obj "bytes"∧Q obj s₁) F.bm_called (F.bm_typeCall _) F.entry_object_init
  (NF h0 h1 λx t k hx=>⟨PySem.W.typeIs_bytes _ _ _,hQ x t k hx⟩) λobj s₁ h₁=> ?_
 exact ⟨h₁.1,F.args_object_init_2 obj _,object_init_meets F.bm_called.init.lookup F.bm_called.made (by decide) prog w A.in1 _ s₁ ⟨h₁.1,rfl,h₁.2⟩⟩
end
end
abbrev h8:=Lo→ar→Option Nat
noncomputable def MB (G:Gd)(Γ:FI)(e:Expr)(b:h8):Prop:=
 ∀U V n,b U V=some n→∀(A:Around) (s:Shared) (env:Env) (R:List Addr) (J:aG) (Q:Value→Shared→Prop),Cx G Γ A s env R J U V→
  (∀x t s',x.size=n→Kp s s'→Q (.bytes x t) s')→wpAny (model G.prog G.w) A (eval e env) Q aI s
noncomputable def my (G:Gd)(d:Nat)(f:Value)(F:List AV→ar→Option Nat):Prop:=
 ∀avs V n,F avs V=some n→∀(A:Around) (s:Shared) (R:List Addr) (J:aG) (vals:List Value) (P:Result→Shared→Prop),AOk d A→SR G R J V s.heap→VRels G R J s.heap avs vals→
  (∀x t s',x.size=n→Kp s s'→P (.ok (.ret (.bytes x t))) s')→codeAny (model G.prog G.w) A (.call f ⟨vals,[]⟩) P s
noncomputable def HZ:Value→Option Nat
 | .bytes x _=>some x.size
 | _=>none
noncomputable def HD:AV→Option Value
 | .lit v=>some v
 | _=>none
theorem QC (h:HD x=some v):x= .lit v:=by cases x <;> first | exact au h | exact congrArg _ (aD h)
theorem Sx (h:HZ v=some n):∃y t,v= .bytes y t∧y.size=n:=by cases v <;> first | exact au h | exact ⟨_,_,rfl,aD h⟩
def yD (i:Nat):h8:=λU _=>(U[i]?).join.bind λv=>(HD v).bind HZ
theorem xu (hs:Γ.slots[i]? =some x)(hk:Γ.names.lookup x=some .local)(hd:(x == ("__debug__":Str))=false):MB G Γ (.Name x pos) (yD i):=λU V n q A s env R J Q c hQ=>
 aw q λv e1 q=>aw q λw e2 q=>cU (Sx q) λy t e3 e4=>af (G:=G) hs (.inl hk) hd U V v e1 A s env R J Q c λr s' k r1=>
  ((show r=w from (show VRel G R J s'.heap (.lit w) r from QC e2▸r1)).trans e3).symm▸hQ y t s' e4 k
noncomputable def fu (a b:h8):h8:=λU V=>(a U V).bind λm=>(b U V).bind λn=>if m+n≤1000 then some (m+n) else none
theorem eS (ha:MB G Γ l a)(hb:MB G Γ r b):MB G Γ (.BinOp l .Add r pos) (fu a b):=λU V n q A s env R J Q c hQ=>
 aw q λm e1 q=>aw q λk e2 q=>cJ q λhle e3=>wpAny_BinOp (ha _ _ _ e1 A s env R J _ c λx t s1 hx k1=>hb _ _ _ e2 A s1 env R J _ (c.kp k1) λy u s2 hy k2=>
  KBy.add_bytes (by rw [hx,hy];omega) λt' tk=>hQ _ t' _ (Array.size_append.trans (hx.symm▸hy.symm▸e3)) ((k1.trans k2).trans (Kp.tok _ _)))
def pi:List AV→Option (List Int)
 | []=>some []
 | x::r=>(cq x).bind λi=>if 0≤i∧i< 256 then (pi r).map λq=>i::q else none
theorem By:∀{l:List AV} {ns:List Int} {vs:List Value},pi l=some ns→VRels G R J h l vs→IntsAre vs ns∧(∀n∈ns,0≤n∧n< 256)∧ns.length=l.length
 | [],ns,vs,e,r=>(show vs=[] from r)▸aD e▸⟨.nil,(λ_ m=>absurd m bq),rfl⟩
 | x::l,ns,vs,e,r=>aw e λi e1 e=>fH e λhi e=>cr e λq e2 e=>aS r λv us p r1 r2=>(ej r1 e1).elim λt w=>(By e2 r2).elim λh1 h=>
  p▸w▸e▸⟨.cons i t h1,λn m=>(aU m).elim (λz=>z▸hi) (h.1 n),congrArg Nat.succ h.2⟩
def HE (v:AV):Option Nat:=((jy v).map Sum.inl).or ((cq v).map Sum.inr) |>.bind λ(x:List AV ⊕ Int)=>x.elim (λl=>(pi l).bind λns=>if ns.length≤1000 then some ns.length else none) λn=>if 0≤n∧n≤1000 then some n.toNat else none
theorem QD (h:HE v=some n):(∃l ns,v= .lst l∧pi l=some ns∧ns.length≤1000∧ns.length=n)∨∃i,v= .int i∧(0≤i∧i≤1000)∧i.toNat=n:=by
 cases v <;> first | exact au h | skip
 ·exact .inr ⟨_,rfl,cJ h λa b=>⟨a,b⟩⟩
 ·exact .inl ⟨_,aw (show ((pi _).bind λns=>if ns.length≤1000 then some ns.length else none)=some n from h) λns e h=>⟨ns,rfl,e,cJ h λa b=>⟨a,b⟩⟩⟩
def mz (a:a7):h8:=λU V=>(a U V).bind HE
theorem QE (Z:IsG G):ev G "bytes" (.type "bytes"):=Z.bv ("bytes", .type "bytes") (d7 (i:=10) rfl)
theorem Vc (Z:IsG G):ev G "str" (.type "str"):=Z.bv ("str", .type "str") (d7 (i:=9) rfl)
theorem OJ (ns:List Int):(byteArr ns).size=ns.length:=by simp [byteArr]
theorem lI (Z:IsG G)(hk:Γ.names.lookup ("bytes":Str)=some .globalImplicit)(ha:MP G Γ e a)(he:∀env,starEach [e] env=[(false,eval e env)]):MB G Γ (.Call (.Name "bytes" np) [e] [] pos) (mz a):=λU V n q A s env R J Q c hQ=>
 aw q λv e1 q=>eX (ky (QE Z) hk (by decide +kernel) _ _ _ rfl A s env R J _ c λr s0 k0 r0=>(show r=_ from r0)▸nO (o9 he) (List.cons_ne_nil _ _)
  (spliced_more (pos:=pos) (env:=env) (rest:=[]) (e:=e) (ha _ _ _ e1 A s0 env R J _ (c.kp k0) λu s1 k1 r1=>spliced_none ((QD q).elim
   (λh=>br h λl ns p e2 h3=>λe3=>br (show VRel G R J s1.heap (.lst l) u from p▸r1) λb vs w hp hl hv=>(By e2 hv).elim λh1 h2=>
    w▸call_bytes_ints hl h1 h2.1 (by rw [← hv.length,← h2.2,sizeLine_eq];omega) c.A.hd λh' t tk kp=>hQ _ t _ ((OJ ns).trans e3) ((k0.trans k1).trans (gP kp)))
   λh=>dm h λi p hle e3=>(show VRel G R J s1.heap (.int i) u from p▸r1).elim λt w=>w▸M4 hle.1 hle.2 λx u tk hx=>hQ _ u _ (hx.trans e3) ((k0.trans k1).trans (Kp.tok _ _)))) (he env)))
noncomputable def fg (F:List AV→ar→Option Nat)(as:gz):h8:=λU V=>(as U V).bind λvs=>F vs V
theorem eD {np pos:Pos}(hv:aM G x (.lit f))(hkeep:keepIn G.K f=true)(hF:my G d f F)(ha:hU G Γ es as)(hk:Γ.names.lookup x=some .globalImplicit:=by kernel_rfl)(hd:(x == ("__debug__":Str))=false:=by kernel_rfl)(hdd:d≤Γ.d:=by exact bH rfl):MB G Γ (.Call (.Name x np) es [] pos) (fg F as):=λU V n q A s env R J Q c hQ=>
 aw q λvs e1 e2=>eX (aO hv hk hd _ _ _ rfl A s env R J _ c λr s0 k0 r0=>(show r=f from r0)▸gE (c.kp k0).inK hkeep ha.1 (ha.2 _ _ _ e1 A s0 env R J _ pos (c.kp k0) λrs s1 k1 r1=>⟨((c.kp k0).kp k1).inK,
  wpAny_call <| hF _ _ _ e2 A s1 R J rs _ (c.A.le hdd) ((c.kp k0).kp k1).S r1 λy t s2 hy k2=>hQ y t s2 hy ((k0.trans k1).trans k2)⟩))
theorem wW (ha:RE G mu Γ l a):RE G mu Γ (.BinOp l op r pos) a:=λU V C q A s env Yn R J base E c f hE=>
 wpAny_BinOp (bN (ha _ _ _ q A s env Yn R J base E c f hE) (λ_ _ z=>z.elim) λ_ _ z=>z)
noncomputable def pQ (b:h8)(a:RX):RX:=λU V=>(b U V).bind λ_=>a U V
theorem rM (hb:MB G Γ l b)(ha:RE G mu Γ r a):RE G mu Γ (.BinOp l op r pos) (pQ b a):=λU V C q A s env Yn R J base E c f hE=>
 aw q λn e1 q=>wpAny_BinOp (bN (hb _ _ _ e1 A s env R J (λ_ s1=>Kp s s1) c λx t s1 hx k1=>k1) (λv s1 k1=>(f.kp c k1).elim λf1 u1=>
  bN (ha _ _ _ q A s1 env Yn R J base E (c.kp k1) f1 λv s' t=>hE v s' (t.after k1.sh u1)) (λ_ _ z=>z.elim) λ_ _ z=>z) λ_ _ z=>z.elim)
def yo (x y:AV):Option AV:=(sD x).bind λa=>(sD y).bind λb=>if a.length+b.length≤10000 then some (.str (a ++b)) else none
theorem Ea:fQ G .Add yo:=λx y z e A s R J a b Q hA hh hl hx hy hQ=>
 aw e λi e1 e=>aw e λj e2 e=>cJ e λhle e3=>(show VRel G R J s.heap (.str i) a from v6 e1▸hx).elim λt p=>(show VRel G R J s.heap (.str j) b from v6 e2▸hy).elim λu w=>
  p▸w▸add_str (λt' tk=>hQ _ _ (Kp.tok _ _) (e3▸⟨t',rfl⟩)) (fB hle)
def HF:bP:=λavs _=>(a1 avs).bind λx=>(cq x).bind λi=>if i.natAbs< 1000 then some (.str (toString i)) else none
theorem Ws:jG G (.type "str") HF:=⟨.inr ⟨_,rfl⟩,λavs V v e A s R J vals Q hA S hv hQ=>
 aw e λx e1 e=>aw e λi e2 e=>cJ e λhi e3=>aW (jj hv e1) λw p h=>(ej h e2).elim λt q=>
  p▸q▸PySem.P.str_of_int (by
   by_cases h0:i.natAbs=0
   ·rw [h0];decide
   ·have:=(Nat.log2_lt h0 (k:=10)).mpr (by omega)
    omega) (hQ _ _ (Kp.tok _ _) (e3▸⟨_,rfl⟩))⟩
theorem X4 (h:IntsAre vs []):vs=[]:=match h with | .nil=>rfl
theorem yZ (h:IntsAre vs (a::l)):∃t r,vs= .int a t::r∧IntsAre r l:=match h with | .cons _ t h=>⟨t,_,rfl,h⟩
theorem X5 (h:IntsAre vs [a,b,c]):∃t u v,vs=[.int a t, .int b u, .int c v]:=cU (yZ h) λt _ p h=>cU (yZ h) λu _ q h=>cU (yZ h) λv _ r h=>⟨t,u,v,cc p (cc q (cc r (X4 h)))⟩
noncomputable def y0 (ns:List Int):Option (List AV × Bool):=if ns=[0,-1,-1] then some ([.int 0],true) else if ns=[1,-1,-1] then some ([.int 1, .int 0],true) else if ns=[5,-1,-1] then some ([.int 5, .int 4, .int 3, .int 2, .int 1, .int 0],true) else none
def Eb (as:gz):Lo→ar→Option (List AV × Bool):=λU V=>(as U V).bind λl=>(kn l).bind y0
structure Dn (a:Int) (n:Nat) (items:List AV):Prop where
 sm:Builtin.Range.small a (-1) (-1)=true
 sz:Builtin.Range.rangeSize a (-1) (-1)=(n:Int)
 im:items=(List.range n).map λ(i:Nat)=>AV.int (a+(i:Int) * (-1))
 bd:a.natAbs< 1000
theorem Sy (e:y0 ns=some (items,fz)):∃a n,ns=[a,-1,-1]∧Dn a n items∧fz=true:=by
 unfold y0 at e
 by_cases h0:ns=[0,-1,-1]
 ·rw [if_pos h0] at e;exact yU (P:=λitems fz=> ∃a n,ns=[a,-1,-1]∧Dn a n items∧fz=true) e ⟨0,1,h0,⟨rfl,rfl,rfl,by decide⟩,rfl⟩
 rw [if_neg h0] at e
 by_cases h1:ns=[1,-1,-1]
 ·rw [if_pos h1] at e;exact yU (P:=λitems fz=> ∃a n,ns=[a,-1,-1]∧Dn a n items∧fz=true) e ⟨1,2,h1,⟨rfl,rfl,rfl,by decide⟩,rfl⟩
 rw [if_neg h1] at e
 by_cases h5:ns=[5,-1,-1]
 ·rw [if_pos h5] at e;exact yU (P:=λitems fz=> ∃a n,ns=[a,-1,-1]∧Dn a n items∧fz=true) e ⟨5,6,h5,⟨rfl,rfl,rfl,by decide⟩,rfl⟩
 rw [if_neg h5] at e
 exact au e
theorem PH (c:Cx G Γ A s env R J U V)(hr:IsRange s.heap r a (-1) (-1) t u v)(d:Dn a n items)
  (hQ:∀I s' fp P St,s.heap.get? I=none→Kp s s'→Cx G Γ A s' env (I::R) J U V→ItSt G A (I::R) J s'.heap items true I fp P St→Q (.ref I) s'):wpAny (model G.prog G.w) A (pyIter (.ref r)) Q E s:=by
 refine wpAny_pyIter_range hr d.sm ?_
 have k:=Kp.push s { cls:= .type "range_iterator",data:= .fields #[rawInt a,rawInt (Builtin.Range.rangeSize a (-1) (-1)),rawInt (-1)] }
 refine (c.res (mu:=⟨false,J.length⟩) k (dr _) ⟨_,bK _ rfl⟩).elim λg c'=> ?_
 refine hQ s.heap.objs.size _ [s.heap.objs.size] (λi v=> ∃t,v= .int (a+i * (-1)) t) (λi h=>IsRangeIter h s.heap.objs.size (a+(i:Nat) * (-1)) ((n:Int) - (i:Nat)) (-1)) (dr _) k c' ?_
 have Yp:items.length=n:=d.im▸(List.length_map _).trans List.length_range
 have lv:∃o,(s.heap.push { cls:= .type "range_iterator",data:= .fields #[rawInt a,rawInt (Builtin.Range.rangeSize a (-1) (-1)),rawInt (-1)] }).get? s.heap.objs.size=some o:=⟨_,bK _ rfl⟩
 have out:=c.S.new_out (dr s.heap)
 refine ⟨by rw [Yp];exact Walks.range c.A.hd s.heap.objs.size a (-1) n,?_,lv,(λi h' ho=>⟨_,_,ho,rfl,by decide⟩),bY,out.1,out.2,λb m=>aH m▸lv,λ_ b m=> .inl (aH m),λi v hl p=>p.elim λt e=>⟨.int (a+i * (-1)),?_,e▸ .i⟩,λi h' ho=>ol ho rfl (by intro q t;exact nofun)⟩
 ·show Heap.get? _ _=_
  rw [bK _ rfl,d.sz]
  simp [rawInt]
 ·rw [d.im,List.getElem?_map,List.getElem?_range (Yp▸hl)];rfl
theorem PJ {np pos:Pos}(hv:ev G "range" (.type "range"))(ha:hU G Γ es as)(hk:Γ.names.lookup ("range":Str)=some .globalImplicit:=by kernel_rfl)(hne:es≠ []:=by exact List.cons_ne_nil _ _):PI G Γ (.Call (.Name "range" np) es [] pos) (Eb as):=λU V items fz q A s env R J Q c hQ=>
 aw q λl e1 q=>aw q λns e2 q=>aS (Sy q) λa n e3 d hf=>by
  subst hf e3
  refine eX (ky hv hk (by decide +kernel) _ _ _ rfl A s env R J _ c λr s0 k0 r0=>(show r=_ from r0)▸nO ha.1 hne (ha.2 _ _ _ e1 A s0 env R J _ pos (c.kp k0) λrs s1 k1 r1=> ?_))
  refine td (X5 (qX r1 e2)) λt u v p=>p▸call_range_3 (by decide) ?_ (.inl (PyProof.noPylong_small (by have:=d.bd;omega)))
  have k2:Kp s1 { s1 with heap:=s1.heap.push { cls:= .type "range",data:= .fields #[.int a t, .int (-1) u, .int (-1) v] },toks:=s1.toks }:=⟨⟨_,_,rfl⟩,KB.push _ _⟩
  have k012:=(k0.trans k1).trans k2
  exact PH (c.kp k012) (IsRange.new _ _ _ _ _ _ _) d λI s3 fp P St fr k3 c3 it=>hQ I s3 fp P St ((Go.of_kp (X:=[]) (R:=R) (J:=J) k012).none_of fr) (k012.trans k3) c3 it
noncomputable def jO (G:Gd)(Γ:FI)(sts:List Stmt)(U:Lo)(V:ar)(n:Nat):Prop:=
 ∀(A:Around) (s:Shared) (env:Env) (R:List Addr) (J:aG) (Q:Flow→Shared→Prop),Cx G Γ A s env R J U V→
  (∀x t s' R' J',x.size=n→Go (bs G ⟨false,V.length⟩ J ++fa env) s s' R J R' J'→Q (.ret (.bytes x t)) s')→wpAny (model G.prog G.w) A (execs sts env) Q aI s
theorem H0 (S:SR G R J V h)(m:z∈bs G ⟨false,V.length⟩ J ++W):z∈W:=(bC m).resolve_left λq=>absurd (wK (G:=G) (Nat.le_of_eq S.len)▸q:z∈([]:List Addr)) bq
theorem sg (hb:MB G Γ e b)(h:b U V=some n):jO G Γ (.Return (some e) pos::rest) U V n:=λA s env R J Q c hQ=>dO (wpAny_Return_some (hb _ _ _ h A s env R J _ c λx t s' hx k=>hQ x t s' R J hx (Go.of_kp k)))
theorem Sz {st:Stmt}(ha:MS G ⟨false,V.length⟩ Γ st a)(e:a U V=some (.next,ℓ',V))(hb:jO G Γ sts ℓ' V n):jO G Γ (st::sts) U V n:=λA s env R J Q c hQ=>dO (ha _ _ _ _ _ e A s env R J _ c λr s1 R1 J1 g1 c1 fr=>(show r= .next from fr).symm▸hb A s1 env R1 J1 Q c1 λx t s' R' J' hx g=>hQ x t s' R' J' hx (g1.seq g))
theorem HG (hs:Slot1 Γ i x)(hb:MB G Γ e b)(hw:∀env,swapsWith e (some (.Name x pos')) pos.line env=pure false)(h:b U V=some n)
  (c:Cx G Γ A s env R J U V)
  (hQ:∀y t s',y.size=n→Go (bs G mu J ++fa env) s s' R J R J→Cx G Γ A s' env R J (U.set i (some (.lit (.bytes y t)))) V→Q .next s'):wpAny (model G.prog G.w) A (exec (.Assign [.Name x pos'] e pos) env) Q aI s:=wpAny_Assign_Name (hb _ _ _ h A s env R J _ c λy t s1 hy k1=>j2 (mu:=mu) (v:= .lit (.bytes y t)) (c.kp k1) hs rfl λs2 g2 c2=>hQ y t s2 hy ((Go.of_kp k1).seq g2) c2) (hw env)
theorem SA (hs:Slot1 Γ i x)(hb:MB G Γ e b)(hw:∀env,swapsWith e (some (.Name x pos')) pos.line env=pure false)(h:b U V=some m)
  (hr:∀y t,y.size=m→jO G Γ sts (U.set i (some (.lit (.bytes y t)))) V n):jO G Γ (.Assign [.Name x pos'] e pos::sts) U V n:=λA s env R J Q c hQ=>dO (HG (mu:=⟨false,V.length⟩) hs hb hw h c λy t s1 hy g1 c1=>hr y t hy A s1 env R J Q c1 λz u s' R' J' hz g=>hQ z u s' R' J' hz (g1.seq g))
noncomputable def RsA (G:Gd)(mu:Md)(Γ:FI)(sts:List Stmt)(U:Lo)(V:ar)(C:Addr):Prop:=∀(A:Around) (s:Shared) (env:Env) (Yn:List Env) (R:List Addr) (J:aG) (base:Heap) (E:Value→Shared→Prop),Cx G Γ A s env R J U V→Fly G mu (fa env) base A env Yn s R J→
 (∀v s',Thr base env Yn C s v s'→E v s')→wpAny (model G.prog G.w) A (execs sts env) (λ_ _=>False) E s
theorem RsA.of (h:eL G mu Γ sts x)(e:x U V=some C):RsA G mu Γ sts U V C:=h _ _ _ e
theorem Ec {st:Stmt}(ha:MS G mu Γ st a)(e1:a U V=some (.next,ℓ',σ'))(hb:RsA G mu Γ sts ℓ' σ' C):RsA G mu Γ (st::sts) U V C:=λA s env Yn R J base E c f hE=>dO (wE (ha _ _ _ _ _ e1 A s env R J _ c λr s1 R1 J1 g1 c1 fr=>(f.go g1 c1).elim λf1 u1=>(show r= .next from fr).symm▸hb A s1 env Yn R1 J1 base E c1 f1 λv s' t=>hE v s' (t.after g1.sh u1)))
theorem Ed (hs:Slot1 Γ i x)(hb:MB G Γ e b)(hw:∀env,swapsWith e (some (.Name x pos')) pos.line env=pure false)(h:b U V=some m)
  (hr:∀y t,y.size=m→RsA G mu Γ sts (U.set i (some (.lit (.bytes y t)))) V C):RsA G mu Γ (.Assign [.Name x pos'] e pos::sts) U V C:=λA s env Yn R J base E c f hE=>dO (wE (HG (mu:=mu) hs hb hw h c λy t s1 hy g1 c1=>(f.go g1 c1).elim λf1 u1=>hr y t hy A s1 env Yn R J base E c1 f1 λv s' t=>hE v s' (t.after g1.sh u1)))
theorem xw (D:DefF G Γ f fd body)(hps:Γ.slots.take ps.length=ps)(hnd:ps.Nodup)
  (hpl:∀x∈ps,Γ.names.lookup x=some .local)(hn:ps.length=n)(hb:gT G fd ps n [])
  (hcell':∀x∈Γ.names,d8 (some x.2)=false)(hd:Γ.d+1≤d)(B:∀avs V k,F avs V=some k→avs.length=n∧jO G Γ body (eZ Γ.slots.length (avs ++ [])) V k):my G d (.ref f) F:=λavs V k q A s R J vals P hA S hv hP=>(B _ _ _ q).elim λYp hB=>lB (dv:=[]) (dav:=[]) D hps hnd hpl hn hb (λ_ _ _ _ _=>rfl) hcell' hd Yp hA S hv λenv s1 L sh kb fL hL hcl hf go c=>
 have efa:fa env=[L]:=by unfold fa;rw [hcl,hL];rfl
 wE (hB _ s1 env (L::R) J _ c λx t s' R' J' hx g=>have gg:Go [] s s' R J R' J':=(go []).trans g λz m=> .inr (aH (efa▸H0 S m:z∈ [L])▸fL)
  hP x t s' hx ⟨gg.sh,gg.kb⟩)
theorem QF (D:DefF G Γ f fd body)(hps:Γ.slots.take ps.length=ps)(hnd:ps.Nodup)
  (hpl:∀x∈ps,Γ.names.lookup x=some .local∨Γ.names.lookup x=some .cell)(hn:ps.length=n)(hb:∀vals:List Value,vals.length=n→bindArgs fd ⟨vals,[]⟩=pure (ps.zip vals))
  (hnfree:∀x∈Γ.names,x.2≠ .free)(hcn:((cellsFrom 0 Γ.names []).map (·.1)).Nodup)(hd:Γ.d+1≤d)(B:∀avs V k,F avs V=some k→avs.length=n∧jO G Γ body (eZ Γ.slots.length avs) V k):my G d (.ref f) F:=λavs V k q A s R J vals P hA S hv hP=>(B _ _ _ q).elim λYp hB=>qz D hps hnd hpl hn hb hnfree hcn hd Yp hA S hv λenv s1 sh kb fr hf _ go c=>
 wE (hB _ s1 env (fa env ++R) J _ c λx t s' R' J' hx g=>have gg:Go [] s s' R J R' J':=(go []).trans g λz m=> .inr (fr z (H0 S m))
  hP x t s' hx ⟨gg.sh,gg.kb⟩)
theorem QG (D:DefF G Γ f fd body)(hps:Γ.slots.take ps.length=ps)(hnd:ps.Nodup)
  (hpl:∀x∈ps,Γ.names.lookup x=some .local∨Γ.names.lookup x=some .cell)(hn:ps.length=n)(hb:∀vals:List Value,vals.length=n→bindArgs fd ⟨vals,[]⟩=pure (ps.zip vals))
  (hnfree:∀x∈Γ.names,x.2≠ .free)(hcn:((cellsFrom 0 Γ.names []).map (·.1)).Nodup)(hd:Γ.d+1≤d)(B:∀n0,eL G ⟨tb,n0⟩ Γ body (b n0)):RF G tb nf d (.ref f) (iG Γ n [] nf b):=λavs V C q A s R J vals Yn base E hA S hv hfr st ff nb lo hE=>fH q λYp q=>qz D hps hnd hpl hn hb hnfree hcn hd Yp hA S hv λenv s1 sh kb fr hf _ go c=>
 have f1:=Fly.enter (W:=fa env) hfr st ff nb lo kb fr (fr _ eP) hf (λa m=>dy _ m) c
 wF (B _ _ _ _ (List.append_nil avs▸q) _ s1 env Yn (fa env ++R) J base _ c f1 λv s' t=>t.out f1.fr f1.fm sh kb hE)
theorem Wt (D:DefF G Γ f fd body)(hps:Γ.slots.take ps.length=ps)(hnd:ps.Nodup)
  (hpl:∀x∈ps,Γ.names.lookup x=some .local)(hn:ps.length=n)(hb:gT G fd ps n [])
  (hcell':∀x∈Γ.names,d8 (some x.2)=false)(hd:Γ.d+1≤d)(B:∀avs V C,F avs V=some C→avs.length=n∧RsA G ⟨false,V.length⟩ Γ body (eZ Γ.slots.length (avs ++ [])) V C):RF G false id d (.ref f) F:=λavs V C q A s R J vals Yn base E hA S hv hfr st ff nb lo hE=>(B _ _ _ q).elim λYp hB=>lB (dv:=[]) (dav:=[]) D hps hnd hpl hn hb (λ_ _ _ _ _=>rfl) hcell' hd Yp hA S hv λenv s1 L sh kb fL hL hcl hf go c=>
 have efa:fa env=[L]:=by unfold fa;rw [hcl,hL];rfl
 have f1:=Fly.enter (W:=fa env) hfr st ff nb lo kb (λa m=>aH (efa▸m:a∈ [L])▸fL) (hL▸fL) (hL▸hf) (λa m=> .tail _ m) c
 wF (hB _ s1 env Yn (L::R) J base _ c f1 λv s' t=>t.out f1.fr f1.fm sh kb hE)
theorem Vd (ht:MT G Γ e t)(h:t U V=some false)(hb:jO G Γ sts U V n):jO G Γ (.If e bd [] pos::sts) U V n:=by
 intro A s env R J Q c hQ
 refine dO (wpAny_If (ht _ _ _ h A s env R J _ c λs1 k1=> ?_))
 simp only [Bool.false_eq_true,if_false]
 exact wpAny_execs_nil (hb A s1 env R J Q (c.kp k1) λx t s' R' J' hx g=>hQ x t s' R' J' hx ((Go.of_kp k1).seq g))
theorem oN (Z:IsG G):aM G "put_number" (.lit (.ref 82)):=Z.kL
theorem oO (Z:IsG G):keepIn G.K (.ref 82)=true:=Z.kp
theorem gI (Z:IsG G):aM G "put16" (.lit (.ref 89)):=Z.kL
theorem gJ (Z:IsG G):keepIn G.K (.ref 89)=true:=Z.kp
theorem wu (Z:IsG G):aM G "put48" (.lit (.ref 96)):=Z.kL
theorem wv (Z:IsG G):keepIn G.K (.ref 96)=true:=Z.kp
theorem vc (Z:IsG G):aM G "packed_info" (.lit (.ref 149)):=Z.kL
theorem vd (Z:IsG G):keepIn G.K (.ref 149)=true:=Z.kp
theorem AB (Z:IsG G):aM G "pack_lacpdu" (.lit (.ref 156)):=Z.kL
theorem AC (Z:IsG G):keepIn G.K (.ref 156)=true:=Z.kp
noncomputable abbrev ve:FI:=⟨[("number", .cell),("many", .local),("SizeError", .globalImplicit),("str", .globalImplicit),("bytes", .globalImplicit),("range", .globalImplicit)],["number","many"],3, .ref 81,"put_number.<locals>."⟩
theorem A7 (Z:IsG G):DefF G ve 82 Wb GS:=Z.df
def A8 (n0:Nat):RX:=(qk (yT (dn (iZ (ah (.int 0)) (i3 (de λa b=>decide (a≤b)) (aa 0) (i1 (de λa b=>decide (a< b)) (a8 (bc pV) (ah (.int 1)) (a8 (bc eu) (ah (.int 8)) (aa 1)))))))) (pG 51 λU V=>((a8 yo (a8 yo (ah (.str "a number without room in ")) (aL HF (ae (aa 1) aj))) (ah (.str " octets"))) U V).isSome) qm)
theorem Ml (Z:IsG G)(n0:Nat):eL G ⟨false,n0⟩ ve GS (A8 n0):=
 (fN (sT (bA (dU (mU an (mT nJ af (mS i0 (be rT an (be fR an af))))))) (fN (rA Z (pf Z) (oU Z) (by kernel_rfl) (by kernel_rfl) (vA Z) (by decide) (tj (be Ea (be Ea bI (dA (Vc Z) Ws (ag af ak))) bI)) λ_=>rfl)) sf))
def vp:List AV→ar→Option Addr:=iG ve 2 [] id A8
theorem A9 (Z:IsG G):RF G false id 4 (.ref 82) vp:=QG (ps:=["number","many"]) (A7 Z) rfl (by decide +kernel) (by decide +kernel) rfl cF (by decide) (by decide +kernel) (Nat.le_refl _) (Ml Z)
noncomputable abbrev Kj:FI:=⟨[(".0", .local),("place", .local),("number", .cell)],["place","number"],3, .ref 81,"put_number.<locals>."⟩
def Ba:dz:=(dn (iZ (ah (.int 0)) (i3 (de λa b=>decide (a≤b)) (aa 0) (i1 (de λa b=>decide (a< b)) (a8 (bc pV) (ah (.int 1)) (a8 (bc eu) (ah (.int 8)) (aa 1)))))))
def Bb:h8:=(mz (d5 (Eb (ae (a8 (bc jF) (aa 1) (ah (.int 1))) (ae (kM (ah (.int 1))) (ae (kM (ah (.int 1))) aj)))) (some ("number",0)) (a8 (bc nH) (a8 (bc Hp) (aa 1) (a8 (bc eu) (ah (.int 8)) (aa 0))) (ah (.int 255))) []))
def mF:List AV→ar→Option Nat:=λavs V=>if avs.length=2 then (match Ba (eZ 2 avs) V with
 | some false=>Bb (eZ 2 avs) V
 | _=>none) else none
theorem vq (Z:IsG G):my G 4 (.ref 82) mF:=QF (ps:=["number","many"]) (A7 Z) rfl (by decide +kernel) (by decide +kernel) rfl cF (by decide) (by decide +kernel) (Nat.le_refl _) λavs V k q=>by
 unfold mF at q
 split at q
 ·rename_i hl
  split at q
  ·rename_i ht
   exact ⟨hl,Vd (t:=Ba) (dU (mU an (mT nJ af (mS i0 (be rT an (be fR an af)))))) ht (sg (b:=Bb) (lI Z (by kernel_rfl) (iU (Γc:=Kj) .of1 (PJ (lH Z) (ag (be kj af an) (ag (na an) (ag (na an) ak)))) (be rS (be TW af (be fR an af)) an) .nil) λ_=>rfl) q)⟩
  ·cases q
 ·cases q
noncomputable abbrev PK:FI:=fi ["number"] ["put_number"] 4 88 "put16.<locals>."
theorem QH (Z:IsG G):DefF G PK 89 Wd Wc:=Z.df
def Dl:h8:=(fg mF (ae (aa 0) (ae (ah (.int 2)) aj)))
def gK:List AV→ar→Option Nat:=λavs V=>if avs.length=1 then Dl (eZ 1 avs) V else none
theorem gL (Z:IsG G):my G 5 (.ref 89) gK:=xw (ps:=["number"]) (QH Z) rfl (by decide +kernel) (by decide +kernel) rfl (ju dQ) (by decide +kernel) (Nat.le_refl _) λavs V k q=>by
 unfold gK at q
 split at q
 ·rename_i hl
  rw [List.append_nil]
  exact ⟨hl,sg (b:=Dl) (eD (oN Z) (oO Z) (vq Z) (ag af (ag an ak))) q⟩
 ·cases q
noncomputable abbrev PL:FI:=fi ["number"] ["put_number"] 4 95 "put48.<locals>."
theorem QI (Z:IsG G):DefF G PL 96 Wf We:=Z.df
def Dm:h8:=(fg mF (ae (aa 0) (ae (ah (.int 6)) aj)))
def ww:List AV→ar→Option Nat:=λavs V=>if avs.length=1 then Dm (eZ 1 avs) V else none
theorem wx (Z:IsG G):my G 5 (.ref 96) ww:=xw (ps:=["number"]) (QI Z) rfl (by decide +kernel) (by decide +kernel) rfl (ju dQ) (by decide +kernel) (Nat.le_refl _) λavs V k q=>by
 unfold ww at q
 split at q
 ·rename_i hl
  rw [List.append_nil]
  exact ⟨hl,sg (b:=Dm) (eD (oN Z) (oO Z) (vq Z) (ag af (ag an ak))) q⟩
 ·cases q
noncomputable abbrev KM:FI:=fi ["part","info","system","key","port","state","found"] ["bytes","INFO_SIZE","put16","put48","put_number"] 5 148 "packed_info.<locals>."
theorem AD (Z:IsG G):DefF G KM 149 Ue Ud:=Z.df
def vt:aF:=(iu (iB [(bh 2),(bh 3),(bh 4),(bh 5)]) (xP (aa 1)))
def vf:h8:=(fu (fu (fu (mz (bD (ae (aa 0) (ae (aY (.int 20)) aj)))) (fg gK (ae (bz (aa 2) (ah (.int 0))) aj))) (fg ww (ae (bz (aa 2) (ah (.int 1))) aj))) (fg gK (ae (aa 3) aj)))
def AE:h8:=(fu (fu (fu (fu (yD 6) (fg gK (ae (bz (aa 4) (ah (.int 0))) aj))) (fg gK (ae (bz (aa 4) (ah (.int 1))) aj))) (fg mF (ae (aa 5) (ae (ah (.int 1)) aj)))) (mz (ah (.int 3))))
def qM (n0:Nat):RX:=(pQ (fu (fu (yD 6) (fg gK (ae (bz (aa 4) (ah (.int 0))) aj))) (fg gK (ae (bz (aa 4) (ah (.int 1))) aj))) (gB (yA (ae (aa 5) (ae (ah (.int 1)) aj))) n0 id vp))
noncomputable def kt (part st:Int):Lo:=[some (.int part),some (.tup [.tup [.int 1, .int 9], .int 4, .tup [.int 8, .int 2], .int st]),some (.tup [.int 1, .int 9]),some (.int 4),some (.tup [.int 8, .int 2]),some (.int st),none]
noncomputable def qI:AV→Option Int
 | .int i=>some i
 | _=>none
noncomputable def qT:AV→Option (List AV)
 | .tup l=>some l
 | _=>none
noncomputable def q2:List AV→Option (AV × AV)
 | [a,b]=>some (a,b)
 | _=>none
theorem Wu (h:qI x=some i):x= .int i:=by
 cases x with
 | int j=>exact congrArg _ (aD h)
 | _=>nomatch h
theorem Wv (h:qT x=some l):x= .tup l:=by
 cases x with
 | tup j=>exact congrArg _ (aD h)
 | _=>nomatch h
theorem Ww:∀{l:List AV} {p:AV × AV},q2 l=some p→l=[p.1,p.2]
 | [a,b],_,h=>by cases h;rfl
noncomputable def lc (i:Int)(x:AV):Bool:=decide (qI x=some i)
noncomputable def qP (f g:AV→Bool)(l:List AV):Bool:=(q2 l).any λp=>f p.1 && g p.2
noncomputable def tM (f:List AV→Bool)(x:AV):Bool:=(qT x).any f
noncomputable def qC (f:AV→Bool)(g:List AV→Bool)(l:List AV):Bool:=match l with
 | x::r=>f x && g r
 | []=>false
def tm (p st:Int):List AV→Bool:=qP (lc p) (tM (qC (tM (qP (lc 1) (lc 9))) (qC (lc 4) (qP (tM (qP (lc 8) (lc 2))) (lc st)))))
theorem lT (h:lc i x=true):x= .int i:=Wu (fG h)
theorem Ge {α:Type}{o:Option α}{f:α→Bool}(h:o.any f=true):∃a,o=some a∧f a=true:=by
 cases o with
 | none=>cases h
 | some a=>exact ⟨a,rfl,h⟩
theorem sU (h:qP f g l=true)(hf:∀x,f x=true→x=u)(hg:∀x,g x=true→x=v):l=[u,v]:=by
 obtain ⟨p,e,h⟩:=Ge h
 have h:=eH h
 rw [Ww e,hf _ h.1,hg _ h.2]
theorem xx (h:tM f x=true)(hf:∀l,f l=true→l=m):x= .tup m:=by
 obtain ⟨p,e,h⟩:=Ge h
 rw [Wv e,hf _ h]
theorem G0 (h:qC f g l=true)(hf:∀x,f x=true→x=u)(hg:∀x,g x=true→x=m):l=u::m:=by
 cases l with
 | nil=>cases h
 | cons x r=>
  have h:=eH h
  rw [hf _ h.1,hg _ h.2]
theorem yp {p st:Int}(h:tm p st avs=true):avs=[.int p, .tup [.tup [.int 1, .int 9], .int 4, .tup [.int 8, .int 2], .int st]]:=
 sU h (λ_=>lT) λ_ h=>xx h λ_ h=>G0 h (λ_ h=>xx h λ_ h=>sU h (λ_=>lT) λ_=>lT) λ_ h=>G0 h (λ_=>lT) λ_ h=>sU h (λ_ h=>xx h λ_ h=>sU h (λ_=>lT) λ_=>lT) λ_=>lT
theorem H3 {α:Type}{c:Prop}[Decidable c]{a b:α}(h:(if c then some a else none)=some b):c∧a=b:=by
 by_cases hc:c
 ·rw [if_pos hc] at h;exact ⟨hc,aD h⟩
 ·rw [if_neg hc] at h;cases h
def AF:List AV→ar→Option Nat:=λavs V=>if tm 1 5 avs=true then some 20 else none
def Lx (n:Nat)(V:ar):Option Nat:=((fu (fu (fu (fu (λ_ _=>some n) (fg gK (ae (bz (aa 4) (ah (.int 0))) aj))) (fg gK (ae (bz (aa 4) (ah (.int 1))) aj))) (fg mF (ae (aa 5) (ae (ah (.int 1)) aj)))) (mz (ah (.int 3))))) (kt 1 5) V
theorem Ly (Z:IsG G):my G 6 (.ref 149) AF:=xw (ps:=["part","info"]) (AD Z) rfl (by decide +kernel) (by decide +kernel) rfl (ju cF) (by decide +kernel) (Nat.le_refl _) λavs V k q=>by
 obtain ⟨h,rfl⟩:=H3 q
 obtain rfl:=yp h
 ·refine ⟨rfl,Sz (a:=vt) (ℓ':=kt 1 5) (js (ay af) (lP (ei cz (ei cz (ei cz (ei cz lL)))))) rfl (SA (i:=6) (Slot1.of rfl (by decide +kernel) (.inl (by kernel_rfl))) (b:=vf) (eS (eS (eS (lI Z (by kernel_rfl) (cN (ag af (ag (aO (vw Z)) ak))) λ_=>rfl) (eD (gI Z) (gJ Z) (gL Z) (ag (bM af an) ak))) (eD (wu Z) (wv Z) (wx Z) (ag (bM af an) ak))) (eD (gI Z) (gJ Z) (gL Z) (ag af ak))) (λ_=>rfl) (m:=12) rfl λy t hy=>sg (b:=AE) (eS (eS (eS (eS (xu rfl (by kernel_rfl) (by kernel_rfl)) (eD (gI Z) (gJ Z) (gL Z) (ag (bM af an) ak))) (eD (gI Z) (gJ Z) (gL Z) (ag (bM af an) ak))) (eD (oN Z) (oO Z) (vq Z) (ag af (ag an ak)))) (lI Z (by kernel_rfl) an λ_=>rfl)) ?_)⟩
  have hb:AE ((kt 1 5).set 6 (some (.lit (.bytes y t)))) V=Lx y.size V:=rfl
  rw [hb,hy]
  rfl
def vg:List AV→ar→Option Addr:=λavs V=>if (tm 1 256 avs || tm 2 (-1) avs)=true then some 51 else none
def AG (n0:Nat)(part st:Int)(n:Nat)(V:ar):Option Addr:=((pQ (fu (fu (λ_ _=>some n) (fg gK (ae (bz (aa 4) (ah (.int 0))) aj))) (fg gK (ae (bz (aa 4) (ah (.int 1))) aj))) (gB (yA (ae (aa 5) (ae (ah (.int 1)) aj))) n0 id vp))) (kt part st) V
theorem AH (Z:IsG G):RF G false id 6 (.ref 149) vg:=Wt (ps:=["part","info"]) (AD Z) rfl (by decide +kernel) (by decide +kernel) rfl (ju cF) (by decide +kernel) (Nat.le_refl _) λavs V C q=>by
 obtain ⟨h,rfl⟩:=H3 q
 rcases Bool.or_eq_true_iff.mp h with h | h
 ·obtain rfl:=yp h
  refine ⟨rfl,Ec (a:=vt) (ℓ':=kt 1 256) (σ':=V) (js (ay af) (lP (ei cz (ei cz (ei cz (ei cz lL)))))) rfl (Ed (i:=6) (Slot1.of rfl (by decide +kernel) (.inl (by kernel_rfl))) (b:=vf) (eS (eS (eS (lI Z (by kernel_rfl) (cN (ag af (ag (aO (vw Z)) ak))) λ_=>rfl) (eD (gI Z) (gJ Z) (gL Z) (ag (bM af an) ak))) (eD (wu Z) (wv Z) (wx Z) (ag (bM af an) ak))) (eD (gI Z) (gJ Z) (gL Z) (ag af ak))) (λ_=>rfl) (m:=12) rfl λy t hy=>RsA.of (x:=qM V.length) (fN (Ga (wW (rM (eS (eS (xu rfl (by kernel_rfl) (by kernel_rfl)) (eD (gI Z) (gJ Z) (gL Z) (ag (bM af an) ak))) (eD (gI Z) (gJ Z) (gL Z) (ag (bM af an) ak))) (gM (oN Z) (oO Z) (A9 Z) (aP (ag af (ag an ak)))))))) ?_)⟩
  have hb:qM V.length ((kt 1 256).set 6 (some (.lit (.bytes y t)))) V=AG V.length 1 256 y.size V:=rfl
  rw [hb,hy]
  exact if_pos (Nat.le_refl _)
 ·obtain rfl:=yp h
  refine ⟨rfl,Ec (a:=vt) (ℓ':=kt 2 (-1)) (σ':=V) (js (ay af) (lP (ei cz (ei cz (ei cz (ei cz lL)))))) rfl (Ed (i:=6) (Slot1.of rfl (by decide +kernel) (.inl (by kernel_rfl))) (b:=vf) (eS (eS (eS (lI Z (by kernel_rfl) (cN (ag af (ag (aO (vw Z)) ak))) λ_=>rfl) (eD (gI Z) (gJ Z) (gL Z) (ag (bM af an) ak))) (eD (wu Z) (wv Z) (wx Z) (ag (bM af an) ak))) (eD (gI Z) (gJ Z) (gL Z) (ag af ak))) (λ_=>rfl) (m:=12) rfl λy t hy=>RsA.of (x:=qM V.length) (fN (Ga (wW (rM (eS (eS (xu rfl (by kernel_rfl) (by kernel_rfl)) (eD (gI Z) (gJ Z) (gL Z) (ag (bM af an) ak))) (eD (gI Z) (gJ Z) (gL Z) (ag (bM af an) ak))) (gM (oN Z) (oO Z) (A9 Z) (aP (ag af (ag an ak)))))))) ?_)⟩
  have hb:qM V.length ((kt 2 (-1)).set 6 (some (.lit (.bytes y t)))) V=AG V.length 2 (-1) y.size V:=rfl
  rw [hb,hy]
  exact if_pos (Nat.le_refl _)
noncomputable abbrev uL:FI:=fi ["pdu","found"] ["bytes","SUBTYPE","VERSION","packed_info","ACTOR_PART","PARTNER_PART","COLLECTOR_PART","COLLECTOR_SIZE","put16","LAST_ROOM"] 6 155 "pack_lacpdu.<locals>."
def Ad (n0:Nat):RX:=(pQ (mz (bD (ae (aY (.int 1)) (ae (aY (.int 1)) aj)))) (gB (yA (ae (aY (.int 1)) (ae (aB 7 [279,124] (aa 0)) aj))) n0 id vg))
theorem KN (Z:IsG G)(n0:Nat):eL G ⟨false,n0⟩ uL rX (Ad n0):=
 (fN (xt (wW (rM (lI Z (by kernel_rfl) (cN (ag (aO (BM Z)) (ag (aO (BN Z)) ak))) λ_=>rfl) (gM (vc Z) (vd Z) (AH Z) (aP (ag (aO (AJ Z)) (ag (aE (ez Z) (eA Z) af) ak)))))) λ_=>rfl))
theorem KO (Z:IsG G):DefF G uL 156 EZ rX:=Z.df
def Ae:List AV→ar→Option Addr:=iG uL 1 [] id Ad
theorem KP (Z:IsG G):RF G false id 7 (.ref 156) Ae:=pP (KO Z) dQ (KN Z)
noncomputable abbrev uM:FI:=fi ["pdu","found"] ["bytes","SUBTYPE","VERSION","packed_info","ACTOR_PART","PARTNER_PART","COLLECTOR_PART","COLLECTOR_SIZE","put16","LAST_ROOM"] 6 155 "pack_lacpdu.<locals>."
def Af (n0:Nat):RX:=(pQ (fu (mz (bD (ae (aY (.int 1)) (ae (aY (.int 1)) aj)))) (fg AF (ae (aY (.int 1)) (ae (aB 7 [279,124] (aa 0)) aj)))) (gB (yA (ae (aY (.int 2)) (ae (aB 8 [279,124] (aa 0)) aj))) n0 id vg))
theorem KQ (Z:IsG G)(n0:Nat):eL G ⟨false,n0⟩ uM rX (Af n0):=
 (fN (xt (rM (eS (lI Z (by kernel_rfl) (cN (ag (aO (BM Z)) (ag (aO (BN Z)) ak))) λ_=>rfl) (eD (vc Z) (vd Z) (Ly Z) (ag (aO (AJ Z)) (ag (aE (ez Z) (eA Z) af) ak)))) (gM (vc Z) (vd Z) (AH Z) (aP (ag (aO (Kn Z)) (ag (aE (d9 Z) (ec Z) af) ak))))) λ_=>rfl))
theorem KR (Z:IsG G):DefF G uM 156 EZ rX:=Z.df
def Ag:List AV→ar→Option Addr:=iG uM 1 [] id Af
theorem KT (Z:IsG G):RF G false id 7 (.ref 156) Ag:=pP (KR Z) dQ (KQ Z)
structure TS (G:Gd) (L:List Addr) (s s':Shared):Prop where
 sh:∃h tk,s'= { s with heap:=h,toks:=tk }
 kb:∀b o,b∉L→b∉G.TB→s.heap.get? b=some o→s'.heap.get? b=some o
 sl:∀b o,b∈L→s.heap.get? b=some o→∃sl,s'.heap.get? b=some { o with slots:=sl }
 lv:∀b o,s.heap.get? b=some o→∃o',s'.heap.get? b=some o'
 tb:G.Tabs s.heap→G.Tabs s'.heap
theorem TS.trans (x:TS G L a b)(y:TS G L b c):TS G L a c:=by
 obtain ⟨⟨h,t,rfl⟩,k,l,v,z⟩:=x
 obtain ⟨⟨h',t',rfl⟩,k',l',v',z'⟩:=y
 exact ⟨⟨h',t',rfl⟩,λb o hb ht e=>k' b o hb ht (k b o hb ht e),λb o hb e=>by
  refine xE (l b o hb e) λs1 e1=> ?_
  refine xE (l' b _ hb e1) λs2 e2=> ?_
  exact ⟨s2,e2⟩,λb o e=>by obtain ⟨o1,e1⟩:=v b o e;exact v' b o1 e1,λt=>z' (z t)⟩
theorem TS.of_kp (k:Kp s s'):TS G L s s':=
 ⟨k.sh,λb o _ _ e=>k.kb b o (by simp) e,λb o _ e=>⟨o.slots,k.kb b o (by simp) e⟩,λb o e=>⟨o,k.kb b o (by simp) e⟩,λt=>G.tabs _ _ [] k.kb (by simp) (by simp) t⟩
theorem LOk.noTB (l:LOk G L R J h):∀a∈G.TB,a∉L:=λa m q=>(l.r a q).2.2 m
theorem TS.of_ks (k:KSl L s s')(l:LOk G L R J s.heap):TS G L s s':=
 ⟨k.sh,λb o hb _ e=>k.kb b o hb e,k.sl,λb o e=>k.live e,λt=>G.tabs _ _ L (λb o hb e=>k.kb b o hb e) l.noTB l.nc t⟩
theorem LOk.ts (l:LOk G L R J s.heap)(k:TS G L s s'):LOk G L R J s'.heap:=
 ⟨l.r,λa m=>by
  refine da (l.d a m) λo es ep e hd=> ?_
  refine xE (k.sl a o m e) λsl e'=> ?_
  exact ⟨_,es,ep,e',hd⟩⟩
theorem SR.ts (S:SR G R J V s.heap)(l:LOk G L R J s.heap)(k:TS G L s s'):SR G R J V s'.heap:=by
 have hR:∀a,a∉R→a∉L∧a∉G.TB:=λa ha=>⟨λm=>ha (l.r a m).1,λm=>ha (S.tbR a m).1⟩
 haveI hO:∀a∈own J,a∉L∧a∉G.TB:=λa ha=>⟨λm=>(l.r a m).2.1 ha,λm=>(S.tbR a m).2 ha⟩
 refine ⟨λb o e=> ?_,S.len,λi o lo e1 e2=> ?_,S.nodup,S.sub,S.resv,λa m=> ?_,S.tbR,k.tb S.tabs,?_⟩
 ·haveI hb:b∉R:=λm=>by haveI:=S.resv b m;exact au ((this).symm.trans e)
  exact k.kb b o (hR b hb).1 (hR b hb).2 (S.base b o e)
 ·exact OA.mono (λa o ha ho=>⟨ha,k.kb a o (hR a ha).1 (hR a ha).2 ho⟩) (λ_ _ x=>x) (λa ha o ho=>k.kb a o (hO a (dS e2 ha)).1 (hO a (dS e2 ha)).2 ho) o (S.objs i o lo e1 e2)
 ·obtain ⟨o,ho⟩:=S.live a m;exact k.lv a o ho
 ·refine cU S.abv λa o ho hle=> ?_
  refine xE (k.lv a o ho) λo' ho'=> ?_
  exact ⟨a,o',ho',hle⟩
theorem TS.ns {L R:List Addr}{J:aG}{V:ar}(k:TS G L s s')(ha:a∉G.TB)(h:s.heap.Ns a m):s'.heap.Ns a m:=by
 refine gn h λo es ep e hd r=> ?_
 by_cases q:a∈L
 ·refine xE (k.sl a o q e) λsl e'=> ?_;exact ⟨_,es,ep,e',hd,r⟩
 ·exact ⟨o,es,ep,k.kb a o q ha e,hd,r⟩
theorem TS.cell (l:LOk G L R J s.heap)(k:TS G L s s')(ha:a∉G.TB)(h:s.heap.IsCell a v):s'.heap.IsCell a v:=by
 refine aW h λo e hd=> ?_
 refine ⟨o,k.kb a o (λm=> ?_) ha e,hd⟩
 refine da (l.d a m) λo' es ep e' hd'=> ?_
 rw [e] at e';replace e':=aD e';subst e';rw [hd] at hd';cases hd'
theorem TS.val (S:SR G R J V s.heap)(l:LOk G L R J s.heap)(k:TS G L s s')(e:VRel G R J s.heap y w):VRel G R J s'.heap y w:=
 e.kb (X:=L ++G.TB) (λb o hb e=>k.kb b o (λm=>hb (dE _ m)) (λm=>hb (dy _ m)) e) (λa m=>(bC m).elim (λm=>(l.r a m).1) λm=>(S.tbR a m).1)
theorem Cx.ts {A:Around}(c:Cx G Γ A s env R J U V)(l:LOk G L R J s.heap)(k:TS G L s s'):Cx G Γ A s' env R J U V:=by
 obtain ⟨hA,S,m,F⟩:=c
 have vk:∀{y:AV} {w:Value},VRel G R J s.heap y w→VRel G R J s'.heap y w:=λe=>k.val S l e
 have fT:∀a∈fa env,a∉G.TB:=λa m=>(F.faR a m).2.2
 have cT:∀x ce,env.cells.lookup x=some ce→ce∉G.TB:=λx ce e=>fT ce (by unfold fa;exact cQ _ (List.mem_map.mpr ⟨_,mem_of_lookup e,rfl⟩))
 refine ⟨hA,S.ts l k,m,⟨F.kind,F.glob,F.bt,F.nms,⟨k.ns (R:=R) (J:=J) (V:=V) (fT _ (by unfold fa;exact bY)) F.fr.ns,λb o e=> ?_,F.fr.above⟩,F.faR,F.faNd,?_,?_,?_,?_⟩⟩
 ·haveI hb:b∉R:=λm=>by haveI:=S.resv b m;exact au ((this).symm.trans e)
  exact k.kb b o (λm=>hb (l.r b m).1) (λm=>hb (S.tbR b m).1) (F.fr.keep b o e)
 ·intro a ha
  refine xE (F.faR' a ha) λo ho=> ?_
  exact k.lv a o ho
 ·intro i x v h1 h2 h3
  refine aW (F.loc i x v h1 h2 h3) λval e1 e2=> ?_
  exact ⟨val,e1,vk e2⟩
 ·intro i x v h1 h2 h3
  refine aS (F.cel i x v h1 h2 h3) λce val e1 e2 e3=> ?_
  exact ⟨ce,val,e1,k.cell l (cT x ce e1) e2,vk e3⟩
 ·intro x h1
  refine cU (F.celAll x h1) λce w e1 e2=> ?_
  exact ⟨ce,w,e1,k.cell l (cT x ce e1) e2⟩
noncomputable def LamAt (s:Shared)(f:Addr)(qual:Str)(body:Expr)(scope:Scope)(clos:List (Str × Addr)):Prop:=
 ∃pm c' ctv,s.heap.get? f=some (kla_obj "<lambda>" qual jw body scope clos pm c' ctv)∧s.heap.CodeRec (.ref c') qual
theorem LamAt.fn (x:LamAt s f qual body scope clos):FnAt f s.heap:=by
 refine da x λpm c' ctv e _=> ?_
 exact ⟨_,_,_,_,e⟩
structure KpO (s s':Shared):Prop where
 sh:∃h tk,s'= { s with heap:=h,toks:=tk }
 fn:∀b o fd,s.heap.get? b=some o→o.data= .func fd→s'.heap.get? b=some o
 code:∀c q,s.heap.CodeRec c q→s'.heap.CodeRec c q
theorem KpO.trans (x:KpO a b)(y:KpO b c):KpO a c:=⟨by
 refine fy x.sh λh t rf2=> ?_;subst rf2
 refine fy y.sh λh' t' e=> ?_
 exact ⟨h',t',e⟩,λz o fd e hd=>y.fn z o fd (x.fn z o fd e hd) hd,λc q h=>y.code c q (x.code c q h)⟩
theorem KpO.of_kp (k:Kp s s'):KpO s s':=⟨k.sh,λb o fd e _=>k.kb b o (by simp) e,λc q h=>h.keeps λb o e=>k.kb b o (by simp) e⟩
theorem LamAt.keep (x:LamAt s f qual body scope clos)(k:KpO s s'):LamAt s' f qual body scope clos:=by
 refine da x λpm c' ctv e h=> ?_
 exact ⟨pm,c',ctv,k.fn _ _ _ e rfl,k.code _ _ h⟩
theorem KpO.of_kb (Z:IsG G)(sh:∃h tk,s'= { s with heap:=h,toks:=tk })(kb:KB X s.heap s'.heap)(tabs:G.Tabs s.heap)(hX:∀a∈X,a∈G.TB∨(∃o es ep,s.heap.get? a=some o∧o.data= .dict es ep)∨∃v,s.heap.IsCell a v):KpO s s' where
 sh:=sh
 fn:=λb o fd e hd=>kb b o (λm=>by
  rcases hX b m with q | ⟨o',es,ep,e',hd'⟩ | ⟨v,o',e',hd'⟩
  ·obtain ⟨ps,e',_⟩:=Z.tbd _ tabs b q
   rw [e] at e';replace e':=aD e';subst e';cases hd
  ·rw [e] at e';obtain rfl:=aD e';rw [hd] at hd';cases hd'
  ·rw [e] at e';replace e':=aD e';subst e';rw [hd] at hd';cases hd') e
 code:=λc q h=>by
  refine CU h λa o vs t rf4 e hd hv=> ?_;subst rf4
  refine ⟨a,o,vs,t,rfl,kb a o (λm=> ?_) e,hd,hv⟩
  rcases hX a m with q' | ⟨o',es,ep,e',hd'⟩ | ⟨v,o',e',hd'⟩
  ·refine aW (Z.tbd _ tabs a q') λps e' hps=> ?_
   rw [e] at e';replace e':=aD e';subst e'
   injection hd with hd;subst hd
   exact hps _ _ hv
  ·rw [e] at e';obtain rfl:=aD e';rw [hd] at hd';cases hd'
  ·rw [e] at e';replace e':=aD e';subst e';rw [hd] at hd';cases hd'
theorem KpO.of_ts (Z:IsG G)(k:TS G L s s')(l:LOk G L R J s.heap)(tabs:G.Tabs s.heap):KpO s s':=
 KpO.of_kb Z (X:=L ++G.TB) k.sh (λb o hb e=>k.kb b o (λm=>hb (dE _ m)) (λm=>hb (dy _ m)) e) tabs λa m=>(bC m).elim (λm=> .inr (.inl (l.d a m))) .inl
theorem Do (Z:IsG G):aM G "_law_heard" (.lit (.ref 604)):=HX (by refine (Z.K)▸ ?_;kernel_rfl)
theorem Dp (Z:IsG G):keepIn G.K (.ref 604)=true:=by rw [Z.K];kernel_rfl
theorem Ce (Z:IsG G){w:Str}(hw:(C=51∧w="size")∨(C=63∧w="table"))
  (hk:Γ.names.lookup ("_law_heard":Str)=some .globalImplicit)(hdd:9≤Γ.d)(he:∀env,starEach [arg] env=[(false,eval arg env)])(c:Cx G Γ A s env R J U V)(hfr:A.frames=some fr)(hkf:FrK fr)
  (harg:∀s0,Kp s s0→wpAny (model G.prog G.w) A (eval arg env) (λr s1=> ∃f,r= .ref f∧Cx G Γ A s1 env R J U V∧LOk G (Lf fr) R J s1.heap∧ThrowsAt G 8 (.ref f) C s1 R J V∧FnAt f s1.heap∧∀s' t,KSl (Lf fr) s1 s'→Q (.str w t) s') aI s0):
  wpAny (model G.prog G.w) A (eval (.Call (.Name "_law_heard" np) [arg] [] pos) env) Q aI s:=by
 refine eX (aO (Do Z) hk (by kernel_rfl) _ _ _ rfl A s env R J _ c λr s0 k0 r0=> ?_)
 simp only [VRel] at r0
 subst r0
 refine gE (c.kp k0).inK (Dp Z) (λenv pos=>by rw [he];rfl) ?_
 refine spliced_more (pos:=pos) (env:=env) (rest:=[]) (e:=arg) ?_ (he env)
 refine bN (harg s0 k0) (λr s1 h1=> ?_) λ_ _ z=>z
 refine wC h1 λf rf1 c1 l1 T fn hq=> ?_;subst rf1
 refine spliced_none ⟨c1.inK,?_⟩
 refine wpAny_call (NE Z hw (c1.A.le hdd) (Nat.le_refl _) c1.S hfr hkf l1 T fn λs' t ks=>hq s' t ks)
theorem Cf (Z:IsG G)
  (hk:Γ.names.lookup ("_law_heard":Str)=some .globalImplicit)(hdd:9≤Γ.d)(he:∀env,starEach [arg] env=[(false,eval arg env)])(c:Cx G Γ A s env R J U V)(hfr:A.frames=some fr)(hkf:FrK fr)
  (harg:∀s0,Kp s s0→wpAny (model G.prog G.w) A (eval arg env) (λr s1=> ∃f,r= .ref f∧Cx G Γ A s1 env R J U V∧LOk G (Lf fr) R J s1.heap∧ThrowsAt G 8 (.ref f) 51 s1 R J V∧FnAt f s1.heap∧∀s',TS G (Lf fr) s1 s'→Q false s') aI s0):
  wpAny (model G.prog G.w) A (PySem.isTrue (.Compare (.Call (.Name "_law_heard" np) [arg] [] pos) [.NotEq] [.Constant (.str "size") sk sp] cp) env (eval (.Compare (.Call (.Name "_law_heard" np) [arg] [] pos) [.NotEq] [.Constant (.str "size") sk sp] cp) env)) Q aI s:=by
 refine wpAny_isTrue_Compare1 ?_ rfl
 refine Ce Z (.inl ⟨rfl,rfl⟩) hk hdd he c hfr hkf λs0 k0=>bN (harg s0 k0) (λr s1 h1=> ?_) λ_ _ z=>z
 refine wC h1 λf rf1 c1 l1 T fn hq=> ?_;subst rf1
 refine ⟨f,rfl,c1,l1,T,fn,λs' t ks=> ?_⟩
 refine Constant_str ?_
 have ts:TS G (Lf fr) s1 s':=TS.of_ks ks l1
 haveI c2:=(c1.ts l1 ts).kp (Kp.tok s' (s'.toks+1))
 refine eT (G:=G) (.str "size") (.str "size") false rfl A _ V R J _ _ _ c2.A.u c2.A.hd c2.S (by simp [VRel]) (by simp [VRel]) λs3 k3=>fj ?_
 exact hq s3 (ts.trans (TS.of_kp ((Kp.tok s' (s'.toks+1)).trans k3)))
section
structure TI (G:Gd) (L:List Addr) (I:Addr) (s s':Shared):Prop where
 sh:∃h tk,s'= { s with heap:=h,toks:=tk }
 kb:∀b o,b∉L→b∉G.TB→b≠I→s.heap.get? b=some o→s'.heap.get? b=some o
 sl:∀b o,b∈L→s.heap.get? b=some o→∃sl,s'.heap.get? b=some { o with slots:=sl }
 lv:∀b o,b≠I→s.heap.get? b=some o→∃o',s'.heap.get? b=some o'
theorem TI.of_ts (k:TS G L s s'):TI G L I s s':=⟨k.sh,λb o h1 h2 _ e=>k.kb b o h1 h2 e,k.sl,λb o _ e=>k.lv b o e⟩
theorem TI.trans (x:TI G L I a b)(y:TI G L I b c):TI G L I a c:=
 ⟨du x.sh y.sh,λb o hb ht hi e=>y.kb b o hb ht hi (x.kb b o hb ht hi e),λb o hb e=>(x.sl b o hb e).elim λ_ e1=>have q:=y.sl b _ hb e1;q,λb o hi e=>(x.lv b o hi e).elim λo1 e1=>y.lv b o1 hi e1⟩
theorem TI.of_new (x:TI G L I s0 s)(sh:∃h tk,s'= { s with heap:=h,toks:=tk })(kb:KB X s.heap s'.heap)(lv:∀b o,b≠I→s.heap.get? b=some o→∃o',s'.heap.get? b=some o')
  (hX:∀a∈X,a=I∨s0.heap.get? a=none)(hI:I∉L):TI G L I s0 s':=
 ⟨du x.sh sh,λb o hb ht hi e=>kb b o (λm=>(hX b m).elim hi λq=>au (q.symm.trans e)) (x.kb b o hb ht hi e),λb o hb e=>(x.sl b o hb e).imp λ_ e1=>kb b _ (λm=>(hX b m).elim (λz=>hI (z▸hb)) λq=>au (q.symm.trans e)) e1,
  λb o hi e=>(x.lv b o hi e).elim λo1 e1=>lv b o1 hi e1⟩
theorem LOk.frame (l:LOk G L R J h)(k:∀a∈L,∀o,h.get? a=some o→h'.get? a=some o):LOk G L R J h':=
 ⟨l.r,λa m=>da (l.d a m) λo es ep e hd=>⟨o,es,ep,k a m o e,hd⟩⟩
section
variable {A:Around} {Yo:Env} {R4 RI L:List Addr} {J:aG} {rest:Lo} {V:ar} {I D:Addr} {sI s:Shared} {o:Option AV}
structure WkS (G:Gd) (Yo:Env) (R4 RI L:List Addr) (I D:Addr) (sI:Shared):Prop where
 lf:∀a∈L,a∉fa Yo
 df:D∉fa Yo
 di:D≠I
 dl:D∉L
 dt:D∉G.TB
 ir:I∈R4
 ia:I∉fa Yo
 il:I∉L
 rr:∀a∈R4,a∈RI∨sI.heap.get? a=none
 lr:∀a∈L,a∈RI
 tr:∀a∈G.TB,a∈RI
 nw:∀a∈fa Yo,sI.heap.get? a=none
structure Wk (G:Gd) (Γc:FI) (A:Around) (Yo:Env) (R4:List Addr) (J:aG) (rest:Lo) (V:ar) (L:List Addr) (I D:Addr) (sI s:Shared) (o:Option AV):Prop where
 t:TI G L I sI s
 c:Cx G Γc A s Yo R4 J (o::rest) V
 l:LOk G L R4 J s.heap
 d:s.heap.get? D=some (listOf #[] 0)
theorem in1 {X Y:Addr}(h:X≠Y):X∉ [Y]:=λm=>h (aH m)
theorem Wk.poke (w:Wk G Γc A Yo R4 J rest V L I D sI s o)(S:WkS G Yo R4 RI L I D sI)(kb:KB [I] s.heap h')(hj:I∉own J)(ht:I∉G.TB)(nc: ¬ ey s.heap I)(lv:∃o,h'.get? I=some o):Wk G Γc A Yo R4 J rest V L I D sI { s with heap:=h',toks:=tk } o:=
 (w.c.poke (tk:=tk) kb S.ir hj ht S.ia nc lv).elim λ_ c=>⟨w.t.of_new ⟨_,_,rfl⟩ kb (λb o z e=>⟨o,kb b o (in1 z) e⟩) (λa m=> .inl (aH m)) S.il,c,w.l.frame λa m o e=>kb a o (λz=>S.il (aH z▸m)) e,kb _ _ (in1 S.di) w.d⟩
theorem Wk.step (w:Wk G Γc A Yo R4 J rest V L I D sI s o)(S:WkS G Yo R4 RI L I D sI)(g:Go (fa Yo) s s7 R4 J R4 J)(c7:Cx G Γc A s7 Yo R4 J (o'::rest) V):Wk G Γc A Yo R4 J rest V L I D sI s7 o':=
 ⟨w.t.of_new g.sh g.kb (λb o _ e=>g.live b o e) (λa m=> .inr (S.nw a m)) S.il,c7,w.l.frame λa m o e=>g.kb a o (S.lf a m) e,g.kb _ _ S.df w.d⟩
theorem Wk.ts (w:Wk G Γc A Yo R4 J rest V L I D sI s o)(S:WkS G Yo R4 RI L I D sI)(k:TS G L s s8):Wk G Γc A Yo R4 J rest V L I D sI s8 o:=⟨w.t.trans (.of_ts k),w.c.ts w.l k,w.l.ts k,k.kb _ _ S.dl S.dt w.d⟩
theorem QJ (h:wpAny M A (PySem.isTrue test Yo (eval test Yo)) Q E s):
  wpAny M A (forIn [test] true λc r=>if r=true then do let ok ← isTrue c Yo (eval c Yo);pure (ForInStep.yield ok) else pure (ForInStep.yield r)) Q E s:=by
 rw [List.forIn_cons,if_pos rfl]
 exact am (am (bN h (λb s q=>aC (aC q)) λ_ _ z=>z))
theorem PM {St:Nat→Heap→Prop}
  (hsl:Slot1 Γc 0 x)(S:WkS G Yo R4 RI L I D sI)(w4:Wk G Γc A Yo R4 J rest V L I D sI s4 o0)(it:ItSt G A RI J sI.heap items true I fp P St)(st4:St 0 s4.heap)
  (htest:∀(i:Nat) (v:AV) (s7:Shared),items[i]? =some v→Wk G Γc A Yo R4 J rest V L I D sI s7 (some v)→∀Q:Bool→Shared→Prop,(∀s8,TS G L s7 s8→Q false s8)→wpAny (model G.prog G.w) A (PySem.isTrue test Yo (eval test Yo)) Q aI s7)
  (hfin:∀s6,TI G L I sI s6→G.Tabs s6.heap→s6.heap.get? D=some (listOf #[] 0)→(∃m,s6.heap.Ns Yo.locals m)→Rz (.ok .next) s6):
  codeAny (model G.prog G.w) A (.compLoop (.ListComp elt [⟨.Name x px,iter,[test],0⟩] scope pos) 0 (.ref I) (.ref D) Yo) Rz s4:=
 have fpOut:∀b∈fp,b∉L∧b∉G.TB∧b∉fa Yo:=λb m=>⟨(it.frz rfl b m).elim (λe=>e▸S.il) λq z=>q (S.lr b z),(it.frz rfl b m).elim (λe=>e▸it.itT) λq z=>q (S.tr b z),λq=>(it.live b m).elim λo ho=>au ((S.nw b q).symm.trans ho)⟩
 codeAny_compLoop_tests (λk s5=> ∃i o,i≤items.length∧k=items.length+1 - i∧Wk G Γc A Yo R4 J rest V L I D sI s5 o∧St i s5.heap) (λk s5 h=>br h λi o5 hi5 hk w5 st5=>
  if hlt:i< items.length then it.W.item i _ _ _ hlt st5 λv h6 tk6 hP st6 hk6=>(it.cls _ _ st6).elim λo6 q=>q.elim λn6 q=>aW (it.val i v hlt hP) λy hy1 hy2=>
   have w6:=w5.poke S (tk:=tk6) hk6 it.itJ it.itT (it.nc _ _ st5) ⟨_,q.1⟩
   have hyv:VRel G R4 J h6 y v:=VRel.mono (λa o ha ho=>⟨λm=>(S.rr a m).elim ha (λz=>au (z.symm.trans ho)),w6.t.kb a o (λm=>ha (S.lr a m)) (λm=>ha (S.tr a m)) (λz=>ha (z▸it.itR)) ho⟩) (λ_ _ x=>x) _ _ hy2
   wpAny_assign_Name (wE (j2 (mu:=⟨false,J.length⟩) w6.c hsl hyv λs7 g7 c7=>
    have g7:Go (fa Yo) _ s7 R4 J R4 J:=(wK (G:=G) (Nat.le_refl J.length)▸g7:Go ([] ++fa Yo) _ s7 R4 J R4 J)
    have w7:=w6.step S g7 c7
    have st7:=it.W.frame _ _ _ st6 λb m o e=>g7.kb b o (fpOut b m).2.2 e
    QJ (wE (htest i y s7 hy1 w7 _ λs8 k8=>ml rfl ⟨items.length+1 - (i+1),hk▸Nat.sub_lt_sub_left (Nat.lt_succ_of_le hi5) (Nat.lt_succ_self i),i+1,some y,hlt,rfl,w7.ts S k8,it.W.frame _ _ _ st7 λb m o e=>k8.kb b o (fpOut b m).1 (fpOut b m).2.1 e⟩))))
  else it.W.done _ _ _ (Nat.le_antisymm hi5 (Nat.le_of_not_lt hlt)▸st5) λh6 tk6 hk6=>hfin _ (w5.t.of_new ⟨_,_,rfl⟩ hk6 (λb o z e=>⟨o,hk6 b o (in1 z) e⟩) (λa m=> .inl (aH m)) S.il)
   (G.tabs _ _ [I] hk6 (λa m z=>it.itT (aH z▸m)) (λa m=>aH m▸it.nc _ _ st5) w5.c.S.tabs) (hk6 _ _ (in1 S.di) w5.d) (w5.c.F.elim λm F=>⟨m,F.fr.ns.at' λo e=>hk6 _ o (in1 λz=>S.ia (z▸eP)) e⟩))
  (items.length+1) ⟨0,o0,Nat.zero_le _,rfl,w4,st4⟩
end
end
noncomputable abbrev kU (scope:Scope)(env Yo:Env):Env:={ scope:=relabel scope env,locals:=Yo.locals,globals:=Yo.globals,cells:=Yo.cells,qual:=Yo.qual,func:=Yo.func,code:=Yo.code,frame:=Yo.frame,builtins:=Yo.builtins }
noncomputable def yE (G:Gd)(Γ Γc:FI)(scope:Scope)(cl:List (Str × Addr))(A:Around)(env:Env)(J:aG)(U rest:Lo)(V:ar):Prop:=
 ∀(s3:Shared) (R3:List Addr) (Qn:Env→Shared→Prop),Cx G Γ A s3 env R3 J U V→
  (∀Yo s4 R4,(∃h tk,s4= { s3 with heap:=h,toks:=tk })→KB [] s3.heap s4.heap→(∀a∈fa Yo,s3.heap.get? a=none)→(∀a∈R3,a∈R4)→(∀a∈R4,a∈R3∨s3.heap.get? a=none)→Cx G Γc A s4 (kU scope env Yo) R4 J (none::rest) V→Qn Yo s4)→
  wpAny (model G.prog G.w) A (newFunctionEnv scope env.globals cl [] env.qual none Value.none (some env)) Qn aI s3
theorem CL
  (hsl:Slot1 Γc 0 x)(hk:scope.kind= .function)(hlook:∀y∈scope.names,y.2= .local→scope.names.lookup y.1=some .local)(hcl:closureFor scope env=pure cl)(hnew:yE G Γ Γc scope cl A env J U rest V)(hi:PI G Γ iter itf)(hs:∀env x,foldedSetIterable iter env x=pure x)
  (e1:itf U V=some (items,true))(c:Cx G Γ A s env R J U V)(l:LOk G (Lf fr) R J s.heap)
  (htest:∀(Yo:Env) (R4:List Addr) (i:Nat) (v:AV) (s7:Shared),items[i]? =some v→(∃h tk,s7= { s with heap:=h,toks:=tk })→(∀b o,b∉Lf fr→b∉G.TB→s.heap.get? b=some o→s7.heap.get? b=some o)→(∀a∈R,a∈R4)→(∀a∈R4,a∈R∨s.heap.get? a=none)→G.Tabs s7.heap→Cx G Γc A s7 (kU scope env Yo) R4 J (some v::rest) V→LOk G (Lf fr) R4 J s7.heap→∀Q:Bool→Shared→Prop,(∀s8,TS G (Lf fr) s7 s8→Q false s8)→wpAny (model G.prog G.w) A (PySem.isTrue test (kU scope env Yo) (eval test (kU scope env Yo))) Q aI s7)
  (hQ:∀D s',TS G (Lf fr) s s'→s.heap.get? D=none→VRel G R J s'.heap (.lst []) (.ref D)→Q (.ref D) s'):
  wpAny (model G.prog G.w) A (eval (.ListComp elt [⟨.Name x px,iter,[test],0⟩] scope pos) env) Q aI s:=by
 refine wpAny_comprehension_free (use:=none) rfl (hs env) hcl hk hlook (hi _ _ _ _ e1 A s env R J _ c λI s2 fp P St fr2 k2 c2 it2=>wpAny_newObj_type ?_)
 have hD2:s2.heap.get? s2.heap.objs.size=none:=dr _
 have k3:Kp s2 { s2 with heap:=s2.heap.push { cls:= .type "list",dict:=none,data:= .seq ([]:List Value).toArray } }:=Kp.push _ _
 have hD3:(s2.heap.push { cls:= .type "list",dict:=none,data:= .seq ([]:List Value).toArray }).get? s2.heap.objs.size=some (listOf #[] 0):=bK _ rfl
 refine (c2.res (mu:=⟨false,J.length⟩) (I:=s2.heap.objs.size) k3 hD2 ⟨_,hD3⟩).elim λg3 c3=>hnew _ (s2.heap.objs.size::I::R) _ c3 λYo s4 R4 sh4 kb4 fr4 hR4 hR4' c4=> ?_
 have n32:∀{a},(s2.heap.push { cls:= .type "list",dict:=none,data:= .seq ([]:List Value).toArray }).get? a=none→s2.heap.get? a=none:=λe=>lX (λb o q=>k3.kb b o bq q) e
 have n20:∀{a},s2.heap.get? a=none→s.heap.get? a=none:=λe=>lX (λb o q=>k2.kb b o bq q) e
 have kb24:KB [] s2.heap s4.heap:=k3.kb.trans kb4
 have hL:∀a∈Lf fr,s.heap.get? a≠none:=λa m e=>da (l.d a m) λo _ _ q _=>au (e.symm.trans q)
 have S:WkS G (kU scope env Yo) R4 (I::R) (Lf fr) I s2.heap.objs.size s2:=
  ⟨λa m q=>hL a m (n20 (n32 (fr4 a q))),λm=>au ((fr4 _ m).symm.trans hD3),λz=>it2.it.elim λo ho=>au (hD2.symm.trans (z▸ho)),λm=>hL _ m (n20 hD2),(c2.S.new_out hD2).2,hR4 _ (.tail _ (.head _)),λm=>it2.it.elim λo ho=>au ((n32 (fr4 I m)).symm.trans ho),
   λm=>hL _ m fr2,λa m=>(hR4' a m).elim (λq=>(aU q).elim (λz=> .inr (z▸hD2)) .inl) λq=> .inr (n32 q),λa m=> .tail _ (l.r a m).1,λa m=>(c2.S.tbR a m).1,λa m=>n32 (fr4 a m)⟩
 have w4:Wk G Γc A (kU scope env Yo) R4 J rest V (Lf fr) I s2.heap.objs.size s2 s4 none:=
  ⟨⟨du k3.sh sh4,λb o _ _ _ e=>kb24 b o bq e,λb o _ e=>⟨o.slots,kb24 b o bq e⟩,λb o _ e=>⟨o,kb24 b o bq e⟩⟩,c4,
   ⟨λa m=>have q:=l.r a m;⟨hR4 a (.tail _ (.tail _ q.1)),q.2.1,q.2.2⟩,λa m=>da (l.d a m) λo es ep e hd=>⟨o,es,ep,kb24 a o bq (k2.kb a o bq e),hd⟩⟩,kb4 _ _ bq hD3⟩
 have st4:=it2.W.frame _ _ _ it2.st λb _ o e=>kb24 b o bq e
 have loop:=PM (elt:=elt) (iter:=iter) (test:=test) (px:=px) (scope:=scope) (pos:=pos) (Rz:=compPost (model G.prog G.w) A aI none Q (.ref s2.heap.objs.size) Yo.locals) hsl S w4 it2 st4
  (λi v s7 hv w7 Q hQ=>htest Yo R4 i v s7 hv (du k2.sh w7.t.sh) (λb o h1 h2 e=>w7.t.kb b o h1 h2 (λz=>au (fr2.symm.trans (z▸e))) (k2.kb b o bq e)) (λa m=>hR4 a (.tail _ (.tail _ m)))
   (λa m=>(S.rr a m).elim (λq=>(aU q).elim (λz=> .inr (z▸fr2)) .inl) λq=> .inr (n20 q)) w7.c.S.tabs w7.c w7.l Q hQ)
  λs6 t6 tabs6 hD6 hn6=>hn6.imp λm6 hm6=>⟨hm6,λh' hs'=>
   have old:KB [Yo.locals] s6.heap h':=λb o hb e=>(hs'.2 b λz=>hb (List.mem_singleton.mpr z)).trans e
   have nl:∀b o,s.heap.get? b=some o→b∉ [Yo.locals]:=λb o e=>in1 λz=>au ((n20 (S.nw _ eP)).symm.trans (z▸e))
   have nI:∀b o,s.heap.get? b=some o→b≠I:=λb o e z=>au (fr2.symm.trans (z▸e))
   have k:=k2.kb
   hQ _ { s6 with heap:=h' } ⟨du k2.sh (du t6.sh ⟨_,_,rfl⟩),λb o h1 h2 e=>old b o (nl b o e) (t6.kb b o h1 h2 (nI b o e) (k b o bq e)),λb o hb e=>(t6.sl b o hb (k b o bq e)).imp λ_ e'=>old b _ (nl b o e) e',
     λb o e=>(t6.lv b o (nI b o e) (k b o bq e)).imp λo' e'=>old b _ (nl b o e) e',
     λ_=>G.tabs _ _ [Yo.locals] old (λa m z=>c4.F.elim λ_ F=>(F.faR _ eP).2.2 (aH z▸m)) (λa m=>aH m▸sC hm6) tabs6⟩
    (n20 hD2) (.lst (λm=>(c.S.live _ m).elim λo ho=>au ((n20 hD2).symm.trans ho)) ⟨_,old _ _ (in1 λz=>S.df (z▸eP)) hD6,rfl,0,rfl⟩ .nil)⟩
 exact codeAny_compStart_list loop (it2.W.self 0 _ _ _ st4 loop)
theorem PN (K:CompF Γ Γc scope x none):closureFor scope env=pure []∧yE G Γ Γc scope [] A env J U [] V:=by
 haveI hcl0:closureFor scope env=pure []:=by
  haveI:=lQ (scope:=scope) (env:=env) (λ_=>0) λy hy hf=>by refine xE (K.free y hy hf) λi h=> ?_;exact au h
  rw [this,K.clo]
 refine ⟨hcl0,λs3 R3 Qn c3 hQ=>wpAny_newFunctionEnv K.nocell (λ_ m=>absurd m bq) (λh₁ hns₁ hsb₁=> ?_) K.kind⟩
 haveI hC:s3.heap.get? s3.heap.objs.size=none:=dr _
 have k4:Kp s3 { s3 with heap:=h₁,toks:=s3.toks+([]:List (Str × Value)).length }:=gP λb o e=>hsb₁.extBut b o (Nat.ne_of_lt (Heap.lt_size e)) (cA _ e)
 have hn:∀a∈s3.heap.objs.size::R3,a∈R3∨s3.heap.get? a=none:=λa m=>(aU m).elim (λz=> .inr (z▸hC)) .inl
 haveI c4:=BK K c3 (R':=s3.heap.objs.size::R3) k4 (c3.S.res k4.kb hC (hns₁.imp λ_ q=>q.elim λ_ q=>q.elim λ_ q=>q.1)) ⟨.head _,c3.S.new_out hC⟩ (λa m=> .tail _ m) hn hns₁ hC (c3.S.abv.elim λa q=>q.elim λo q=>ba q.2 (Nat.le_of_lt (Heap.lt_size q.1)))
 rw [K.clo] at c4
 exact hQ _ _ _ ⟨_,_,rfl⟩ k4.kb (λa m=>aH m▸hC) (λa m=> .tail _ m) hn c4
theorem QK {code:Value}(hn:scope.names=[(n0, .local),(x, .cell),(g0, .globalImplicit)])
  (h:Q { scope:=scope,locals:=s.heap.objs.size,globals:=globals,cells:=[(x,s.heap.objs.size+1)],qual:=qual,func:=func,code:=o.code,frame:=o.frame,builtins:=o.builtins }
   { s with heap:=(s.heap.push { cls:= .type "dict",data:= .dict #[] }).push { cls:= .type "cell",data:= .cell none } }):
  wpAny M A (newFunctionEnv scope globals [] [] qual func code (some o) bu) Q E s:=by
 unfold newFunctionEnv
 refine am (wpAny_alloc ?_)
 rw [hn]
 dsimp only [List.forIn_cons,List.forIn_nil]
 refine am (am (aC (am (am (wpAny_alloc (aC (am (aC (aC ?_)))))))))
 rw [Heap.size_push]
 exact am (aC (aC h))
theorem SB {α:Type}{P:α→Prop}{a b c:α}(h1:P a)(h2:P b)(h3:P c):∀x∈ [a,b,c],P x:=List.forall_mem_cons.mpr ⟨h1,List.forall_mem_cons.mpr ⟨h2,List.forall_mem_cons.mpr ⟨h3,nofun⟩⟩⟩
theorem X6 {n0 x g0 y:Str}(h1:n0≠x)(h:List.lookup y [(n0,NameKind.local),(x, .cell),(g0, .globalImplicit)]=some .cell):y=x:=by
 rw [List.lookup_cons,List.lookup_cons,List.lookup_cons,List.lookup_nil] at h
 exact (Decidable.em (y=x)).elim id λn=>by
  rw [beq_eq_false_iff_ne.mpr n] at h
  cases z:y == n0 <;> rw [z] at h
  ·cases z2:y == g0 <;> rw [z2] at h <;> exact absurd h (by decide)
  ·exact nomatch h
theorem QL (hk:scope.kind= .function)(hn:scope.names=[(n0, .local),(x, .cell),(g0, .globalImplicit)])(hnc:Γc.names=scope.names)(hslots:Γc.slots=[x])
  (hne:n0≠x∧g0≠x∧n0≠g0)(hd:Γc.d=Γ.d∧Γc.code=Γ.code∧Γc.qual=Γ.qual):closureFor scope env=pure []∧yE G Γ Γc scope [] A env J U [] V:=by
 refine ⟨(lQ (λ_=>0) λy hy hf=>absurd hf (SB (P:=λy:Str × NameKind=>y.2≠ .free) (by decide:NameKind.local≠ .free) (by decide:NameKind.cell≠ .free) (by decide:NameKind.globalImplicit≠ .free) y (hn▸hy))).trans (by rw [hn];rfl),λs3 R3 Qn c3 hQ=>QK hn (c3.F.elim λm3 F=> ?_)⟩
 have hC:s3.heap.get? s3.heap.objs.size=none:=dr _
 have hC1:s3.heap.get? (s3.heap.objs.size+1)=none:=Heap.get?_none_of_le (Nat.le_succ _)
 have kb:KB [] s3.heap ((s3.heap.push { cls:= .type "dict",data:= .dict #[] }).push { cls:= .type "cell",data:= .cell none }):=(KB.push _ _).trans (KB.push _ _)
 have g0':((s3.heap.push { cls:= .type "dict",data:= .dict #[] }).push { cls:= .type "cell",data:= .cell none }).get? s3.heap.objs.size=some { cls:= .type "dict",data:= .dict #[] }:=cA _ (bK _ rfl)
 have g1:((s3.heap.push { cls:= .type "dict",data:= .dict #[] }).push { cls:= .type "cell",data:= .cell none }).get? (s3.heap.objs.size+1)=some { cls:= .type "cell",data:= .cell none }:=by
  have q:=bK (o:={ cls:= .type "cell",data:= .cell none }) (s3.heap.push { cls:= .type "dict",data:= .dict #[] }) rfl
  rwa [Heap.size_push] at q
 have nw:∀a∈ [s3.heap.objs.size,s3.heap.objs.size+1],s3.heap.get? a=none:=gw hC hC1
 have hr:(relabel scope env).names=Γc.names:=by
  rw [hnc]
  unfold relabel
  dsimp only
  rw [hn]
  rfl
 have hR:∀a∈ [s3.heap.objs.size,s3.heap.objs.size+1] ++R3,a∈R3∨s3.heap.get? a=none:=λa m=>(bC m).symm.imp id (nw a)
 have S2:=c3.S.grow (R':=[s3.heap.objs.size,s3.heap.objs.size+1] ++R3) kb (λa m=>dy _ m) hR λa m=>(bC m).elim (gw (P:=λa=> ∃o,Heap.get? _ a=some o) ⟨_,g0'⟩ ⟨_,g1⟩ a) ((c3.S.keep kb).live a)
 have nosl:∀{i:Nat} {v:AV},([none]:Lo)[i]? =some (some v)→False:=λ{i} {v} h=>match i,h with
  | 0,h=>nomatch h
  | _+1,h=>nomatch h
 exact hQ _ _ _ ⟨_,s3.toks,rfl⟩ kb nw (λa m=>dy _ m) hR ⟨⟨c3.A.hd,hd.1▸c3.A.dp,hd.1▸c3.A.un⟩,S2,λ_=>none,hk,F.glob,⟨F.bt.1,F.bt.2.1.trans hd.2.1.symm,F.bt.2.2.trans hd.2.2.symm⟩,hr,
  ⟨⟨_,#[],_,g0',rfl,λe he=>absurd he (by simp),λ_=>rfl⟩,S2.base,ba c3.S.size_le (Nat.le_refl _)⟩,λa m=>⟨dE _ m,c3.S.new_out (nw a m)⟩,List.nodup_cons.mpr ⟨in1 (Nat.ne_of_lt (Nat.lt_succ_self _)),List.nodup_cons.mpr ⟨bq,List.nodup_nil⟩⟩,
  λa m=>aH (show a∈ [s3.heap.objs.size+1] from m)▸⟨_,g1⟩,λi y v h1 h2 h3=>(nosl h2).elim,λi y v h1 h2 h3=>(nosl h2).elim,
  λy hy=>⟨s3.heap.objs.size+1,none,by rw [show y=x from X6 (y:=y) (g0:=g0) hne.1 (by rw [hnc,hn] at hy;exact hy)];simp,⟨_,g1,rfl⟩⟩⟩
section
structure Rst (G:Gd) (Γ:FI) (A:Around) (env:Env) (Yn:List Env) (s:Shared) (R:List Addr) (J:aG) (U:Lo) (V:ar):Prop where
 c:Cx G Γ A s env R J U V
 fr:A.frames=some (env::Yn)
 fm:env.frame=some env.locals
 k:FrK (env::Yn)
 l:LOk G (Lf (env::Yn)) R J s.heap
 o:∀a∈Lf Yn,a∉fa env
 cs:∀p∈env.cells,Γ.names.lookup p.1=some .cell∧env.cells.lookup p.1=some p.2
theorem LOk.forget (l:LOk G L R J h):LOk G L R [] h:=⟨λa m=>⟨(l.r a m).1,bq,(l.r a m).2.2⟩,l.d⟩
section
variable {A:Around} {env:Env} {Yn:List Env} {s s':Shared} {R R':List Addr} {J J':aG} {U ℓ':Lo} {V σ':ar}
theorem Rst.Lcons (r:Rst G Γ A env Yn s R J U V):Lf (env::Yn)=env.locals::Lf Yn:=by unfold Lf;rw [List.filterMap_cons,r.fm]
theorem Rst.ts (r:Rst G Γ A env Yn s R J U V)(k:TS G (Lf (env::Yn)) s s'):Rst G Γ A env Yn s' R J U V:=
 ⟨r.c.ts r.l k,r.fr,r.fm,r.k,r.l.ts k,r.o,r.cs⟩
theorem Rst.kpo (Z:IsG G)(r:Rst G Γ A env Yn s R J U V)(k:TS G (Lf (env::Yn)) s s'):KpO s s':=KpO.of_ts Z k r.l r.c.S.tabs
theorem Rst.go (Z:IsG G)(hn:J.length≤n0)(r:Rst G Γ A env Yn s R J U V)(g:Go (bs G ⟨tb,n0⟩ J ++fa env) s s' R J R' J')(c':Cx G Γ A s' env R' J' ℓ' σ'):Rst G Γ A env Yn s' R' J' ℓ' σ'∧KpO s s':=by
 have hbs:∀a∈bs G ⟨tb,n0⟩ J,a∈G.TB:=λa m=>by
  unfold bs at m
  refine Or.elim (bC m) (λq=> ?_) λq=> ?_
  ·split at q
   ·exact q
   ·exact nomatch q
  ·rw [List.drop_of_length_le hn] at q
   exact nomatch q
 have hX:∀a∈Lf Yn,a∉bs G ⟨tb,n0⟩ J ++fa env:=λa m q=>by
  refine Or.elim (bC q) (λq=> ?_) λq=> ?_
  ·exact (r.l.r a (by rw [r.Lcons];exact cQ _ m)).2.2 (hbs a q)
  ·exact r.o a m q
 have ns:∀{t:Shared} {R2:List Addr} {J2:aG} {ℓ2:Lo} {σ2:ar},Cx G Γ A t env R2 J2 ℓ2 σ2→∃o es ep,t.heap.get? env.locals=some o∧o.data= .dict es ep:=λc=>by
  refine xE c.F λm' F=> ?_
  refine gn F.fr.ns λo es ep ho hd _=> ?_
  exact ⟨o,es,ep,ho,hd⟩
 refine ⟨⟨c',r.fr,r.fm,r.k,⟨λa m=> ?_,λa m=> ?_⟩,r.o,r.cs⟩,?_⟩
 ·refine qh (r.l.r a m) λh1 h2 h3=> ?_
  refine da (r.l.d a m) λo es ep ho hd=> ?_
  refine ⟨g.rs a h1,λq=> ?_,h3⟩
  refine Or.elim (g.jf a q) (λq=> ?_) λq=> ?_
  ·exact h2 q
  ·exact mj ((ho).symm.trans q)
 ·rw [r.Lcons] at m
  rcases aU m with rfl | m
  ·exact ns c'
  ·refine da (r.l.d a (by rw [r.Lcons];exact cQ _ m)) λo es ep ho hd=> ?_
   exact ⟨o,es,ep,g.kb a o (hX a m) ho,hd⟩
 ·refine KpO.of_kb Z g.sh g.kb r.c.S.tabs λa m=> ?_
  rcases bC m with m | m
  ·exact .inl (hbs a m)
  ·unfold fa at m
   rcases aU m with rfl | m
   ·exact .inr (.inl (ns r.c))
   ·refine aW (List.mem_map.mp m) λp hp rf2=> ?_;subst rf2
    refine xA (r.cs p hp) λh1 h2=> ?_
    refine xE r.c.F λm' F=> ?_
    refine cU (F.celAll p.1 h1) λce w e1 e2=> ?_
    rw [h2] at e1
    replace e1:=aD e1;subst e1
    exact .inr (.inr ⟨w,e2⟩)
theorem Gf (Z:IsG G){st:Stmt}(r:Rst G Γ A env Yn s R J U V)(ha:MS G ⟨tb,V.length⟩ Γ st a)(e:a U V=some (.next,ℓ',σ'))
  (hk:∀s' R' J',Rst G Γ A env Yn s' R' J' ℓ' σ'→KpO s s'→wpAny (model G.prog G.w) A (execs sts env) Q aI s'):wpAny (model G.prog G.w) A (execs (st::sts) env) Q aI s:=by
 refine dO (ha _ _ _ _ _ e A s env R J _ r.c λf s1 R1 J1 g1 c1 fr=> ?_)
 simp only [FlRel] at fr
 subst fr
 obtain ⟨r1,k1⟩:=r.go Z (by exact (r.c.S.len)▸Nat.le_refl _) g1 c1
 exact hk s1 R1 J1 r1 k1
theorem m7 (Z:IsG G)(hcode:Γ.code= .ref 608)(hqual:Γ.qual="_law_refusals_right.<locals>.")(c:Cx G Γ A s env R J U V)(l:LOk G (Lf fr) R J s.heap)(hcl:closureFor scope env=pure clos)
  (hQ:∀f s',TS G (Lf fr) s s'→LamAt s' f ("_law_refusals_right.<locals>." ++"<lambda>") body scope clos→Q (.ref f) s'):wpAny (model G.prog G.w) A (eval (.Lambda jw body scope pos) env) Q aI s:=by
 refine Dh (mu:=⟨true,J.length⟩) (Z.lam2 Γ pos hcode hqual) rfl c rfl hcl λf c' ctv pm s' g c1 fresh ho hrec old=> ?_
 refine hQ f s' ⟨g.sh,λb o h1 h2 e=>old b o (λz=>h2 (z▸(Z.lam2 Γ pos hcode hqual).tb)) e,λb o hb e=>⟨o.slots,old b o (λz=>(l.r b hb).2.2 (z▸(Z.lam2 Γ pos hcode hqual).tb)) e⟩,g.live,λ_=>c1.S.tabs⟩ ?_
 rw [hqual] at ho hrec
 exact ⟨pm,c',ctv,ho,hrec⟩
theorem Ee (Z:IsG G)(r:Rst G Γ A env Yn s R J U V)
  (hcomp:∀Q':Value→Shared→Prop,(∀D s',TS G (Lf (env::Yn)) s s'→s.heap.get? D=none→VRel G R J s'.heap (.lst []) (.ref D)→Q' (.ref D) s')→wpAny (model G.prog G.w) A (eval e env) Q' aI s)
  (hk:∀s',Rst G Γ A env Yn s' R J U V→KpO s s'→wpAny (model G.prog G.w) A (execs sts env) Q aI s'):
  wpAny (model G.prog G.w) A (execs (.If (.Compare e [.NotEq] [.List [] lp] cp) body [] ip::sts) env) Q aI s:=by
 refine dO (wpAny_If (wpAny_isTrue_Compare1 (hcomp _ λD s1 t1 fr v1=> ?_) rfl))
 have r1:=r.ts t1
 refine cN (ak (G:=G) (Γ:=Γ)) U V (.lst []) rfl A s1 env R J _ r1.c λv s2 k2 v2=> ?_
 haveI c2:=r1.c.kp k2
 refine eT (G:=G) (.lst []) (.lst []) false rfl A s2 V R J _ _ _ c2.A.u c2.A.hd c2.S (v1.keep k2.kb) v2 λs3 k3=>fj ?_
 haveI t3:TS G (Lf (env::Yn)) s s3:=t1.trans (TS.of_kp (k2.trans k3))
 exact wpAny_execs_nil (hk s3 (r.ts t3) (r.kpo Z t3))
end
end
noncomputable abbrev CM:FI:=⟨[("call", .local),("SizeError", .globalImplicit),("TableError", .globalImplicit)],["call"],11, .ref 603,"_law_heard.<locals>."⟩
theorem QM (Z:IsG G):DefF G CM 604 F6 F5:=Z.df
noncomputable def Gg (G:Gd)(d:Nat)(f:Value)(s:Shared)(R:List Addr)(J:aG)(V:ar):Prop:=
 ∀(A:Around) (s1:Shared) (R1:List Addr) (P:Result→Shared→Prop),AOk d A→KB [] s.heap s1.heap→(∀a∈R,a∈R1)→(∀a∈R1,a∈R∨s.heap.get? a=none)→SR G R1 J V s1.heap→(∀s2,(∃h tk,s2= { s1 with heap:=h,toks:=tk })→G.g.StaysIn s2.heap→G.Tabs s2.heap→P (.ok (.ret .none)) s2)→
  codeAny (model G.prog G.w) A (.call f ⟨[],[]⟩) P s1
theorem OL (Z:IsG G)(hA:AOk 12 A)(S:SR G R J V s.heap)(T:Gg G 11 (.ref f) s R J V)(hfn:FnAt f s.heap)(hP:∀s',(∃h tk,s'= { s with heap:=h,toks:=tk })→G.g.StaysIn s'.heap→G.Tabs s'.heap→P (.ok (.ret .none)) s'):
  codeAny (model G.prog G.w) A (.call (.ref 604) ⟨[.ref f],[]⟩) P s:=by
 refine lB (Γ:=CM) (ps:=["call"]) (n:=1) (dv:=[]) (dav:=[]) (d:=12) (avs:=[.lit (.ref f)]) (QM Z) rfl (by decide +kernel) (by decide +kernel) rfl
  (ju dQ) (λ_ _ _ _ _=> .nil) (by decide +kernel) (by decide) rfl hA S (.one rfl) λenv s1 L sh kb fL hL hcl hf go c=> ?_
 refine dO (wpAny_Try_except (dO (wpAny_Expr (eX (wE (af (i:=0) (x:="call") rfl (.inl (by kernel_rfl)) (by kernel_rfl) _ _ (.lit (.ref f)) rfl _ s1 env _ J _ c λr s2 k2 r2=>(show r= .ref f from r2).symm▸callWith_F0 (FnAt.kb (FnAt.kb hfn kb) k2.kb) (wpAny_call
  (T _ s2 (L::R) _ (c.kp k2).A (kb.trans k2.kb) (λa m=> .tail _ m) (λa m=>(aU m).elim (λz=> .inr (z▸fL)) .inl) (c.kp k2).S λs3 sh3 st3 tb3=>wpAny_execs_nil (wpAny_execs_nil (dO (wpAny_Return_some (aC (hP s3 (du sh (du k2.sh sh3)) st3 tb3)))))))))) c.inter rfl)))
noncomputable def Cert (G:Gd)(body:Expr)(scope:Scope)(fr:List Str)(us:List AV)(V:ar)(C:Addr):Prop:=
 ∃(Γl:Value→Str→FI) (x:Nat→RX),LamZ Γl scope fr 8∧(∀cv ql n0,RE G ⟨false,n0⟩ (Γl cv ql) body (x n0))∧x V.length (us.map some) V=some C
theorem Cert.throws0 (K:Cert G body scope [] [] V C)(S:SR G R J V s.heap)(la:LamAt s f qual body scope []):ThrowsAt G 8 (.ref f) C s R J V:=by
 refine aS K λΓl x K he hx=> ?_
 refine da la λpm c' ctv h1 h2=> ?_
 exact Cd (us:=[]) K he S.len hx h1 h2 rfl (by simp) (by simp) (by simp) (by simp)
theorem Cert.throws1 (K:Cert G body scope [n] [u] V C)(S:SR G R J V s.heap)(la:LamAt s f qual body scope [(n,ce)])
  (hce:ce∈R∧ce∉own J∧ce∉G.TB)(hc:s.heap.IsCell ce (some val))(hv:VRel G R J s.heap u val):ThrowsAt G 8 (.ref f) C s R J V:=by
 refine aS K λΓl x K he hx=> ?_
 refine da la λpm c' ctv h1 h2=> ?_
 refine Cd (us:=[u]) K he S.len hx h1 h2 rfl (by simp) (by simp) (λi m ce' e=> ?_) λi m ce' u' e1 e2=> ?_
 ·cases i with
  | zero=>
   simp only [List.getElem?_cons_zero,Option.some.injEq,Prod.mk.injEq] at e
   obtain ⟨rfl,rfl⟩:=e
   refine aW hc λo ho _=> ?_
   exact ⟨hce.1,hce.2.1,hce.2.2,o,ho⟩
  | succ i=>simp at e
 ·cases i with
  | zero=>
   simp only [List.getElem?_cons_zero,Option.some.injEq,Prod.mk.injEq] at e1 e2
   obtain ⟨rfl,rfl⟩:=e1
   subst e2
   exact ⟨val,hc,hv⟩
  | succ i=>simp at e1
noncomputable def RawLam (G:Gd)(s:Shared)(qual:Str)(ci:Addr)(u:AV)(v:AV):Prop:=
 ∃f body scope,v= .lit (.ref f)∧((LamAt s f qual body scope []∧Cert G body scope [] [] [] 51)∨(LamAt s f qual body scope [("info",ci)]∧Cert G body scope ["info"] [u] [] 51))
theorem RawLam.keep (x:RawLam G s qual ci u v)(k:KpO s s'):RawLam G s' qual ci u v:=by
 obtain ⟨f,body,scope,rfl,⟨la,K⟩ | ⟨la,K⟩⟩:=x
 ·exact ⟨f,body,scope,rfl, .inl ⟨la.keep k,K⟩⟩
 ·exact ⟨f,body,scope,rfl, .inr ⟨la.keep k,K⟩⟩
section
noncomputable abbrev Γ_ref:FI:=⟨[("rows", .local),("bad", .local),("end", .cell),("info", .cell),("LacpRow", .globalImplicit),("Bundles", .globalImplicit),("_law_heard", .globalImplicit)],["rows","bad","end","info"],12, .ref 608,"_law_refusals_right.<locals>."⟩
noncomputable abbrev Wx:FI:=⟨[(".0", .local),("row", .cell),("_law_heard", .globalImplicit)],["row"],12, .ref 608,"_law_refusals_right.<locals>."⟩
noncomputable abbrev Wy:FI:=⟨[(".0", .local),("call", .local),("_law_heard", .globalImplicit)],["call"],12, .ref 608,"_law_refusals_right.<locals>."⟩
noncomputable abbrev nR:Str:="_law_refusals_right.<locals>." ++"<lambda>"
section
variable {A:Around} {env:Env} {Yn:List Env} {s:Shared} {R:List Addr} {J:aG} {U:Lo}
theorem QN (Z:IsG G)(K:CompF Γ_ref Wy scope "call" none)(r:Rst G Γ_ref A env Yn s R J U [])
  (h1:U[1]? =some (some (.lst items)))(h3:U[3]? =some (some u))(hci:env.cells.lookup ("info":Str)=some ci)(hb:∀v∈items,RawLam G s nR ci u v)
  (hQ:∀D s',TS G (Lf (env::Yn)) s s'→s.heap.get? D=none→VRel G R J s'.heap (.lst []) (.ref D)→Q (.ref D) s'):
  wpAny (model G.prog G.w) A (eval (.ListComp elt [⟨.Name "call" px, .Name "bad" ip,[.Compare (.Call (.Name "_law_heard" np) [.Name "call" ap] [] cp) [.NotEq] [.Constant (.str "size") sk sp] tp],0⟩] scope pos) env) Q aI s:=by
 obtain ⟨hcl,hnew⟩:=PN (G:=G) (A:=A) (env:=env) (J:=J) (U:=U) (V:=[]) K
 refine CL (fr:=env::Yn) (items:=items) (Slot1.of rfl (by decide +kernel) (.inl (by kernel_rfl))) K.kind K.look hcl hnew (eJ (af (i:=1) rfl (.inl (by kernel_rfl)) (by kernel_rfl))) (λ_ _=>rfl) (by unfold iP aa;refine (h1)▸ ?_;rfl) r.c r.l ?_ hQ
 intro Yo R4 i v s7 hv sh7 kept hR4 hR4' tabs7 c7 l7 Q' hQ'
 haveI kpo:KpO s s7:=KpO.of_kb Z (X:=Lf (env::Yn) ++G.TB) sh7 (λb o hb e=>kept b o (λm=>hb (dE _ m)) (λm=>hb (dy _ m)) e) r.c.S.tabs λa m=>(bC m).elim (λm=> .inr (.inl (r.l.d a m))) .inl
 refine da ((hb v (d7 hv)).keep kpo) λf body sc rf3 hraw=> ?_;subst rf3
 refine Cf Z (by kernel_rfl) (by decide) (λ_=>rfl) c7 r.fr r.k λs0 k0=> ?_
 refine bN (af (i:=0) rfl (.inl (by kernel_rfl)) (by kernel_rfl) _ _ (.lit (.ref f)) rfl A s0 _ R4 J (λr s1=>Kp s0 s1∧r= .ref f) (c7.kp k0) λr s1 k1 r1=>⟨k1,by simpa only [VRel] using r1⟩) (λr s1 h1=> ?_) λ_ _ z=>z.elim
 obtain ⟨k1,rfl⟩:=h1
 have k01:=k0.trans k1
 haveI c1:=c7.kp k01
 have fin:∀s',TS G (Lf (env::Yn)) s1 s'→Q' false s':=λs' ts=>hQ' s' ((TS.of_kp k01).trans ts)
 rcases hraw with ⟨la,C⟩ | ⟨la,C⟩
 ·haveI la1:=la.keep (KpO.of_kp k01)
  exact ⟨f,rfl,c1,l7.ts (TS.of_kp k01),C.throws0 c1.S la1,la1.fn,fin⟩
 ·haveI la1:=la.keep (KpO.of_kp k01)
  refine xE r.c.F λm F=> ?_
  obtain ⟨ce,val,e1,⟨o,ho,hd⟩,e3⟩:=F.cel 3 "info" u rfl h3 rfl
  rw [hci] at e1
  replace e1:=aD e1;subst e1
  refine qh (F.faR ci (by unfold fa;exact cQ _ (List.mem_map.mpr ⟨_,mem_of_lookup hci,rfl⟩))) λq1 q2 q3=> ?_
  haveI nL:ci∉Lf (env::Yn):=λm=>by
   refine da (r.l.d ci m) λo' es ep e' hd'=> ?_
   rw [ho] at e';replace e':=aD e';subst e';rw [hd] at hd';exact nomatch hd'
  refine ⟨f,rfl,c1,l7.ts (TS.of_kp k01),C.throws1 c1.S la1 ⟨hR4 _ q1,q2,q3⟩ ⟨o,k01.kb _ _ (by simp) (kept _ _ nL q3 ho),hd⟩ ?_,la1.fn,fin⟩
  exact (VRel.mono (λa o ha hoo=>⟨λm=>(hR4' a m).elim ha (λz=>by exact mj ((hoo).symm.trans z)),kept a o (λm=>ha (r.l.r a m).1) (λm=>ha (r.c.S.tbR a m).1) hoo⟩) (λ_ _ x=>x) _ _ e3:VRel G R4 J s7.heap u val).keep k01.kb
theorem PO (Z:IsG G)(hk:scope.kind= .function)(hn:scope.names=([(".0", .local),("row", .cell),("_law_heard", .globalImplicit)]:List (Str × NameKind)))(r:Rst G Γ_ref A env Yn s R J U [])
  (h1:U[0]? =some (some (.lst items)))(hcert:∀v∈items,Cert G body scope2 ["row"] [v] [] 51)(hcloL:∀g,eY g scope2.names=([("row",g "row")]:List (Str × Addr)))(hfree:∀y∈scope2.names,y.2= .free→y.1="row")
  (hQ:∀D s',TS G (Lf (env::Yn)) s s'→s.heap.get? D=none→VRel G R J s'.heap (.lst []) (.ref D)→Q (.ref D) s'):
  wpAny (model G.prog G.w) A (eval (.ListComp elt [⟨.Name "row" px, .Name "rows" ip,[.Compare (.Call (.Name "_law_heard" np) [.Lambda jw body scope2 lp] [] cp) [.NotEq] [.Constant (.str "size") sk sp] tp],0⟩] scope pos) env) Q aI s:=by
 obtain ⟨hcl,hnew⟩:=QL (G:=G) (n0:=".0") (x:="row") (g0:="_law_heard") (Γ:=Γ_ref) (Γc:=Wx) (A:=A) (env:=env) (J:=J) (U:=U) (V:=[]) hk hn hn.symm rfl ⟨by decide +kernel,by decide +kernel,by decide +kernel⟩ ⟨rfl,rfl,rfl⟩
 refine CL (fr:=env::Yn) (items:=items) (Slot1.of rfl (by decide +kernel) (.inr (by kernel_rfl))) hk (λy hy hl=> ?_) hcl hnew (eJ (af (i:=0) rfl (.inl (by kernel_rfl)) (by kernel_rfl))) (λ_ _=>rfl) (by unfold iP aa;refine (h1)▸ ?_;rfl) r.c r.l ?_ hQ
 ·rw [hn] at hy ⊢
  simp only [List.mem_cons,List.not_mem_nil,or_false] at hy
  rcases hy with rfl | rfl | rfl
  ·rfl
  ·exact absurd hl (by decide)
  ·exact absurd hl (by decide)
 intro Yo R4 i v s7 hv sh7 kept hR4 hR4' tabs7 c7 l7 Q' hQ'
 refine Cf Z (by kernel_rfl) (by decide) (λ_=>rfl) c7 r.fr r.k λs0 k0=> ?_
 have c0:=c7.kp k0
 have l0:=l7.ts (TS.of_kp k0)
 refine xE c0.F λm F=> ?_
 refine aS (F.cel 0 "row" v rfl rfl rfl) λce val e1 hcell e3=> ?_
 haveI hclo:closureFor scope2 (kU scope env Yo)=pure ([("row",ce)]:List (Str × Addr)):=by
  haveI:=lQ (scope:=scope2) (env:=kU scope env Yo) (λ_=>ce) λy hy hf=>by exact (hfree y hy hf)▸e1
  rw [this,hcloL]
 haveI q:=F.faR ce (by unfold fa;exact cQ _ (List.mem_map.mpr ⟨_,mem_of_lookup e1,rfl⟩))
 refine m7 Z rfl rfl c0 l0 hclo λf s' ts la=> ?_
 haveI c1:=c0.ts l0 ts
 exact ⟨f,rfl,c1,l0.ts ts,(hcert v (d7 hv)).throws1 c1.S la q (ts.cell l0 q.2.2 hcell) (ts.val c0.S l0 e3),la.fn,λs'' ts2=>hQ' s'' (((TS.of_kp k0).trans ts).trans ts2)⟩
end
end
section
theorem SR.forget (S:SR G R J V h):SR G R [] [] h:=
 ⟨S.base,rfl,λk o l e=>by simp at e,by simp [own],λa m=>by simp [own] at m,S.resv,S.live,λa m=>⟨(S.tbR a m).1,by simp [own]⟩,S.tabs,S.abv⟩
section
variable {A:Around} {env:Env} {Yn:List Env} {s:Shared} {R:List Addr} {J:aG} {U:Lo} {V:ar}
theorem G1 (Z:IsG G)(r:Rst G Γ_ref A env Yn s R J U V)(h1:closureFor sc1 env=pure cl1)
  (hQ:∀f1 D s',Rst G Γ_ref A env Yn s' R J U V→KpO s s'→TS G (Lf (env::Yn)) s s'→LamAt s' f1 nR b1 sc1 cl1→VRel G R J s'.heap (.lst [.lit (.ref f1)]) (.ref D)→Q (.ref D) s'):
  wpAny (model G.prog G.w) A (eval (.List [.Lambda jw b1 sc1 p1] lp) env) Q aI s:=by
 refine wpAny_List_spliced (spliced_more (m7 Z rfl rfl r.c r.l h1 λf1 s1 t1 la1=> ?_) rfl)
 refine spliced_none ⟨by show 1≤sizeLine;refine (sizeLine_eq)▸ ?_;exact Nat.succ_pos _,?_⟩
 haveI r1:=r.ts t1
 haveI k2:=Kp.push s1 { cls:= .type "list",data:= .seq ([.ref f1]:List Value).toArray }
 haveI t2:TS G (Lf (env::Yn)) s _:=t1.trans (TS.of_kp k2)
 refine hQ f1 _ _ (r.ts t2) (r.kpo Z t2) t2 (la1.keep (KpO.of_kp k2)) ?_
 simp only [VRel,VRels]
 exact ⟨_,[.ref f1],rfl,r1.c.S.live.size,⟨_,bK _ rfl,rfl,_,rfl⟩,_,_,rfl,rfl,rfl⟩
theorem G2 (Z:IsG G)(r:Rst G Γ_ref A env Yn s R J U V)(h1:closureFor sc1 env=pure cl1)(h2:closureFor sc2 env=pure cl2)
  (hQ:∀f1 f2 D s',Rst G Γ_ref A env Yn s' R J U V→KpO s s'→TS G (Lf (env::Yn)) s s'→LamAt s' f1 nR b1 sc1 cl1→LamAt s' f2 nR b2 sc2 cl2→VRel G R J s'.heap (.lst [.lit (.ref f1), .lit (.ref f2)]) (.ref D)→Q (.ref D) s'):
  wpAny (model G.prog G.w) A (eval (.List [.Lambda jw b1 sc1 p1, .Lambda jw b2 sc2 p2] lp) env) Q aI s:=by
 refine wpAny_List_spliced (spliced_more (m7 Z rfl rfl r.c r.l h1 λf1 s1 t1 la1=> ?_) rfl)
 haveI r1:=r.ts t1
 refine spliced_more (m7 Z rfl rfl r1.c r1.l h2 λf2 s2 t2 la2=> ?_) rfl
 refine spliced_none ⟨by show 2≤sizeLine;refine (sizeLine_eq)▸ ?_;omega,?_⟩
 haveI r2:=r1.ts t2
 haveI la1':=la1.keep (r1.kpo Z t2)
 haveI k2:=Kp.push s2 { cls:= .type "list",data:= .seq ([.ref f1, .ref f2]:List Value).toArray }
 haveI t3:TS G (Lf (env::Yn)) s _:=(t1.trans t2).trans (TS.of_kp k2)
 refine hQ f1 f2 _ _ (r.ts t3) (r.kpo Z t3) t3 (la1'.keep (KpO.of_kp k2)) (la2.keep (KpO.of_kp k2)) ?_
 simp only [VRel,VRels]
 exact ⟨_,[.ref f1, .ref f2],rfl,r2.c.S.live.size,⟨_,bK _ rfl,rfl,_,rfl⟩,_,_,rfl,rfl,_,_,rfl,rfl,rfl⟩
theorem PP (Z:IsG G)(r:Rst G Γ_ref A env Yn s R J U V)(hs:Slot1 Γ_ref i x)(hv:VRel G R J s.heap v val)
  (hk:∀s',Rst G Γ_ref A env Yn s' R J (U.set i (some v)) V→KpO s s'→wpAny (model G.prog G.w) A (execs sts env) Q aI s'):
  wpAny (model G.prog G.w) A (storeName env x val) (λ_ s'=>wpAny (model G.prog G.w) A (execs sts env) Q aI s') aI s:=by
 refine j2 (mu:=⟨false,J.length⟩) r.c hs hv λs' g c'=> ?_
 refine xA (r.go Z (Nat.le_refl _) g c') λr' k'=> ?_
 exact hk s' r' k'
theorem rN (Z:IsG G){Pz:List AV→Shared→Prop}(hw:∀env,swapsWith e (some (.Name "bad" pn)) ps.line env=pure false)
  (he:∀Q':Value→Shared→Prop,(∀l D s',Rst G Γ_ref A env Yn s' R J U V→Pz l s'→VRel G R J s'.heap (.lst l) (.ref D)→Q' (.ref D) s')→wpAny (model G.prog G.w) A (eval e env) Q' aI s)(hPz:∀l s1 s2,Pz l s1→KpO s1 s2→Pz l s2)
  (hk:∀l s',Rst G Γ_ref A env Yn s' R J (U.set 1 (some (.lst l))) V→Pz l s'→wpAny (model G.prog G.w) A (execs sts env) Q aI s'):
  wpAny (model G.prog G.w) A (execs (.Assign [.Name "bad" pn] e ps::sts) env) Q aI s:=by
 refine dO (wpAny_Assign_Name (he _ λl D s1 r1 p1 v1=> ?_) (hw env))
 exact PP Z (i:=1) r1 (Slot1.of rfl (by decide +kernel) (.inl (by kernel_rfl))) v1 λs2 r2 k2=>hk l s2 r2 (hPz l s1 s2 p1 k2)
theorem wy {Pz:List AV→Shared→Prop}(Z:IsG G)(r:Rst G Γ_ref A env Yn s R J U V)(h1:U[1]? =some (some (.lst l0)))(hl:l0.length≤100)
  (he:∀s0,Kp s s0→Rst G Γ_ref A env Yn s0 R J U V→∀Q':Value→Shared→Prop,(∀l D s',Rst G Γ_ref A env Yn s' R J U V→TS G (Lf (env::Yn)) s0 s'→l.length≤100→Pz (l0 ++l) s'→VRel G R J s'.heap (.lst l) (.ref D)→Q' (.ref D) s')→wpAny (model G.prog G.w) A (eval e env) Q' aI s0)(hPz:∀l s1 s2,Pz l s1→KpO s1 s2→Pz l s2)
  (hQ:∀l D s',Rst G Γ_ref A env Yn s' R J U V→Pz l s'→VRel G R J s'.heap (.lst l) (.ref D)→Q (.ref D) s'):
  wpAny (model G.prog G.w) A (eval (.BinOp (.Name "bad" pn) .Add e ps) env) Q aI s:=by
 refine wpAny_BinOp (af (i:=1) rfl (.inl (by kernel_rfl)) (by kernel_rfl) U V (.lst l0) (by unfold aa;exact congrArg _ (h1)) A s env R J _ r.c λv s0 k0 v0=> ?_)
 have r0:=r.ts (TS.of_kp k0)
 refine he s0 k0 r0 _ λl D s1 r1 t1 hl1 p1 v1=> ?_
 haveI v01:VRel G R J s1.heap (.lst l0) v:=t1.val r0.c.S r0.l v0
 haveI hle:l0.length+l.length≤10000:=by omega
 haveI hva:eI (.lst l0) (.lst l)=some (.lst (l0 ++l)):=(if_pos hle:(if l0.length+l.length≤10000 then some (AV.lst (l0 ++l)) else none)=some (AV.lst (l0 ++l)))
 refine fP (G:=G) (.lst l0) (.lst l) (.lst (l0 ++l)) hva A s1 R J _ _ _ r1.c.A.u r1.c.A.hd r1.c.S.live v01 v1 λw s2 k2 v2=> ?_
 haveI r2:=r1.ts (TS.of_kp k2)
 haveI v2':=v2
 simp only [VRel] at v2'
 refine cU v2' λD2 vs rf2 _=> ?_;subst rf2
 exact hQ (l0 ++l) D2 s2 r2 (hPz _ _ _ p1 (KpO.of_kp k2)) v2
end
theorem QO (K:LamZ Γl scope [n] 11)(he:∀cv ql,MX G ⟨true,0⟩ (Γl cv ql) body x)
  (hx:x [some u] V=some (.none,σ'))(la:LamAt s f qual body scope [(n,ce)])
  (hce:ce∈R∧ce∉own J∧ce∉G.TB)(hc:s.heap.IsCell ce (some val))(hv:VRel G R J s.heap u val):Gg G 11 (.ref f) s R J V:=by
 intro A s1 R1 P hA kb hR hR' S hP
 refine da la λpm c' ctv h1 h2=> ?_
 haveI mono:∀{a:AV} {w:Value},VRel G R J s.heap a w→VRel G R1 J s1.heap a w:=λq=>VRel.mono (λa o ha ho=>⟨λm=>(hR' a m).elim ha (λz=>by exact mj ((ho).symm.trans z)),kb a o (by simp) ho⟩) (λ_ _ z=>z) _ _ q
 refine CK (us:=[u]) K hA S (kb _ _ (by simp) h1) (h2.keeps λb o e=>kb b o (by simp) e) rfl (by simp) (by simp) (λi m ce' e=> ?_) (λi m ce' u' e1 e2=> ?_) ?_
 ·cases i with
  | zero=>
   simp only [List.getElem?_cons_zero,Option.some.injEq,Prod.mk.injEq] at e
   obtain ⟨rfl,rfl⟩:=e
   refine aW hc λo ho _=> ?_
   exact ⟨hR _ hce.1,hce.2.1,hce.2.2,o,kb _ _ (by simp) ho⟩
  | succ i=>simp at e
 ·cases i with
  | zero=>
   simp only [List.getElem?_cons_zero,Option.some.injEq,Prod.mk.injEq] at e1 e2
   obtain ⟨rfl,rfl⟩:=e1
   subst e2
   refine aW hc λo ho hd=> ?_
   exact ⟨val,⟨o,kb _ _ (by simp) ho,hd⟩,mono hv⟩
  | succ i=>simp at e1
 ·intro env s2 L sh kb2 fL hL hf _ c
  refine bN (he _ _ _ _ _ _ hx _ s2 env _ J (λv s3=>v= .none∧(∃h tk,s3= { s1 with heap:=h,toks:=tk })∧G.g.StaysIn s3.heap∧G.Tabs s3.heap) c λv s3 R3 J3 g3 c3 v3=>⟨by simpa only [VRel] using v3,by
   refine fy g3.sh λh3 t3 rf2=> ?_;subst rf2
   refine fy sh λh2 t2 rf2=> ?_;subst rf2
   exact ⟨_,_,rfl⟩,c3.S.base,c3.S.tabs⟩) (λv s3 hv=> ?_) λ_ _ z=>z.elim
  refine l3 hv λrf0 sh3 st3 tb3=> ?_;subst rf0
  exact hP s3 sh3 st3 tb3
end
noncomputable abbrev wX (cv:Value)(ql:Str):FI:=⟨[("row", .free),("Bundles", .globalImplicit)],["row"],7,cv,ql⟩
def sV (n0:Nat):RX:=(gB (yA (ae (bl (ae (ah (.int 3)) (ae (ah (.int 77)) aj))) (ae (bD (ae (aa 0) aj)) aj))) n0 id q9)
noncomputable abbrev xy (cv:Value)(ql:Str):FI:=⟨[("Bundles", .globalImplicit),("LacpRow", .globalImplicit)],[],7,cv,ql⟩
def tn (n0:Nat):RX:=(gB (yA (ae (bl (ae (ah (.int 65536)) (ae (ah (.int 77)) aj))) (ae (bD (ae (aL ed (ae (ah (.int 1)) (ae (ah (.int 8)) (ae (ah (.int 4)) aj)))) aj)) aj))) n0 id q9)
noncomputable abbrev xz (cv:Value)(ql:Str):FI:=⟨[("Bundles", .globalImplicit),("LacpRow", .globalImplicit)],[],7,cv,ql⟩
def tq (n0:Nat):RX:=(gB (yA (ae (bl (ae (ah (.int 3)) (ae (a8 (bc tf) (ah (.int 2)) (ah (.int 48))) aj))) (ae (bD (ae (aL ed (ae (ah (.int 1)) (ae (ah (.int 8)) (ae (ah (.int 4)) aj)))) aj)) aj))) n0 id q9)
noncomputable abbrev xB (cv:Value)(ql:Str):FI:=⟨[("Bundles", .globalImplicit)],[],7,cv,ql⟩
def tu (n0:Nat):RX:=(gB (yA (ae (bl (ae (ah (.int 3)) (ae (ah (.int 77)) aj))) (ae (bD aj) (ae (ah (.int 0)) aj)))) n0 id vL)
noncomputable abbrev xC (cv:Value)(ql:Str):FI:=⟨[("Bundles", .globalImplicit)],[],7,cv,ql⟩
def tv (n0:Nat):RX:=(gB (yA (ae (bl (ae (ah (.int 3)) (ae (ah (.int 77)) aj))) (ae (bD aj) (ae (kM (ah (.int 1))) aj)))) n0 id vL)
noncomputable abbrev xD (cv:Value)(ql:Str):FI:=⟨[("info", .free),("pack_lacpdu", .globalImplicit),("Lacpdu", .globalImplicit)],["info"],7,cv,ql⟩
def tw (n0:Nat):RX:=(gB (yA (ae (aL mX (ae (a8 eI (iq (aa 0) (ah (.int 3))) (bl (ae (ah (.int 256)) aj))) (ae (aa 0) aj))) aj)) n0 id Ae)
noncomputable abbrev xF (cv:Value)(ql:Str):FI:=⟨[("info", .free),("pack_lacpdu", .globalImplicit),("Lacpdu", .globalImplicit)],["info"],7,cv,ql⟩
def tx (n0:Nat):RX:=(gB (yA (ae (aL mX (ae (aa 0) (ae (a8 eI (iq (aa 0) (ah (.int 3))) (bl (ae (kM (ah (.int 1))) aj))) aj))) aj)) n0 id Ag)
noncomputable abbrev xG (cv:Value)(ql:Str):FI:=⟨[("end", .free)],["end"],7,cv,ql⟩
def ty (n0:Nat):RX:=(yn n0 id 543 zA (aa 0) (yA (ae (a8 (bc tf) (ah (.int 10)) (ah (.int 5000))) aj)))
noncomputable abbrev Ve (cv:Value)(ql:Str):FI:=⟨[("end", .free)],["end"],10,cv,ql⟩
def yF:bZ:=(bW 0 (λ_=>0) 543 lu (aa 0) (yA (ae (ah (.int 65535)) aj)))
noncomputable def gY:AV:=(.tup [.tup [.int 1, .int 9], .int 4, .tup [.int 8, .int 2], .int 5])
def rowsV:List AV:=[[AV.int 0, .int 8, .int 4],[.int 65536, .int 8, .int 4],[.int 1, .int 65536, .int 4],[.int 1, .int (-1), .int 4],[.int 1, .int 8, .int 65536]].filterMap λa=>ed a []
theorem SC:(rowsV.all λv=>decide (sV 0 [some v] []=some 51))=true:=by decide +kernel
theorem Wz:tn 0 [] []=some 51:=by decide +kernel
theorem WA:tq 0 [] []=some 51:=by decide +kernel
theorem WB:tu 0 [] []=some 51:=by decide +kernel
theorem WC:tv 0 [] []=some 51:=by decide +kernel
theorem WD:tw 0 [some gY] []=some 51:=by decide +kernel
theorem WE:tx 0 [some gY] []=some 51:=by decide +kernel
def HH:Option (AV × ar):=(aL ed (ae (ah (.int 65535)) (ae (ah (.int 65535)) (ae (ah (.int 65535)) aj))) [] []).bind λr=>mR [.tup [.int 3, .int 77], .lst [r]] []
def σE:ar:=match HH with
 | some (_,V)=>V
 | none=>[]
theorem SD:HH=some (.ref 0,σE):=by kernel_rfl
theorem WF:ty σE.length [some (.ref 0)] σE=some 63:=by decide +kernel
def X7:Option (AV × ar):=yF [some (.ref 0)] σE
def σF:ar:=match X7 with
 | some (_,V)=>V
 | none=>[]
theorem WG:yF [some (.ref 0)] σE=some (.none,σF):=by kernel_rfl
def Gh:aF:=(bx 0 (xP (bD (ae (aL ed (ae (ah (.int 0)) (ae (ah (.int 8)) (ae (ah (.int 4)) aj)))) (ae (aL ed (ae (ah (.int 65536)) (ae (ah (.int 8)) (ae (ah (.int 4)) aj)))) (ae (aL ed (ae (ah (.int 1)) (ae (ah (.int 65536)) (ae (ah (.int 4)) aj)))) (ae (aL ed (ae (ah (.int 1)) (ae (kM (ah (.int 1))) (ae (ah (.int 4)) aj)))) (ae (aL ed (ae (ah (.int 1)) (ae (ah (.int 8)) (ae (ah (.int 65536)) aj)))) aj))))))))
def Gi:aF:=(bx 3 (xP (bl (ae (bl (ae (ah (.int 1)) (ae (ah (.int 9)) aj))) (ae (ah (.int 4)) (ae (bl (ae (ah (.int 8)) (ae (ah (.int 2)) aj))) (ae (ah (.int 5)) aj)))))))
def G3:aF:=(bx 2 (bB 0 id mR (yA (ae (bl (ae (ah (.int 3)) (ae (ah (.int 77)) aj))) (ae (bD (ae (aL ed (ae (ah (.int 65535)) (ae (ah (.int 65535)) (ae (ah (.int 65535)) aj)))) aj)) aj)))))
theorem PQ:Gh [none,none,none,none] []=some (.next,[some (.lst rowsV),none,none,none],[]):=by kernel_rfl
theorem PS:Gi [some (.lst rowsV),some (.lst l),none,none] []=some (.next,[some (.lst rowsV),some (.lst l),none,some gY],[]):=rfl
theorem QP:G3 [some (.lst rowsV),some (.lst l),none,some gY] []=some (.next,[some (.lst rowsV),some (.lst l),some (.ref 0),some gY],σE):=by
 have h:∀x:Option (AV × ar),x=some (.ref 0,σE)→(match x with
  | some (v,σ')=>some (Fl.next,([some (.lst rowsV),some (.lst l),none,some gY]:Lo).set 2 (some v),σ')
  | none=>none)=some (.next,[some (.lst rowsV),some (.lst l),some (.ref 0),some gY],σE):=λx e=>by rw [e];rfl
 exact h _ SD
theorem QQ (Z:IsG G)(K:LamZ wX scope ["row"] 8)(he:∀cv ql n0,RE G ⟨false,n0⟩ (wX cv ql) body (sV n0))(hx:sV V.length (us.map some) V=some C):Cert G body scope ["row"] us V C:=⟨wX,sV,K,he,hx⟩
theorem SE (Z:IsG G)(K:LamZ xy scope [] 8)(he:∀cv ql n0,RE G ⟨false,n0⟩ (xy cv ql) body (tn n0))(hx:tn V.length (us.map some) V=some C):Cert G body scope [] us V C:=⟨xy,tn,K,he,hx⟩
theorem SG (Z:IsG G)(K:LamZ xz scope [] 8)(he:∀cv ql n0,RE G ⟨false,n0⟩ (xz cv ql) body (tq n0))(hx:tq V.length (us.map some) V=some C):Cert G body scope [] us V C:=⟨xz,tq,K,he,hx⟩
theorem SH (Z:IsG G)(K:LamZ xB scope [] 8)(he:∀cv ql n0,RE G ⟨false,n0⟩ (xB cv ql) body (tu n0))(hx:tu V.length (us.map some) V=some C):Cert G body scope [] us V C:=⟨xB,tu,K,he,hx⟩
theorem SI (Z:IsG G)(K:LamZ xC scope [] 8)(he:∀cv ql n0,RE G ⟨false,n0⟩ (xC cv ql) body (tv n0))(hx:tv V.length (us.map some) V=some C):Cert G body scope [] us V C:=⟨xC,tv,K,he,hx⟩
theorem SJ (Z:IsG G)(K:LamZ xD scope ["info"] 8)(he:∀cv ql n0,RE G ⟨false,n0⟩ (xD cv ql) body (tw n0))(hx:tw V.length (us.map some) V=some C):Cert G body scope ["info"] us V C:=⟨xD,tw,K,he,hx⟩
theorem SK (Z:IsG G)(K:LamZ xF scope ["info"] 8)(he:∀cv ql n0,RE G ⟨false,n0⟩ (xF cv ql) body (tx n0))(hx:tx V.length (us.map some) V=some C):Cert G body scope ["info"] us V C:=⟨xF,tx,K,he,hx⟩
theorem SL (Z:IsG G)(K:LamZ xG scope ["end"] 8)(he:∀cv ql n0,RE G ⟨false,n0⟩ (xG cv ql) body (ty n0))(hx:ty V.length (us.map some) V=some C):Cert G body scope ["end"] us V C:=⟨xG,ty,K,he,hx⟩
theorem WH (Z:IsG G):DefF G Γ_ref 609 U4 bo_609:=Z.df
theorem tz (h1:∀y∈sc.names,y.2≠ .free)(h2:eY (λ_=>0) sc.names=[]):closureFor sc env=pure []:=(lQ (λ_=>0) λy hy hf=>absurd hf (h1 y hy)).trans (congrArg pure h2)
theorem tA (hc:env.cells.lookup n=some c)(h1:∀y∈sc.names,y.2= .free→y.1=n)(h2:eY (λ_=>c) sc.names=[(n,c)]):closureFor sc env=pure [(n,c)]:=(lQ (λ_=>c) λy hy hf=>(h1 y hy hf).symm▸hc).trans (congrArg pure h2)
structure Pz (G:Gd) (s:Shared) (ci:Addr) (k:Nat) (l:List AV) (s':Shared):Prop where
 le:l.length≤k
 raw:∀v∈l,RawLam G s' nR ci gY v
 sh:∃h tk,s'= { s with heap:=h,toks:=tk }
theorem Pz.k {k:Nat}(l:List AV)(s1 s2:Shared)(p:Pz G s ci k l s1)(q:KpO s1 s2):Pz G s ci k l s2:=⟨p.le,λv m=>(p.raw v m).keep q,du p.sh q.sh⟩
theorem Pz.more {k n:Nat}(p:Pz G s ci k l0 s1)(k0:Kp s1 s0)(k':KpO s0 s2)(hl:l.length≤n)(r:∀v∈l,RawLam G s2 nR ci gY v):Pz G s ci (k+n) (l0 ++l) s2:=
 ⟨ba (Nat.le_of_eq List.length_append) (Nat.add_le_add p.le hl),λv m=>(bC m).elim (λm=>(p.raw v m).keep ((KpO.of_kp k0).trans k')) (r v),du (du p.sh k0.sh) k'.sh⟩
theorem Ef (Z:IsG G){st:Stmt}(r:Rst G Γ A env Yn s R [] U [])(ha:MS G ⟨false,0⟩ Γ st a)(e:a U []=some (.next,ℓ',[]))
  (hk:∀s' R',Rst G Γ A env Yn s' R' [] ℓ' []→KpO s s'→wpAny (model G.prog G.w) A (execs sts env) Q aI s'):wpAny (model G.prog G.w) A (execs (st::sts) env) Q aI s:=
 Gf Z (tb:=false) r ha e λs' R' J' r' k=>hk s' R' (List.length_eq_zero_iff.mp r'.c.S.len▸r') k
theorem Rst.cell {i:Nat}(r:Rst G Γ A env Yn s R J U V)(hs:Γ.slots[i]? =some x)(hv:U[i]? =some (some v))(hc:Γ.names.lookup x=some .cell)(he:env.cells.lookup x=some ce):
  (ce∈R∧ce∉own J∧ce∉G.TB)∧∃val,s.heap.IsCell ce (some val)∧VRel G R J s.heap v val:=
 r.c.F.elim λ_ F=>⟨F.faR ce (cQ _ (List.mem_map.mpr ⟨_,mem_of_lookup he,rfl⟩)),(F.cel i x v hs hv (m4 hc rfl)).elim λce' q=>q.elim λval q=>⟨val,aD (q.1.symm.trans he)▸q.2.1,q.2.2⟩⟩
theorem SM (Z:IsG G){s s9:Shared}(r9:Rst G Γ_ref A env fr s9 R2 [] [some (.lst rowsV),some (.lst l8),none,some gY] [])(hce:env.cells.lookup ("end":Str)=some ce)(sh9:∃h tk,s9= { s with heap:=h,toks:=tk })
  (hQ:∀s',(∃h tk,s'= { s with heap:=h,toks:=tk })→G.g.StaysIn s'.heap→G.Tabs s'.heap→Q (.ret (.bool true)) s'):wpAny (model G.prog G.w) A (execs (bo_609.drop 8) env) Q aI s9:=
 Gf Z (tb:=false) (a:=G3) r9 (cV (dk (j3 Z) (j4 Z) (vU Z) (aP (ag (cE (ag an (ag an ak))) (ag (cN (ag (cj (gf Z) (gh Z) (gi Z) (ag an (ag an (ag an ak)))) ak)) ak))))) QP λs10 R10 J10 r10 kE=>dO (wpAny_Return_some (BoolOp_and (wpAny_Compare1 (Ce Z (.inr ⟨rfl,rfl⟩) (by kernel_rfl) (by decide) (λ_=>rfl) r10.c r10.fr r10.k λs0 k0=>
  have r00:=r10.ts (TS.of_kp k0)
  m7 Z rfl rfl r00.c r00.l (tA hce (by decide +kernel) rfl) λf s11 t11 la=>
  have r11:=r00.ts t11
  (r11.cell (i:=2) rfl rfl rfl hce).elim λq hc=>hc.elim λval hc=>
  ⟨f,rfl,r11.c,r11.l,((SL Z ⟨rfl,rfl,rfl,λ_ _=>rfl,λ_ _=>rfl,λ_ _=>Nat.le_refl _,λ_ _=>⟨rfl,rfl⟩,by decide,by decide +kernel⟩ (λcv ql n0=>(D7 (cy Z) (oC Z) (Jm Z) kg (aP (ag (be xi an an) ak)))) WF):Cert G _ _ ["end"] [.ref 0] σE 63).throws1 r11.c.S la q hc.1 hc.2,la.fn,λs12 t ks=>
  have ts12:TS G (Lf (env::fr)) s11 s12:=TS.of_ks ks r11.l
  have r12:=(r11.ts ts12).ts (TS.of_kp (Kp.tok s12 (s12.toks+1)))
  Constant_str (cX (G:=G) (.str "table") (.str "table") true rfl A _ σE R10 J10 _ _ _ r12.c.A.u r12.c.A.hd r12.c.S ⟨_,rfl⟩ ⟨_,rfl⟩ λs13 k13=>fj (
  have r13:=r12.ts (TS.of_kp k13)
  BoolOp_one (wpAny_Compare1 (eX (aO (Do Z) (by kernel_rfl) (by kernel_rfl) _ _ _ rfl A s13 env R10 J10 _ r13.c λv s14 k14 v14=>
  have r14:=r13.ts (TS.of_kp k14)
  (show v=_ from v14).symm▸gE r14.c.inK (Dp Z) (λ_ _=>rfl) (spliced_more (m7 Z rfl rfl r14.c r14.l (tA hce (by decide +kernel) rfl) λf2 s15 t15 la2=>
  have r15:=r14.ts t15
  (r15.cell (i:=2) rfl rfl rfl hce).elim λq hc=>hc.elim λval hc=>
  spliced_none ⟨r15.c.inK,wpAny_call (OL Z r15.c.A r15.c.S (QO (Γl:=Ve) (x:=yF) ⟨rfl,rfl,rfl,λ_ _=>rfl,λ_ _=>rfl,λ_ _=>Nat.le_refl _,λ_ _=>⟨rfl,rfl⟩,by decide,by decide +kernel⟩ (λcv ql=>(dB (cy Z) (oC Z) (qy Z) kg (aP (ag an ak)))) WG la2 q hc.1 hc.2) la2.fn λs16 sh16 st16 tb16=>
   have shS:∃h tk,s16= { s with heap:=h,toks:=tk }:=du (du (du (du (du (du (du (du (du sh9 kE.sh) k0.sh) (r00.kpo Z t11).sh) (r11.kpo Z ts12).sh) (Kp.tok s12 (s12.toks+1)).sh) k13.sh) k14.sh) (r14.kpo Z t15).sh) sh16
   aC (show wpAny _ _ (isSame .none .none >>= λb=>pure (Value.bool b)) _ _ _ from am (wpAny_of_eq (a:=true) rfl (aC (hQ s16 shS st16 tb16)))))⟩) rfl))) rfl)))⟩) rfl)))
theorem QR (Z:IsG G)(hA:AOk 13 A)(S0:SR G R J V s.heap)(hfr:A.frames=some fr)(hk:FrK fr)(lok:LOk G (Lf fr) R J s.heap)
  (hP:∀s',(∃h tk,s'= { s with heap:=h,toks:=tk })→G.g.StaysIn s'.heap→G.Tabs s'.heap→P (.ok (.ret (.bool true))) s'):codeAny (model G.prog G.w) A (.call (.ref 609) ⟨[],[]⟩) P s:=by
 refine qz (Γ:=Γ_ref) (ps:=[]) (n:=0) (d:=13) (avs:=[]) (WH Z) rfl (by decide) (λ_ m=>absurd m bq) rfl (λvals h=>yg h▸by kernel_rfl) (by decide) (by decide +kernel) (by decide) rfl hA S0.forget .nil λenv s1 sh kb fresh hf hcells go c=> ?_
 have hcl:env.cells=([("info",s.heap.objs.size+1+1),("end",s.heap.objs.size+1)]:List (Str × Addr)):=hcells
 have r0:Rst G Γ_ref (A.deeper env) env fr s1 (fa env ++R) [] [none,none,none,none] []:=
  ⟨c,Around.frames_deeper hfr,hf,hk.enter c hf,lok.forget.enter c hf (λa m=>dy _ m) kb,λa m q=>da (lok.d a m) λo _ _ e _=>au ((fresh a q).symm.trans e),
   hcl▸gw (P:=λp:Str × Addr=>Γ_ref.names.lookup p.1=some .cell∧([("info",s.heap.objs.size+1+1),("end",s.heap.objs.size+1)]:List (Str × Addr)).lookup p.1=some p.2) ⟨rfl,rfl⟩ ⟨rfl,rfl⟩⟩
 have hci:env.cells.lookup ("info":Str)=some (s.heap.objs.size+1+1):=by rw [hcl];rfl
 have hce:env.cells.lookup ("end":Str)=some (s.heap.objs.size+1):=by rw [hcl];rfl
 generalize s.heap.objs.size+1+1=ci at hci
 generalize s.heap.objs.size+1=ce at hce
 clear hcl
 refine wE ?_
 refine Ef Z (a:=Gh) r0 (cV (ay (cN (ag (cj (gf Z) (gh Z) (gi Z) (ag an (ag an (ag an ak)))) (ag (cj (gf Z) (gh Z) (gi Z) (ag an (ag an (ag an ak)))) (ag (cj (gf Z) (gh Z) (gi Z) (ag an (ag an (ag an ak)))) (ag (cj (gf Z) (gh Z) (gi Z) (ag an (ag (na an) (ag an ak)))) (ag (cj (gf Z) (gh Z) (gi Z) (ag an (ag an (ag an ak)))) ak)))))))) PQ λs2 R2 r2 kA=> ?_
 refine Ee Z r2 (λQ' hQ'=>PO Z rfl rfl r2 rfl (λv m=> ?_) (λ_=>rfl) (by decide +kernel) hQ') λs3 r3 kB=> ?_
 ·exact (QQ Z ⟨rfl,rfl,rfl,λ_ _=>rfl,λ_ _=>rfl,λ_ _=>Nat.le_refl _,λ_ _=>⟨rfl,rfl⟩,by decide,by decide +kernel⟩ (λcv ql n0=>(gM (j3 Z) (j4 Z) (vK Z) (aP (ag (cE (ag an (ag an ak))) (ag (cN (ag kg ak)) ak))))) (by have:=List.all_eq_true.mp SC v m;exact fG this))
 refine rN Z (Pz:=Pz G s ci 2) (λ_=>rfl) (λQ' hQ'=>G2 Z r3 (tz (by decide) rfl) (tz (by decide) rfl) λf1 f2 D s' r' kC _ la1 la2 v=>hQ' _ D s' r' ⟨Nat.le_refl _,gw ⟨f1,_,_,rfl, .inl ⟨la1,(SE Z ⟨rfl,rfl,rfl,λ_ _=>rfl,λ_ _=>rfl,λ_ _=>Nat.le_refl _,λ_ _=>⟨rfl,rfl⟩,by decide,by decide +kernel⟩ (λcv ql n0=>(gM (j3 Z) (j4 Z) (vK Z) (aP (ag (cE (ag an (ag an ak))) (ag (cN (ag (cj (gf Z) (gh Z) (gi Z) (ag an (ag an (ag an ak)))) ak)) ak))))) Wz)⟩⟩ ⟨f2,_,_,rfl, .inl ⟨la2,(SG Z ⟨rfl,rfl,rfl,λ_ _=>rfl,λ_ _=>rfl,λ_ _=>Nat.le_refl _,λ_ _=>⟨rfl,rfl⟩,by decide,by decide +kernel⟩ (λcv ql n0=>(gM (j3 Z) (j4 Z) (vK Z) (aP (ag (cE (ag an (ag (be xi an an) ak))) (ag (cN (ag (cj (gf Z) (gh Z) (gi Z) (ag an (ag an (ag an ak)))) ak)) ak))))) WA)⟩⟩,du (du (du sh kA.sh) kB.sh) kC.sh⟩ v) Pz.k λl4 s4 r4 p4=> ?_
 refine rN Z (Pz:=Pz G s ci 4) (λ_=>rfl) (λQ' hQ'=>wy (Pz:=Pz G s ci 4) Z r4 (l0:=l4) rfl (ba p4.le (by decide)) (λs0 k0 r0 Q' hQ'=>G2 Z r0 (tz (by decide) rfl) (tz (by decide) rfl) λf1 f2 D s' r' k' t' la1 la2 v=>hQ' _ D s' r' t' (bH rfl) (p4.more k0 k' (Nat.le_refl _) (gw ⟨f1,_,_,rfl, .inl ⟨la1,(SH Z ⟨rfl,rfl,rfl,λ_ _=>rfl,λ_ _=>rfl,λ_ _=>Nat.le_refl _,λ_ _=>⟨rfl,rfl⟩,by decide,by decide +kernel⟩ (λcv ql n0=>(gM (j3 Z) (j4 Z) (Bn Z) (aP (ag (cE (ag an (ag an ak))) (ag (cN ak) (ag an ak)))))) WB)⟩⟩ ⟨f2,_,_,rfl, .inl ⟨la2,(SI Z ⟨rfl,rfl,rfl,λ_ _=>rfl,λ_ _=>rfl,λ_ _=>Nat.le_refl _,λ_ _=>⟨rfl,rfl⟩,by decide,by decide +kernel⟩ (λcv ql n0=>(gM (j3 Z) (j4 Z) (Bn Z) (aP (ag (cE (ag an (ag an ak))) (ag (cN ak) (ag (na an) ak)))))) WC)⟩⟩)) v) Pz.k hQ') Pz.k λl5 s5 r5 p5=> ?_
 refine Ef Z (a:=Gi) (U:=[some (.lst rowsV),some (.lst l5),none,none]) r5 (cV (ay (cE (ag (cE (ag an (ag an ak))) (ag an (ag (cE (ag an (ag an ak))) (ag an ak))))))) PS λs6 R6 r6 k6=> ?_
 have p6:=p5.k _ _ _ k6
 refine rN Z (Pz:=Pz G s ci 5) (λ_=>rfl) (λQ' hQ'=>wy (Pz:=Pz G s ci 5) Z r6 (l0:=l5) rfl (ba p6.le (by decide)) (λs0 k0 r0 Q' hQ'=>G1 Z r0 (tA hci (by decide +kernel) rfl) λf1 D s' r' k' t' la1 v=>hQ' _ D s' r' t' (bH rfl) (p6.more k0 k' (Nat.le_refl _) (dX ⟨f1,_,_,rfl, .inr ⟨la1,(SJ Z ⟨rfl,rfl,rfl,λ_ _=>rfl,λ_ _=>rfl,λ_ _=>Nat.le_refl _,λ_ _=>⟨rfl,rfl⟩,by decide,by decide +kernel⟩ (λcv ql n0=>(gM (AB Z) (AC Z) (KP Z) (aP (ag (cj (rh Z) (rl Z) (rm Z) (ag (be fP (jr kg an) (cE (ag an ak))) (ag kg ak))) ak)))) WD)⟩⟩)) v) Pz.k hQ') Pz.k λl7 s7 r7 p7=> ?_
 refine rN Z (Pz:=Pz G s ci 6) (λ_=>rfl) (λQ' hQ'=>wy (Pz:=Pz G s ci 6) Z (U:=[some (.lst rowsV),some (.lst l7),none,some gY]) r7 (l0:=l7) rfl (ba p7.le (by decide)) (λs0 k0 r0 Q' hQ'=>G1 Z r0 (tA hci (by decide +kernel) rfl) λf1 D s' r' k' t' la1 v=>hQ' _ D s' r' t' (bH rfl) (p7.more k0 k' (Nat.le_refl _) (dX ⟨f1,_,_,rfl, .inr ⟨la1,(SK Z ⟨rfl,rfl,rfl,λ_ _=>rfl,λ_ _=>rfl,λ_ _=>Nat.le_refl _,λ_ _=>⟨rfl,rfl⟩,by decide,by decide +kernel⟩ (λcv ql n0=>(gM (AB Z) (AC Z) (KT Z) (aP (ag (cj (rh Z) (rl Z) (rm Z) (ag kg (ag (be fP (jr kg an) (cE (ag (na an) ak))) ak))) ak)))) WE)⟩⟩)) v) Pz.k hQ') Pz.k λl8 s8 r8 p8=> ?_
 refine Ee Z (U:=[some (.lst rowsV),some (.lst l8),none,some gY]) r8 (λQ' hQ'=>QN Z .of0 r8 rfl rfl hci p8.raw hQ') λs9 r9 kD=> ?_
 exact SM Z r9 hce (du p8.sh kD.sh) hP
noncomputable abbrev kz (cv:Value)(ql:Str):FI:=⟨[("script", .local),("k", .local),("source", .local),("rows", .local),("number", .local),("key", .local),("is_active", .local),("pairs", .local),("_law_own_right", .globalImplicit),("LacpRow", .globalImplicit),("_law_partners_right", .globalImplicit),("range", .globalImplicit),("min", .globalImplicit),("len", .globalImplicit),("_law_pool", .globalImplicit),("_law_take", .globalImplicit),("_law_one", .globalImplicit),("_law_refusals_right", .globalImplicit)],["script","k","source","rows","number","key","is_active","pairs"],13,cv,ql⟩
theorem lw_nd:(kz cv ql).slots.Nodup:=(by decide +kernel:(["script","k","source","rows","number","key","is_active","pairs"]:List Str).Nodup)
def tN:aF:=(aQ (mv (gV (fX (bB 0 (λ_=>0) jc (yA (ae (bD (ae (aL ed (ae (ah (.int 1)) (ae (ah (.int 8)) (ae (ah (.int 4)) aj)))) (ae (aL ed (ae (ah (.int 2)) (ae (ah (.int 3)) (ae (ah (.int 4)) aj)))) aj))) (ae (bD (ae (bl (ae (ah (.int 1)) (ae (ah (.int 2)) aj))) aj)) (ae (ah (.int 1)) aj))))))) (mv (gV (fX (bB 0 (λ_=>0) mC (yA aj)))) (kQ false))) (ai (a9 (xP (ah (.bool false)))) aq) aq)
def tO:aF:=(cP (jt (aL th (ae (aL fq (ae (aa 0) aj)) (ae (ah (.int 2)) aj)))) (bh 1) (ai (bx 2 (bB 0 id oY (yA (ae (aa 0) (ae (aa 1) aj))))) (ai (bx 3 (nK aj)) (ai (cP (rL (cH (xP (ah (.int 1))) (cH (kP eI (xP (ah (.int 3))) (kP (bc eu) (xP (ah (.int 2))) (bB 0 (λ_=>0) jg (yA (ae (aa 2) (ae (ah (.int 2)) aj)))))) gv))) (bh 4) (ai (nM 5 6 (nZ (cH (bB 0 (λ_=>0) pe (yA (ae (aa 2) (ae (bD (ae (ah (.int 4)) (ae (ah (.int 4)) (ae (ah (.int 5)) aj)))) aj)))) (cH (n8 (de λa b=>decide (b< a)) (bB 0 (λ_=>0) jg (yA (ae (aa 2) (ae (ah (.int 4)) aj)))) (xP (ah (.int 0)))) gv)))) (ai (bo (hZ "list" 0 n7 (aa 3) (cH (rW ed (cH (xP (aa 4)) (cH (bB 0 (λ_=>0) jg (yA (ae (aa 2) (ae (ah (.int 4)) aj)))) (cH (xP (aa 5)) (cH (xP (aa 6)) (cH (n8 bp (bB 0 (λ_=>0) jg (yA (ae (aa 2) (ae (ah (.int 2)) aj)))) (xP (ah (.int 0)))) gv)))))) gv))) aq))) (ai (bx 7 (n9 (yT (aV bp (aL fq (ae (aa 3) aj)) (ah (.int 2)))) (xP (bD (ae (bl (ae (ah (.int 1)) (ae (ah (.int 2)) aj))) aj))) (bB 0 (λ_=>0) pe (yA (ae (aa 2) (ae (bD (ae (bD (ae (bl (ae (ah (.int 1)) (ae (ah (.int 2)) aj))) (ae (bl (ae (ah (.int 3)) (ae (ah (.int 4)) aj))) aj))) (ae (bD (ae (bl (ae (ah (.int 1)) (ae (ah (.int 3)) aj))) (ae (bl (ae (ah (.int 2)) (ae (ah (.int 4)) aj))) aj))) aj))) aj)))))) (ai (aQ (gV (fX (bB 0 (λ_=>0) jc (cH (xP (aa 3)) (cH (xP (aa 7)) (cH (kP eI (xP (ah (.int 1))) (bB 0 (λ_=>0) jg (yA (ae (aa 2) (ae (ah (.int 2)) aj))))) gv)))))) (ai (a9 (xP (ah (.bool false)))) aq) aq) aq))))))
theorem SN (Z:IsG G)(h0:MS G ⟨true,0⟩ Γ a f0)(h1:MS G ⟨true,0⟩ Γ b f1)(hd:Γ.d=13)(hk:Γ.names.lookup ("_law_refusals_right":Str)=some .globalImplicit)
  (hfr:A.frames=some [env])(hf:env.frame=some env.locals)(c:Cx G Γ A s env R [] U [])(e0:f0 U []=some (.next,ℓ1,σ1))(hσ:σ1=[])(e1:f1 ℓ1 σ1=some (.next,ℓ2,σ2)):
  wpAny (model G.prog G.w) A (execs [a,b, .Return (some (.Call (.Name "_law_refusals_right" p1) [] [] p2)) p3] env) (λf s'=>f= .ret (.bool true)∧(∃h tk,s'= { s with heap:=h,toks:=tk })∧G.g.StaysIn s'.heap∧G.Tabs s'.heap) aI s:=by
 refine dO (h0 _ _ _ _ _ e0 A s env R [] _ c λr s1 R1 J1 g1 c1 r1=> ?_)
 simp only [FlRel] at r1
 subst r1
 have hJ1:J1=[]:=List.eq_nil_of_length_eq_zero (by rw [c1.S.len,hσ];rfl)
 subst hJ1
 refine dO (h1 _ _ _ _ _ e1 A s1 env R1 [] _ c1 λr s2 R2 J2 g2 c2 r2=> ?_)
 simp only [FlRel] at r2
 subst r2
 refine dO (wpAny_Return_some ?_)
 have hA:AOk 13 A:=⟨c2.A.hd,by have:=c2.A.dp;rw [hd] at this;exact this,by have:=c2.A.un;rw [hd] at this;exact this⟩
 refine eX (aO (Ip Z) hk (by kernel_rfl) _ _ _ rfl A s2 env R2 J2 _ c2 λr s3 k3 r3=> ?_)
 simp only [VRel] at r3
 subst r3
 have c3:=c2.kp k3
 refine gE c3.inK (Iq Z) (λ_ _=>rfl) (spliced_none ⟨c3.inK,wpAny_call ?_⟩)
 obtain ⟨m,F⟩:=c3.F
 have hLf:Lf [env]=[env.locals]:=by unfold Lf;rw [List.filterMap_cons,hf];rfl
 refine QR Z hA c3.S hfr (λe m=> ?_) ⟨λa m=> ?_,λa m=> ?_⟩ λs' sh b t=> ?_
 ·rw [aH m]
  exact ⟨by rw [F.kind];decide,_,hf⟩
 ·rw [hLf] at m
  rw [aH m]
  exact F.faR _ (by unfold fa;exact bY)
 ·rw [hLf] at m
  rw [aH m]
  obtain ⟨o,es,ep,e,hd,_⟩:=F.fr.ns
  exact ⟨o,es,ep,e,hd⟩
 ·refine ⟨rfl,?_,b,t⟩
  obtain ⟨h1,t1,rfl⟩:=g1.sh
  obtain ⟨h2,t2,rfl⟩:=g2.sh
  obtain ⟨h3,t3,rfl⟩:=k3.sh
  obtain ⟨h4,t4,rfl⟩:=sh
  exact ⟨_,_,rfl⟩
theorem QS (Z:IsG G)(hfr:A.frames=some [env])(hf:env.frame=some env.locals)(c:Cx G (kz cv ql) A s env R [] U [])(e0:tN U []=some (.next,ℓ1,σ1))(hσ:σ1=[])(e1:tO ℓ1 σ1=some (.next,ℓ2,σ2)):
  wpAny (model G.prog G.w) A (execs F7 env) (λf s'=>f= .ret (.bool true)∧(∃h tk,s'= { s with heap:=h,toks:=tk })∧G.g.StaysIn s'.heap∧G.Tabs s'.heap) aI s:=
 SN (f0:=tN) (f1:=tO) Z (bG (DZ (EU (xg (sG (dk (zB Z) (zC Z) (z8 Z) (aP (ag (cN (ag (cj (gf Z) (gh Z) (gi Z) (ag an (ag an (ag an ak)))) (ag (cj (gf Z) (gh Z) (gi Z) (ag an (ag an (ag an ak)))) ak))) (ag (cN (ag (cE (ag an (ag an ak))) ak)) (ag an ak))))))) (EU (xg (sG (dk (Im Z) (Io Z) (IO Z) (aP ak)))) NX))) (al (bj (ay cZ)) av) av)
  (eE (pc (lH Z) (dA (F8 Z) GQ (ag (dA (lS Z) nP (ag af ak)) (ag an ak)))) cz (al (cV (dk (Mz Z) (MC Z) (OH Z) (aP (ag af (ag af ak))))) (al (cV (wM ak)) (al (eE (Pm (lH Z) (fc (ay an) (fc (xo fP (ay an) (xo fR (ay an) (dk (mH Z) (mI Z) (mO Z) (aP (ag af (ag an ak)))))) lK))) cz (al (DT (xm (fc (dk (Bp Z) (Bq Z) (CJ Z) (aP (ag af (ag (cN (ag an (ag an (ag an ak)))) ak)))) (fc (ET sH (dk (mH Z) (mI Z) (mO Z) (aP (ag af (ag an ak)))) (ay an)) lK)))) (al (cC (rz PySem.F.plainAttrs_list slot_list_append type_list_append ER af (fc (Qs (gf Z) (gh Z) (gi Z) (fc (ay af) (fc (dk (mH Z) (mI Z) (mO Z) (aP (ag af (ag an ak)))) (fc (ay af) (fc (ay af) (fc (ET cX (dk (mH Z) (mI Z) (mO Z) (aP (ag af (ag an ak)))) (ay an)) lK)))))) lK))) av))) (al (cV (T9 (bA (bF cX (dA (lS Z) nP (ag af ak)) an)) (ay (cN (ag (cE (ag an (ag an ak))) ak))) (dk (Bp Z) (Bq Z) (CJ Z) (aP (ag af (ag (cN (ag (cN (ag (cE (ag an (ag an ak))) (ag (cE (ag an (ag an ak))) ak))) (ag (cN (ag (cE (ag an (ag an ak))) (ag (cE (ag an (ag an ak))) ak))) ak))) ak)))))) (al (bG (xg (sG (dk (zB Z) (zC Z) (z8 Z) (fc (ay af) (fc (ay af) (fc (xo fP (ay an) (dk (mH Z) (mI Z) (mO Z) (aP (ag af (ag an ak))))) lK)))))) (al (bj (ay cZ)) av) av) av)))))) rfl (by kernel_rfl) hfr hf c e0 hσ e1
inductive Hd | dis | exp | cur | dfl deriving DecidableEq
inductive Ch | un | sel | std deriving DecidableEq
inductive Mx | det | wai | att | col | dst deriving DecidableEq
structure P where
 st:Int
 peer:Bool
 pb:Int
 hd:Hd
 hl:Int
 ch:Ch
 mx:Mx
 jl:Int
 tl:Int
 must:Bool
 sent:Int
 deriving DecidableEq
structure S where
 p:P
 bd:Option Bool
 ea:Bool
 eb:Bool
 deriving DecidableEq
structure Ms where
 st:Int
 peer:Bool
 pb:Int
 deriving DecidableEq
noncomputable def eg (x b:Int):Bool:= !(Builtin.bitAnd x b == 0)
noncomputable def gy (x b:Int)(v:Bool):Int:=if v then Builtin.bitOr x b else Builtin.bitOr x b - b
def P.own (p:P)(b:Int):Bool:=eg p.st b
def P.oth (p:P)(b:Int):Bool:=eg p.pb b
def P.set (p:P)(b:Int)(v:Bool):P:={ p with st:=gy p.st b v }
noncomputable def P.up (p:P):Bool:= !(p.hd == .dis)
def WI (x:Int):Int:=if eg x 2 then 1 else 30
def P.turn (p:P):Int:=WI p.pb
def P.begin (p:P):P:=
 let p:={ p with hd:= .exp,hl:=3,pb:=gy (gy p.pb 8 false) 2 true }
 let p:=p.set 128 true
 let p:={ p with must:=true }
 { p with tl:=p.turn }
noncomputable def P.end_ (p:P):P:=
 let p:={ p with hd:= .dis,hl:=0,ch:= .un,peer:=false,pb:=56 }
 let p:=(p.set 128 false).set 64 true
 { p with must:=false }
noncomputable def P.silent (p:P):P:=
 if p.hd= .cur then p.begin else
 let p:={ p with hd:= .dfl }
 let p:=if p.peer || !(p.own 64) then { p with ch:= .un } else p
 let p:={ p with peer:=false,pb:=56 }
 (p.set 128 false).set 64 true
noncomputable def P.pass (p:P):P:=
 let p:={ p with sent:=0 }
 if !p.up then p else
 let p:P:=if p.hd= .dfl then p else
  let p:={ p with hl:=p.hl - 1 }
  if p.hl≤0 then p.silent else p
 let p:P:={ p with tl:=min p.tl p.turn - 1 }
 if p.tl≤0 then { p with tl:=p.turn,must:=true } else p
noncomputable def P.wait (p:P):P:=if p.mx= .wai∧0< p.jl then { p with jl:=p.jl - 1 } else p
noncomputable def P.talks (p:P):Bool:=p.up && (p.own 1 || p.oth 1)
noncomputable def P.msg (p:P):P × Option Ms:=
 let p:=if p.talks then p else { p with must:=false }
 if !p.must || decide (3≤p.sent) then (p,none) else
 ({ p with must:=false,sent:=p.sent+1 },some ⟨p.st,p.peer,p.pb⟩)
def Eg (peer:Bool)(m:Int)(pb:Int):Bool:=peer && (eg m 4 == eg pb 4)
def Eh (st:Int)(m:Ms):Bool:=
 if !eg m.st 8 then false else
 if !eg m.st 1 && !(eg st 1 && eg m.pb 1) then false else
 (m.peer && (eg m.pb 4 == eg st 4)) || !eg m.st 4
def P.inStep (p:P)(m:Ms):Bool:=Eh p.st m
noncomputable def Vf (st:Int)(m:Ms):Bool:=m.peer && (Builtin.bitAnd (Builtin.bitXor m.pb st) 15 == 0)
def P.knows (p:P)(m:Ms):Bool:=Vf p.st m
def P.hear (p:P)(m:Ms):P:=
 if !p.up then p else
 let p:=if !Eg p.peer m.st p.pb || p.own 64 then { p with ch:= .un } else p
 let p:=if !p.knows m then { p with must:=true } else p
 let ws:= !p.oth 2
 let p:={ p with peer:=true,pb:=gy m.st 8 (p.inStep m) }
 let p:=(p.set 64 false).set 128 false
 let p:={ p with hd:= .cur }
 let p:={ p with hl:=if p.own 2 then 3 else 90 }
 if ws && p.oth 2 then { p with tl:=0,must:=true } else p
noncomputable def P.next (p:P)(rdy:Bool):Mx:=
 match p.mx with
 | .det=>if p.ch= .un then .det else .wai
 | .wai=>if p.ch= .un then .det else if p.ch= .sel∧rdy=true then .att else .wai
 | .att=>if p.ch= .sel then (if p.oth 8 then .col else .att) else .det
 | .col=>if p.ch≠ .sel∨p.oth 8=false then .att else if p.oth 16 then .dst else .col
 | .dst=>if p.ch≠ .sel∨p.oth 8=false then .att else if p.oth 16 then .dst else .col
noncomputable def Mx.bits:Mx→Int
 | .det=>0 | .wai=>0 | .att=>8 | .col=>24 | .dst=>56
noncomputable def P.setF (p:P)(b:Int)(v:Bool):P:=let q:=p.set b v;if q.st=p.st then q else { q with must:=true }
def P.move (p:P)(w:Mx):P:=
 let p:={ p with mx:=w }
 ((p.setF 8 (eg w.bits 8)).setF 16 (eg w.bits 16)).setF 32 (eg w.bits 32)
noncomputable def S.step (s:S)(rdy:Bool):S × Bool:=
 let w:=s.p.next rdy
 if w=s.p.mx then (s,false) else
 let p:=s.p.move w
 let p:=if w= .wai then { p with jl:=2 } else p
 ({ s with p:=p,bd:=if w= .det then none else s.bd },true)
noncomputable def S.cur (s:S):Bool:=s.p.peer
noncomputable def S.ent (s:S)(b:Bool):Bool:=if b then s.eb else s.ea
noncomputable def S.setE (s:S)(b v:Bool):S:=if b then { s with eb:=v } else { s with ea:=v }
noncomputable def S.held (s:S):Bool:=s.p.up && (s.bd == none || (s.ent s.cur && s.bd == some s.cur))
noncomputable def S.settle (s:S):S:=
 let s:=s.setE s.cur true
 if s.p.ch= .un∧s.p.mx≠ .det then s else { s with bd:=some s.cur,p:={ s.p with ch:= .sel } }
noncomputable def S.drop (s:S)(b:Bool):S:=if (s.p.up && s.cur == b) || s.bd == some b then s else s.setE b false
noncomputable def S.choose1 (s:S):S:=if s.held then s.settle else { s with p:={ s.p with ch:= .un } }
noncomputable def S.choose (s:S):S:=(s.choose1.drop false).drop true
noncomputable def S.chd (s t:S):Bool:= !(s.p.ch == t.p.ch && s.bd == t.bd)
noncomputable def S.rdy (s:S):Bool:= !(s.p.mx == .wai && s.p.ch == .sel && decide (0< s.p.jl))
noncomputable def S.round (s:S):S × Bool:=let t:=s.choose;let u:=t.step t.rdy;(u.1,s.chd t || u.2)
noncomputable def P.lone (p:P):Bool:=p.own 64 || p.peer
noncomputable def S.ok (s:S):Bool:=s.p.lone && (s.p.ch == .un || s.bd != none) && (s.bd != some false || s.ea) && (s.bd != some true || s.eb)
noncomputable def S.run:Nat→S→Option S
 | 0,_=>none
 | n+1,s=>let r:=s.round
  if s.ok=false∨s.choose.ok=false∨r.1.ok=false then none else if r.2 then S.run n r.1 else if r.1.round=(r.1,false) then some r.1 else none
def S.rest (s:S):Option S:=S.run 10 s
noncomputable def fresh (act short:Bool):S:=⟨⟨Builtin.bitOr ((if act then 1 else 0)+(if short then 2 else 0)+4) 64,false,56, .dis,0, .un, .det,0,0,false,0⟩,none,false,false⟩
noncomputable def S.on (f:P→P)(s:S):S:={ s with p:=f s.p }
noncomputable def swap (a b:S):Option (S × S):=
 let (pa,ma):=a.p.msg
 let (pb,mb):=b.p.msg
 let a:={ a with p:=pa }
 let b:={ b with p:=pb }
 if a.rest=some a∧b.rest=some b then do
  let b' ← match ma with | none=>some b | some m=>(b.on (·.hear m)).rest
  let a' ← match mb with | none=>some a | some m=>(a.on (·.hear m)).rest
  some (a',b')
 else none
noncomputable def iter {α:Type}(f:α→Option α):Nat→α→Option α
 | 0,a=>some a
 | n+1,a=>(f a).bind (iter f n)
noncomputable def sec (a:S):Option S:=(a.on λp=>p.pass.wait).rest
def turn (x:S × S):Option (S × S):=(iter (λx=>swap x.1 x.2) 4 x).bind λx=>(sec x.1).bind λa=>(sec x.2).bind λb=>some (a,b)
def ot (a:S):Option S:=(a.on P.begin).rest
theorem OM:([true,false].all λa=>[true,false].all λb=>(fresh a b).rest == some (fresh a b))=true:=by decide +kernel
section
section
variable {U ℓ1 ℓ2:Lo} {V σ1 σ2:ar} {u v w:AV} {us:List AV} {a b:a7} {as:gz} {t t':dz} {z z':Bool}
theorem fF (ha:a U V=some u)(hb:b U V=some v)(h:f u v=some z):er f a b U V=some (.bool z):=az ha (az hb (cB h rfl))
theorem bO (ha:a U V=some u)(hb:b U V=some v)(h:f u v=some z):aV f a b U V=some z:=az ha (az hb h)
theorem dN (ha:a U V=some u)(hb:b U V=some v)(h:f u v=some w):a8 f a b U V=some w:=az ha (az hb h)
theorem dZ (ha:a U V=some u)(hb:b U V=some v)(h:gq V u v=some w):bz a b U V=some w:=az ha (az hb h)
theorem ku (ha:a U V=some u)(hb:b U V=some v)(h:nk u v=some w):iq a b U V=some w:=az ha (az hb h)
theorem aA (ha:a U V=some u)(hr:as U V=some us):ae a as U V=some (u::us):=az ha (cB hr rfl)
theorem bQ (ha:as U V=some us)(h:F us V=some v):aL F as U V=some v:=az ha h
theorem cW (ho:a U V=some u)(hi:eR V u=some (C,fs))(ha:as U V=some us)(h:F (u::us) V=some v):aT C F a as U V=some v:=az ho (az hi (cw rfl (az ha h)))
theorem bR (ho:a U V=some u)(hi:eR V u=some (C,fs))(hC:C∈Cs)(hg:dG fs f=some v)(hk:kX v=true):aB f Cs a U V=some v:=az ho (az hi (cw hC (az hg (cw hk rfl))))
theorem kF (ha:as U V=some us)(h:us.length≤10000):bl as U V=some (.tup us):=az ha (cw h rfl)
theorem lY (ht:t U V=some z)(ha:z=true→a U V=some u)(hb:z=false→b U V=some u):et t a b U V=some u:=by
 unfold et
 rw [ht]
 cases z with
 | true=>exact ha rfl
 | false=>exact hb rfl
theorem dP (ha:a U V=some (.bool z)):bU a U V=some z:=az ha rfl
theorem eo (ht:t U V=some z):dn t U V=some (!z):=cB ht rfl
theorem Gj (ha:a U V=some (.bool z)):kK a U V=some (.bool !z):=cB (az ha rfl) rfl
theorem iw (ht:t U V=some z)(h:z=true→t' U V=some z'):cK t t' U V=some (z && z'):=by
 unfold cK
 rw [ht]
 cases z with
 | true=>exact h rfl
 | false=>rfl
theorem jJ (ht:t U V=some z)(h:z=false→t' U V=some z'):d4 t t' U V=some (z || z'):=by
 unfold d4
 rw [ht]
 cases z with
 | true=>rfl
 | false=>exact h rfl
theorem si (ha:a U V=some (.bool z))(hb:z=true→b U V=some (.bool z')):jE a b U V=some (.bool (z && z')):=by
 unfold jE
 rw [ha]
 cases z with
 | true=>exact hb rfl
 | false=>rfl
theorem G4 (ha:a U V=some (.bool z))(hb:z=false→b U V=some (.bool z')):mn a b U V=some (.bool (z || z')):=by
 unfold mn
 rw [ha]
 cases z with
 | true=>rfl
 | false=>exact hb rfl
theorem jx (ht:t U V=some z):cK t (dF true) U V=some z:=(iw ht λ_=>rfl).trans (by rw [Bool.and_true])
theorem kG (ht:t U V=some z):d4 t (dF false) U V=some z:=(jJ ht λ_=>rfl).trans (by rw [Bool.or_false])
theorem aK (ha:a U V=some u):xP a U V=some (u,V):=cB ha rfl
theorem bg (ht:t U V=some z):yT t U V=some (z,V):=cB ht rfl
variable {x:bZ} {p q:aF} {y:eh} {r:Option (Fl × Lo × ar)}
theorem bw (h:x U V=some (u,σ1)):ai (a9 x) q U V=some (.ret u,U,σ1):=by simp only [ai,a9,h]
theorem f5 (h:p U V=some (.next,ℓ1,σ1))(k:q ℓ1 σ1=r):ai p q U V=r:=by simp only [ai,h];exact k
theorem cb (h:x U V=some (u,σ1))(k:q (U.set i (some u)) σ1=r):ai (bx i x) q U V=r:=f5 (by simp only [bx,h]) k
theorem eF (h:x U V=some (.none,σ1))(k:q U σ1=r):ai (bo x) q U V=r:=f5 (az h (cw rfl rfl)) k
theorem lU (h:x U V=some (.bool z,σ1))(k:q U σ1=r):ai (bo x) q U V=r:=f5 (az h (cw rfl rfl)) k
theorem fV (h:y U V=some (z,σ1))(h1:z=true→ai p q U σ1=r)(h2:z=false→ai p' q U σ1=r):ai (aQ y p p') q U V=r:=by
 cases z with
 | true=>exact (by simp only [ai,aQ,h]:ai (aQ y p p') q U V=ai p q U σ1).trans (h1 rfl)
 | false=>exact (by simp only [ai,aQ,h]:ai (aQ y p p') q U V=ai p' q U σ1).trans (h2 rfl)
theorem gu (h:y U V=some (true,σ1))(k:ai p q U σ1=r):ai (aQ y p p') q U V=r:=fV h (λ_=>k) λz=>nomatch z
theorem d0 (h:y U V=some (false,σ1))(k:ai p' q U σ1=r):ai (aQ y p p') q U V=r:=fV h (λz=>nomatch z) λ_=>k
theorem Gk {c:Prop}[Decidable c]{α:Type}{m n:α}(g:α→AV)(ht:t U V=some (decide c))(ha:a U V=some (g m))(hb:b U V=some (g n)):et t a b U V=some (g (if c then m else n)):=
 lY ht (λq=>ha.trans (congrArg (λx=>some (g x)) (if_pos (fG q)).symm)) λq=>hb.trans (congrArg (λx=>some (g x)) (if_neg (of_decide_eq_false q)).symm)
theorem pH {α:Type}{m n:α}(g:α→AV)(ht:t U V=some z)(ha:a U V=some (g m))(hb:b U V=some (g n)):et t a b U V=some (g (if z=true then m else n)):=
 Gk g (ht.trans (congrArg some Bool.decide_eq_true.symm)) ha hb
theorem Vg {c:Prop}[Decidable c]{α:Type}{m n:α}(g:α→AV)(ht:t U V=some !decide c)(ha:a U V=some (g m))(hb:b U V=some (g n)):et t a b U V=some (g (if c then n else m)):=
 (pH g ht ha hb).trans (congrArg (λx=>some (g x)) (by cases h:decide c with
  | true=>rw [if_pos (fG h)];rfl
  | false=>rw [if_neg (of_decide_eq_false h)];rfl))
theorem pR {c:Prop}[Decidable c]{α:Type}{m n:α}(g:α→AV)(q:decide c=true):some (g m)=some (g (if c then m else n)):=congrArg (λx=>some (g x)) (if_pos (fG q)).symm
theorem lZ {c:Prop}[Decidable c]{α:Type}{m n:α}(g:α→AV)(q:decide c=false):some (g n)=some (g (if c then m else n)):=congrArg (λx=>some (g x)) (if_neg (of_decide_eq_false q)).symm
theorem dw (k:q U V=r):ai aq q U V=r:=k
theorem b8 (k:ai p (ai p' q) U V=r):ai (ai p p') q U V=r:=by
 rw [← k]
 unfold ai
 cases p U V with
 | none=>rfl
 | some o=>obtain ⟨f,l,s⟩:=o;cases f <;> rfl
theorem ew (ha:as U V=some us)(hn:n0≤nf V.length)(h:F us V=some (v,σ1)):bB n0 nf F (yA as) U V=some (v,σ1):=by
 simp only [bB,yA,ha,Option.map_some,if_pos hn,h]
theorem gZ (ho:a U V=some u)(hi:eR V u=some (C,fs))(ha:as U V=some us)(hn:n0≤nf V.length)(h:F (u::us) V=some (v,σ1)):bW n0 nf C F a (yA as) U V=some (v,σ1):=az ho (az hi (cw rfl (az (cB ha rfl) (cw hn h))))
theorem nS (hx:x U V=some (v,σ1))(ho:a U σ1=some (.ref k))(hi:σ1[k]? =some (.inst C fs))(hc:C∈Cs∧fs.length< 100∧n0≤k)(e:σ1.set k (.inst C (cL fs f v))=σ2)(kk:q U σ2=r):ai (aN n0 f Cs a x) q U V=r:=f5 (az hx (az ho (az rfl (az hi (az rfl (cw hc (congrArg (λs=>some (Fl.next,U,s)) e))))))) kk
theorem dK (hn:avs.length=n)(h:X (nf V.length) (eZ Γ.slots.length (avs ++dav)) V=some (.ret v,ℓ1,σ1))(hb:bS V.length v=true):dj (aR Γ n dav nf X) avs V=some v:=by
 unfold dj
 rw [show aR Γ n dav nf X avs V=some (v,σ1) from (if_pos hn).trans (congrArg back h)]
 exact if_pos hb
theorem yG (hn:avs.length=n)(h:X (nf V.length) (eZ Γ.slots.length (avs ++dav)) V=r)(hr:back r=o):aR Γ n dav nf X avs V=o:=(if_pos hn).trans ((congrArg back h).trans hr)
theorem sW (h:x U V=some (.bool z,σ1)):fX x U V=some (z,σ1):=by simp only [fX,h]
theorem eV (h:it U V=some (items,true,σ1))(hl:b9 tgt p items U σ1=some (.next,ℓ1,σ2))(k:q ℓ1 σ2=r):ai (cP it tgt p) q U V=r:=f5 (by simp only [cP,h];exact hl) k
theorem eM (ht:tgt u U V=some (ℓ1,σ1))(hb:p ℓ1 σ1=some (.next,ℓ2,σ2))(k:b9 tgt p us ℓ2 σ2=some (.next,ℓ3,σ3)):b9 tgt p (u::us) U V=some (.next,ℓ3,σ3):=az ht (az hb k)
theorem fh (hn:avs.length=n)(h:X (nf V.length) (eZ Γ.slots.length (avs ++dav)) V=some (.ret v,ℓ1,σ1)):aR Γ n dav nf X avs V=some (v,σ1):=yG hn h rfl
theorem eW (hn:avs.length=n)(h:X (nf V.length) (eZ Γ.slots.length (avs ++dav)) V=some (.next,ℓ1,σ1)):aR Γ n dav nf X avs V=some (.none,σ1):=yG hn h rfl
theorem yq (hn:avs.length=n)(h:back (X (nf V.length) (eZ Γ.slots.length (avs ++dav)) V)=o):aR Γ n dav nf X avs V=o:=yG hn rfl h
theorem yH (h:y U V=some (z,σ1))(h1:z=true→back (ai p q U σ1)=o)(h2:z=false→back (ai p' q U σ1)=o):back (ai (aQ y p p') q U V)=o:=by
 cases z with
 | true=>exact (congrArg back (fV h (λ_=>rfl) λz=>nomatch z)).trans (h1 rfl)
 | false=>exact (congrArg back (fV h (λz=>nomatch z) λ_=>rfl)).trans (h2 rfl)
theorem y3 (h:c=some (.ret v,ℓ1,σ1))(e:σ1=σ2):back c=some (v,σ2):=by rw [h,e];rfl
theorem y4 (h:c=some (.next,ℓ1,σ1))(e:σ1=σ2):back c=some (.none,σ2):=by rw [h,e];rfl
end
set_option genInjectivity false in
structure RowC where
 num:Int
 prio:Int
 key:Int
 act:Bool
 short:Bool
noncomputable def Hd.s:Hd→Str | .dis=>"disabled" | .exp=>"expired" | .cur=>"current" | .dfl=>"defaulted"
noncomputable def Ch.s:Ch→Str | .un=>"unselected" | .sel=>"selected" | .std=>"standby"
noncomputable def Mx.s:Mx→Str | .det=>"detached" | .wai=>"waiting" | .att=>"attached" | .col=>"collecting" | .dst=>"distributing"
noncomputable def bV (r:RowC):AV:= .obj 188 [(0, .int r.num),(1, .int r.prio),(2, .int r.key),(3, .bool r.act),(4, .bool r.short),(5, .bool true)]
noncomputable def d6 (r:RowC)(st:Int):AV:= .tup [.tup [.int 3, .int 77], .int r.key, .tup [.int r.prio, .int r.num], .int st]
noncomputable def Xl (st:Int):AV:= .tup [.tup [.int 0, .int 0], .int 0, .tup [.int 0, .int 0], .int st]
def eG (rp:RowC):Bool→Int→AV
 | true,x=>d6 rp x
 | false,x=>Xl x
def bX (r rp:RowC)(bv:AV)(p:P):List (Nat × AV):=[(6,bV r),(7,d6 r p.st),(8,eG rp p.peer p.pb),(9, .str p.hd.s),(10, .int p.hl),(11, .str p.ch.s),(12, .str p.mx.s),(13,bv),(14, .int p.jl),(15, .int p.tl),(16, .bool p.must),(17, .int p.sent)]
def kV (r rp:RowC)(bv:AV)(p:P):AO:= .inst 279 (bX r rp bv p)
section
variable {V:ar} {k:Nat} {r rp:RowC} {bv:AV} {p:P}
theorem G5:gH [.tup [a,b,c, .int x], .int y] V=some (.bool (eg x y)):=
 dK rfl (bw (aK (fF (dN (dZ rfl rfl rfl) rfl rfl) rfl rfl))) rfl
theorem sj:gH [eG rp peer x, .int y] V=some (.bool (eg x y)):=by
 cases peer <;> exact G5
theorem nA:gH [d6 r x, .int y] V=some (.bool (eg x y)):=G5
theorem Gl (h1:∀k,bS k a=true)(h2:∀k,bS k b=true)(h3:∀k,bS k c=true):j9 [.tup [a,b,c, .int x], .int y, .bool v] V=some (.tup [a,b,c, .int (gy x y v)]):=
 dK rfl (cb (aK (dN (dZ rfl rfl rfl) rfl rfl)) (bw (aK (dN (ku rfl rfl rfl) (kF (aA (lY (dP rfl) (λq=>by rw [q];rfl) λq=>(dN rfl rfl rfl).trans (by rw [q];rfl)) rfl) (bH rfl)) rfl)))) (by
  show (bS _ a && (bS _ b && (bS _ c && true)))=true
  rw [h1,h2,h3];rfl)
theorem Ei:j9 [eG rp peer x, .int y, .bool v] V=some (eG rp peer (gy x y v)):=by
 cases peer <;> exact Gl (λ_=>rfl) (λ_=>rfl) λ_=>rfl
theorem Ej:j9 [d6 r x, .int y, .bool v] V=some (d6 r (gy x y v)):=Gl (λ_=>rfl) (λ_=>rfl) λ_=>rfl
variable (h:V[k]? =some (kV r rp bv p))
include h
theorem io:eR V (.ref k)=some (279,bX r rp bv p):=az h rfl
theorem WJ:ie [.ref k, .int b] V=some (.bool (p.own b)):=
 dK rfl (bw (aK (bQ (aA (bR rfl (io h) (by decide) rfl rfl) (aA rfl rfl)) nA))) rfl
theorem WK:gc [.ref k, .int b] V=some (.bool (p.oth b)):=
 dK rfl (bw (aK (bQ (aA (bR rfl (io h) (by decide) rfl (by cases p.peer <;> rfl)) (aA rfl rfl)) sj))) rfl
theorem HI:fY [.ref k] V=some (.bool p.up):=
 dK rfl (bw (aK (fF (bR rfl (io h) (by decide) rfl rfl) rfl (by unfold P.up;cases p.hd <;> decide +kernel)))) rfl
end
end
section
def W (V:ar)(k:Nat)(r rp:RowC)(bv:AV)(p:P):ar:=V.set k (kV r rp bv p)
section
variable {V:ar} {U:Lo} {k:Nat} {r rp:RowC} {bv bv':AV} {p p':P}
theorem W_len:(W V k r rp bv p).length=V.length:=by simp [W]
theorem Xm (h:V[k]? =some (kV r rp bv p)):W V k r rp bv p=V:=by
 apply List.ext_getElem?
 intro i
 unfold W
 rw [List.getElem?_set]
 split
 ·rename_i e;subst e
  split
  ·exact h.symm
  ·rename_i q;rw [List.getElem?_eq_none (by omega)] at h;cases h
 ·rfl
theorem lE {α:Type}{l:List α}{x:α}(h:l[i]? =some x):i< l.length:=by
 cases Nat.lt_or_ge i l.length with
 | inl q=>exact q
 | inr q=>rw [List.getElem?_eq_none q] at h;cases h
theorem g6:dG (bX r rp bv p) 6=some (bV r):=rfl
theorem g7:dG (bX r rp bv p) 7=some (d6 r p.st):=rfl
theorem g8:dG (bX r rp bv p) 8=some (eG rp p.peer p.pb):=rfl
theorem g9:dG (bX r rp bv p) 9=some (.str p.hd.s):=rfl
theorem H4:dG (bX r rp bv p) 10=some (.int p.hl):=rfl
theorem H5:dG (bX r rp bv p) 11=some (.str p.ch.s):=rfl
theorem H6:dG (bX r rp bv p) 12=some (.str p.mx.s):=rfl
theorem H7:dG (bX r rp bv p) 13=some bv:=rfl
theorem H8:dG (bX r rp bv p) 14=some (.int p.jl):=rfl
theorem xH:kX (eG rp b x)=true:=by cases b <;> rfl
theorem xI:bS n (d6 r x)=true:=rfl
theorem yI:bS n (eG rp b x)=true:=by cases b <;> rfl
theorem WL:bS n (bV r)=true:=rfl
noncomputable def mc (r:RowC):List (Nat × AV):=[(0, .int r.num),(1, .int r.prio),(2, .int r.key),(3, .bool r.act),(4, .bool r.short),(5, .bool true)]
theorem kW:eR V (bV r)=some (188,mc r):=rfl
theorem r0:dG (mc r) 0=some (.int r.num):=rfl
theorem r1:dG (mc r) 1=some (.int r.prio):=rfl
theorem r2:dG (mc r) 2=some (.int r.key):=rfl
noncomputable def gC (m:Int)(q:Nat):List (Nat × AV):=[(19, .tup [.int 3, .int 77]),(20, .int m),(21, .ref q)]
theorem ix (hc:V[c]? =some (.inst 433 (gC m q))):eR V (.ref c)=some (433,gC m q):=az hc rfl
theorem uW (h:cL (bX r rp bv p) f v=bX r rp bv' p'):(W V k r rp bv p).set k (.inst 279 (cL (bX r rp bv p) f v))=W V k r rp bv' p':=by
 rw [h]
 unfold W
 rw [List.set_set]
 rfl
theorem u7:(W V k r rp bv p).set k (.inst 279 (cL (bX r rp bv p) 7 (d6 r x)))=W V k r rp bv { p with st:=x }:=uW rfl
theorem u8:(W V k r rp bv p).set k (.inst 279 (cL (bX r rp bv p) 8 (eG rp b x)))=W V k r rp bv { p with peer:=b,pb:=x }:=uW rfl
theorem X8:(W V k r rp bv p).set k (.inst 279 (cL (bX r rp bv p) 8 (d6 rp x)))=W V k r rp bv { p with peer:=true,pb:=x }:=uW rfl
theorem H9:(W V k r rp bv p).set k (.inst 279 (cL (bX r rp bv p) 8 (.tup [.tup [.int 0, .int 0], .int 0, .tup [.int 0, .int 0], .int x])))=W V k r rp bv { p with peer:=false,pb:=x }:=uW rfl
theorem X9:(W V k r rp bv p).set k (.inst 279 (cL (bX r rp bv p) 9 (.str "disabled")))=W V k r rp bv { p with hd:= .dis }:=uW rfl
theorem Yb:(W V k r rp bv p).set k (.inst 279 (cL (bX r rp bv p) 9 (.str "expired")))=W V k r rp bv { p with hd:= .exp }:=uW rfl
theorem Yc:(W V k r rp bv p).set k (.inst 279 (cL (bX r rp bv p) 9 (.str "current")))=W V k r rp bv { p with hd:= .cur }:=uW rfl
theorem Yd:(W V k r rp bv p).set k (.inst 279 (cL (bX r rp bv p) 9 (.str "defaulted")))=W V k r rp bv { p with hd:= .dfl }:=uW rfl
theorem tP:(W V k r rp bv p).set k (.inst 279 (cL (bX r rp bv p) 10 (.int x)))=W V k r rp bv { p with hl:=x }:=uW rfl
theorem tB:(W V k r rp bv p).set k (.inst 279 (cL (bX r rp bv p) 11 (.str "unselected")))=W V k r rp bv { p with ch:= .un }:=uW rfl
theorem Xn:(W V k r rp bv p).set k (.inst 279 (cL (bX r rp bv p) 11 (.str "selected")))=W V k r rp bv { p with ch:= .sel }:=uW rfl
theorem Ye:(W V k r rp bv p).set k (.inst 279 (cL (bX r rp bv p) 12 (.str w.s)))=W V k r rp bv { p with mx:=w }:=uW rfl
theorem Ia:(W V k r rp bv p).set k (.inst 279 (cL (bX r rp bv p) 13 x))=W V k r rp x p:=uW rfl
theorem Ib:(W V k r rp bv p).set k (.inst 279 (cL (bX r rp bv p) 14 (.int x)))=W V k r rp bv { p with jl:=x }:=uW rfl
theorem tQ:(W V k r rp bv p).set k (.inst 279 (cL (bX r rp bv p) 15 (.int x)))=W V k r rp bv { p with tl:=x }:=uW rfl
theorem ld:(W V k r rp bv p).set k (.inst 279 (cL (bX r rp bv p) 16 (.bool x)))=W V k r rp bv { p with must:=x }:=uW rfl
theorem Ic:(W V k r rp bv p).set k (.inst 279 (cL (bX r rp bv p) 17 (.int x)))=W V k r rp bv { p with sent:=x }:=uW rfl
noncomputable def yJ (b:Bool):AV:=bif b then .tup [.int 3, .int 77] else .tup [.int 0, .int 0]
theorem y5:gq V (eG rp b x) (.int 0)=some (yJ b):=by cases b <;> rfl
theorem Vh:bp (yJ b) (.tup [.int 3, .int 77])=some b:=by cases b <;> rfl
theorem Vi:qa (.tup [.int 3, .int 77]) (yJ b)=some b:=by cases b <;> rfl
theorem c1:279∈ [279]:=List.mem_singleton.mpr rfl
theorem c2:279∈ [279,124]:=bY
theorem nT {c:Prop}[Decidable c]{y:eh}{a q:aF}{R:Option (Fl × Lo × ar)}(h:y U (W V k r rp bv p)=some (decide c,W V k r rp bv p))(h1:a U (W V k r rp bv p)=some (.next,U,W V k r rp bv p'))(kk:q U (W V k r rp bv (if c then p' else p))=R):ai (aQ y a aq) q U (W V k r rp bv p)=R:=
 fV h (λz=>f5 h1 (by rw [if_pos (fG z)] at kk;exact kk)) λz=>dw (by rw [if_neg (of_decide_eq_false z)] at kk;exact kk)
theorem pI (h:y U (W V k r rp bv p)=some (z,W V k r rp bv p))(h1:a U (W V k r rp bv p)=some (.next,U,W V k r rp bv p'))(kk:q U (W V k r rp bv (if z=true then p' else p))=R):ai (aQ y a aq) q U (W V k r rp bv p)=R:=
 nT (h.trans (by rw [Bool.decide_eq_true])) h1 kk
variable (hk:k< V.length)
include hk
theorem gW:(W V k r rp bv p)[k]? =some (.inst 279 (bX r rp bv p)):=by simp [W,kV,hk]
theorem iW:eR (W V k r rp bv p) (.ref k)=some (279,bX r rp bv p):=io (gW hk)
theorem iH (hg:dG (bX r rp bv p) f=some v)(hv:kX v=true):aB f [279] (aa 0) (some (.ref k)::U) (W V k r rp bv p)=some v:=bR rfl (iW hk) (by decide) hg hv
theorem cM (hx:x (some (.ref k)::U) σ0=some (v,W V k r rp bv p))(hC:279∈Cs)(u:(W V k r rp bv p).set k (.inst 279 (cL (bX r rp bv p) f v))=W V k r rp bv' p')(kk:q (some (.ref k)::U) (W V k r rp bv' p')=R):ai (aN 0 f Cs (aa 0) x) q (some (.ref k)::U) σ0=R:=
 nS hx rfl (gW hk) ⟨hC,bH rfl,Nat.zero_le _⟩ u kk
theorem Yg (hx:x (some (.ref k)::U) σ0=some (v,W V k r rp bv p))(hC:279∈Cs)(u:(W V k r rp bv p).set k (.inst 279 (cL (bX r rp bv p) f v))=W V k r rp bv' p')(kk:back (q (some (.ref k)::U) (W V k r rp bv' p'))=o):back (ai (aN 0 f Cs (aa 0) x) q (some (.ref k)::U) σ0)=o:=
 (congrArg back (cM hk hx hC u rfl)).trans kk
theorem nU:ie [.ref k, .int b] (W V k r rp bv p)=some (.bool (p.own b)):=WJ (gW hk)
theorem sX:gc [.ref k, .int b] (W V k r rp bv p)=some (.bool (p.oth b)):=WK (gW hk)
theorem yK:fY [.ref k] (W V k r rp bv p)=some (.bool p.up):=HI (gW hk)
theorem xJ:oJ [.ref k] (W V k r rp bv p)=some (.int p.turn):=
 dK rfl (bw (aK (lY (dP (cW rfl (iW hk) (aA rfl rfl) (sX hk))) (λq=>(congrArg (λi=>some (AV.int i)) (if_pos q)).symm) λq=>(congrArg (λi=>some (AV.int i)) (if_neg (Bool.eq_false_iff.mp q))).symm))) rfl
theorem Vj:tV [.ref k] (W V k r rp bv p)=some (.int (if p.own 2 then 3 else 90)):=
 dK rfl (bw (aK (lY (dP (cW rfl (iW hk) (aA rfl rfl) (nU hk))) (λq=>(congrArg (λi=>some (AV.int i)) (if_pos q)).symm) λq=>(congrArg (λi=>some (AV.int i)) (if_neg (Bool.eq_false_iff.mp q))).symm))) rfl
theorem SO:uA [.ref k] (W V k r rp bv p)=some (.bool p.talks):=
 dK rfl (bw (aK (si (cW rfl (iW hk) rfl (yK hk)) λ_=>G4 (cW rfl (iW hk) (aA rfl rfl) (nU hk)) λ_=>cW rfl (iW hk) (aA rfl rfl) (sX hk)))) rfl
theorem mA:aB 8 [279,124] (aa 0) (some (.ref k)::U) (W V k r rp bv p)=some (eG rp p.peer p.pb):=bR rfl (iW hk) (by decide) rfl xH
theorem mB:aB 7 [279,124] (aa 0) (some (.ref k)::U) (W V k r rp bv p)=some (d6 r p.st):=bR rfl (iW hk) (by decide) rfl rfl
theorem Gm (hl:p.lone=true):qw [.ref k] (W V k r rp bv p)=some (.bool true):=
 dK rfl (fV (bg (jJ (dP (cW rfl (iW hk) (aA rfl rfl) (nU hk))) λ_=>kG (bO (dZ (mA hk) rfl y5) (dZ (mB hk) rfl rfl) Vh))) (λ_=>b8 (bw rfl)) λq=>absurd (q.symm.trans hl) Bool.false_ne_true) rfl
noncomputable def HJ (r rp:RowC)(b:Bool):GK:=if b then ⟨r.key,3,77,rp.key,r.num⟩ else ⟨r.key,0,0,0,r.num⟩
theorem HK (h:dG (mc r) i=some v)(hv:kX v=true):aB i [188] (aB 6 [279] (aa 0)) (some (.ref k)::U) (W V k r rp bv p)=some v:=bR (bR rfl (iW hk) (by decide) rfl rfl) rfl (by decide) h hv
theorem SP (hl:p.lone=true):iI [.ref k] (W V k r rp bv p)=some (aX (HJ r rp p.peer)):=
 dK rfl (cb (aK (lY (dP (cW rfl (iW hk) rfl (Gm hk hl))) (λ_=>HK hk rfl rfl) λq=>nomatch q)) (bw (aK ((kF (aA (HK hk rfl rfl) (aA (dZ (mA hk) rfl y5) (aA (dZ (w:=bif p.peer then .int rp.key else .int 0) (mA hk) rfl (by cases p.peer <;> rfl)) (aA rfl rfl)))) (bH rfl)).trans (by cases p.peer <;> rfl))))) (by cases p.peer <;> rfl)
theorem Vk (hc:(W V k r rp bv p)[c]? =some (.inst 433 (gC m q)))(hl:p.lone=true):qJ [.ref c, .ref k] (W V k r rp bv p)=some (.tup [.int r.prio, .int r.num]):=by
 have i8:∀U,aB 8 [279,124] (aa 1) (some (.ref c)::some (.ref k)::U) (W V k r rp bv p)=some (eG rp p.peer p.pb):=λU=>bR rfl (iW hk) (by decide) rfl xH
 exact dK rfl (bw (aK (lY (jJ (bO (bR rfl (ix hc) (by decide) rfl rfl) (dZ (i8 _) rfl y5) Vi) λ_=>kG (dP (cW rfl (iW hk) rfl (Gm hk hl)))) (λ_=>dZ (bR rfl (iW hk) (by decide) rfl rfl) rfl rfl) λq=>absurd (q.symm.trans (Bool.or_true _)) Bool.false_ne_true))) rfl
end
end
section
theorem Mx.s_inj {a b:Mx}:(a.s == b.s)=decide (a=b):=by cases a <;> cases b <;> decide +kernel
theorem Ch.s_inj {a b:Ch}:(a.s == b.s)=decide (a=b):=by cases a <;> cases b <;> decide +kernel
theorem mxEq {a b:Mx}:bp (.str a.s) (.str b.s)=some (decide (a=b)):=congrArg some Mx.s_inj
theorem qb {a b:Ch}:bp (.str a.s) (.str b.s)=some (decide (a=b)):=congrArg some Ch.s_inj
theorem Xo {a b:Ch}:cY (.str a.s) (.str b.s)=some !decide (a=b):=congrArg (λq=>some !q) Ch.s_inj
noncomputable def sM (m:Mx):AV:= .str m.s
section
variable {V:ar} {U:Lo} {k:Nat} {r rp:RowC} {bv bv':AV} {p p':P}
def tC (r rp:RowC)(m:Ms):List (Nat × AV):=[(7,d6 rp m.st),(8,eG r m.peer m.pb),(18, .int 0)]
def eN (r rp:RowC)(m:Ms):AV:= .obj 124 (tC r rp m)
theorem WM:eR V (eN r rp m)=some (124,tC r rp m):=rfl
theorem p7:dG (tC r rp m) 7=some (d6 rp m.st):=rfl
theorem p8:dG (tC r rp m) 8=some (eG r m.peer m.pb):=rfl
noncomputable def jP (a:RowC)(c:Bool):AV:=bif c then .tup [.tup [.int 3, .int 77], .int a.key, .tup [.int a.prio, .int a.num]] else .tup [.tup [.int 0, .int 0], .int 0, .tup [.int 0, .int 0]]
theorem sY:nk (eG a c x) (.int 3)=some (jP a c):=by cases c <;> rfl
theorem Yh:gq V (eG a c x) (.int 3)=some (.int x):=by cases c <;> rfl
theorem Ek:bp (jP a true) (jP a true)=some true:=(if_pos ⟨rfl,bH rfl⟩).trans (congrArg some (show (((3:Int) == 3 && ((77:Int) == 77 && true)) && (a.key == a.key && ((a.prio == a.prio && (a.num == a.num && true)) && true)))=true by rw [beq_self_eq_true a.key,beq_self_eq_true a.prio,beq_self_eq_true a.num];rfl))
theorem G6:bp (jP a c) (jP a true)=some c:=by
 cases c with
 | false=>rfl
 | true=>exact Ek
theorem Vl:bp (jP a true) (jP a c)=some c:=by
 cases c with
 | false=>rfl
 | true=>exact Ek
theorem Vm:oK [d6 a x,eG a c y] V=some (.bool (Eg c x y)):=
 dK rfl (bw (aK (si (fF (ku rfl rfl rfl) (ku rfl rfl sY) Vl) λ_=>fF (bQ (aA rfl (aA rfl rfl)) nA) (bQ (aA rfl (aA rfl rfl)) sj) rfl))) rfl
theorem SQ:oK [eG a c x,d6 a y] V=some (.bool (c && (eg x 4 == eg y 4))):=
 dK rfl (bw (aK (si (fF (ku rfl rfl sY) (ku rfl rfl rfl) G6) λ_=>fF (bQ (aA rfl (aA rfl rfl)) sj) (bQ (aA rfl (aA rfl rfl)) nA) rfl))) rfl
theorem qo:aB 7 [279,124] (aa 1) (u::some (eN r rp m)::U) V=some (d6 rp m.st):=rfl
theorem tR:aB 8 [279,124] (aa 1) (u::some (eN r rp m)::U) V=some (eG r m.peer m.pb):=bR rfl WM (by decide) p8 xH
variable (hk:k< V.length)
include hk
theorem SS:vT [.ref k,eN r rp m] (W V k r rp bv p)=some (.bool (p.knows m)):=
 dK rfl (bw (aK (si (fF (ku tR rfl sY) (ku (mB hk) rfl rfl) G6) λ_=>fF (dN (dN (dZ tR rfl Yh) (dZ (mB hk) rfl rfl) rfl) rfl rfl) rfl rfl))) rfl
theorem Vn:vx [.ref k,eN r rp m] (W V k r rp bv p)=some (.bool (p.inStep m)):=by
 unfold P.inStep Eh
 refine dK rfl (fV (bg (eo (dP (bQ (aA qo (aA rfl rfl)) nA)))) (λq=>b8 (bw (aK (pR AV.bool (Bool.decide_eq_true.trans q))))) λq=>(fV (bg (iw (eo (dP (bQ (aA qo (aA rfl rfl)) nA))) λ_=>jx (eo (iw (dP (cW rfl (iW hk) (aA rfl rfl) (nU hk))) λ_=>jx (dP (bQ (aA tR (aA rfl rfl)) sj)))))) (λq'=>b8 (bw (aK ?_))) λq'=>bw (aK ((G4 (bQ (aA tR (aA (mB hk) rfl)) SQ) λ_=>Gj (bQ (aA qo (aA rfl rfl)) nA)).trans ?_)))) rfl
 ·exact (pR (m:=false) AV.bool (Bool.decide_eq_true.trans q')).trans (lZ AV.bool (Bool.decide_eq_true.trans q))
 ·exact (lZ AV.bool (Bool.decide_eq_true.trans q')).trans (lZ AV.bool (Bool.decide_eq_true.trans q))
theorem og:aB 12 [279] (aa 0) (some (.ref k)::U) (W V k r rp bv p)=some (sM p.mx):=bR rfl (iW hk) (by decide) rfl rfl
theorem tD:aB 11 [279] (aa 0) (some (.ref k)::U) (W V k r rp bv p)=some (.str p.ch.s):=bR rfl (iW hk) (by decide) rfl rfl
theorem oW:bU (aT 279 gc (aa 0) (ae (aY (.int b)) aj)) (some (.ref k)::U) (W V k r rp bv p)=some (p.oth b):=dP (cW rfl (iW hk) (aA rfl rfl) (sX hk))
omit hk in
theorem HL {z:Bool}(q:(!z)=false):z=true:=(Bool.not_eq_eq_eq_not.mp q).trans rfl
omit hk in
theorem WN {z:Bool}(q:(!z)=true):z=false:=(Bool.not_eq_eq_eq_not.mp q).trans rfl
omit hk in
theorem Vo {c:Prop}[Decidable c]{z:Bool}:(!decide c || !z)=decide (¬c∨z=false):=by simp
theorem G7 (h:p.mx=n)(h0:n= .col∨n= .dst):mN [.ref k, .bool b] (W V k r rp bv p)=some (sM (if p.ch≠ .sel∨p.oth 8=false then .att else if p.oth 16 then .dst else .col)):=by
 have im:∀{m:Mx} (n:Mx) {z:Bool} {u v:Option AV} {U},decide (m=n)=z→aV bp (aa 2) (ah (.str n.s)) (u::v::some (sM m)::U) (W V k r rp bv p)=some z:=λn _ _ _ _ e=>bO rfl rfl (mxEq.trans (congrArg some e))
 have d:decide (n= .det)=false∧decide (n= .wai)=false∧decide (n= .att)=false:=by rcases h0 with rfl | rfl <;> exact ⟨rfl,rfl,rfl⟩
 refine dK rfl (cb (aK ((og hk).trans (congrArg (λm=>some (sM m)) h))) (d0 (bg (im .det d.1)) (dw (d0 (bg (im .wai d.2.1)) (dw (cb (aK (fF (tD hk) rfl (qb (b:= .sel)))) (d0 (bg (im .att d.2.2)) (dw (fV (bg ((jJ (eo (dP rfl)) λ_=>kG (eo (oW hk))).trans (congrArg some Vo))) (λq=>b8 (bw (aK (pR sM (m:=Mx.att) q)))) λq=>dw ?_))))))))) rfl
 rcases h0 with rfl | rfl
 ·exact gu (bg (im .col rfl)) (b8 (bw (aK ((pH sM (oW hk) rfl rfl).trans (lZ sM q)))))
 ·exact d0 (bg (im .col rfl)) (dw (bw (aK ((pH sM (oW hk) rfl rfl).trans (lZ sM q)))))
theorem Vp:mN [.ref k, .bool b] (W V k r rp bv p)=some (.str (p.next b).s):=by
 have hs {b:Ch}:∀{U},aV bp (aB 11 [279] (aa 0)) (ah (.str b.s)) (some (.ref k)::U) (W V k r rp bv p)=some (decide (p.ch=b)):=bO (tD hk) rfl qb
 have im:∀{m:Mx} (n:Mx) {z:Bool} {u v:Option AV} {U},decide (m=n)=z→aV bp (aa 2) (ah (.str n.s)) (u::v::some (sM m)::U) (W V k r rp bv p)=some z:=λn _ _ _ _ e=>bO rfl rfl (mxEq.trans (congrArg some e))
 have to:∀{m:Mx},mN [.ref k, .bool b] (W V k r rp bv p)=some (sM m)→p.next b=m→mN [.ref k, .bool b] (W V k r rp bv p)=some (.str (p.next b).s):=λe q=>q▸e
 cases h:p.mx with
 | det=>
  refine to (m:=if p.ch= .un then .det else .wai) ?_ (by unfold P.next;rw [h])
  exact dK rfl (cb (aK ((og hk).trans (congrArg (λm=>some (sM m)) h))) (gu (bg (im .det rfl)) (b8 (bw (aK (Vg sM (bO (tD hk) rfl (Xo (b:= .un))) rfl rfl)))))) rfl
 | wai=>
  refine to (m:=if p.ch= .un then .det else if p.ch= .sel∧b=true then .att else .wai) ?_ (by unfold P.next;rw [h])
  refine dK rfl (cb (aK ((og hk).trans (congrArg (λm=>some (sM m)) h))) (d0 (bg (im .det rfl)) (dw (gu (bg (im .wai rfl)) (b8 (fV (bg (hs (b:= .un))) (λq=>b8 (bw (aK (pR sM (m:=Mx.det) q)))) λq=>dw (b8 (bw (aK ((Gk (c:=p.ch= .sel∧b=true) sM ?_ rfl rfl).trans (lZ sM q))))))))))) rfl
  exact (iw (hs (b:= .sel)) λ_=>jx (dP rfl)).trans (by rw [Bool.decide_and,Bool.decide_eq_true])
 | att=>
  refine to (m:=if p.ch= .sel then (if p.oth 8 then .col else .att) else .det) ?_ (by unfold P.next;rw [h])
  exact dK rfl (cb (aK ((og hk).trans (congrArg (λm=>some (sM m)) h))) (d0 (bg (im .det rfl)) (dw (d0 (bg (im .wai rfl)) (dw (cb (aK (fF (tD hk) rfl (qb (b:= .sel)))) (gu (bg (im .att rfl)) (b8 (fV (bg (eo (dP rfl))) (λq=>b8 (bw (aK (lZ sM (n:=Mx.det) (WN q))))) λq=>dw (b8 (bw (aK ((pH sM (oW hk) rfl rfl).trans (pR sM (HL q))))))))))))))) rfl
 | col=>exact to (G7 hk h (.inl rfl)) (by unfold P.next;rw [h])
 | dst=>exact to (G7 hk h (.inr rfl)) (by unfold P.next;rw [h])
end
end
section
section
variable {V:ar} {U:Lo} {k:Nat} {r rp:RowC} {bv bv':AV} {p p':P}
theorem ST:cY (d6 a x) (d6 a y)=some (!(x == y)):=congrArg (Option.map not) ((if_pos ⟨rfl,bH rfl⟩:bp (d6 a x) (d6 a y)=fJ (d6 a x) (d6 a y)).trans (congrArg some
 (show (((3:Int) == 3 && ((77:Int) == 77 && true)) && (a.key == a.key && ((a.prio == a.prio && (a.num == a.num && true)) && (x == y && true))))=(x == y) by rw [beq_self_eq_true a.key,beq_self_eq_true a.prio,beq_self_eq_true a.num];exact Bool.and_true _)))
theorem Vq (q:(!(gy p.st b v == p.st))=true):{ p.set b v with must:=true }=p.setF b v:=(if_neg λ(e:gy p.st b v=p.st)=>by rw [e,beq_self_eq_true] at q;cases q).symm
theorem Vr (q:(!(gy p.st b v == p.st))=false):p.set b v=p.setF b v:=(if_pos (show gy p.st b v=p.st from eq_of_beq (HL q))).symm
theorem Wp (h:p=p'):some (Fl.next,U,W V k r rp bv p)=some (Fl.next,U,W V k r rp bv p'):=by rw [h]
variable (hk:k< V.length)
include hk
theorem WO:gD [.ref k, .int b, .bool v] (W V k r rp bv p)=some (.bool (!(gy p.st b v == p.st)),W V k r rp bv (p.set b v)):=
 fh rfl (cb (aK (mB hk)) (cM hk (aK (bQ (aA rfl (aA rfl (aA rfl rfl))) Ej)) c2 u7 (bw (aK (fF (mB hk) rfl ST)))))
theorem xS (ha:a (some (.ref k)::U) (W V k r rp bv p)=some [.int b, .bool v]):bW 0 (λ_=>0) 279 gD (aa 0) (yA a) (some (.ref k)::U) (W V k r rp bv p)=some (.bool (!(gy p.st b v == p.st)),W V k r rp bv (p.set b v)):=
 gZ rfl (iW hk) ha (Nat.zero_le _) (WO hk)
def Gn:aF:=(ai (aQ (fX (bW 0 (λ_=>0) 279 gD (aa 0) (yA (ae (aa 2) (ae (er cY (a8 (bc nH) (yi (aa 1)) (aa 2)) (ah (.int 0))) aj))))) (ai (aN 0 16 [279] (aa 0) (xP (ah (.bool true)))) aq) aq) aq)
theorem xK {w:Mx}:Gn [some (.ref k),some (.str w.s),some (.int b)] (W V k r rp bv p)=some (.next,[some (.ref k),some (.str w.s),some (.int b)],W V k r rp bv (p.setF b (eg w.bits b))):=
 fV (sW (xS hk (aA rfl (aA (fF (dN (u:= .int w.bits) (by cases w <;> rfl) rfl rfl) rfl rfl) rfl)))) (λq=>b8 (cM hk rfl c1 ld (Wp (Vq q)))) λq=>Wp (Vr q)
theorem Vs:vV [.ref k, .str w.s] (W V k r rp bv p)=some (.none,W V k r rp bv (p.move w)):=
 eW rfl (cM hk rfl c1 Ye (eV (p:=Gn) rfl (eM rfl (xK hk) (eM rfl (xK hk) (eM rfl (xK hk) rfl))) rfl))
theorem PT:oX [.ref k, .bool b] (W V k r rp bv p)=some (.bool (decide (p.next b≠p.mx)),
  if p.next b=p.mx then W V k r rp bv p else W V k r rp (if p.next b= .det then .none else bv) (if p.next b= .wai then { p.move (p.next b) with jl:=2 } else p.move (p.next b))):=by
 refine fh rfl (cb (aK (bQ (aA rfl (aA rfl rfl)) (Vp hk))) (fV (bg (bO rfl (og hk) mxEq)) (λq=>b8 (bw ?_)) λq=>dw (eF (ew (aA rfl (aA rfl rfl)) (Nat.zero_le _) (Vs hk)) (nT (bg (bO rfl rfl (mxEq (b:= .wai)))) (cM hk rfl c1 Ib rfl) (fV (bg (bO rfl rfl (mxEq (b:= .det)))) (λq2=>b8 (cM hk rfl c1 Ia (dw (bw ?_)))) λq2=>dw (bw ?_))))))
 ·rw [if_pos (fG q),decide_eq_false (λe=>e (fG q))];rfl
 ·rw [if_neg (of_decide_eq_false q),decide_eq_true (of_decide_eq_false q),if_pos (fG q2)];rfl
 ·rw [if_neg (of_decide_eq_false q),decide_eq_true (of_decide_eq_false q),if_neg (of_decide_eq_false q2)];rfl
end
end
section
section
variable {V:ar} {U:Lo} {k:Nat} {r rp:RowC} {bv bv':AV} {p p':P}
theorem Hd.s_inj {a b:Hd}:(a.s == b.s)=decide (a=b):=by cases a <;> cases b <;> decide +kernel
theorem Xp {a b:Hd}:bp (.str a.s) (.str b.s)=some (decide (a=b)):=congrArg some Hd.s_inj
theorem Xq {a b:Hd}:cY (.str a.s) (.str b.s)=some !decide (a=b):=congrArg (λq=>some !q) Hd.s_inj
theorem Wq (h:p=p'):W V k r rp bv p=W V k r rp bv p':=by rw [h]
theorem Vt:cY (jP a c) (jP a false)=some c:=by cases c <;> rfl
theorem Vu {x y:Int}:(if y< x then y else x)=min x y:=by omega
variable (hk:k< V.length)
include hk
theorem El:qO [.ref k] (W V k r rp bv p)=some (.none,W V k r rp bv p.begin):=
 eW rfl (cM hk rfl c1 Yb (cM hk rfl c1 tP (cM hk (aK (bQ (aA (bQ (aA (mA hk) (aA rfl (aA rfl rfl))) Ei) (aA rfl (aA rfl rfl))) Ei)) c2 u8 (lU (xS hk rfl) (cM hk rfl c1 ld (cM hk (aK (cW rfl (iW hk) rfl (xJ hk))) c1 tQ rfl))))))
theorem WP:vW [.ref k] (W V k r rp bv p)=some (.none,W V k r rp bv p.end_):=
 eW rfl (cM hk rfl c1 X9 (cM hk rfl c1 tP (cM hk rfl c1 tB (cM hk rfl c2 H9 (lU (xS hk rfl) (lU (xS hk rfl) (cM hk rfl c1 ld rfl)))))))
theorem QT:vm [.ref k] (W V k r rp bv p)=some (.none,W V k r rp bv p.silent):=
 yq rfl (yH (bg (bO (iH hk rfl rfl) rfl (Xp (b:= .cur)))) (λq=>y3 (ℓ1:=[some (.ref k)]) (b8 (eF (ew (aA rfl rfl) (Nat.zero_le _) (El hk)) (b8 rfl))) (Wq (if_pos (fG q)).symm))
  λq=>y4 (ℓ1:=[some (.ref k)]) (dw (cM hk rfl c1 Yd (pI (bg (jJ (bO (ku (mA hk) rfl sY) rfl Vt) λ_=>kG (eo (dP (cW rfl (iW hk) (aA rfl rfl) (nU hk)))))) (cM hk rfl c1 tB rfl) (cM hk rfl c2 H9 (lU (xS hk rfl) (lU (xS hk rfl) rfl)))))) (Wq (if_neg (of_decide_eq_false q)).symm))
theorem Vv:se [.ref k,eN r rp m] (W V k r rp bv p)=some (.none,W V k r rp bv (p.hear m)):=
 yq rfl (yH (bg (eo (dP (cW rfl (iW hk) rfl (yK hk))))) (λq=>y3 (ℓ1:=[some (.ref k),some (eN r rp m),none]) (b8 rfl) (Wq (if_pos q).symm))
  λq=>y4 (ℓ1:=[some (.ref k),some (eN r rp m),some (.bool _)]) (dw (pI (bg (jJ (eo (dP (bQ (aA qo (aA (mA hk) rfl)) Vm))) λ_=>kG (dP (cW rfl (iW hk) (aA rfl rfl) (nU hk))))) (cM hk rfl c1 tB rfl)
   (pI (bg (eo (dP (bQ (aA rfl (aA rfl rfl)) (SS hk))))) (cM hk rfl c1 ld rfl) (cb (aK (Gj (cW rfl (iW hk) (aA rfl rfl) (sX hk)))) (cM hk (aK (bQ (aA qo (aA rfl (aA (bQ (aA rfl (aA rfl rfl)) (Vn hk)) rfl))) Ej)) c2 X8
    (lU (xS hk rfl) (lU (xS hk rfl) (cM hk rfl c1 Yc (cM hk (aK (cW rfl (iW hk) rfl (Vj hk))) c1 tP (pI (bg (iw (dP rfl) λ_=>jx (oW hk))) (cM hk rfl c1 tQ (cM hk rfl c1 ld rfl)) rfl)))))))))) (Wq ((if_neg (Bool.eq_false_iff.mp q)).trans rfl).symm))
theorem Vw:oM [.ref k] (W V k r rp bv p)=some (.none,W V k r rp bv p.pass):=
 yq rfl (Yg hk rfl c1 Ic (yH (bg (eo (dP (cW rfl (iW hk) rfl (yK hk))))) (λq=>y3 (ℓ1:=[some (.ref k)]) (b8 rfl) (Wq (if_pos q).symm))
  λq=>y4 (ℓ1:=[some (.ref k)]) (dw (nT (c:= ¬ p.hd= .dfl) (bg ((bO (iH hk rfl rfl) rfl (Xq (b:= .dfl))).trans (congrArg some decide_not.symm))) (cM hk (aK (dN (iH hk rfl rfl) rfl rfl)) c1 tP (nT (bg (bO (iH hk rfl rfl) rfl rfl)) (eF (ew (aA rfl rfl) (Nat.zero_le _) (QT hk)) rfl) rfl))
   (cM hk (aK (dN (bQ (aA (iH hk rfl rfl) (aA (cW rfl (iW hk) rfl (xJ hk)) rfl)) (congrArg (λi=>some (AV.int i)) Vu)) rfl rfl)) c1 tQ (nT (bg (bO (iH hk rfl rfl) rfl rfl)) (cM hk (aK (cW rfl (iW hk) rfl (xJ hk))) c1 tQ (cM hk rfl c1 ld rfl)) rfl)))) (Wq ((if_neg (Bool.eq_false_iff.mp q)).trans (by rw [ite_not])).symm)))
theorem SU:oL [.ref k] (W V k r rp bv p)=some (.none,W V k r rp bv p.wait):=
 eW rfl (nT (c:=p.mx= .wai∧0< p.jl) (bg ((iw (bO (og hk) rfl (mxEq (b:= .wai))) λ_=>jx (bO (iH hk rfl rfl) rfl rfl)).trans (congrArg some (Bool.decide_and ..).symm))) (cM hk (aK (dN (iH hk rfl rfl) rfl rfl)) c1 Ib rfl) rfl)
omit hk in
theorem dq {n0 f:Nat}{C:Addr}{Cs:List Addr}{fs:List (Nat × AV)}{v:AV}{a:a7}{x:bZ}{q:aF}{τ:ar}{R:Option (Fl × Lo × ar)}(hx:x U τ=some (v,V ++ [.inst C fs]))(ho:a U (V ++ [.inst C fs])=some (.ref V.length))(hC:C∈Cs)(hl:Nat.ble (fs.length+1) 100=true)(hn:n0≤V.length)(kk:q U (V ++ [.inst C (cL fs f v)])=R):ai (aN n0 f Cs a x) q U τ=R:=
 nS hx ho (by rw [List.getElem?_append_right (Nat.le_refl _),Nat.sub_self];rfl) ⟨hC,bH hl,hn⟩ (by rw [List.set_append_right _ _ (Nat.le_refl _),Nat.sub_self];rfl) kk
omit hk in
theorem dh {o:AO}:(V ++ [o]).length - 1≤V.length:=by simp
omit hk in
theorem xL {C C':Addr}{F:Fn}{avs:List AV}{fs:List (Nat × AV)}(h:F (.ref V.length::avs) (V ++ [.inst C []])=some (.none,V ++ [.inst C' fs]))(hb:iV V.length fs=true):nX C F avs V=some (.obj C' fs):=by
 unfold nX
 rw [h]
 show (match (V ++ [AO.inst C' fs])[V.length]? with | some (.inst C' fs)=>if iV V.length fs=true then some (AV.obj C' fs) else none | _=>none)=_
 rw [List.getElem?_append_right (Nat.le_refl _),Nat.sub_self]
 exact if_pos hb
omit hk in
theorem ON {a b:AV}{τ:ar}(h1:∀n,bS n a=true)(h2:∀n,bS n b=true):mX [a,b] τ=some (.obj 124 [(7,a),(8,b),(18, .int 0)]):=
 xL (eW rfl (dq (fs:=[]) rfl rfl (by decide) rfl dh (dq rfl rfl (by decide) rfl dh (dq rfl rfl (by decide) rfl dh rfl)))) (by
  show (bS _ a && (bS _ b && true))=true
  rw [h1,h2];rfl)
theorem WQ:oS [.ref k] (W V k r rp bv p)=some (match p.msg.2 with | some m=>eN rp r m | none=> .none,W V k r rp bv p.msg.1):=by
 have e1:(if (!p.talks)=true then { p with must:=false } else p)=if p.talks then p else { p with must:=false }:=by cases p.talks <;> rfl
 refine fh rfl (pI (bg (eo (dP (cW rfl (iW hk) rfl (SO hk))))) (cM hk rfl c1 ld rfl) (fV (bg (jJ (eo (dP (iH hk rfl rfl))) λ_=>kG (bO (iH hk rfl rfl) rfl rfl))) (λq=>b8 (bw ?_))
  λq=>dw (cM hk rfl c1 ld (cM hk (aK (dN (iH hk rfl rfl) rfl rfl)) c1 Ic (bw ((aK (bQ (aA (mB hk) (aA (mA hk) rfl)) (ON (λ_=>xI) λ_=>yI))).trans ?_))))))
 ·rw [e1] at q ⊢
  have e:p.msg=(_,none):=if_pos q
  rw [e];rfl
 ·rw [e1] at q ⊢
  have e:p.msg=(_,some _):=if_neg (Bool.eq_false_iff.mp q)
  rw [e];rfl
end
end
section
set_option genInjectivity false in
structure Cfg where
 n:Nat
 row:Nat→RowC
 mate:Nat→Nat
 most:Int
 h24:n=2∨n=4
 num:∀i,i< n→(row i).num=(i:Int)+1
 m1:1≤most
noncomputable def Cfg.mr (c:Cfg)(i:Nat):RowC:=c.row (c.mate i)
def Cfg.gk (c:Cfg)(i:Nat)(b:Bool):GK:=HJ (c.row i) (c.mr i) b
section
variable {V:ar} {U:Lo} {k:Nat} {g:GK} {i:Int} {v u w:AV} {z:Bool} {a b:a7}
theorem CN {k:GK}:jA (aX k)=some k:=rfl
theorem qd (h:V[k]? =some (.gdict es))(e:b7 es g=some v):gq V (.ref k) (aX g)=some v:=az h (az CN e)
theorem yL (h:V[k]? =some (.idict es))(e:fk es i=some v):gq V (.ref k) (.int i)=some v:=az h e
theorem Id (h:V[k]? =some (.gdict es))(e:(b7 es g).isSome=z):pX V (aX g) (.ref k)=some z:=az rfl (az h (congrArg some e))
theorem Ie (h:V[k]? =some (.idict es))(e:(fk es i).isSome=z):pX V (.int i) (.ref k)=some z:=az rfl (az h (cB rfl e))
theorem Xr (h:V[k]? =some (.gdict es))(hl:es.length≤10000):lW 0 V (.ref k) (aX g) v=some (V.set k (.gdict (f6 es g v))):=az rfl (cw (Nat.zero_le _) (az h (cB (cw hl rfl) rfl)))
theorem Em (h:V[k]? =some (.idict es))(hl:es.length≤4):iT [.ref k] V=some (.lst ((gp (λi j=>decide (i< j)) (es.map (·.1))).map AV.int)):=az rfl (az rfl (az h (cw hl rfl)))
theorem SV (h:V[k]? =some (.gdict es))(hl:es.length≤4):iT [.ref k] V=some (.lst ((gp n5 (es.map (·.1))).map aX)):=az rfl (az rfl (az h (cw hl rfl)))
theorem WR (h:V[k]? =some (.gdict es)):nr V (.ref k)=some (es.map λp=>aX p.1,false):=az h rfl
theorem tE (ha:a U V=some u)(hb:b U V=some v)(h:pX V u v=some z):jN neg a b U V=some (z != neg):=az ha (az hb (cB h rfl))
theorem hM (ha:a U V=some v)(h:nr V v=some p):iP a U V=some p:=az ha h
theorem gS (hi:it U V=some (l,f))(hl:l.length≤10000)(h:dY a ts (iC cap U) V l=some ys):d5 it cap a ts U V=some (.lst ys):=az hi (cw hl (cB h rfl))
theorem nB (h:x U V=some (v,σ1))(ht:t v U σ1=some (ℓ1,σ2))(kk:q ℓ1 σ2=r):ai (iu t x) q U V=r:=f5 (az h (cB ht rfl)) kk
theorem nC (ha:a U V=some u)(hb:b U V=some w)(h:lW n0 V u w v=some σ1):iA n0 a b v U V=some (U,σ1):=az ha (az hb (cB h rfl))
theorem Xs (ht:tgt u U V=some (ℓ1,σ1))(hb:p ℓ1 σ1=some (.cont,ℓ2,σ2))(k:b9 tgt p us ℓ2 σ2=some (.next,ℓ3,σ3)):b9 tgt p (u::us) U V=some (.next,ℓ3,σ3):=az ht (az hb k)
theorem SW (hx:x U V=some (.lst l,σ1))(hb:b U σ1=some v)(h:nk (.lst l) v=some w):yk x b U V=some (w,σ1):=az hx (az hb (az rfl (cB h rfl)))
theorem fw (h:x U V=some (u,σ1))(hr:xs U σ1=some (us,σ2)):cH x xs U V=some (u::us,σ2):=by simp only [cH,h,hr]
theorem xM (h:xs U V=some (us,σ1))(hl:us.length≤10000):nZ xs U V=some (.tup us,σ1):=az h (cw hl rfl)
theorem Gp {i j:Nat}(h:x U V=some (.tup [u,v],σ1))(kk:q ((U.set j (some v)).set i (some u)) σ1=r):ai (nM i j x) q U V=r:=f5 (az h rfl) kk
theorem Xu (h:y U V=some (false,V)):ko y p (n+1) U V=some (.next,U,V):=az h rfl
theorem Xv (h:y U V=some (true,V))(hp:p U V=some (.next,ℓ1,V))(k:ko y p n ℓ1 V=r):ko y p (n+1) U V=r:=az h (az hp k)
end
theorem Cfg.gk_n {c:Cfg}:(c.gk i b).n=(c.row i).num:=by cases b <;> rfl
theorem Cfg.gk_s {c:Cfg}:(c.gk i b).s1=bif b then 3 else 0:=by cases b <;> rfl
theorem QU (h:(bif a then (3:Int) else 0)=bif b then 3 else 0):a=b:=by
 cases a <;> cases b <;> first | rfl | exact absurd h (by decide)
theorem wY {i j:Nat}(h:(i:Int)+1=(j:Int)+1):i=j:=Int.ofNat.inj ((Int.add_left_inj 1).mp h)
theorem xN {c:Cfg}(hi:i< c.n)(hj:j< c.n)(h:c.gk i a=c.gk j b):i=j∧a=b:=
 ⟨wY ((c.num i hi).symm.trans (Cfg.gk_n.symm.trans ((congrArg GK.n h).trans (Cfg.gk_n.trans (c.num j hj))))),QU (Cfg.gk_s.symm.trans ((congrArg GK.s1 h).trans Cfg.gk_s))⟩
noncomputable def cg (ν:Nat→Bool→Int)(i:Nat):Option Bool→AV
 | none=> .none
 | some b=> .int (ν i b)
noncomputable def upd {α:Type}(s:Nat→α)(i:Nat)(x:α):Nat→α:=λj=>if j=i then x else s j
theorem ee {s:Nat→α}{x:α}:upd s i x i=x:=if_pos rfl
theorem ek {s:Nat→α}{x:α}(h:j≠i):upd s i x j=s j:=if_neg h
noncomputable def fS (n:Nat):List (Int × AV):=(List.range n).map λ(i:Nat)=>((i:Int)+1,AV.ref (i+2))
noncomputable def dW (n:Nat):List AV:=(List.range n).map λ(i:Nat)=>AV.ref (i+2)
structure Enc (c:Cfg) (ν:Nat→Bool→Int) (es:List (GK × AV)) (s:Nat→S) (V:ar):Prop where
 len:c.n+4≤V.length
 o0:V[0]? =some (.inst 543 [(22, .ref 1),(23, .ref (c.n+2))])
 o1:V[1]? =some (.idict (fS c.n))
 op:∀i,i< c.n→V[i+2]? =some (kV (c.row i) (c.mr i) (cg ν i (s i).bd) (s i).p)
 oc:V[c.n+2]? =some (.inst 433 (gC c.most (c.n+3)))
 on:V[c.n+3]? =some (.gdict es)
structure Num (c:Cfg) (ν:Nat→Bool→Int) (es:List (GK × AV)) (s:Nat→S):Prop where
 get:∀i,i< c.n→∀b,b7 es (c.gk i b)=if (s i).ent b=true then some (.int (ν i b)) else none
 mem:∀p∈es,∃i b,i< c.n∧(s i).ent b=true∧p=(c.gk i b,AV.int (ν i b))
 inj:∀i j a b,i< c.n→j< c.n→(s i).ent a=true→(s j).ent b=true→ν i a=ν j b→i=j∧a=b
 nd:(es.map (·.1)).Nodup
 bd:∀i,i< c.n→∀b,(s i).bd=some b→(s i).ent b=true
noncomputable def Far (c:Cfg)(V σ':ar):Prop:=σ'.length=V.length∧∀j,c.n+4≤j→σ'[j]? =V[j]?
theorem Far.refl:Far c V V:=⟨rfl,λ_ _=>rfl⟩
theorem Far.trans (a:Far c V σ')(b:Far c σ' σ''):Far c V σ'':=⟨b.1.trans a.1,λj h=>(b.2 j h).trans (a.2 j h)⟩
section
variable {c:Cfg} {ν:Nat→Bool→Int} {es:List (GK × AV)} {s:Nat→S} {V:ar}
theorem Enc.lt (E:Enc c ν es s V)(hi:i< c.n):i+2< V.length:=Nat.lt_of_lt_of_le (Nat.add_lt_add hi (by decide)) E.len
theorem Enc.w (E:Enc c ν es s V)(hi:i< c.n):W V (i+2) (c.row i) (c.mr i) (cg ν i (s i).bd) (s i).p=V:=Xm (E.op i hi)
theorem kH (h:j≠k):(W V k r rp bv p)[j]? =V[j]? :=by unfold W;rw [List.getElem?_set_ne (Ne.symm h)]
theorem Yi:0≠i+2:=nofun
theorem Yj:1≠i+2:=nofun
theorem Yk (h:i< n):n+2≠i+2:=λe=>absurd (Nat.add_right_cancel e) (Nat.ne_of_gt h)
theorem Yl (h:i< n):n+3≠i+2:=Nat.ne_of_gt (Nat.add_lt_add h (by decide))
theorem y6 (h:i< n)(hj:n+4≤j):j≠i+2:=Nat.ne_of_gt (Nat.lt_of_lt_of_le (Nat.add_lt_add h (by decide)) hj)
theorem Enc.put (E:Enc c ν es s V)(hi:i< c.n)(x:S)(hb:bv=cg ν i x.bd):Enc c ν es (upd s i x) (W V (i+2) (c.row i) (c.mr i) bv x.p) where
 len:=W_len.symm▸E.len
 o0:=(kH Yi).trans E.o0
 o1:=(kH Yj).trans E.o1
 op:=λj hj=>by
  by_cases h:j=i
  ·subst h
   rw [ee,← hb]
   exact gW (E.lt hj)
  ·exact (ek h)▸(kH λe=>h (Nat.add_right_cancel e)).trans (E.op j hj)
 oc:=(kH (Yk hi)).trans E.oc
 on:=(kH (Yl hi)).trans E.on
theorem yr (hi:i< c.n):Far c V (W V (i+2) r rp bv p):=⟨W_len,λj hj=>kH (y6 hi hj)⟩
theorem Enc.io (E:Enc c ν es s V)(hi:i< c.n):eR V (.ref (i+2))=some (279,bX (c.row i) (c.mr i) (cg ν i (s i).bd) (s i).p):=Mine.io (E.op i hi)
theorem Enc.up (E:Enc c ν es s V)(hi:i< c.n):fY [.ref (i+2)] V=some (.bool (s i).p.up):=HI (E.op i hi)
theorem Enc.group (E:Enc c ν es s V)(hi:i< c.n)(hl:(s i).p.lone=true):iI [.ref (i+2)] V=some (aX (c.gk i (s i).cur)):=by
 haveI:=SP (V:=V) (r:=c.row i) (rp:=c.mr i) (bv:=cg ν i (s i).bd) (E.lt hi) hl
 rwa [E.w hi] at this
theorem Enc.rank (E:Enc c ν es s V)(hi:i< c.n)(hl:(s i).p.lone=true):qJ [.ref (c.n+2), .ref (i+2)] V=some (.tup [.int (c.row i).prio, .int (c.row i).num]):=by
 haveI:=Vk (V:=V) (r:=c.row i) (rp:=c.mr i) (bv:=cg ν i (s i).bd) (E.lt hi) (c:=c.n+2) (m:=c.most) (q:=c.n+3) (by refine (E.w hi).symm▸ ?_;exact E.oc) hl
 rwa [E.w hi] at this
theorem jQ (h:V[0]? =some (.inst 543 [(22, .ref 1),(23, .ref q)])):eR V (.ref 0)=some (543,[(22, .ref 1),(23, .ref q)]):=az h rfl
theorem Bz:∀(l:List Nat),i∈l→fk (l.map λ(i:Nat)=>((i:Int)+1,AV.ref (i+2))) ((i:Int)+1)=some (.ref (i+2))
 | [],h=>nomatch h
 | j::r,h=>by
  by_cases e:j=i
  ·exact e▸if_pos rfl
  ·exact (if_neg λq=>e (wY q)).trans (Bz r ((aU h).resolve_left (Ne.symm e)))
theorem v4 (hi:i< n):fk (fS n) ((i:Int)+1)=some (.ref (i+2)):=Bz _ (List.mem_range.mpr hi)
theorem tS (hx:x U V=some (.ref 0))(h:V[0]? =some (.inst 543 [(22, .ref 1),(23, .ref q)])):aB 22 [543] x U V=some (.ref 1):=bR hx (jQ h) (by decide) rfl rfl
theorem Enc.port (E:Enc c ν es s V)(hi:i< c.n):lw [.ref 0, .int ((i:Int)+1)] V=some (.ref (i+2)):=
 dK rfl (d0 (bg (tE rfl (tS rfl E.o0) (Ie E.o1 (congrArg Option.isSome (v4 hi))))) (dw (bw (aK (dZ (tS rfl E.o0) rfl (yL E.o1 (v4 hi))))))) (decide_eq_true (E.lt hi))
theorem me {caps:Lo}(h:gx ts (some x::caps) V=some false)(k:dY elt ts caps V l=some ys):dY elt ts caps V (x::l)=some ys:=by simp only [dY,h,k]
theorem tF {caps:Lo}(h:gx ts (some x::caps) V=some true)(e:elt (some x::caps) V=some y)(k:dY elt ts caps V l=some ys):dY elt ts caps V (x::l)=some (y::ys):=by simp only [dY,h,e,k,Option.bind_some,Option.map_some]
theorem rB {caps:Lo}{α:Type}{f:α→AV}{k:α→Bool}{g:α→AV}(l:List α):(∀x∈l,gx ts (some (f x)::caps) V=some (k x))→(∀x∈l,k x=true→elt (some (f x)::caps) V=some (g x))→dY elt ts caps V (l.map f)=some ((l.filter k).map g):=by
 induction l with
 | nil=>exact λ_ _=>rfl
 | cons x l ih=>
  intro h1 h2
  haveI i:=ih (λy hy=>h1 y (cQ _ hy)) (λy hy=>h2 y (cQ _ hy))
  haveI h:=h1 x bY
  refine (List.filter_cons)▸ ?_
  cases hk:k x with
  | false=>exact me (hk▸h) i
  | true=>exact tF (hk▸h) (h2 x bY hk) i
theorem rC {caps:Lo}{α:Type}{f g:α→AV}(l:List α):(∀x∈l,elt (some (f x)::caps) V=some (g x))→dY elt [] caps V (l.map f)=some (l.map g):=by
 induction l with
 | nil=>exact λ_=>rfl
 | cons x l ih=>exact λh=>tF rfl (h x bY) (ih λy hy=>h y (cQ _ hy))
theorem QV (h:n=2∨n=4):gp (λi j=>decide (i< j)) ((fS n).map (·.1))=(List.range n).map λ(i:Nat)=>(i:Int)+1:=by
 rcases h with rfl | rfl <;> decide +kernel
theorem M5 (l:List Nat):(∀i∈l,i+2< m)→c8 m (l.map λ(i:Nat)=>AV.ref (i+2))=true:=by
 induction l with
 | nil=>exact λ_=>rfl
 | cons j r ih=>exact λh=>Bool.and_eq_true_iff.mpr ⟨decide_eq_true (h j bY),ih λi hi=>h i (cQ _ hi)⟩
theorem NG (h:n+2≤m):c8 m (dW n)=true:=M5 _ λi hi=>Nat.lt_of_lt_of_le (Nat.add_lt_add_right (cI hi) 2) h
theorem Cfg.n4 (c:Cfg):c.n≤4:=c.h24.elim (λh=>h▸by decide) λh=>Nat.le_of_eq h
theorem Enc.all (E:Enc c ν es s V):jW [.ref 0] V=some (.lst (dW c.n)):=by
 haveI hs:iT [.ref 1] V=some (.lst ((List.range c.n).map (AV.int ∘ λ(i:Nat)=>(i:Int)+1))):=by
  rw [Em E.o1 (by rw [fS,List.length_map,List.length_range];exact c.n4),QV c.h24,List.map_map]
 exact dK rfl (bw (aK (gS (hM (bQ (aA (tS rfl E.o0) rfl) hs) rfl) (by rw [List.length_map,List.length_range];exact ba c.n4 (by decide))
  (rC (g:=λ(i:Nat)=>AV.ref (i+2)) (List.range c.n) λi hi=>dZ (tS rfl E.o0) rfl (yL E.o1 (v4 (cI hi))))))) (NG (ba (Nat.add_le_add_left (by decide) _) E.len))
theorem QW (nd:(es.map (·.1)).Nodup)(h:(k,v)∈es):b7 es k=some v:=by
 induction es with
 | nil=>cases h
 | cons p r ih=>
  have nd':=List.nodup_cons.mp nd
  refine (aU h).elim (λe=>e▸if_pos rfl) λh=>(if_neg λe=>nd'.1 ?_).trans (ih nd'.2 h)
  exact List.mem_map.mpr ⟨_,h,e.symm⟩
theorem Gq {α:Type}[BEq α][LawfulBEq α]:∀(l m:List α),l.Nodup→(∀x∈l,x∈m)→l.length≤m.length
 | [],m,_,_=>Nat.zero_le _
 | x::l,m,nd,h=>by
  rw [List.nodup_cons] at nd
  haveI hx:=h x bY
  have:=Gq l (m.erase x) nd.2 λy hy=>(List.mem_erase_of_ne (λ(e:y=x)=>nd.1 (by exact (e)▸hy))).mpr (h y (cQ _ hy))
  rw [List.length_erase_of_mem hx] at this
  haveI:=List.length_pos_of_mem hx
  simp only [List.length_cons];omega
theorem Num.len (N:Num c ν es s):es.length≤8:=by
 have:=Gq (es.map (·.1)) (((List.range c.n).map λi=>c.gk i false) ++((List.range c.n).map λi=>c.gk i true)) N.nd λx hx=>by
  refine aW (List.mem_map.mp hx) λp hp rf2=> ?_;subst rf2
  refine aS (N.mem p hp) λi b hi _ rf4=> ?_;subst rf4
  cases b
  ·exact dE _ (List.mem_map.mpr ⟨i,List.mem_range.mpr hi,rfl⟩)
  ·exact dy _ (List.mem_map.mpr ⟨i,List.mem_range.mpr hi,rfl⟩)
 simp only [List.length_map,List.length_append,List.length_range] at this
 haveI:=c.n4
 omega
theorem wz (h:b7 es k=none):f6 es k v=es ++ [(k,v)]:=by
 induction es with
 | nil=>rfl
 | cons p r ih=>
  by_cases e:p.1=k
  ·exact absurd ((if_pos e).symm.trans h) (Option.some_ne_none _)
  ·exact (if_neg e).trans (congrArg (p:: ·) (ih ((if_neg e).symm.trans h)))
theorem BA:b7 (es ++ [(k,v)]) j=match b7 es j with | some x=>some x | none=>if k=j then some v else none:=by
 induction es with
 | nil=>rfl
 | cons p r ih=>
  obtain ⟨i,w⟩:=p
  dsimp only [List.cons_append,b7]
  split
  ·rfl
  ·exact ih
theorem M6 (h:b7 es k=none):k∉es.map (·.1):=by
 induction es with
 | nil=>exact bq
 | cons p r ih=>
  by_cases e:p.1=k
  ·exact absurd ((if_pos e).symm.trans h) (Option.some_ne_none _)
  ·exact λm=>(aU m).elim (λq=>e q.symm) (ih ((if_neg e).symm.trans h))
theorem anyInt {us:List Int}:fZ (.int m) (us.map AV.int)=some (decide (m∈us)):=by
 induction us with
 | nil=>rfl
 | cons u us ih=>
  refine az rfl (cB ih ?_)
  by_cases h:u=m
  ·subst h;simp
  ·rw [beq_eq_false_iff_ne.mpr h,Bool.false_or]
   exact decide_eq_decide.mpr ⟨cQ _,λq=>(aU q).elim (λe=>absurd e.symm h) id⟩
theorem xO:∀(us:List Int),fE (us.map AV.int)=0
 | []=>rfl
 | u::us=>by simp [fE,jD,xO us]
theorem Gr:∀(n:Nat) (us:List Int),us.length< n→∃m:Int,1≤m∧m≤n∧m∉us
 | 0,us,h=>absurd h (Nat.not_lt_zero _)
 | n+1,us,h=>by
  by_cases hm:((n+1:Nat):Int)∈us
  ·haveI hl:=List.length_erase_of_mem hm
   haveI hp:0< us.length:=List.length_pos_of_mem hm
   refine dm (Gr n (us.erase ((n+1:Nat):Int)) (by omega)) λm h1 h2 h3=> ?_
   refine ⟨m,h1,by omega,λq=>h3 ?_⟩
   exact (List.mem_erase_of_ne (by omega)).mpr q
  ·exact ⟨((n+1:Nat):Int),by omega,by omega,hm⟩
theorem PU {us:List Int}(f:Nat):∀(k:Int),(∃m:Int,k≤m∧m< k+f∧m∉us)→
  ∃m,m∉us∧ko (yT (aV fb (aa 3) (aa 2))) (ai (bx 3 (xP (a8 eI (aa 3) (ah (.int 1))))) aq) f [a,b,some (.lst (us.map AV.int)),some (.int k)] V=some (.next,[a,b,some (.lst (us.map AV.int)),some (.int m)],V):=by
 have t:∀{k:Int} {z:Bool},decide (k∈us)=z→yT (aV fb (aa 3) (aa 2)) [a,b,some (.lst (us.map AV.int)),some (.int k)] V=some (z,V):=λe=>
  bg (bO rfl rfl ((if_pos (by rw [xO];exact Nat.zero_le _)).trans (anyInt.trans (congrArg some e))))
 induction f with
 | zero=>exact λk ⟨m,h1,h2,_⟩=>absurd h2 (by omega)
 | succ f ih=>
  intro k h
  by_cases hk:k∈us
  ·refine (ih (k+1) ?_).imp λm' q=>⟨q.1,Xv (t (decide_eq_true hk)) rfl q.2⟩
   exact h.imp λm h=>⟨Int.add_one_le_of_lt (Int.lt_iff_le_and_ne.mpr ⟨h.1,λe=>h.2.2 (e▸hk)⟩),by rw [Int.add_assoc,Int.add_comm 1];exact h.2.1,h.2.2⟩
  ·exact ⟨k,hk,Xu (t (decide_eq_false hk))⟩
variable (E:Enc c ν es s V) (N:Num c ν es s)
include E N
omit N in
noncomputable def mh:AV→Int | .int x=>x | _=>0
omit E in
theorem Num.vals:es.map (·.2)=(es.map λp=>mh p.2).map AV.int:=by
 rw [List.map_map]
 refine List.map_congr_left λp hp=> ?_
 refine aS (N.mem p hp) λi b _ _ rf4=> ?_;subst rf4
 rfl
omit N in
theorem ou {U:Lo}{x:a7}(hx:x U V=some (.ref (c.n+2))):aB 21 [433] x U V=some (.ref (c.n+3)):=bR hx (ix E.oc) (List.mem_singleton.mpr rfl) rfl rfl
theorem Enc.used:dY (bz (aB 21 [433] (aa 1)) (aa 0)) [] (iC (some ("self",0)) [some (.ref (c.n+2)),a,none,none]) V (es.map λp=>aX p.1)=some ((es.map λp=>mh p.2).map AV.int):=
 (rC (f:=λ(p:GK × AV)=>aX p.1) (g:=λp=>p.2) es λp hp=>dZ (ou E rfl) rfl (qd E.on (QW N.nd hp))).trans (congrArg some N.vals)
theorem Enc.number_old (hi:i< c.n)(hb:(s i).ent b=true):oB [.ref (c.n+2),aX (c.gk i b)] V=some (.int (ν i b),V):=by
 haveI hg:=(N.get i hi b).trans (if_pos hb)
 exact fh rfl (d0 (bg (tE rfl (ou E rfl) (Id E.on (congrArg Option.isSome hg)))) (dw (bw (aK (dZ (ou E rfl) rfl (qd E.on hg))))))
omit E N in
theorem Dq {es:List (GK × AV)}{k:GK}{v:AV}(h:b7 es k=none):b7 (es ++ [(k,v)]) k=some v:=by rw [BA,h];exact if_pos rfl
theorem Enc.number_new (hi:i< c.n)(hb:(s i).ent b=false):∃m:Int,m∉es.map (λp=>mh p.2)∧oB [.ref (c.n+2),aX (c.gk i b)] V=some (.int m,V.set (c.n+3) (.gdict (es ++ [(c.gk i b, .int m)]))):=by
 have hg:=(N.get i hi b).trans (if_neg (Bool.eq_false_iff.mp hb))
 haveI hl:=N.len
 refine (PU (us:=es.map λp=>mh p.2) (a:=some (.ref (c.n+2))) (b:=some (aX (c.gk i b))) (V:=V) 60 1 ?_).imp λm h=>⟨h.1,?_⟩
 ·exact (Gr 9 (es.map λp=>mh p.2) (by rw [List.length_map];exact Nat.lt_succ_of_le hl)).imp λm h=>⟨h.1,Int.lt_of_le_of_lt h.2.1 (by decide),h.2.2⟩
 ·haveI hlt:c.n+3< V.length:=Nat.lt_of_lt_of_le (Nat.lt_succ_self _) E.len
  haveI hc:∀{o},(V.set (c.n+3) o)[c.n+2]? =some (.inst 433 (gC c.most (c.n+3))):=(List.getElem?_set_ne (Nat.ne_of_gt (Nat.lt_succ_self _))).trans E.oc
  refine Eq.trans (fh rfl (gu (bg (tE rfl (ou E rfl) (Id E.on (congrArg Option.isSome hg)))) (b8 (cb (aK (gS (hM (ou E rfl) (WR E.on)) (by rw [List.length_map];exact ba hl (by decide)) (E.used N))) (b8 (cb rfl (b8 (f5 h.2 (b8 (nB rfl (nC (ou E rfl) rfl (Xr E.on (ba hl (by decide)))) (dw (bw (aK (dZ (bR rfl (ix hc) (List.mem_singleton.mpr rfl) rfl rfl) rfl (qd (List.getElem?_set_self hlt) (by exact (wz hg)▸Dq hg)))))))))))))))) (by rw [wz hg])
end
end
section
section
variable {c:Cfg} {ν ν':Nat→Bool→Int} {es es':List (GK × AV)} {s s':Nat→S} {V σ':ar}
theorem OO (h:∀b,x=some b→ν' i b=ν i b):cg ν' i x=cg ν i x:=by
 cases x with
 | none=>rfl
 | some b=>exact congrArg AV.int (h b rfl)
theorem Enc.congr (E:Enc c ν es s V)(h:∀j,j< c.n→(s' j).bd=(s j).bd∧(s' j).p=(s j).p)(hν:∀j,j< c.n→∀b,(s j).bd=some b→ν' j b=ν j b):Enc c ν' es s' V:=
 ⟨E.len,E.o0,E.o1,λj hj=>by rw [(h j hj).1,(h j hj).2,OO (hν j hj)];exact E.op j hj,E.oc,E.on⟩
theorem sZ (h:i< n)(e:V[i]? =σ'[i]?):(V.set n o)[i]? =σ'[i]? :=(List.getElem?_set_ne (Nat.ne_of_gt h)).trans e
theorem Enc.nums (E:Enc c ν es s V):Enc c ν es' s (V.set (c.n+3) (.gdict es')):=
 ⟨List.length_set.symm▸E.len,(sZ (Nat.succ_pos _) rfl).trans E.o0,(sZ (Nat.succ_lt_succ (Nat.succ_pos _)) rfl).trans E.o1,λj hj=>(sZ (Nat.add_lt_add hj (by decide)) rfl).trans (E.op j hj),(sZ (Nat.lt_succ_self _) rfl).trans E.oc,List.getElem?_set_self (Nat.lt_of_lt_of_le (Nat.lt_succ_self _) E.len)⟩
theorem Ds:Far c V (V.set (c.n+3) (.gdict es')):=⟨List.length_set,λj hj=>List.getElem?_set_ne (Nat.ne_of_lt hj)⟩
theorem mY {x:S}:(x.setE a v).ent b=if b=a then v else x.ent b:=by cases a <;> cases b <;> rfl
theorem En {x:S}:(x.setE a v).bd=x.bd:=by cases a <;> rfl
theorem pJ {x:S}:(x.setE a v).p=x.p:=by cases a <;> rfl
noncomputable def oh (ν:Nat→Bool→Int)(i:Nat)(b:Bool)(m:Int):Nat→Bool→Int:=λj a=>if j=i∧a=b then m else ν j a
theorem Num.congr (N:Num c ν es s)(h:∀j,j< c.n→(∀b,(s' j).ent b=(s j).ent b)∧∀b,(s' j).bd=some b→(s j).ent b=true):Num c ν es s':=
 ⟨λj hj b=>(h j hj).1 b▸N.get j hj b,λp hp=>(N.mem p hp).imp λj q=>q.imp λb q=>⟨q.1,((h j q.1).1 b).trans q.2.1,q.2.2⟩,
  λj k a b hj hk h1 h2=>N.inj j k a b hj hk (((h j hj).1 a).symm.trans h1) (((h k hk).1 b).symm.trans h2),N.nd,λj hj b e=>((h j hj).1 b).trans ((h j hj).2 b e)⟩
theorem Eo (h:b7 es k=some v):(k,v)∈es:=by
 induction es with
 | nil=>cases h
 | cons p r ih=>
  by_cases e:p.1=k
  ·exact List.mem_cons.mpr (.inl (Prod.ext e.symm (aD (h.symm.trans (if_pos e)))))
  ·exact cQ _ (ih ((if_neg e).symm.trans h))
theorem QX (h:k≠j):b7 (es ++ [(k,v)]) j=b7 es j:=by
 rw [BA]
 cases b7 es j with
 | some x=>rfl
 | none=>exact if_neg h
theorem Num.add (N:Num c ν es s)(hi:i< c.n)(hb:(s i).ent b=false)(hm:m∉es.map (λp=>mh p.2))(s1:(s' i).ent b=true)(s0:∀j a,¬(j=i∧a=b)→(s' j).ent a=(s j).ent a)(sb:∀j,(s' j).bd=(s j).bd):
  Num c (oh ν i b m) (es ++ [(c.gk i b, .int m)]) s':=by
 have hg:=(N.get i hi b).trans (if_neg (Bool.eq_false_iff.mp hb))
 have ne:∀{j a},(s j).ent a=true→ ¬(j=i∧a=b):=λh e=>Bool.false_ne_true (hb.symm.trans (by rw [← e.1,← e.2];exact h))
 have hv:∀{j a},j< c.n→(s j).ent a=true→ν j a≠m:=λhj h e=>hm (e▸List.mem_map.mpr ⟨_,Eo ((N.get _ hj _).trans (if_pos h)),rfl⟩)
 have u0:∀{j a},¬(j=i∧a=b)→oh ν i b m j a=ν j a:=λh=>if_neg h
 refine ⟨λj hj a=> ?_,λp hp=>(bC hp).elim (λq=>(N.mem p q).imp λj q=>q.imp λa q=>⟨q.1,(s0 j a (ne q.2.1)).trans q.2.1,q.2.2.trans (by rw [u0 (ne q.2.1)])⟩) λq=>⟨i,b,hi,s1,(aH q).trans (by rw [show oh ν i b m i b=m from if_pos ⟨rfl,rfl⟩])⟩,λj k a d hj hk h1 h2 h3=> ?_,?_,λj hj a h=> ?_⟩
 ·by_cases h:j=i∧a=b
  ·rw [h.1,h.2,if_pos s1,show oh ν i b m i b=m from if_pos ⟨rfl,rfl⟩];exact Dq hg
  ·rw [u0 h,s0 j a h,← N.get j hj a];exact QX λq=>h (by have:=xN hi hj q;exact ⟨this.1.symm,this.2.symm⟩)
 ·by_cases q1:j=i∧a=b
  ·by_cases q2:k=i∧d=b
   ·exact ⟨q1.1.trans q2.1.symm,q1.2.trans q2.2.symm⟩
   ·exact absurd ((u0 q2).symm.trans (h3.symm.trans (if_pos q1))) (hv hk ((s0 k d q2).symm.trans h2))
  ·by_cases q2:k=i∧d=b
   ·exact absurd ((u0 q1).symm.trans (h3.trans (if_pos q2))) (hv hj ((s0 j a q1).symm.trans h1))
   ·exact N.inj j k a d hj hk ((s0 j a q1).symm.trans h1) ((s0 k d q2).symm.trans h2) ((u0 q1).symm.trans (h3.trans (u0 q2)))
 ·rw [List.map_append,List.nodup_append]
  exact ⟨N.nd,List.nodup_cons.mpr ⟨bq,List.nodup_nil⟩,λx ha y hb' e=>M6 hg ((e.trans (aH hb'):x=c.gk i b)▸ha)⟩
 ·have h':=N.bd j hj a ((sb j).symm.trans h)
  exact (s0 j a (ne h')).trans h'
theorem OP (E:Enc c ν es s V)(N:Num c ν es s)(hi:i< c.n):∃ν' es' σ',oB [.ref (c.n+2),aX (c.gk i (s i).cur)] V=some (.int (ν' i (s i).cur),σ')∧
  Enc c ν' es' (upd s i ((s i).setE (s i).cur true)) σ'∧Num c ν' es' (upd s i ((s i).setE (s i).cur true))∧Far c V σ'∧∀j,j< c.n→∀b,(s j).ent b=true→ν' j b=ν j b:=by
 generalize hd:(s i).cur=d
 generalize ht:upd s i ((s i).setE d true)=t
 have hb:∀j,(t j).bd=(s j).bd∧(t j).p=(s j).p:=λj=>by
  subst ht
  by_cases h:j=i
  ·rw [h,ee];exact ⟨En,pJ⟩
  ·rw [ek h];exact ⟨rfl,rfl⟩
 have s1:(t i).ent d=true:=by subst ht;rw [ee,mY,if_pos rfl]
 have s0:∀j a,¬(j=i∧a=d)→(t j).ent a=(s j).ent a:=λj a n=>by
  subst ht
  by_cases h:j=i
  ·rw [h,ee,mY,if_neg λe=>n ⟨h,e⟩]
  ·rw [ek h]
 cases hn:(s i).ent d with
 | false=>
  have ne:∀{j a},(s j).ent a=true→ ¬(j=i∧a=d):=λh e=>Bool.false_ne_true (hn.symm.trans (by rw [← e.1,← e.2];exact h))
  refine (E.number_new N hi hn).elim λm q=>⟨oh ν i d m,_,_,q.2.trans ?_,(E.congr (λj _=>hb j) λj hj b h=>if_neg (ne (N.bd j hj b h))).nums,N.add hi hn q.1 s1 s0 λj=>(hb j).1,Ds,λj _ b h=>if_neg (ne h)⟩
  rw [show oh ν i d m i d=m from if_pos ⟨rfl,rfl⟩]
 | true=>
  refine ⟨ν,es,V,E.number_old N hi hn,E.congr (λj _=>hb j) (λ_ _ _ _=>rfl),N.congr λj hj=>⟨λb=> ?_,λb e=>N.bd j hj b ((hb j).1.symm.trans e)⟩,Far.refl,λ_ _ _ _=>rfl⟩
  by_cases h:j=i∧b=d
  ·rw [h.1,h.2];exact s1.trans hn.symm
  ·exact s0 j b h
theorem PV (ha:a U V=some (.lst [v]))(hu:(U[i]?).join=some u)(hk:k [some v,some u] V=some w):wq a i k U V=some (.lst [v],V):=az ha (az rfl (az rfl (az hu (cB hk rfl))))
theorem OQ (E:Enc c ν es s V)(hi:i< c.n)(hl:(s i).p.lone=true):uG [.ref (c.n+2), .lst [.ref (i+2)]] V=some (.lst [.ref (i+2)],V):=
 fh rfl (bw (SW (PV rfl rfl (kF (aA (cW rfl (ix E.oc) (aA rfl rfl) (E.rank hi hl)) (aA (bR (bR rfl (E.io hi) (by decide) rfl rfl) rfl (by decide) rfl rfl) rfl)) (bH rfl)))
  (bR rfl (ix E.oc) (by decide) rfl rfl) ((if_pos ⟨Int.le_trans (by decide) c.m1,bH rfl⟩).trans (congrArg (λl=>some (AV.lst l)) (List.take_of_length_le ((Int.le_toNat (Int.le_trans (by decide) c.m1)).mpr c.m1))))))
end
section
variable {V:ar} {k:Nat} {r rp:RowC} {bv bv':AV} {p p':P}
theorem QY:fb (.ref k) (.lst [.ref k])=some true:=by
 have h:fZ (.ref k) [.ref k]=some true:=az (if_pos rfl) rfl
 exact h
def Gs:aF:=(ai (aQ (yT (cK (aV bp (aB 11 [279] (aa 5)) (ah (.str "unselected"))) (cK (aV cY (aB 12 [279] (aa 5)) (ah (.str "detached"))) (dF true)))) (ai x9 aq) aq) (ai (aN 0 13 [279] (aa 5) (xP (aa 3))) (ai (aN 0 11 [279] (aa 5) (xP (et (aV fb (aa 5) (aa 4)) (ah (.str "selected")) (ah (.str "standby"))))) aq)))
theorem yM (hk:k< V.length)(hx:x U σ0=some (v,W V k r rp bv p))(ha:a U (W V k r rp bv p)=some (.ref k))(hC:279∈Cs)(u:(W V k r rp bv p).set k (.inst 279 (cL (bX r rp bv p) f v))=W V k r rp bv' p')(kk:q U (W V k r rp bv' p')=R):ai (aN 0 f Cs a x) q U σ0=R:=
 nS hx ha (gW hk) ⟨hC,bH rfl,Nat.zero_le _⟩ u kk
theorem QZ (hk:k< V.length):b9 (bh 5) Gs [.ref k] [a,b,d,some (.int m),some (.lst [.ref k]),o] (W V k r rp bv p) =
  some (.next,[a,b,d,some (.int m),some (.lst [.ref k]),some (.ref k)],if p.ch= .un∧p.mx≠ .det then W V k r rp bv p else W V k r rp (.int m) { p with ch:= .sel }):=by
 have ht:(yT (cK (aV bp (aB 11 [279] (aa 5)) (ah (.str "unselected"))) (cK (aV cY (aB 12 [279] (aa 5)) (ah (.str "detached"))) (dF true)))) [a,b,d,some (.int m),some (.lst [.ref k]),some (.ref k)] (W V k r rp bv p)=some (decide (p.ch= .un∧p.mx≠ .det),W V k r rp bv p):=
  bg ((iw (bO (bR rfl (iW hk) c1 rfl rfl) rfl (qb (b:= .un))) λ_=>jx (bO (bR rfl (iW hk) c1 rfl rfl) rfl (congrArg (λq=>some !q) (Mx.s_inj (b:= .det))))).trans (by rw [Bool.decide_and,decide_not]))
 by_cases hc:p.ch= .un∧p.mx≠ .det
 ·rw [if_pos hc]
  exact Xs rfl (gu (ht.trans (by rw [decide_eq_true hc])) (b8 (r:=some (.cont,_,_)) rfl)) rfl
 ·rw [if_neg hc]
  exact eM rfl (d0 (ht.trans (by rw [decide_eq_false hc])) (dw (yM hk rfl rfl c1 Ia (yM hk (aK (pH (α:=Ch) (m:= .sel) (n:= .std) (λm=> .str m.s) (bO rfl rfl QY) rfl rfl)) rfl c1 Xn rfl)))) rfl
end
end
section
section
variable {c:Cfg} {ν ν':Nat→Bool→Int} {es es':List (GK × AV)} {s s':Nat→S} {V σ':ar}
theorem OR (E:Enc c ν es s V)(N:Num c ν es s)(hi:i< c.n)(hl:(s i).p.lone=true):∃ν' es' σ',qA [.ref (c.n+2),aX (c.gk i (s i).cur), .lst [.ref (i+2)]] V=some (.none,σ')∧
  Enc c ν' es' (upd s i (s i).settle) σ'∧Num c ν' es' (upd s i (s i).settle)∧Far c V σ'∧∀j,j< c.n→∀b,(s j).ent b=true→ν' j b=ν j b:=by
 refine ru (OP E N hi) λν1 es1 σ1 hf E1 N1 f1 hν=> ?_
 generalize hx:(s i).setE (s i).cur true=x at E1 N1
 have xp:x.p=(s i).p:=hx▸pJ
 haveI hs1:upd s i x i=x:=ee
 haveI hW:=E1.w hi
 haveI hlt:=E1.lt hi
 rw [hs1] at hW
 haveI e2:=QZ (r:=c.row i) (rp:=c.mr i) (bv:=cg ν1 i x.bd) (p:=x.p) hlt (a:=some (.ref (c.n+2))) (b:=some (aX (c.gk i (s i).cur))) (d:=some (.lst [.ref (i+2)])) (o:=none) (m:=ν1 i (s i).cur)
 rw [hW,xp] at e2
 have run:=eW (Γ:=qx) (n:=3) (dav:=[]) (nf:=λ_=>0) (X:=uH) (avs:=[.ref (c.n+2),aX (c.gk i (s i).cur), .lst [.ref (i+2)]]) rfl (Gp (xM (fw (gZ rfl (ix E.oc) (aA rfl rfl) (Nat.zero_le _) hf) (fw (gZ rfl (ix E1.oc) (aA rfl rfl) (Nat.zero_le _) (OQ E1 hi (by rw [hs1,xp];exact hl))) rfl)) (bH rfl)) (eV (p:=Gs) rfl e2 rfl))
 by_cases hc:(s i).p.ch= .un∧(s i).p.mx≠ .det
 ·have hst:(s i).settle=x:=by unfold S.settle;rw [hx];exact if_pos (by rw [xp];exact hc)
  exact (hst)▸⟨ν1,es1,σ1,run.trans (by rw [if_pos hc]),E1,N1,f1,hν⟩
 ·have hst:(s i).settle= { x with bd:=some (s i).cur,p:={ (s i).p with ch:= .sel } }:=by
   unfold S.settle;refine (hx).symm▸ ?_;exact (if_neg (by rw [xp];exact hc)).trans (by unfold S.cur;rw [xp])
  haveI hu:upd (upd s i x) i (s i).settle=upd s i (s i).settle:=by
   funext j;unfold upd;split <;> rfl
  haveI E2:=E1.put hi (s i).settle (bv:= .int (ν1 i (s i).cur)) (by refine (hst)▸ ?_;rfl)
  rw [hu,show (s i).settle.p= { (s i).p with ch:= .sel } by rw [hst]] at E2
  refine ⟨ν1,es1,_,run.trans ?_,E2,N1.congr λj hj=> ?_,f1.trans (yr hi),hν⟩
  ·rw [if_neg hc]
  ·by_cases h:j=i
   ·rw [h,ee,ee,hst]
    exact ⟨λ_=>rfl,λb e=>by replace e:=aD e;subst e;rw [← hx,mY,if_pos rfl]⟩
   ·rw [ek h,ek h]
    exact ⟨λb=>rfl,λb e=>by haveI:=N1.bd j hj b;rw [ek h] at this;exact this e⟩
theorem Xw:fJ (aX a) (aX k)=some (decide (a=k)):=DI a k
theorem Vx {α:Type}[DecidableEq α]{a k:α}{ks:List α}:(decide (a=k) || decide (k∈ks))=decide (k∈a::ks):=by
 rw [← Bool.decide_or]
 exact decide_eq_decide.mpr ((or_congr_left eq_comm).trans List.mem_cons.symm)
theorem Dt (h:fJ y x=some a)(e:fZ x l=some b):fZ x (y::l)=some (a || b):=az h (cB e rfl)
theorem WS {ks:List GK}:fZ (aX k) (ks.map aX)=some (decide (k∈ks)):=by
 induction ks with
 | nil=>rfl
 | cons a ks ih=>exact (Dt Xw ih).trans (congrArg some Vx)
theorem WT {ks:List GK}:fE (ks.map aX)≤2:=by
 induction ks with
 | nil=>exact Nat.zero_le _
 | cons k ks ih=>exact Nat.max_le.mpr ⟨bH rfl,ih⟩
theorem G8 {f:Nat→Option Bool}:∀(l:List Nat),fZ (.int m) (l.map λi=>cg ν i (f i))=some (decide (∃i∈l,∃b,f i=some b∧ν i b=m))
 | []=>by simp [fZ]
 | i::l=>by
  simp only [List.map_cons,fZ,G8 l]
  cases h:f i with
  | none=>
   refine congrArg some (?_:(false || decide _)=decide _)
   rw [Bool.eq_iff_iff]
   simp [h]
  | some b=>
   refine congrArg some (?_:(ν i b == m || decide _)=decide _)
   rw [Bool.eq_iff_iff]
   cases b <;> simp [h]
theorem G9 {f:Nat→Option Bool}:∀(l:List Nat),fE (l.map λi=>cg ν i (f i))=0
 | []=>rfl
 | i::l=>by
  simp only [List.map_cons,fE,G9 l]
  cases f i <;> rfl
theorem SX (h:k∉l.map (·.1)):jH (l ++(k,v)::r) k=l ++r:=by
 induction l with
 | nil=>exact if_pos rfl
 | cons p l ih=>exact (if_neg λ(e:p.1=k)=>h (e▸bY)).trans (congrArg (p:: ·) (ih λm=>h (cQ _ m)))
theorem Ep (h:k∉l.map (·.1)):b7 (l ++(k,v)::r) k=some v:=by
 induction l with
 | nil=>exact if_pos rfl
 | cons p l ih=>exact (if_neg λ(e:p.1=k)=>h (e▸bY)).trans (ih λm=>h (cQ _ m))
def Du:aF:=(ai (aQ (yT (cK (aV (λx y=>(fb x y).map not) (aa 4) (aa 3)) (cK (aV (λx y=>(fb x y).map not) (bz (aB 21 [433] (aa 0)) (aa 4)) (aa 2)) (dF true)))) (ai (bo (hZ "dict" 0 pZ (aB 21 [433] (aa 0)) (yA (ae (aa 4) aj)))) aq) aq) aq)
theorem Vy (h:x U V=some (.int i,σ1))(k:q U σ1=r):ai (bo x) q U V=r:=f5 (az h (cw rfl rfl)) k
theorem Ha (hd:fE l≤60)(h:fZ x l=some b):(fb x (.lst l)).map not=some !b:=cB (az rfl (cw hd h)) rfl
theorem Q0 (h:V[k]? =some o):V.set k o=V:=by
 apply List.ext_getElem?
 intro j
 by_cases hj:k=j
 ·subst hj;rw [List.getElem?_set_self (lE h),h]
 ·rw [List.getElem?_set_ne hj]
theorem SY (h:V[q]? =some (.gdict (l ++(k,v)::r)))(hn:k∉l.map (·.1))(hl:(l ++(k,v)::r).length< 10000):pZ 0 q [aX k] V=some (v,V.set q (.gdict (l ++r))):=by
 unfold pZ
 exact (h)▸(congrArg (λo=>Option.bind o λz=>if 0≤q∧(l ++(k,v)::r).length< 10000 then some (z,V.set q (.gdict (jH (l ++(k,v)::r) k))) else none) (Ep hn)).trans ((if_pos ⟨Nat.zero_le _,hl⟩).trans (by rw [SX hn]))
theorem yN (ho:o U V=some (.ref k))(hk:V[k]? =some ao)(hT:oq ao=T)(ha:as U V=some (vs,V))(h:F n0 k vs V=r):hZ T n0 F o as U V=r:=by
 exact az ho (az rfl (az hk (cw hT (az ha h))))
theorem tG (h1:V[c.n+2]? =some (.inst 433 (gC c.most (c.n+3))))(hx:x U V=some (.ref (c.n+2))):aB 21 [433] x U V=some (.ref (c.n+3)):=bR hx (ix h1) (List.mem_singleton.mpr rfl) rfl rfl
theorem PW {gs:List GK}(hg:gl=gs.map aX)(hh:fE hl≤60)(r:List (GK × AV)):∀(l:List (GK × AV)) (V:ar) (o:Option AV),V[c.n+2]? =some (.inst 433 (gC c.most (c.n+3)))→V[c.n+3]? =some (.gdict (l ++r))→
  ((l ++r).map (·.1)).Nodup→(l ++r).length≤8→(∀p∈r,∃m,p.2= .int m∧∃b,fZ (.int m) hl=some b∧kp p=(decide (p.1∈gs) || b))→
  ∃o',b9 (bh 4) Du (r.map λp=>aX p.1) [some (.ref (c.n+2)),a,some (.lst hl),some (.lst gl),o] V=some (.next,[some (.ref (c.n+2)),a,some (.lst hl),some (.lst gl),o'],V.set (c.n+3) (.gdict (l ++r.filter kp))):=by
 subst hg
 induction r with
 | nil=>exact λl V o h1 h2 _ _ _=>⟨o,congrArg (λτ=>some (Fl.next,_,τ)) (Q0 h2).symm⟩
 | cons p r ih=>
  intro l V o h1 h2 h3 h4 h5
  obtain ⟨k,v⟩:=p
  refine V1 (h5 _ bY) λm rf1 b hb hkp=> ?_;subst rf1
  haveI h5':=λp hp=>h5 p (cQ _ hp)
  have hnk:k∉l.map (·.1):=λq=>(List.nodup_append.mp (List.map_append▸h3)).2.2 k q k bY rfl
  have ht:(yT (cK (aV (λx y=>(fb x y).map not) (aa 4) (aa 3)) (cK (aV (λx y=>(fb x y).map not) (bz (aB 21 [433] (aa 0)) (aa 4)) (aa 2)) (dF true)))) [some (.ref (c.n+2)),a,some (.lst hl),some (.lst (gs.map aX)),some (aX k)] V=some (!kp (k, .int m),V):=
   bg ((iw (bO rfl rfl (Ha (ba WT (by decide)) WS)) λ_=>jx (bO (dZ (tG h1 rfl) rfl (qd h2 (Ep hnk))) rfl (Ha hh hb))).trans (by rw [hkp,Bool.not_or]))
  cases hkp':kp (k, .int m) with
  | false=>
   rw [hkp'] at ht
   refine (ih l (V.set (c.n+3) (.gdict (l ++r))) (some (aX k)) ((List.getElem?_set_ne (Nat.ne_of_gt (Nat.lt_succ_self _))).trans h1) (List.getElem?_set_self (lE h2))
    (List.Nodup.sublist (List.Sublist.map _ (List.Sublist.append_left (List.sublist_cons_self _ _) _)) h3) (ba ((List.Sublist.append_left (List.sublist_cons_self _ _) _).length_le) h4) h5').imp λo' e=>
    eM rfl (gu ht (b8 (Vy (yN (tG h1 rfl) h2 rfl rfl (SY h2 hnk (dc h4 (by decide)))) rfl))) (e.trans ?_)
   rw [List.set_set,List.filter_cons,hkp'];rfl
  | true=>
   rw [hkp'] at ht
   haveI as:l ++(k, .int m)::r=(l ++ [(k, .int m)]) ++r:=(List.append_assoc l [(k, .int m)] r).symm
   rw [as] at h2 h3 h4
   refine (ih (l ++ [(k, .int m)]) V (some (aX k)) h1 h2 h3 h4 h5').imp λo' e=>eM rfl (d0 ht rfl) (e.trans ?_)
   rw [List.filter_cons,hkp',List.append_assoc];rfl
end
end
section
section
variable {c:Cfg} {ν ν':Nat→Bool→Int} {es es':List (GK × AV)} {s s':Nat→S} {V σ':ar}
theorem Q1 (h:k∉es.map (·.1)):b7 es k=none:=by
 cases z:b7 es k with
 | none=>rfl
 | some v=>exact absurd (List.mem_map.mpr ⟨_,Eo z,rfl⟩) h
theorem NH (es:List (GK × AV))(nd:(es.map (·.1)).Nodup):b7 (es.filter kp) k=(b7 es k).bind λv=>if kp (k,v)=true then some v else none:=by
 induction es with
 | nil=>rfl
 | cons p r ih=>
  have nd':=List.nodup_cons.mp nd
  have ih':=ih nd'.2
  rw [List.filter_cons]
  by_cases hj:p.1=k
  ·have e0:b7 (p::r) k=some p.2:=if_pos hj
   rw [e0,← hj]
   cases hk:kp p with
   | true=>exact (if_pos rfl).trans (if_pos hk).symm
   | false=>exact (hj▸ih'.trans (congrArg (λo=>Option.bind o λv=>if kp (k,v)=true then some v else none) (Q1 (hj▸nd'.1)))).trans (if_neg (Bool.eq_false_iff.mp hk)).symm
  ·have e0:b7 (p::r) k=b7 r k:=if_neg hj
   rw [e0]
   cases hk:kp p with
   | true=>exact (if_neg hj).trans ih'
   | false=>exact ih'
theorem drop_p {x:S}:(x.drop b).p=x.p:=by unfold S.drop;split;rfl;exact pJ
theorem drop_bd {x:S}:(x.drop b).bd=x.bd:=by unfold S.drop;split;rfl;exact En
theorem Ym (h:a=a')(k:b=b'):(a || b)=(a' || b'):=by rw [h,k]
theorem Hb {y:S}:(y.drop a).ent b=if b=a then (y.ent b && ((y.p.up && y.cur == b) || y.bd == some b)) else y.ent b:=by
 unfold S.drop
 by_cases e:b=a
 ·subst e
  rw [if_pos rfl]
  split
  ·rename_i h;rw [h,Bool.and_true]
  ·rename_i h;rw [mY,if_pos rfl,Bool.eq_false_iff.mpr h,Bool.and_false]
 ·rw [if_neg e]
  split
  ·rfl
  ·rw [mY,if_neg e]
theorem Q2 {x:S}:(x.drop b).cur=x.cur:=by unfold S.cur;rw [drop_p]
theorem rD {x:S}:((x.drop false).drop true).ent b=(x.ent b && ((x.p.up && x.cur == b) || x.bd == some b)):=by
 rw [Hb,Hb,drop_p,drop_bd,Q2]
 cases b <;> rfl
noncomputable def Hc (c:Cfg)(s:Nat→S):Prop:=∀i,i< c.n→(s i).p.lone=true
theorem Cg (h:∀i,i< n→elt (some (.ref (i+2))::caps) V=some (g i)):dY elt [] caps V (dW n)=some ((List.range n).map g):=
 rC (List.range n) λi hi=>h i (cI hi)
theorem pj:(dW c.n).length≤10000:=by rw [dW,List.length_map,List.length_range];exact ba c.n4 (by decide)
theorem Xx:kX (cg ν i x)=true:=by cases x <;> rfl
theorem jR (E:Enc c ν es s V)(hi:i< c.n)(hx:x U V=some (.ref (i+2))):aB 13 [279] x U V=some (cg ν i (s i).bd):=bR hx (E.io hi) c1 rfl Xx
theorem yO (E:Enc c ν es s V)(hi:i< c.n)(hl:(s i).p.lone=true)(hx:x U V=some (.ref (i+2))):aT 279 iI x aj U V=some (aX (c.gk i (s i).cur)):=cW hx (E.io hi) rfl (E.group hi hl)
theorem qq (E:Enc c ν es s V)(hi:i< c.n)(hx:x U V=some (.ref (i+2))):bU (aT 279 fY x aj) U V=some (s i).p.up:=dP (cW hx (E.io hi) rfl (E.up hi))
theorem oi (h:t U V=some z):gx [t] U V=some z:=by
 unfold gx
 rw [h]
 cases z <;> rfl
theorem WU (h:V[k]? =some (.gdict es))(hl:es.length≤1000):yf [.ref k] V=some (.lst (es.map λp=>aX p.1)):=az rfl (az rfl (az h (az rfl (cw hl rfl))))
theorem iy (h:a U V=some (.lst l)):iX (xP a) U V=some (l,true,V):=az (cB h rfl) (cB rfl rfl)
theorem Q3 (E:Enc c ν es s V)(N:Num c ν es s)(hl:Hc c s):∃es' σ',ua [.ref (c.n+2), .lst (dW c.n)] V=some (.none,σ')∧
  Enc c ν es' (λi=>((s i).drop false).drop true) σ'∧Num c ν es' (λi=>((s i).drop false).drop true)∧Far c V σ':=by
 let hL:List AV:=(List.range c.n).map λi=>cg ν i (s i).bd
 let gs:List GK:=((List.range c.n).filter λi=>(s i).p.up).map λi=>c.gk i (s i).cur
 let kp:GK × AV→Bool:=λp=>decide (p.1∈gs) || decide (∃i∈List.range c.n,∃b,(s i).bd=some b∧ν i b=mh p.2)
 refine (PW (c:=c) (hl:=hL) (gl:=gs.map aX) (gs:=gs) (kp:=kp) rfl (by rw [G9];decide) (a:=some (.lst (dW c.n))) es [] V none E.oc E.on N.nd N.len λp hp=> ?_).elim λo' e3=> ?_
 ·exact (N.mem p hp).elim λi q=>q.elim λb q=>⟨_,congrArg Prod.snd q.2.2,_,G8 _,by rw [q.2.2];rfl⟩
 have hkp:∀i,i< c.n→∀b,(s i).ent b=true→kp (c.gk i b, .int (ν i b))=((s i).p.up && (s i).cur == b || (s i).bd == some b):=by
  intro i hi b hb
  refine Ym (Bool.eq_iff_iff.mpr ⟨λh=> ?_,λh=>decide_eq_true ?_⟩) (Bool.eq_iff_iff.mpr ⟨λh=> ?_,λh=>decide_eq_true ⟨i,List.mem_range.mpr hi,b,eq_of_beq h,rfl⟩⟩)
  ·refine (List.mem_map.mp (fG h)).elim λj q=> ?_
   have hj:=List.mem_filter.mp q.1
   have e:=xN (cI hj.1) hi q.2
   rw [← e.1,← e.2,beq_self_eq_true,Bool.and_true];exact hj.2
  ·have h':=eH h
   exact List.mem_map.mpr ⟨i,List.mem_filter.mpr ⟨List.mem_range.mpr hi,h'.1⟩,congrArg (c.gk i) (eq_of_beq h'.2)⟩
  ·refine (fG h).elim λj q=>q.2.elim λa q2=> ?_
   have e:=N.inj j i a b (cI q.1) hi (N.bd j (cI q.1) a q2.1) hb q2.2
   rw [← e.1,← e.2,q2.1];exact beq_self_eq_true _
 have hbd:∀j,(((s j).drop false).drop true).bd=(s j).bd∧(((s j).drop false).drop true).p=(s j).p:=λj=>⟨drop_bd.trans drop_bd,drop_p.trans drop_p⟩
 refine ⟨es.filter kp,V.set (c.n+3) (.gdict (es.filter kp)),?_,?_,⟨λj hj b=> ?_,λp hp=> ?_,λj k a b hj hk h1 h2 h3=> ?_,?_,λj hj b h=> ?_⟩,Ds⟩
 ·exact eW rfl (cb (aK (gS (hM rfl rfl) pj (Cg (g:=λi=>cg ν i (s i).bd) λi hi=>jR E hi rfl)))
   (cb (aK (gS (hM rfl rfl) pj ((rB (k:=λi=>(s i).p.up) (g:=λi=>aX (c.gk i (s i).cur)) (List.range c.n) (λi hi=>oi (qq E (cI hi) rfl)) λi hi _=>yO E (cI hi) (hl i (cI hi)) rfl).trans (by rw [show gs.map aX=_ from List.map_map];rfl))))
    (eV (p:=Du) (iy (bQ (aA (tG E.oc rfl) rfl) (WU E.on (ba N.len (by decide))))) e3 rfl)))
 ·exact (E.congr (λj _=>hbd j) (λ_ _ _ _=>rfl)).nums
 ·rw [NH _ N.nd,N.get j hj b,rD]
  cases hb:(s j).ent b with
  | false=>rfl
  | true=>exact (by rw [← hkp j hj b hb];rfl)
 ·have hp':=List.mem_filter.mp hp
  refine (N.mem p hp'.1).imp λi q=>q.imp λb q=>⟨q.1,?_,q.2.2⟩
  rw [rD,q.2.1,Bool.true_and,← hkp i q.1 b q.2.1,← q.2.2]
  exact hp'.2
 ·rw [rD] at h1 h2
  exact N.inj j k a b hj hk (eH h1).1 (eH h2).1 h3
 ·exact List.Nodup.sublist (List.Sublist.map _ List.filter_sublist) N.nd
 ·rw [(hbd j).1] at h
  rw [rD,N.bd j hj b h,h,beq_self_eq_true,Bool.or_true];rfl
end
end
section
theorem WV (h:t U V=some (false,σ')):aQ t a b U V=b U σ':=by simp only [aQ,h]
section
variable {c:Cfg} {ν ν':Nat→Bool→Int} {es es':List (GK × AV)} {s s':Nat→S} {V σ':ar}
theorem Enc.of (E:Enc c ν es s V)(hl:c.n+4≤σ'.length)(h:∀j,j< c.n+4→σ'[j]? =V[j]?):Enc c ν es s σ':=
 ⟨hl,(h 0 (Nat.succ_pos _)).trans E.o0,(h 1 (Nat.succ_lt_succ (Nat.succ_pos _))).trans E.o1,λj hj=>(h _ (Nat.add_lt_add hj (by decide))).trans (E.op j hj),(h _ (Nat.add_lt_add_left (by decide) _)).trans E.oc,(h _ (Nat.lt_succ_self _)).trans E.on⟩
theorem Enc.more (E:Enc c ν es s V)(x:List AO):Enc c ν es s (V ++x):=
 E.of (by rw [List.length_append];exact ba E.len (Nat.le_add_right _ _)) λj hj=>List.getElem?_append_left (Nat.lt_of_lt_of_le hj E.len)
theorem Enc.take (E:Enc c ν es s V)(hn:c.n+4≤n)(hn':n≤V.length):Enc c ν es s (V.take n):=
 E.of (by rw [List.length_take];exact Nat.le_min.mpr ⟨hn,E.len⟩) λj hj=>List.getElem?_take_of_lt (Nat.lt_of_lt_of_le hj hn)
noncomputable def qr (x:S):S:={ x with p:={ x.p with ch:= .un } }
def S.pre (x:S):S:=if x.held then x else qr x
def xQ:aF:=(ai (aQ (yT (dn (bU (aT 279 fY (aa 2) aj)))) (ai (aN 0 11 [279] (aa 2) (xP (ah (.str "unselected")))) aq) (ai (aQ (kR (yT (aV (λx y=>(kY x y).map not) (aB 13 [279] (aa 2)) (ah .none))) (kR (p9 cY (hZ "dict" 0 pY (aB 21 [433] (aa 0)) (yA (ae (aT 279 iI (aa 2) aj) aj))) (xP (aB 13 [279] (aa 2)))) (kQ true))) (ai (aN 0 11 [279] (aa 2) (xP (ah (.str "unselected")))) aq) (ai (bo (rK 0 (aa 4) (aT 279 iI (aa 2) aj) (aa 2))) aq)) aq)) aq)
noncomputable def h9 (c:Cfg)(cu:Nat→Bool)(i:Nat):GK × AV:=(c.gk i (cu i), .lst [.ref (i+2)])
theorem Dv (hi:i< c.n)(gl:List Nat):(∀j∈gl,j< c.n)→(i∉gl→b7 (gl.map (h9 c cu)) (c.gk i (cu i))=none)∧(i∈gl→b7 (gl.map (h9 c cu)) (c.gk i (cu i))=some (.lst [.ref (i+2)])):=by
 induction gl with
 | nil=>exact λ_=>⟨λ_=>rfl,λh=>(by cases h)⟩
 | cons j gl ih=>
  intro h
  have ih':=ih λk hk=>h k (cQ _ hk)
  by_cases e:j=i
  ·exact ⟨λq=>absurd (e▸bY) q,λ_=>e▸if_pos rfl⟩
  ·have n:b7 ((j::gl).map (h9 c cu)) (c.gk i (cu i))=b7 (gl.map (h9 c cu)) (c.gk i (cu i)):=if_neg λz=>e (xN (h j bY) hi z).1
   rw [n]
   exact ⟨λq=>ih'.1 λm=>q (cQ _ m),λq=>ih'.2 ((aU q).resolve_left (Ne.symm e))⟩
theorem xR (h:y U V=some (z,V))(k:z=true→y' U V=some (z',V)):kR y y' U V=some (z && z',V):=az h (by
 cases z with
 | true=>exact k rfl
 | false=>rfl)
theorem Vz (h:x U V=some (u,σ1))(k:y U σ1=some (v,σ2))(e:f u v=some z):p9 f x y U V=some (z,σ2):=az h (az k (cB e rfl))
theorem yP (h:as U V=some us):yA as U V=some (us,V):=cB h rfl
theorem WW (h:V[q]? =some (.gdict es))(e:b7 es k=o):pY 0 q [aX k] V=some (o.getD .none,V):=az rfl (az h (congrArg (λo:Option AV=>some (o.getD .none,V)) e))
theorem Q4 (ho:o U V=some (.ref i))(hi:V[i]? =some (.gdict es))(hk:k U V=some (aX g))(hv:v U (V.set i (.gdict (f6 es g (.lst []))))=some (.ref j))(h:n0≤i∧es.length< 10000∧b7 es g=none):rK n0 o k v U V=some (.none,V.set i (.gdict (f6 es g (.lst [.ref j])))):=az ho (az rfl (az hi (az rfl (az hk (az CN (az hv (az rfl (cw h rfl))))))))
theorem He:(kY (cg ν i x) .none).map not=some x.isSome:=by cases x <;> rfl
theorem Xy (N:Num c ν es s)(hi:i< c.n)(h:(s i).bd=some b):cY ((if (s i).ent (s i).cur=true then some (AV.int (ν i (s i).cur)) else none).getD .none) (cg ν i (s i).bd)=some !((s i).ent (s i).cur && b == (s i).cur):=by
 rw [h]
 cases hc:(s i).ent (s i).cur with
 | false=>rfl
 | true=>
  show some (!(ν i (s i).cur == ν i b))=some !(b == (s i).cur)
  by_cases e:b=(s i).cur
  ·rw [e,beq_self_eq_true,beq_self_eq_true]
  ·rw [beq_eq_false_iff_ne.mpr e,beq_eq_false_iff_ne.mpr λq=>e (N.inj i i _ _ hi hi hc (N.bd i hi b h) q).2.symm]
theorem Er (E:Enc c ν es s V)(N:Num c ν es s)(hi:i< c.n)(hl:(s i).p.lone=true)(hu:(s i).p.up=true):kR (yT (aV (λx y=>(kY x y).map not) (aB 13 [279] (aa 2)) (ah .none))) (kR (p9 cY (hZ "dict" 0 pY (aB 21 [433] (aa 0)) (yA (ae (aT 279 iI (aa 2) aj) aj))) (xP (aB 13 [279] (aa 2)))) (kQ true)) [some (.ref (c.n+2)),a,some (.ref (i+2)),b,d,f] V=some (!(s i).held,V):=by
 have e0:∀z,(s i).bd=z→(s i).held=(z == none || ((s i).ent (s i).cur && z == some (s i).cur)):=λz e=>by unfold S.held;rw [hu,Bool.true_and,e]
 cases hb:(s i).bd with
 | none=>exact (xR (z':=false) (bg (bO (jR E hi rfl) rfl He)) λq=>by rw [hb] at q;cases q).trans (by rw [e0 _ hb,hb];rfl)
 | some b'=>
  refine (xR (bg (bO (jR E hi rfl) rfl He)) λ_=>xR (Vz (yN (tG E.oc rfl) E.on rfl (yP (aA (yO E hi hl rfl) rfl)) (WW E.on (N.get i hi _))) (aK (jR E hi rfl)) (Xy N hi hb)) λ_=>rfl).trans ?_
  rw [e0 _ hb,hb];simp
theorem SZ (E:Enc c ν es s V)(N:Num c ν es s)(hi:i< c.n)(hl:(s i).p.lone=true)(hg:c.n+4≤g)(hcu:(s i).cur=cu i)(hgl:∀j∈gl,j< c.n)(hn:i∉gl)(h4:gl.length≤4)(hs:V[g]? =some (.gdict (gl.map (h9 c cu)))):
  ∃σ',xQ [some (.ref (c.n+2)),a,some (.ref (i+2)),b,some (.ref g),f] V=some (.next,[some (.ref (c.n+2)),a,some (.ref (i+2)),b,some (.ref g),f],σ')∧
   Enc c ν es (upd s i (s i).pre) σ'∧σ'[g]? =some (.gdict ((gl ++if (s i).held=true then [i] else []).map (h9 c cu)))∧σ'.length=V.length∧∀j,c.n+4≤j→j≠g→σ'[j]? =V[j]? :=by
 have hw:=E.w hi
 have hset:∀{q:aF} {r},q [some (.ref (c.n+2)),a,some (.ref (i+2)),b,some (.ref g),f] (W V (i+2) (c.row i) (c.mr i) (cg ν i (s i).bd) (qr (s i)).p)=r→ai (aN 0 11 [279] (aa 2) (xP (ah (.str "unselected")))) q [some (.ref (c.n+2)),a,some (.ref (i+2)),b,some (.ref g),f] V=r:=
  λk=>yM (E.lt hi) (hw.symm▸rfl) rfl c1 tB k
 have un:(s i).held=false→∃σ',W V (i+2) (c.row i) (c.mr i) (cg ν i (s i).bd) (qr (s i)).p=σ'∧Enc c ν es (upd s i (s i).pre) σ'∧σ'[g]? =some (.gdict ((gl ++if (s i).held=true then [i] else []).map (h9 c cu)))∧σ'.length=V.length∧∀j,c.n+4≤j→j≠g→σ'[j]? =V[j]? :=λhh=>by
  have hp:(s i).pre=qr (s i):=if_neg (Bool.eq_false_iff.mp hh)
  rw [hp,hh]
  exact ⟨_,rfl,E.put hi (qr (s i)) rfl,(kH (y6 hi hg)).trans (hs.trans (by rw [show gl ++(if false=true then [i] else [])=gl from List.append_nil gl])),W_len,λj hj _=>kH (y6 hi hj)⟩
 cases hu:(s i).p.up with
 | false=>
  refine (un (by unfold S.held;rw [hu];rfl)).imp λσ' h=>⟨?_,h.2⟩
  exact gu (bg (eo ((qq E hi rfl).trans (congrArg some hu)))) (b8 (hset (congrArg (λτ=>some (Fl.next,_,τ)) h.1)))
 | true=>
  cases hh:(s i).held with
  | false=>
   have u:=un hh
   rw [hh] at u
   refine u.imp λσ' h=>⟨?_,h.2⟩
   exact d0 (bg (eo ((qq E hi rfl).trans (congrArg some hu)))) (b8 (gu ((Er E N hi hl hu).trans (by rw [hh];rfl)) (b8 (hset (congrArg (λτ=>some (Fl.next,_,τ)) h.1)))))
  | true=>
   have hp:upd s i (s i).pre=s:=by
    funext j
    unfold upd
    split
    ·rename_i e;rw [e];exact if_pos hh
    ·rfl
   have hn':=(Dv (cu:=cu) hi gl hgl).1 hn
   rw [hp]
   refine ⟨V.set g (.gdict ((gl ++ [i]).map (h9 c cu))),?_,E.of (List.length_set.symm▸E.len) λj hj=>List.getElem?_set_ne (Nat.ne_of_gt (Nat.lt_of_lt_of_le hj hg)),List.getElem?_set_self (lE hs),List.length_set,λj _ hj=>List.getElem?_set_ne (Ne.symm hj)⟩
   exact d0 (bg (eo ((qq E hi rfl).trans (congrArg some hu)))) (b8 (d0 ((Er E N hi hl hu).trans (by rw [hh];rfl)) (b8 (eF (Q4 rfl hs (hcu▸yO E hi hl rfl) rfl ⟨Nat.zero_le _,by rw [List.length_map];exact dc h4 (by decide),hn'⟩) (congrArg (λl=>some (Fl.next,_,V.set g (.gdict l))) ((wz hn').trans (List.map_append (f:=h9 c cu) (l₂:=[i])).symm))))))
end
end
section
section
variable {c:Cfg} {ν ν':Nat→Bool→Int} {es es':List (GK × AV)} {s s':Nat→S} {V σ':ar}
noncomputable def bE (s:Nat→S)(f:S→S)(d:List Nat):Nat→S:=λj=>if j∈d then f (s j) else s j
theorem onL_nil:bE s f []=s:=funext λ_=>if_neg bq
theorem nD (h:i∉d):bE s f d i=s i:=if_neg h
theorem mZ (h:i∉d):upd (bE s f d) i (f (bE s f d i))=bE s f (d ++ [i]):=by
 funext j
 by_cases e:j=i
 ·rw [e,ee,nD h];exact (if_pos (dy _ bY)).symm
 ·rw [ek e]
  unfold bE
  by_cases m:j∈d
  ·rw [if_pos m,if_pos (dE _ m)]
  ·rw [if_neg m,if_neg λq=>(bC q).elim m λq=>e (aH q)]
structure At (full d:List Nat) (i:Nat):Prop where
 ni:i∉d
 mem:i∈full
 sub:∀j∈d,j∈full
 len:d.length< full.length
theorem Hf (h:full=d ++i::r)(nd:full.Nodup):At full d i:=by
 subst h
 exact ⟨λm=>(List.nodup_append.mp nd).2.2 i m i bY rfl,dy _ bY,λj m=>dE _ m,by rw [List.length_append];exact Nat.lt_add_of_pos_right (Nat.succ_pos _)⟩
theorem m8 (nd:full.Nodup)(I:List Nat→Lo→ar→Prop)(step:∀(d:List Nat) (i:Nat) (U:Lo) (V:ar),At full d i→I d U V→∃ℓ2 σ2,body (U.set k (some (f i))) V=some (.next,ℓ2,σ2)∧I (d ++ [i]) ℓ2 σ2)
  (U:Lo)(V:ar)(h:I [] U V):∃ℓ' σ',b9 (bh k) body (full.map f) U V=some (.next,ℓ',σ')∧I full ℓ' σ':=by
 suffices H:∀(r d:List Nat),full=d ++r→∀U V,I d U V→∃ℓ' σ',b9 (bh k) body (r.map f) U V=some (.next,ℓ',σ')∧I full ℓ' σ' from H full [] rfl U V h
 intro r
 induction r with
 | nil=>exact λd e U V h=>⟨U,V,rfl,(e.trans (List.append_nil d)).symm▸h⟩
 | cons i r ih=>
  intro d e U V h
  refine (step d i U V (Hf e nd) h).elim λℓ2 q=>q.elim λσ2 q=> ?_
  exact (ih (d ++ [i]) (e.trans (List.append_assoc d [i] r).symm) ℓ2 σ2 q.2).imp λℓ' z=>z.imp λσ' z=>⟨eM rfl q.1 z.1,z.2⟩
theorem rO {x:S}:x.pre.ent b=x.ent b:=by unfold S.pre;split <;> rfl
theorem VA {x:S}:x.pre.bd=x.bd:=by unfold S.pre;split <;> rfl
theorem wA {x:S}:x.pre.p.lone=x.p.lone:=by unfold S.pre;split <;> rfl
theorem Num.onPre (N:Num c ν es s):Num c ν es (bE s S.pre d):=N.congr λj hj=>by
 unfold bE
 split
 ·exact ⟨λb=>rO,λb e=>N.bd j hj b (by exact (VA).symm.trans e)⟩
 ·exact ⟨λb=>rfl,λb e=>N.bd j hj b e⟩
structure ChI (c:Cfg) (ν:Nat→Bool→Int) (es:List (GK × AV)) (s:Nat→S) (cu:Nat→Bool) (g:Nat) (a b f:Option AV) (σ0:ar) (d:List Nat) (U:Lo) (V:ar):Prop where
 oo:∃o,U=[some (.ref (c.n+2)),a,o,b,some (.ref g),f]
 EE:Enc c ν es (bE s S.pre d) V
 gg:V[g]? =some (.gdict ((d.filter λi=>(s i).held).map (h9 c cu)))
 nn:V.length=σ0.length
 kk:∀j,c.n+4≤j→j≠g→V[j]? =σ0[j]?
theorem Ta (hg:c.n+4≤g)(N:Num c ν es s)(nd:full.Nodup)(hn:∀j∈full,j< c.n)(h4:full.length≤4)(hl:∀j∈full,(s j).p.lone=true∧(s j).cur=cu j)(h:ChI c ν es s cu g a b f σ0 [] U V):
  ∃ℓ' σ',b9 (bh 2) xQ (full.map λi=> .ref (i+2)) U V=some (.next,ℓ',σ')∧ChI c ν es s cu g a b f σ0 full ℓ' σ':=
 m8 nd _ (λd i U V t h=>by
  haveI hat:=nD (s:=s) (f:=S.pre) t.ni
  refine xE h.oo λo rf1=> ?_;subst rf1
  refine (SZ h.EE N.onPre (hn i t.mem) (by exact (hat)▸(hl i t.mem).1) hg (cu:=cu) (by exact (hat)▸(hl i t.mem).2) (gl:=d.filter λi=>(s i).held) (λj hj=>hn j (t.sub j (List.mem_filter.mp hj).1)) (λm=>t.ni (List.mem_filter.mp m).1)
   (ba (List.length_filter_le _ _) (ba (Nat.le_of_lt t.len) h4)) h.gg (a:=a) (b:=b) (f:=f)).elim λσ1 q=>⟨_,σ1,q.1,⟨_,rfl⟩,?_,?_,q.2.2.2.1.trans h.nn,λj h1 h2=>(q.2.2.2.2 j h1 h2).trans (h.kk j h1 h2)⟩
  ·exact (mZ t.ni)▸q.2.1
  ·rw [q.2.2.1,hat,List.filter_append,List.filter_cons,List.filter_nil]) U V h
def Gu:aF:=(ai (bo (bW 0 (λ_=>0) 433 qA (aa 0) (yA (ae (aa 5) (ae (bz (aa 4) (aa 5)) aj))))) aq)
theorem PX {x:S}(h:x.ent b=true):(x.setE a true).ent b=true:=by refine (mY)▸ ?_;split;rfl;exact h
theorem Ci {x:S}(h:x.ent b=true):x.settle.ent b=true:=by
 unfold S.settle
 dsimp only
 split <;> exact PX (a:=x.cur) h
structure SeI (c:Cfg) (ν0:Nat→Bool→Int) (s:Nat→S) (g:Nat) (a o b:Option AV) (σ0:ar) (d:List Nat) (U:Lo) (V:ar) (ν:Nat→Bool→Int) (es:List (GK × AV)):Prop where
 f:∃f,U=[some (.ref (c.n+2)),a,o,b,some (.ref g),f]
 E:Enc c ν es (bE s S.settle d) V
 N:Num c ν es (bE s S.settle d)
 k:Far c σ0 V
 v:∀j,j< c.n→∀b,(s j).ent b=true→ν j b=ν0 j b
theorem Tb {gl:List Nat}(hgl:∀j∈gl,j< c.n)(hg:c.n+4≤g)(nd:full.Nodup)(hm:∀j∈full,j∈gl)(hl:∀j∈full,(s j).p.lone=true∧(s j).cur=cu j)(hs:σ0[g]? =some (.gdict (gl.map (h9 c cu))))
  (h:SeI c ν0 s g a o b σ0 [] U V ν es):∃ℓ' σ',b9 (bh 5) Gu (full.map λi=>aX (c.gk i (cu i))) U V=some (.next,ℓ',σ')∧∃ν es,SeI c ν0 s g a o b σ0 full ℓ' σ' ν es:=
 m8 nd (λd U V=> ∃ν es,SeI c ν0 s g a o b σ0 d U V ν es) (λd i U V t h=>by
  refine h.elim λν h=>h.elim λes h=> ?_
  haveI hat:=nD (s:=s) (f:=S.settle) t.ni
  haveI hin:=hgl i (hm i t.mem)
  haveI hi:=hl i t.mem
  refine xE h.f λf rf1=> ?_;subst rf1
  refine (OR h.E h.N hin (by exact (hat)▸hi.1)).elim λν1 q=>q.elim λes1 q=>q.elim λσ1 q=> ?_
  haveI E1:=q.2.1
  haveI N1:=q.2.2.1
  haveI e1:=q.1
  rw [mZ t.ni] at E1 N1
  rw [hat,hi.2] at e1
  refine ⟨_,σ1,eF (gZ rfl (ix h.E.oc) (aA rfl (aA (dZ rfl rfl (qd ((h.k.2 g hg).trans hs) ((Dv (cu:=cu) hin gl hgl).2 (hm i t.mem)))) rfl)) (Nat.zero_le _) e1) rfl,ν1,es1,⟨_,rfl⟩,E1,N1,h.k.trans q.2.2.2.1,λj hj b e=>(q.2.2.2.2 j hj b ?_).trans (h.v j hj b e)⟩
  unfold bE
  split
  ·exact Ci e
  ·exact e) U V ⟨_,_,h⟩
theorem Q5 {α β:Type}[Inhabited α][Inhabited β]{f:α→β}{l:List α}{i:Nat}(h:i< l.length):(l.map f).getD i default=f (l.getD i default):=by
 rw [List.getD_eq_getElem?_getD,List.getD_eq_getElem?_getD,List.getElem?_map,List.getElem?_eq_getElem h];rfl
theorem Cj {α:Type}[Inhabited α]{l:List α}:(List.range l.length).map (λi=>l.getD i default)=l:=by
 apply List.ext_getElem
 ·rw [List.length_map,List.length_range]
 ·intro i h1 h2
  rw [List.getElem_map,List.getElem_range,List.getD_eq_getElem?_getD,List.getElem?_eq_getElem h2];rfl
theorem OS {α β:Type}[Inhabited α][Inhabited β]{lt:β→β→Bool}{f:α→β}{l:List α}(h:l.length≤4):∃m:List α,m.Perm l∧gp lt (l.map f)=m.map f:=by
 haveI hp:=vu (c:=λi j=>lt ((l.map f).getD i default) ((l.map f).getD j default)) h
 refine ⟨_,(hp.map λi=>l.getD i default).trans (by rw [Cj]),?_⟩
 unfold gp
 rw [List.map_map,List.length_map]
 exact List.map_congr_left λi hi=>Q5 (cI (hp.mem_iff.mp hi))
noncomputable def FB (c:Cfg)(V:ar):Prop:=∀j o,c.n+4≤j→V[j]? =some o→iY V.length o=true
theorem FB.far (F:FB c V)(h:Far c V σ'):FB c σ':=λj o hj e=>by exact (h.1)▸F j o hj (by rw [← h.2 j hj];exact e)
theorem OT:iV n (bX r rp (cg ν i x) p)=true:=by
 haveI hb:bS n (cg ν i x)=true:=by cases x <;> rfl
 simp only [bX,iV,WL,xI,yI,bS,hb,Bool.and_self]
theorem Mm (l:List Nat):(∀i∈l,i+2< m)→km m (l.map λ(i:Nat)=>((i:Int)+1,AV.ref (i+2)))=true:=by
 induction l with
 | nil=>exact λ_=>rfl
 | cons j r ih=>exact λh=>Bool.and_eq_true_iff.mpr ⟨decide_eq_true (h j bY),ih λi hi=>h i (cQ _ hi)⟩
theorem M7 (h:n+2≤m):km m (fS n)=true:=Mm _ λi hi=>Nat.lt_of_lt_of_le (Nat.add_lt_add_right (cI hi) 2) h
theorem Enc.each (E:Enc c ν es s V){Q:AO→Prop}(q0:Q (.inst 543 [(22, .ref 1),(23, .ref (c.n+2))]))(q1:Q (.idict (fS c.n)))(qp:∀i,i< c.n→Q (kV (c.row i) (c.mr i) (cg ν i (s i).bd) (s i).p))(qc:Q (.inst 433 (gC c.most (c.n+3))))(qn:Q (.gdict es)):∀{j:Nat},j< c.n+4→V[j]? =some o→Q o
 | 0,_,e=>aD (E.o0.symm.trans e)▸q0
 | 1,_,e=>aD (E.o1.symm.trans e)▸q1
 | i+2,h,e=>by
  refine Or.elim (Nat.lt_or_ge i c.n) (λhi=> ?_) λhi=> ?_
  ·exact aD ((E.op i hi).symm.trans e)▸qp i hi
  ·refine Or.elim (Nat.eq_or_lt_of_le hi) (λhi=> ?_) λhi=> ?_
   ·subst hi;exact aD (E.oc.symm.trans e)▸qc
   ·haveI hi:i=c.n+1:=Nat.le_antisymm (Nat.le_of_lt_succ (Nat.lt_of_add_lt_add_right h)) hi
    subst hi;exact aD (E.on.symm.trans e)▸qn
theorem CO (E:Enc c ν es s V)(N:Num c ν es s)(F:FB c V):V.all (iY V.length)=true:=by
 refine List.all_eq_true.mpr λo ho=>(List.mem_iff_getElem?.mp ho).elim λj e=> ?_
 have lt:∀{k},k< 4→decide (c.n+k< V.length)=true:=λh=>decide_eq_true (Nat.lt_of_lt_of_le (Nat.add_lt_add_left h _) E.len)
 refine Or.elim (Nat.lt_or_ge j (c.n+4)) (λh=> ?_) λh=> ?_
 ·refine E.each (Q:=λo=>iY V.length o=true) (Bool.and_eq_true_iff.mpr ⟨decide_eq_true (Nat.lt_of_lt_of_le (Nat.le_add_left 2 _) (ba (Nat.add_le_add_left (by decide) _) E.len)),Bool.and_eq_true_iff.mpr ⟨lt (by decide),rfl⟩⟩) (M7 (ba (Nat.add_le_add_left (by decide) _) E.len)) (λi _=>OT)
   (show (true && (true && (decide (c.n+3< V.length) && true)))=true from by rw [lt (by decide)];rfl) (List.all_eq_true.mpr λp hp=>(N.mem p hp).elim λi q=>q.elim λb q=>by rw [q.2.2];rfl) h e
 ·exact F j o h e
def hN (ν:Nat→Bool→Int)(s:Nat→S)(n:Nat):List AV:=(List.range n).map λi=> .tup [.str (s i).p.ch.s,cg ν i (s i).bd]
theorem Es (E:Enc c ν es s V)(h1:(U[1]?).join=some (.lst (dW c.n))):d5 (iP (aa 1)) none (bl (ae (aB 11 [279] (aa 0)) (ae (aB 13 [279] (aa 0)) aj))) [] U V=some (.lst (hN ν s c.n)):=
 gS (hM h1 rfl) pj (Cg λi hi=>kF (aA (bR rfl (E.io hi) c1 rfl rfl) (aA (jR E hi rfl) rfl)) (bH rfl))
theorem Xz:jD (cg ν i x)=0:=by cases x <;> rfl
theorem VB (l:List Nat):fE (l.map λi=>AV.tup [.str (s i).p.ch.s,cg ν i (s i).bd])≤1:=by
 induction l with
 | nil=>exact Nat.zero_le _
 | cons i l ih=>exact Nat.max_le.mpr ⟨Nat.succ_le_succ (Nat.max_le.mpr ⟨Nat.le_refl _,Nat.max_le.mpr ⟨Nat.le_of_eq Xz,Nat.le_refl _⟩⟩),ih⟩
theorem WX {a b:Ch}:fJ (.str a.s) (.str b.s)=some (b == a):=congrArg some (Ch.s_inj.trans (decide_eq_decide.mpr eq_comm))
theorem rE (h:fJ x y=some a)(k:lV l m=some b):lV (x::l) (y::m)=some (a && b):=az h (az k rfl)
theorem Tc (h:fJ x y=some a)(k:fJ u v=some b):fJ (.tup [x,u]) (.tup [y,v])=some (a && (b && true)):=rE h (rE k rfl)
theorem VC {t:Nat→S}(l:List Nat)(h:∀i∈l,fJ (cg ν' i (t i).bd) (cg ν i (s i).bd)=some ((s i).bd == (t i).bd)):
  lV (l.map λi=>AV.tup [.str (t i).p.ch.s,cg ν' i (t i).bd]) (l.map λi=>AV.tup [.str (s i).p.ch.s,cg ν i (s i).bd])=some (!(l.any λi=>(s i).chd (t i))):=by
 induction l with
 | nil=>rfl
 | cons i l ih=>
  refine (rE (Tc WX (h i bY)) (ih λj hj=>h j (cQ _ hj))).trans ?_
  rw [List.any_cons,Bool.not_or,S.chd,Bool.not_not,Bool.and_true]
theorem v5 {x:S}:x.choose1=if x.held=true then x.pre.settle else x.pre:=by
 unfold S.choose1 S.pre
 split <;> rfl
theorem NI {x:S}(h:x.ent b=true):x.choose1.ent b=true:=by
 refine (v5)▸ ?_
 split
 ·exact Ci (by rw [rO];exact h)
 ·rw [rO];exact h
theorem NJ {x:S}:x.settle.p.lone=x.p.lone:=by
 unfold S.settle
 dsimp only
 split
 ·rw [pJ]
 ·rw [pJ];rfl
theorem choose1_lone {x:S}:x.choose1.p.lone=x.p.lone:=by
 refine (v5)▸ ?_
 split
 ·rw [NJ,wA]
 ·exact wA
theorem WY (h:∀a b,x=some a→y=some b→ν' i b=ν i a→a=b)(h':∀a,x=some a→y=some a→ν' i a=ν i a):fJ (cg ν' i y) (cg ν i x)=some (x == y):=by
 cases x with
 | none=>cases y <;> rfl
 | some a=>cases y with
  | none=>rfl
  | some b=>
   show some (ν' i b == ν i a)=some (a == b)
   by_cases e:a=b
   ·rw [← e,h' a rfl (e▸rfl),beq_self_eq_true,beq_self_eq_true]
   ·rw [beq_eq_false_iff_ne.mpr e,beq_eq_false_iff_ne.mpr λq=>e (h a b rfl rfl q)]
theorem Q6 (h:F avs V=some (v,σ'))(h1:bS V.length v=true)(h2:(σ'.take V.length).all (iY V.length)=true):pL F avs V=some (v,σ'.take V.length):=by
 simp only [pL,h,h1,h2,Bool.and_self,if_true]
theorem OU (E:Enc c ν es s V)(N:Num c ν es s)(hl:Hc c s)(F:FB c V):∃ν' es' σ',qB [.ref (c.n+2), .lst (dW c.n)] V=some (.bool ((List.range c.n).any λi=>(s i).chd (s i).choose),σ')∧
  Enc c ν' es' (λi=>(s i).choose) σ'∧Num c ν' es' (λi=>(s i).choose)∧Far c V σ':=by
 have Yp:=E.len
 generalize hrg:List.range c.n=rg
 have hr:∀{j},j∈rg→j< c.n:=λhj=>cI (hrg▸hj)
 have hr':∀{j},j< c.n→j∈rg:=λhj=>hrg▸List.mem_range.mpr hj
 have nd:rg.Nodup:=hrg▸List.nodup_range
 have h4:rg.length≤4:=by rw [← hrg,List.length_range];exact c.n4
 have hg4:(rg.filter λi=>(s i).held).length≤4:=ba (List.length_filter_le _ _) h4
 have hpc:∀j,(bE s S.pre rg j).p.lone=(s j).p.lone∧(bE s S.pre rg j).cur=(s j).cur:=λj=>by
  unfold bE
  split
  ·exact ⟨wA,by unfold S.cur S.pre;split <;> rfl⟩
  ·exact ⟨rfl,rfl⟩
 refine (Ta (g:=V.length) Yp (a:=some (.lst (dW c.n))) (b:=some (.lst (hN ν s c.n))) (f:=none) N nd (λj hj=>hr hj) h4 (cu:=λi=>(s i).cur) (λj hj=>⟨hl j (hr hj),rfl⟩) (σ0:=V ++ [.gdict []]) (V:=V ++ [.gdict []])
  ⟨⟨none,rfl⟩,by exact (onL_nil)▸E.more _,by rw [List.getElem?_append_right (Nat.le_refl _),Nat.sub_self];rfl,rfl,λ_ _ _=>rfl⟩).elim λℓ1 q=>q.elim λσ1 q=> ?_
 refine xE q.2.oo λo1 ho1=> ?_
 refine (OS (lt:=n5) (f:=λi=>c.gk i (s i).cur) hg4).elim λm hm=> ?_
 have hmm:∀j∈m,j∈rg.filter λi=>(s i).held:=λj hj=>hm.1.mem_iff.mp hj
 have hmr:∀{j},j∈m→j∈rg:=λhj=>(List.mem_filter.mp (hmm _ hj)).1
 refine (Tb (s:=bE s S.pre rg) (ν0:=ν) (cu:=λi=>(s i).cur) (λj hj=>hr (List.mem_filter.mp hj).1) Yp (a:=some (.lst (dW c.n))) (o:=o1) (b:=some (.lst (hN ν s c.n))) (hm.1.nodup_iff.mpr (nd.filter _)) hmm
  (λj hj=>⟨(hpc j).1.trans (hl j (hr (hmr hj))),(hpc j).2⟩) q.2.gg ⟨⟨none,ho1⟩,by exact q.2.EE,by exact (onL_nil)▸N.onPre,Far.refl,λ_ _ _ _=>rfl⟩).elim λℓ2 z=>z.elim λσ2 z=>z.2.elim λν2 y=>y.elim λes2 y=> ?_
 have hst:∀{j},j< c.n→bE (bE s S.pre rg) S.settle m j=(s j).choose1:=λ{j} hj=>by
  haveI e:bE s S.pre rg j=(s j).pre:=if_pos (hr' hj)
  rw [v5,← e]
  by_cases hh:(s j).held=true
  ·rw [if_pos hh];exact if_pos (hm.1.mem_iff.mpr (List.mem_filter.mpr ⟨hr' hj,hh⟩))
  ·rw [if_neg hh];exact if_neg λz=>hh (List.mem_filter.mp (hmm j z)).2
 have E3:Enc c ν2 es2 (λi=>(s i).choose1) σ2:=y.E.congr (λj hj=>by exact (hst hj)▸⟨rfl,rfl⟩) (λ_ _ _ _=>rfl)
 have N3:Num c ν2 es2 (λi=>(s i).choose1):=y.N.congr λj hj=>⟨λb=>by rw [hst hj],λb e=>y.N.bd j hj b (by exact (hst hj)▸e)⟩
 refine (Q3 E3 N3 λi hi=>choose1_lone.trans (hl i hi)).elim λes3 x=>x.elim λσ3 x=> ?_
 haveI E5:Enc c ν2 es3 (λi=>(s i).choose) σ3:=x.2.1
 have hv:∀{j b},j< c.n→(s j).bd=some b→ν2 j b=ν j b:=λ{j b} hj h=>y.v j hj b (by rw [show bE s S.pre rg j=(s j).pre from if_pos (hr' hj),rO];exact N.bd j hj b h)
 haveI hbd:∀i,(s i).choose.bd=(s i).choose1.bd:=λi=>drop_bd.trans drop_bd
 have hne:cY (.lst (hN ν2 (λi=>(s i).choose) c.n)) (.lst (hN ν s c.n))=some (rg.any λi=>(s i).chd (s i).choose):=by
  haveI hq:=VC (s:=s) (ν:=ν) (ν':=ν2) (t:=λi=>(s i).choose) rg λi hi=>WY (λa b h1 h2 e=>(N3.inj i i b a (hr hi) (hr hi) (N3.bd i (hr hi) b ((hbd i).symm.trans h2)) (NI (N.bd i (hr hi) a h1)) (e.trans (hv (hr hi) h1).symm)).2.symm) λa h1 _=>hv (hr hi) h1
  haveI hd:jD (.lst (hN ν2 (λi=>(s i).choose) c.n))≤60:=ba (Nat.succ_le_succ (VB _)) (by decide)
  haveI hle:(hN ν2 (λi=>(s i).choose) c.n).length=(hN ν s c.n).length:=by rw [hN,hN,List.length_map,List.length_map]
  haveI he:bp (.lst (hN ν2 (λi=>(s i).choose) c.n)) (.lst (hN ν s c.n))=some (!(rg.any λi=>(s i).chd (s i).choose)):=(if_pos ⟨rfl,hd⟩).trans ((if_pos hle).trans (by subst hrg;exact hq))
  exact (congrArg (Option.map not) he).trans (congrArg some (Bool.not_not _))
 haveI hs:iT [.ref V.length] σ1=some (.lst (m.map λi=>aX (c.gk i (s i).cur))):=by
  rw [SV q.2.gg (by rw [List.length_map];exact hg4),List.map_map,show (λp:GK × AV=>p.1) ∘ h9 c (λi=>(s i).cur)=λi=>c.gk i (s i).cur from rfl,hm.2,List.map_map];rfl
 haveI ex:uw [.ref (c.n+2), .lst (dW c.n)] V=some (.bool (rg.any λi=>(s i).chd (s i).choose),σ3):=by
  refine xE y.f λf2 hf2=> ?_
  subst ho1 hf2 hrg
  exact fh rfl (cb (aK (Es E rfl)) (cb rfl (eV (p:=xQ) (iy rfl) q.1 (eV (p:=Gu) (iy (bQ (aA rfl rfl) hs)) z.1 (eF (gZ rfl (ix E3.oc) (aA rfl rfl) (Nat.zero_le _) x.1) (bw (aK (fF (Es E5 rfl) rfl hne))))))))
 have hn3:σ3.length=V.length+1:=x.2.2.2.1.trans (y.k.1.trans (q.2.nn.trans List.length_append))
 have hle3:V.length≤σ3.length:=hn3▸Nat.le_succ _
 have ht:(σ3.take V.length).length=V.length:=by exact (List.length_take).trans (Nat.min_eq_left hle3)
 have hfar:Far c V (σ3.take V.length):=⟨ht,λj hj=>by
  refine Or.elim (Nat.lt_or_ge j V.length) (λhjl=> ?_) λhjl=> ?_
  ·rw [List.getElem?_take_of_lt hjl,x.2.2.2.2 j hj,y.k.2 j hj,q.2.kk j hj (Nat.ne_of_lt hjl),List.getElem?_append_left hjl]
  ·rw [List.getElem?_eq_none (ba (Nat.le_of_eq ht) hjl),List.getElem?_eq_none hjl]⟩
 haveI E6:=E5.take Yp hle3
 haveI hb:=CO E6 x.2.2.1 (F.far hfar)
 rw [ht] at hb
 exact ⟨ν2,es3,_,Q6 ex rfl hb,E6,x.2.2.1,hfar⟩
end
end
section
section
variable {c:Cfg} {ν ν':Nat→Bool→Int} {es es':List (GK × AV)} {s s':Nat→S} {V σ':ar}
noncomputable def i7 (ν:Nat→Bool→Int)(s:Nat→S)(i j:Nat):Bool:=match (s j).bd,(s i).bd with
 | none,none=>true
 | some a,some b=>ν j a == ν i b
 | _,_=>false
theorem Gv:bp (cg ν j (s j).bd) (cg ν i (s i).bd)=some (i7 ν s i j):=by
 unfold i7
 cases (s j).bd <;> cases (s i).bd <;> rfl
theorem Dw:i7 ν s i i=true:=by
 unfold i7
 cases (s i).bd with
 | none=>rfl
 | some b=>exact beq_self_eq_true _
theorem Et (N:Num c ν es s)(hi:i< c.n)(hj:j< c.n)(h:i7 ν s i j=true):j=i∨(s j).bd=none:=by
 unfold i7 at h
 cases hb:(s j).bd with
 | none=>exact .inr rfl
 | some a=>cases hb':(s i).bd with
  | none=>rw [hb,hb'] at h;cases h
  | some b=>rw [hb,hb'] at h;exact .inl (N.inj j i a b hj hi (N.bd j hj a hb) (N.bd i hi b hb') (eq_of_beq h)).1
noncomputable def HM (c:Cfg)(s:Nat→S):Prop:=∀j,j< c.n→(s j).bd=none→(s j).p.ch= .un
theorem VD (l:List Nat):fE (l.map λj=>AV.ref (j+2))=0:=by
 induction l with
 | nil=>rfl
 | cons x r ih=>exact (Nat.max_eq_right (Nat.zero_le _)).trans ih
theorem Q7 (l:List Nat):bp (.lst (l.map λj=>AV.ref (j+2))) (.lst [])=some l.isEmpty:=by
 refine (if_pos ⟨rfl,ba (Nat.succ_le_succ (Nat.le_of_eq (VD l))) (by decide:1≤60)⟩).trans ?_
 cases l <;> rfl
theorem NK {α:Type}{l:List α}{x:α}(h:x∈l):l.isEmpty=false:=by
 cases l with
 | nil=>cases h
 | cons _ _=>rfl
theorem OV {α:Type}{l:List α}(h:∀x∈l,False):l.isEmpty=true:=by
 cases l with
 | nil=>rfl
 | cons x _=>exact (h x bY).elim
theorem Td (E:Enc c ν es s V)(N:Num c ν es s)(hi:i< c.n)(hok:HM c s):qN [.lst (dW c.n),cg ν i (s i).bd] V=some (.bool (s i).rdy):=by
 generalize hL1:(List.range c.n).filter (λj=>i7 ν s i j && (decide ((s j).p.mx= .wai) && decide ((s j).p.ch= .sel)))=L1
 generalize hL2:L1.filter (λj=>decide (0< (s j).p.jl))=L2
 have lt:∀{j},j∈L1→j< c.n∧i7 ν s i j=true∧(decide ((s j).p.mx= .wai) && decide ((s j).p.ch= .sel))=true:=λh=>by
  have h:=List.mem_filter.mp (hL1▸h)
  exact ⟨cI h.1,eH h.2⟩
 have hn:(L1.map λj=>AV.ref (j+2)).length≤10000:=by rw [List.length_map,← hL1];exact ba (List.length_filter_le _ _) (by rw [List.length_range];exact ba c.n4 (by decide))
 have hr:L2.isEmpty=(s i).rdy:=by
  have hz:∀j,(s j).rdy= !((decide ((s j).p.mx= .wai) && decide ((s j).p.ch= .sel)) && decide (0< (s j).p.jl)):=λj=>rfl
  cases h:((decide ((s i).p.mx= .wai) && decide ((s i).p.ch= .sel)) && decide (0< (s i).p.jl)) with
  | true=>
   rw [hz,h]
   have h:=eH h
   exact NK (hL2▸List.mem_filter.mpr ⟨hL1▸List.mem_filter.mpr ⟨List.mem_range.mpr hi,Bool.and_eq_true_iff.mpr ⟨Dw,h.1⟩⟩,h.2⟩)
  | false=>
   rw [hz,h]
   refine OV λj m=> ?_
   have m:=List.mem_filter.mp (hL2▸m)
   have q:=lt m.1
   rcases Et N hi q.1 q.2.1 with e | e
   ·subst e;exact Bool.false_ne_true (h.symm.trans (Bool.and_eq_true_iff.mpr ⟨q.2.2,m.2⟩))
   ·have:=fG (eH q.2.2).2
    rw [hok j q.1 e] at this;cases this
 refine dK rfl (cb (aK (gS (hM rfl rfl) pj (rB (g:=λj=>AV.ref (j+2)) (List.range c.n) (λj hj=>oi (iw (bO (jR E (cI hj) rfl) rfl Gv) λ_=>iw (bO (bR rfl (E.io (cI hj)) c1 rfl rfl) rfl (mxEq (b:= .wai))) λ_=>jx (bO (bR rfl (E.io (cI hj)) c1 rfl rfl) rfl (qb (b:= .sel))))) λ_ _ _=>rfl)))
  (bw (aK (fF (gS (hM (v:= .lst (L1.map λj=>AV.ref (j+2))) (by rw [← hL1];rfl) rfl) hn ((rB (k:=λj=>decide (0< (s j).p.jl)) (g:=λj=>AV.ref (j+2)) L1 (λj hj=>oi (bO (bR rfl (E.io (lt hj).1) c1 rfl rfl) rfl rfl)) λ_ _ _=>rfl).trans (by rw [hL2]))) rfl ((Q7 L2).trans (congrArg some hr)))))) rfl
theorem VE:upd s i (s i)=s:=by funext j;unfold upd;split;rename_i e;rw [e];rfl
theorem Q8 (E:Enc c ν es s V)(N:Num c ν es s)(hi:i< c.n):∃σ',oX [.ref (i+2), .bool b] V=some (.bool ((s i).step b).2,σ')∧
  Enc c ν es (upd s i ((s i).step b).1) σ'∧Num c ν es (upd s i ((s i).step b).1)∧Far c V σ':=by
 have h:=PT (V:=V) (r:=c.row i) (rp:=c.mr i) (bv:=cg ν i (s i).bd) (p:=(s i).p) (E.lt hi) (b:=b)
 rw [E.w hi] at h
 by_cases h1:(s i).p.next b=(s i).p.mx
 ·have hs:(s i).step b=(s i,false):=if_pos h1
  rw [hs,VE]
  exact ⟨V,h.trans (by rw [if_pos h1,decide_eq_false λn=>n h1]),E,N,Far.refl⟩
 ·generalize hx:(s i).step b=x
  have hs:x=_:=hx.symm.trans (if_neg h1)
  rw [if_neg h1,decide_eq_true h1] at h
  refine ⟨_,h.trans (by rw [hs]),?_,N.congr λj hj=> ?_,yr hi⟩
  ·have hp:x.1.p=if (s i).p.next b= .wai then { (s i).p.move ((s i).p.next b) with jl:=2 } else (s i).p.move ((s i).p.next b):=by rw [hs]
   rw [← hp]
   refine E.put hi _ ?_
   rw [hs]
   dsimp only
   split <;> rfl
  ·by_cases e:j=i
   ·rw [e,ee,hs]
    refine ⟨λa=>rfl,λa q=> ?_⟩
    dsimp only at q
    split at q
    ·cases q
    ·exact N.bd i hi a q
   ·rw [ek e]
    exact ⟨λ_=>rfl,λa q=>N.bd j hj a q⟩
def yQ:aF:=(ai (bx 3 (qj (bB 0 (λ_=>0) oX (yA (ae (aa 4) (ae (aL qN (ae (aa 1) (ae (aB 13 [279] (aa 4)) aj))) aj)))) (xP (aa 3)))) aq)
noncomputable def S.stp (x:S):S:=(x.step x.rdy).1
theorem WZ (h:x U V=some (.bool z,σ'))(k:b U σ'=some (.bool z')):qj x (xP b) U V=some (.bool (z || z'),σ'):=by
 unfold qj
 rw [h]
 cases z with
 | true=>rfl
 | false=>exact aK k
structure StI (c:Cfg) (s:Nat→S) (a o:Option AV) (f0:Bool) (σ0:ar) (d:List Nat) (U:Lo) (V:ar):Prop where
 oo:∃o4,U=[a,some (.lst (dW c.n)),o,some (.bool (f0 || d.any λi=>((s i).step (s i).rdy).2)),o4]
 EE:Enc c ν es (bE s S.stp d) V
 NN:Num c ν es (bE s S.stp d)
 kk:Far c σ0 V
theorem Te (nd:full.Nodup)(hn:∀j∈full,j< c.n)(hok:∀d,HM c (bE s S.stp d))(h:StI (ν:=ν) (es:=es) c s a o f0 σ0 [] U V):
  ∃ℓ' σ',b9 (bh 4) yQ (full.map λi=> .ref (i+2)) U V=some (.next,ℓ',σ')∧StI (ν:=ν) (es:=es) c s a o f0 σ0 full ℓ' σ':=
 m8 nd _ (λd i U V t h=>by
  have hin:=hn i t.mem
  have hat:=nD (s:=s) (f:=S.stp) t.ni
  obtain ⟨o4,rfl⟩:=h.oo
  have hw:=Td h.EE h.NN hin (hok d)
  have hb:=jR h.EE hin (U:=[a,some (.lst (dW c.n)),o,some (.bool (f0 || d.any λi=>((s i).step (s i).rdy).2)),some (.ref (i+2))]) (x:=aa 4) rfl
  refine (Q8 h.EE h.NN hin (b:=(s i).rdy)).elim λσ1 q=>⟨_,σ1,cb (WZ (ew (aA rfl (aA (bQ (aA rfl (aA hb rfl)) (hw.trans (by rw [hat]))) rfl)) (Nat.zero_le _) q.1) rfl) rfl,⟨some (.ref (i+2)),?_⟩,?_,?_,h.kk.trans q.2.2.2⟩
  ·rw [hat]
   exact congrArg (λz=>[a,some (.lst (dW c.n)),o,some (.bool z),some (.ref (i+2))]) (by rw [List.any_append,List.any_cons,List.any_nil,Bool.or_false];exact (Bool.or_comm ..).trans (Bool.or_assoc ..))
  ·have e:=q.2.1
   rw [show (bE s S.stp d i).step (s i).rdy=(bE s S.stp d i).step (bE s S.stp d i).rdy by rw [hat]] at e
   rw [← mZ t.ni];exact e
  ·have e:=q.2.2.1
   rw [show (bE s S.stp d i).step (s i).rdy=(bE s S.stp d i).step (bE s S.stp d i).rdy by rw [hat]] at e
   rw [← mZ t.ni];exact e) U V h
end
end
section
noncomputable def Stb (t:S):Prop:=t.ok=true∧t.round=(t,false)
theorem PY {x:S}(h:(x.step b).2=false):(x.step b).1=x:=by
 unfold S.step at *
 dsimp only at *
 split
 ·rfl
 ·rename_i q;rw [if_neg q] at h;exact Bool.noConfusion h
theorem Q9 {α:Type}{a a':α}(h:(a,x || y)=(a',false)):a=a'∧y=false:=⟨congrArg Prod.fst h,(Bool.or_eq_false_iff.mp (congrArg Prod.snd h)).2⟩
theorem Stb.choose (h:Stb t):t.choose=t:=by
 haveI h2:=Q9 (a:=(t.choose.step t.choose.rdy).1) h.2
 exact (PY h2.2).symm.trans h2.1
theorem wZ (h:S.run (m+1) s=some t):(s.ok=true∧s.choose.ok=true∧s.round.1.ok=true)∧((s.round.2=true∧S.run m s.round.1=some t)∨(s.round.2=false∧s.round.1=t∧s.round.1.round=(s.round.1,false))):=by
 unfold S.run at h
 by_cases q:s.ok=false∨s.choose.ok=false∨s.round.1.ok=false
 ·exact absurd ((if_pos q).symm.trans h) nofun
 ·have h:=(if_neg q).symm.trans h
  refine ⟨⟨Bool.of_not_eq_false λz=>q (.inl z),Bool.of_not_eq_false λz=>q (.inr (.inl z)),Bool.of_not_eq_false λz=>q (.inr (.inr z))⟩,?_⟩
  by_cases q2:s.round.2=true
  ·exact .inl ⟨q2,(if_pos q2).symm.trans h⟩
  ·haveI h:=(if_neg q2).symm.trans h
   by_cases q3:s.round.1.round=(s.round.1,false)
   ·exact .inr ⟨Bool.eq_false_iff.mpr q2,aD ((if_pos q3).symm.trans h),q3⟩
   ·exact absurd ((if_neg q3).symm.trans h) nofun
noncomputable def Rn (m:Nat)(s t:S):Prop:=S.run m s=some t∨(s=t∧Stb t)
theorem Stb.rn (h:Stb t)(m:Nat):Rn m t t:= .inr ⟨rfl,h⟩
theorem Eu (m:Nat):∀{s:S},S.run m s=some t→Stb t:=by
 induction m with
 | zero=>exact nofun
 | succ m ih=>
  intro s h
  haveI q:=wZ h
  exact q.2.elim (λz=>ih z.2) λz=>z.2.1▸⟨q.1.2.2,z.2.2⟩
theorem Rn.oks (h:Rn m s t):s.ok=true∧s.choose.ok=true∧s.round.1.ok=true:=by
 refine h.elim (λh=> ?_) λq=> ?_
 ·cases m with
  | zero=>exact au h
  | succ m=>exact (wZ h).1
 ·rw [q.1,q.2.choose,q.2.2]
  exact ⟨q.2.1,q.2.1,q.2.1⟩
theorem Rn.next (h:Rn m s t):(s.round.2=true→0< m)∧(s.round.2=false→s.round.1=t)∧Rn (m - 1) s.round.1 t:=by
 refine h.elim (λh=> ?_) λq=> ?_
 ·cases m with
  | zero=>exact au h
  | succ m=>exact ⟨λ_=>Nat.succ_pos _,(wZ h).2.elim (λz=>⟨λe=>absurd (z.1.symm.trans e) nofun, .inl z.2⟩) λz=>⟨λ_=>z.2.1, .inr ⟨z.2.1,Eu _ h⟩⟩⟩
 ·rw [q.1,q.2.2]
  exact ⟨nofun,λ_=>rfl, .inr ⟨rfl,q.2⟩⟩
theorem XA (ht:tgt u U V=some (ℓ1,σ1))(hb:p ℓ1 σ1=some (.ret v,ℓ2,σ2)):b9 tgt p (u::us) U V=some (.ret v,ℓ2,σ2):=az ht (az hb rfl)
theorem HN (ht:tgt u U V=some (ℓ1,σ1))(hb:p ℓ1 σ1=some (.next,ℓ2,σ2))(k:b9 tgt p us ℓ2 σ2=r):b9 tgt p (u::us) U V=r:=az ht (az hb k)
theorem Tf {x:S}(h:x.ok=true):x.p.lone=true:=by
 unfold S.ok at h
 simp only [Bool.and_eq_true] at h
 exact h.1.1.1
theorem Hg {x:S}(h:x.ok=true):x.bd=none→x.p.ch= .un:=by
 unfold S.ok at h
 simp only [Bool.and_eq_true,Bool.or_eq_true] at h
 intro e
 refine Or.elim h.1.1.2 (λq=> ?_) λq=> ?_
 ·simpa using q
 ·rw [e] at q;exact Bool.noConfusion q
section
variable {c:Cfg} {ν ν':Nat→Bool→Int} {es es':List (GK × AV)} {s s' t:Nat→S} {V σ':ar}
theorem Enc.ext (E:Enc c ν es s V)(h:∀j,j< c.n→s' j=s j):Enc c ν es s' V:=E.congr (λj hj=>by exact (h j hj)▸⟨rfl,rfl⟩) λ_ _ _ _=>rfl
theorem Num.ext (N:Num c ν es s)(h:∀j,j< c.n→s' j=s j):Num c ν es s':=N.congr λj hj=>by
 refine (h j hj).symm▸ ?_
 exact ⟨λ_=>rfl,λb e=>N.bd j hj b e⟩
def xT:aF:=(ai (bx 3 (bW 0 (λ_=>0) 433 qB (aB 23 [543] (aa 0)) (yA (ae (aa 1) aj)))) (ai (cP (iX (xP (aa 1))) (bh 4) yQ) (ai (aQ (yT (dn (bU (aa 3)))) (ai nG aq) aq) aq)))
theorem VF {α:Type}{f g:α→Bool}(l:List α):(l.any f || l.any g)=l.any λi=>f i || g i:=by
 induction l with
 | nil=>rfl
 | cons x l ih=>
  rw [List.any_cons,List.any_cons,List.any_cons,← ih]
  cases f x <;> cases g x <;> simp
theorem PZ (E:Enc c ν es s V)(N:Num c ν es s)(F:FB c V)(h1:∀j,j< c.n→(s j).ok=true)(h2:∀j,j< c.n→(s j).choose.ok=true)(h3:∀j,j< c.n→(s j).round.1.ok=true):
  ∃ν' es' σ' o',xT [some (.ref 0),some (.lst (dW c.n)),o2,o3,o4] V=some (if ((List.range c.n).any λi=>(s i).round.2)=true then .next else .ret .none,[some (.ref 0),some (.lst (dW c.n)),o2,some (.bool ((List.range c.n).any λi=>(s i).round.2)),o'],σ')∧
   Enc c ν' es' (λi=>(s i).round.1) σ'∧Num c ν' es' (λi=>(s i).round.1)∧Far c V σ':=by
 refine (OU E N (λj hj=>Tf (h1 j hj)) F).elim λν1 q=>q.elim λes1 q=>q.elim λσ1 q=> ?_
 refine (Te (s:=λi=>(s i).choose) (a:=some (.ref 0)) (o:=o2) (f0:=(List.range c.n).any λi=>(s i).chd (s i).choose) List.nodup_range (λj hj=>cI hj) (λd j hj=> ?_) (σ0:=σ1) (V:=σ1) ⟨⟨o4,congrArg (λz=>[some (.ref 0),some (.lst (dW c.n)),o2,some (.bool z),o4]) (Bool.or_false _).symm⟩,by exact q.2.1,by exact (onL_nil)▸q.2.2.1,Far.refl⟩).elim λℓ2 z=>z.elim λσ2 z=> ?_
 ·unfold bE
  split
  ·exact Hg (h3 j hj)
  ·exact Hg (h2 j hj)
 ·haveI hfin:∀j,j< c.n→(s j).round.1=bE (λi=>(s i).choose) S.stp (List.range c.n) j:=λj hj=>(if_pos (List.mem_range.mpr hj)).symm
  refine xE z.2.oo λo' ho=> ?_
  rw [VF] at ho
  refine ⟨ν1,es1,σ2,o',?_,z.2.EE.ext hfin,z.2.NN.ext hfin,q.2.2.2.trans z.2.kk⟩
  haveI e2:=z.1
  rw [ho] at e2
  refine cb (gZ (bR rfl (jQ E.o0) (by decide) rfl rfl) (ix E.oc) (aA rfl rfl) (Nat.zero_le _) q.1) (eV (p:=yQ) (iy rfl) e2 ?_)
  show ai _ _ [some (.ref 0),some (.lst (dW c.n)),o2,some (.bool ((List.range c.n).any λi=>(s i).round.2)),o'] σ2=_
  cases ((List.range c.n).any λi=>(s i).round.2) with
  | true=>rfl
  | false=>rfl
theorem P0 (l:List AV):∀(m:Nat) (s:Nat→S) (ν:Nat→Bool→Int) (es:List (GK × AV)) (V:ar) (o2 o3 o4:Option AV),m< l.length→(∀j,j< c.n→Rn m (s j) (t j))→Enc c ν es s V→Num c ν es s→FB c V→
  ∃ν' es' ℓ' σ',b9 (bh 2) xT l [some (.ref 0),some (.lst (dW c.n)),o2,o3,o4] V=some (.ret .none,ℓ',σ')∧Enc c ν' es' t σ'∧Num c ν' es' t∧Far c V σ':=by
 induction l with
 | nil=>exact λm _ _ _ _ _ _ _ hm=>absurd hm (Nat.not_lt_zero _)
 | cons x r ih=>
  intro m s ν es V o2 o3 o4 hm h E N F
  refine (PZ E N F (λj hj=>(h j hj).oks.1) (λj hj=>(h j hj).oks.2.1) (λj hj=>(h j hj).oks.2.2) (o2:=some x) (o3:=o3) (o4:=o4)).elim λν1 q=>q.elim λes1 q=>q.elim λσ1 q=>q.elim λo' q=> ?_
  haveI e1:=q.1
  cases hno:((List.range c.n).any λi=>(s i).round.2) with
  | false=>
   rw [hno] at e1
   have hfin:∀j,j< c.n→t j=(s j).round.1:=λj hj=>((h j hj).next.2.1 (Bool.eq_false_iff.mpr (List.any_eq_false.mp hno j (List.mem_range.mpr hj)))).symm
   exact ⟨ν1,es1,_,σ1,XA rfl e1,q.2.1.ext hfin,q.2.2.1.ext hfin,q.2.2.2⟩
  | true=>
   rw [hno] at e1
   haveI hm0:0< m:=(List.any_eq_true.mp hno).elim λi z=>(h i (cI z.1)).next.1 z.2
   refine (ih (m - 1) (λi=>(s i).round.1) ν1 es1 σ1 (some x) (some (.bool true)) o' (Nat.sub_one_lt_of_le hm0 (Nat.le_of_lt_succ hm)) (λj hj=>(h j hj).next.2.2) q.2.1 q.2.2.1 (F.far q.2.2.2)).imp λν2 z=>z.imp λes2 z=>z.imp λℓ' z=>z.imp λσ2 z=>⟨HN rfl e1 z.1,z.2.1,z.2.2.1,q.2.2.2.trans z.2.2.2⟩
noncomputable def Sys (c:Cfg)(s:Nat→S)(V:ar):Prop:=(∃ν es,Enc c ν es s V∧Num c ν es s)∧FB c V
theorem ta (E:Enc c ν es s V)(h:(U[0]?).join=some (.ref 0)):aT 543 jW (aa 0) aj U V=some (.lst (dW c.n)):=cW h (jQ E.o0) rfl E.all
theorem Gw:(dW c.n).length=c.n:=by rw [dW,List.length_map,List.length_range]
theorem yt (h:a U V=some (.lst l))(hl:l.length≤100000):aL fq (ae a aj) U V=some (.int l.length):=bQ (aA h rfl) (if_pos hl)
theorem Dx (h:a U V=some (.int n))(hn:n< 100000∧ -100000< n):jt a U V=some (gQ 0 n.toNat,true,V):=az h (az rfl (cw hn rfl))
theorem VG (h:it U V=some (items,true,σ1))(hl:b9 tgt p items U σ1=some (.ret v,ℓ1,σ2)):ai (cP it tgt p) q U V=some (.ret v,ℓ1,σ2):=by simp only [ai,cP,h,hl]
theorem Ra (Y:Sys c s V)(h:∀j,j< c.n→Rn 10 (s j) (t j)):∃σ',j0 [.ref 0] V=some (.none,σ')∧Sys c t σ'∧Far c V σ':=by
 refine Y.1.elim λν q=>q.elim λes q=> ?_
 have h4:=c.n4
 have hn:12 * ((c.n:Int)+1)< 100000∧ -100000< 12 * ((c.n:Int)+1):=by omega
 haveI hl:10< (gQ 0 (12 * ((c.n:Int)+1)).toNat).length:=by rw [vQ];omega
 refine (P0 (c:=c) (t:=t) _ 10 s ν es V none none none hl h q.1 q.2 Y.2).elim λν' z=>z.elim λes' z=>z.elim λℓ' z=>z.elim λσ' z=>⟨σ',?_,⟨⟨ν',es',z.2.1,z.2.2.1⟩,Y.2.far z.2.2.2⟩,z.2.2.2⟩
 exact fh rfl (cb (aK (ta q.1 rfl)) (VG (p:=xT) (Dx (dN rfl (dN (yt rfl (by refine (Gw).symm▸ ?_;exact ba h4 (by decide))) rfl rfl) (by refine (Gw).symm▸ ?_;rfl)) hn) z.1))
theorem sq (E:Enc c ν es s V)(N:Num c ν es s)(hi:i< c.n){F:Fn}
  (hF:∀{r rp:RowC} {bv:AV} {p:P},r=c.row i→rp=c.mr i→p=(s i).p→F (.ref (i+2)::as) (W V (i+2) r rp bv p)=some (v,W V (i+2) r rp bv p')):
  ∃σ',F (.ref (i+2)::as) V=some (v,σ')∧Enc c ν es (upd s i { s i with p:=p' }) σ'∧Num c ν es (upd s i { s i with p:=p' })∧Far c V σ':=by
 haveI h:=hF (bv:=cg ν i (s i).bd) rfl rfl rfl
 rw [E.w hi] at h
 refine ⟨_,h,E.put hi { s i with p:=p' } rfl,N.congr λj hj=> ?_,yr hi⟩
 by_cases e:j=i
 ·rw [e,ee]
  exact ⟨λ_=>rfl,λb q=>N.bd i hi b q⟩
 ·rw [ek e]
  exact ⟨λ_=>rfl,λb q=>N.bd j hj b q⟩
theorem Tg {s:Nat→α}{x y:α}:upd (upd s i x) i y=upd s i y:=by funext j;unfold upd;split <;> rfl
theorem VH (hs:∀j,j< c.n→Stb (s j))(h:x.rest=some y):∀j,j< c.n→Rn 10 (upd s i x j) (upd s i y j):=λj hj=>by
 by_cases e:j=i
 ·rw [e,ee,ee];exact .inl h
 ·rw [ek e,ek e];exact (hs j hj).rn 10
theorem VI (h:x U V=some (.none,σ1)):bo x U V=some (.next,U,σ1):=az h (cw rfl rfl)
theorem CP (hs:(U[0]?).join=some (.ref 0))(Y:Sys c s V)(h:∀j,j< c.n→Rn 10 (s j) (t j)):∃σ',(bo (bW 0 (λ_=>0) 543 j0 (aa 0) (yA aj))) U V=some (.next,U,σ')∧Sys c t σ'∧Far c V σ':=
 (Ra Y h).imp λσ' q=>⟨Y.1.elim λν z=>z.elim λes z=>VI (gZ (as:=aj) (a:=aa 0) hs (jQ z.1.o0) rfl (Nat.zero_le _) q.1),q.2⟩
theorem wf (Y:Sys c s V)(hi:i< c.n)(hs:(U[0]?).join=some (.ref 0))(ha:a U V=some (.int ((i:Int)+1))):(aT 543 lw (aa 0) (ae a aj)) U V=some (.ref (i+2)):=
 Y.1.elim λν z=>z.elim λes z=>cW hs (jQ z.1.o0) (aA ha rfl) (z.1.port hi)
theorem w8 (Y:Sys c s V)(hi:i< c.n)(hs:∀j,j< c.n→Stb (s j)){F:Fn}(h0:(U[0]?).join=some (.ref 0))(hF:∀{r rp:RowC} {bv:AV},r=c.row i→rp=c.mr i→F (.ref (i+2)::as) (W V (i+2) r rp bv (s i).p)=some (.none,W V (i+2) r rp bv (f (s i).p)))(h:((s i).on f).rest=some y):
  ∃σ1,F (.ref (i+2)::as) V=some (.none,σ1)∧∃σ',(bo (bW 0 (λ_=>0) 543 j0 (aa 0) (yA aj))) U σ1=some (.next,U,σ')∧Sys c (upd s i y) σ'∧Far c V σ':=
 Y.1.elim λν z=>z.elim λes z=>(sq z.1 z.2 hi (F:=F) (as:=as) (v:= .none) (p':=f (s i).p) (λhr hrp hp=>by subst hp;exact hF hr hrp)).imp λσ1 q=>⟨q.1,(CP h0 (s:=upd s i ((s i).on f)) ⟨⟨ν,es,q.2.1,q.2.2.1⟩,Y.2.far q.2.2.2⟩ (VH (y:=y) hs h)).imp λσ' x=>⟨x.1,x.2.1,q.2.2.2.trans x.2.2⟩⟩
theorem Sys.lt (Y:Sys c s V)(hi:i< c.n):i+2< V.length:=Y.1.elim λ_ z=>z.elim λ_ z=>z.1.lt hi
theorem Sys.up (Y:Sys c s V)(hi:i< c.n)(hx:x U V=some (.ref (i+2))):bU (aT 279 fY x aj) U V=some (s i).p.up:=Y.1.elim λ_ z=>z.elim λ_ z=>qq z.1 hi hx
theorem VJ (Y:Sys c s V)(hi:i< c.n)(hs:∀j,j< c.n→Stb (s j))(hu:(s i).p.up=false)(h:ot (s i)=some y):
  ∃σ',lu [.ref 0, .int ((i:Int)+1)] V=some (.none,σ')∧Sys c (upd s i y) σ'∧Far c V σ':=
 (w8 Y hi hs (U:=[some (.ref 0),some (.int ((i:Int)+1)),some (.ref (i+2))]) rfl (λ_ _=>El (Y.lt hi)) h).elim λσ1 q=>q.2.imp λσ' z=>
  ⟨eW rfl (cb (aK (wf Y hi rfl rfl)) (gu (bg (eo ((Y.up hi rfl).trans (congrArg some hu)))) (b8 (eF (ew (aA rfl rfl) (Nat.zero_le _) q.1) (b8 (f5 z.1 rfl)))))),z.2⟩
theorem Rb (Y:Sys c s V)(hi:i< c.n)(hs:∀j,j< c.n→Stb (s j))(hu:(s i).p.up=true)(h:((s i).on P.end_).rest=some y):
  ∃σ',qu [.ref 0, .int ((i:Int)+1)] V=some (.none,σ')∧Sys c (upd s i y) σ'∧Far c V σ':=
 (w8 Y hi hs (U:=[some (.ref 0),some (.int ((i:Int)+1)),some (.ref (i+2))]) rfl (λ_ _=>WP (Y.lt hi)) h).elim λσ1 q=>q.2.imp λσ' z=>
  ⟨eW rfl (cb (aK (wf Y hi rfl rfl)) (gu (bg ((Y.up hi rfl).trans (congrArg some hu))) (b8 (eF (ew (aA rfl rfl) (Nat.zero_le _) q.1) (b8 (f5 z.1 rfl)))))),z.2⟩
theorem NL (Y:Sys c s V)(hi:i< c.n)(hs:∀j,j< c.n→Stb (s j))(h:((s i).on (·.hear m)).rest=some y):
  ∃σ',oF [.ref 0, .int ((i:Int)+1),eN (c.row i) (c.mr i) m] V=some (.none,σ')∧Sys c (upd s i y) σ'∧Far c V σ':=
 (w8 Y hi hs (U:=[some (.ref 0),some (.int ((i:Int)+1)),some (eN (c.row i) (c.mr i) m)]) rfl (F:=se) (as:=[eN (c.row i) (c.mr i) m]) (f:=(·.hear m)) (λhr hrp=>by subst hr hrp;exact Vv (Y.lt hi)) h).elim λσ1 q=>q.2.imp λσ' z=>
  ⟨eW rfl (eF (ew (aA (wf Y hi rfl rfl) (aA rfl rfl)) (Nat.zero_le _) q.1) (f5 z.1 rfl)),z.2⟩
end
end
section
section
variable {c:Cfg} {ν ν':Nat→Bool→Int} {es es':List (GK × AV)} {s s' t:Nat→S} {V σ':ar}
theorem Sys.ext (Y:Sys c s V)(h:∀j,j< c.n→s' j=s j):Sys c s' V:=⟨Y.1.imp λ_ q=>q.imp λ_ q=>⟨q.1.ext h,q.2.ext h⟩,Y.2⟩
theorem Sys.io (Y:Sys c s V):eR V (.ref 0)=some (543,[(22, .ref 1),(23, .ref (c.n+2))]):=Y.1.elim λ_ q=>q.elim λ_ q=>jQ q.1.o0
theorem Enc.far (E:Enc c ν es s V)(hg:c.n+4≤g):Enc c ν es s (V.set g o):=
 E.of (List.length_set.symm▸E.len) λj hj=>List.getElem?_set_ne (Nat.ne_of_gt (Nat.lt_of_lt_of_le hj hg))
theorem Enc.same (E:Enc c ν es s V)(h:s=s'):Enc c ν es s' V:=h▸E
theorem Num.same (N:Num c ν es s)(h:s=s'):Num c ν es s':=h▸N
def Ev:aF:=(ai (bo (bB 0 (λ_=>0) oM (yA (ae (aa 1) aj)))) (ai (bo (bB 0 (λ_=>0) oL (yA (ae (aa 1) aj)))) aq))
noncomputable def jK (x:S):S:=x.on λp=>p.pass.wait
structure SecI (c:Cfg) (ν:Nat→Bool→Int) (es:List (GK × AV)) (s:Nat→S) (σ0:ar) (d:List Nat) (U:Lo) (V:ar):Prop where
 oo:∃o,U=[some (.ref 0),o]
 EE:Enc c ν es (bE s jK d) V
 NN:Num c ν es (bE s jK d)
 kk:Far c σ0 V
theorem Rc (nd:full.Nodup)(hn:∀j∈full,j< c.n)(h:SecI c ν es s σ0 [] U V):∃ℓ' σ',b9 (bh 1) Ev (full.map λi=> .ref (i+2)) U V=some (.next,ℓ',σ')∧SecI c ν es s σ0 full ℓ' σ':=
 m8 nd _ (λd i U V t h=>by
  have hin:=hn i t.mem
  haveI hat:=nD (s:=s) (f:=jK) t.ni
  refine xE h.oo λo rf1=> ?_;subst rf1
  refine (sq h.EE h.NN hin (F:=oM) (as:=[]) (v:= .none) (p':=(s i).p.pass) (λhr hrp hp=>by subst hr hrp hp;exact (hat)▸Vw (h.EE.lt hin))).elim λσ1 q=> ?_
  refine (sq q.2.1 q.2.2.1 hin (F:=oL) (as:=[]) (v:= .none) (p':=(s i).p.pass.wait) (λhr hrp hp=>by subst hr hrp hp;rw [ee];exact SU (q.2.1.lt hin))).elim λσ2 z=> ?_
  haveI hst:upd (upd (bE s jK d) i { bE s jK d i with p:=(s i).p.pass }) i { upd (bE s jK d) i { bE s jK d i with p:=(s i).p.pass } i with p:=(s i).p.pass.wait }=bE s jK (d ++ [i]):=by
   rw [Tg,ee,← mZ t.ni,hat];rfl
  exact ⟨_,σ2,eF (ew (aA rfl rfl) (Nat.zero_le _) q.1) (eF (ew (aA rfl rfl) (Nat.zero_le _) z.1) rfl),⟨_,rfl⟩,z.2.1.same hst,z.2.2.1.same hst,h.kk.trans (q.2.2.2.trans z.2.2.2)⟩) U V h
theorem OW (Y:Sys c s V)(h:∀j,j< c.n→sec (s j)=some (t j)):∃σ',oG [.ref 0] V=some (.none,σ')∧Sys c t σ'∧Far c V σ':=by
 refine Y.1.elim λν q=>q.elim λes q=> ?_
 refine (Rc (full:=List.range c.n) List.nodup_range (λj hj=>cI hj) (V:=V) ⟨⟨none,rfl⟩,q.1.same onL_nil.symm,q.2.same onL_nil.symm,Far.refl⟩).elim λℓ1 z=>z.elim λσ1 z=> ?_
 refine xE z.2.oo λo rf1=> ?_;subst rf1
 exact (CP (t:=t) (U:=[some (.ref 0),o]) rfl (s:=bE s jK (List.range c.n)) ⟨⟨ν,es,z.2.EE,z.2.NN⟩,Y.2.far z.2.kk⟩ (λj hj=> .inl ((congrArg S.rest (if_pos (List.mem_range.mpr hj))).trans (h j hj)))).imp λσ2 x=>
  ⟨eW rfl (eV (p:=Ev) (iy (ta q.1 rfl)) z.1 (f5 x.1 rfl)),x.2.1,z.2.kk.trans x.2.2⟩
noncomputable def d3 (x:S):S:={ x with p:=x.p.msg.1 }
def fW (c:Cfg)(s:Nat→S)(i:Nat):List AV:=match (s i).p.msg.2 with
 | some m=>[.tup [.int (c.row i).num,eN (c.mr i) (c.row i) m]]
 | none=>[]
def Gx:aF:=(ai (bx 3 (bB 0 (λ_=>0) oS (yA (ae (aa 2) aj)))) (ai (aQ (yT (aV (λx y=>(kY x y).map not) (aa 3) (ah .none))) (ai (bo (hZ "list" 0 n7 (aa 1) (yA (ae (bl (ae (aB 0 [188] (aB 6 [279] (aa 2))) (ae (aa 3) aj))) aj)))) aq) aq) aq))
theorem ro (h:(s i).p.msg.2=none):fW c s i=[]:=by unfold fW;rw [h]
theorem rq (h:(s i).p.msg.2=some m):fW c s i=[.tup [.int (c.row i).num,eN (c.mr i) (c.row i) m]]:=by unfold fW;rw [h]
theorem Th:(fW c s i).length≤1:=by
 cases h:(s i).p.msg.2 with
 | none=>rw [ro h];exact Nat.zero_le _
 | some m=>rw [rq h];exact Nat.le_refl _
theorem Rd {r:List Nat}:(r.flatMap (fW c s)).length≤r.length:=by
 induction r with
 | nil=>exact Nat.le_refl _
 | cons i r ih=>rw [List.flatMap_cons,List.length_append,List.length_cons,Nat.add_comm];exact Nat.add_le_add ih Th
theorem CQ:(d ++ [i]).flatMap (fW c s)=d.flatMap (fW c s) ++fW c s i:=by rw [List.flatMap_append,List.flatMap_cons,List.flatMap_nil,List.append_nil]
structure TsI (c:Cfg) (ν:Nat→Bool→Int) (es:List (GK × AV)) (s:Nat→S) (g:Nat) (σ0:ar) (d:List Nat) (U:Lo) (V:ar):Prop where
 oo:∃o2 o3,U=[some (.ref 0),some (.ref g),o2,o3]
 EE:Enc c ν es (bE s d3 d) V
 NN:Num c ν es (bE s d3 d)
 gg:V[g]? =some (.list (d.flatMap (fW c s)))
 nn:V.length=σ0.length
 kk:∀j,c.n+4≤j→j≠g→V[j]? =σ0[j]?
theorem Ew (h:V[q]? =some (.list xs))(hl:xs.length< 10000):n7 0 q [v] V=some (.none,V.set q (.list (xs ++ [v]))):=az rfl (az h (az rfl (cw ⟨Nat.zero_le _,hl⟩ rfl)))
theorem Ti (hg:c.n+4≤g)(nd:full.Nodup)(hn:∀j∈full,j< c.n)(h4:full.length≤4)(h:TsI c ν es s g σ0 [] U V):
  ∃ℓ' σ',b9 (bh 2) Gx (full.map λi=> .ref (i+2)) U V=some (.next,ℓ',σ')∧TsI c ν es s g σ0 full ℓ' σ':=
 m8 nd _ (λd i U V t h=>by
  have hin:=hn i t.mem
  haveI hat:=nD (s:=s) (f:=d3) t.ni
  refine fy h.oo λo2 o3 rf2=> ?_;subst rf2
  refine (sq h.EE h.NN hin (F:=oS) (as:=[]) (v:=match (s i).p.msg.2 with | some m=>eN (c.mr i) (c.row i) m | none=> .none) (p':=(s i).p.msg.1) (λhr hrp hp=>by subst hr hrp hp;exact (hat)▸WQ (h.EE.lt hin))).elim λσ1 q=> ?_
  have hst:upd (bE s d3 d) i { bE s d3 d i with p:=(s i).p.msg.1 }=bE s d3 (d ++ [i]):=by rw [← mZ t.ni,hat];rfl
  haveI g1:=(q.2.2.2.2 g hg).trans h.gg
  haveI n1:=q.2.2.2.1.trans h.nn
  have k1:∀j,c.n+4≤j→j≠g→σ1[j]? =σ0[j]? :=λj h1 h2=>(q.2.2.2.2 j h1).trans (h.kk j h1 h2)
  haveI e1:=q.1
  cases hm:(s i).p.msg.2 with
  | none=>
   rw [hm] at e1
   exact ⟨_,σ1,cb (ew (aA rfl rfl) (Nat.zero_le _) e1) (d0 (bg rfl) rfl),⟨_,_,rfl⟩,q.2.1.same hst,q.2.2.1.same hst,by rw [CQ,ro hm,List.append_nil];exact g1,n1,k1⟩
  | some m=>
   rw [hm] at e1
   haveI hl:(d.flatMap (fW c s)).length< 10000:=dc Rd (Nat.lt_of_lt_of_le t.len (ba h4 (by decide)))
   exact ⟨_,_,cb (ew (aA rfl rfl) (Nat.zero_le _) e1) (gu (bg rfl) (b8 (eF (yN rfl g1 rfl (yP (aA (kF (aA (bR (bR rfl (q.2.1.io hin) c1 rfl rfl) rfl (by decide) rfl rfl) (aA rfl rfl)) (bH rfl)) rfl)) (Ew g1 hl)) rfl))),⟨_,_,rfl⟩,(q.2.1.same hst).far hg,q.2.2.1.same hst,
    by rw [CQ,rq hm];exact List.getElem?_set_self (lE g1),List.length_set.trans n1,λj h1 h2=>(List.getElem?_set_ne (Ne.symm h2)).trans (k1 j h1 h2)⟩) U V h
theorem W0:bS n (eN r rp m)=true:=by
 show (bS n (d6 rp m.st) && (bS n (eG r m.peer m.pb) && true))=true
 rw [xI,yI];rfl
theorem VK (r:List Nat):c8 n (r.flatMap (fW c s))=true:=by
 induction r with
 | nil=>rfl
 | cons i r ih=>
  rw [List.flatMap_cons]
  cases h:(s i).p.msg.2 with
  | none=>exact (ro h)▸ih
  | some m=>
   rw [rq h]
   show ((true && (bS n (eN (c.mr i) (c.row i) m) && true)) && c8 n (r.flatMap (fW c s)))=true
   rw [W0,ih];rfl
theorem Tj (h:F avs V=some (.ref k,σ'))(hk:V.length≤k)(hx:σ'[k]? =some (.list xs))(h1:c8 V.length xs=true)(h2:(σ'.take V.length).all (iY V.length)=true):pW F avs V=some (.lst xs,σ'.take V.length):=by
 simp only [pW,h,if_pos hk,hx,h1,h2,Bool.and_self,if_true]
theorem Re {x:List AO}(hl:σ'.length=(V ++x).length)(h:∀j,c.n+4≤j→j≠V.length→σ'[j]? =(V ++x)[j]?):Far c V (σ'.take V.length):=by
 have ht:(σ'.take V.length).length=V.length:=by rw [List.length_take,hl,List.length_append];exact Nat.min_eq_left (Nat.le_add_right _ _)
 refine ⟨ht,λj hj=> ?_⟩
 refine Or.elim (Nat.lt_or_ge j V.length) (λhjl=> ?_) λhjl=> ?_
 ·rw [List.getElem?_take_of_lt hjl,h j hj (Nat.ne_of_lt hjl),List.getElem?_append_left hjl]
 ·rw [List.getElem?_eq_none (ba (Nat.le_of_eq ht) hjl),List.getElem?_eq_none hjl]
theorem Rf (Y:Sys c s V):∃σ',qv [.ref 0] V=some (.lst ((List.range c.n).flatMap (fW c s)),σ')∧Sys c (λi=>d3 (s i)) σ'∧Far c V σ':=by
 refine Y.1.elim λν q=>q.elim λes q=> ?_
 have Yp:=q.1.len
 refine (Ti (s:=s) (g:=V.length) Yp (full:=List.range c.n) List.nodup_range (λj hj=>cI hj) (by exact (List.length_range)▸c.n4) (V:=V ++ [.list []]) (σ0:=V ++ [.list []])
  ⟨⟨none,none,rfl⟩,(q.1.more _).same onL_nil.symm,q.2.same onL_nil.symm,by rw [List.getElem?_append_right (Nat.le_refl _),Nat.sub_self];rfl,rfl,λ_ _ _=>rfl⟩).elim λℓ1 z=>z.elim λσ1 z=> ?_
 have hst:∀j,j< c.n→d3 (s j)=bE s d3 (List.range c.n) j:=λj hj=>(if_pos (List.mem_range.mpr hj)).symm
 have E3:=(z.2.EE.ext (s':=λi=>d3 (s i)) hst).take Yp (z.2.nn.symm▸List.length_append.symm▸Nat.le_add_right _ _)
 have N2:=z.2.NN.ext (s':=λi=>d3 (s i)) hst
 have hfar:=Re z.2.nn z.2.kk
 haveI hb:=CO E3 N2 (Y.2.far hfar)
 rw [hfar.1] at hb
 refine ⟨_,Tj (k:=V.length) (σ':=σ1) ?_ (Nat.le_refl _) z.2.gg (VK _) hb,⟨⟨ν,es,E3,N2⟩,Y.2.far hfar⟩,hfar⟩
 refine fy z.2.oo λo2 o3 ho=> ?_
 haveI e1:=z.1
 rw [ho] at e1
 exact fh rfl (cb rfl (eV (p:=Gx) (iy (ta (q.1.more _) rfl)) e1 (bw rfl)))
structure Mt (c:Cfg):Prop where
 lt:∀i,i< c.n→c.mate i< c.n
 inv:∀i,i< c.n→c.mate (c.mate i)=i
 ne:∀i,i< c.n→c.mate i≠i
def hrd (a b:S):Option S:=if (d3 a).rest=some (d3 a) then (match b.p.msg.2 with | none=>some (d3 a) | some m=>((d3 a).on (·.hear m)).rest) else none
theorem ke {x y:S}(h:x.rest=some y):Stb y:=Eu _ h
theorem w9 (h:hrd a b=some x):Stb (d3 a)∧Stb x∧(b.p.msg.2=none→x=d3 a)∧∀m,b.p.msg.2=some m→((d3 a).on (·.hear m)).rest=some x:=by
 unfold hrd at h
 by_cases h1:(d3 a).rest=some (d3 a)
 ·have h:=(if_pos h1).symm.trans h
  cases h2:b.p.msg.2 with
  | none=>rw [h2] at h;replace h:=aD h;subst h;exact ⟨ke h1,ke h1,λ_=>rfl,nofun⟩
  | some m=>rw [h2] at h;exact ⟨ke h1,ke h,nofun,λm' q=>by obtain rfl:=aD q;exact h⟩
 ·exact absurd ((if_neg h1).symm.trans h) nofun
theorem Rg (h:swap a b=some (x,y)):hrd a b=some x∧hrd b a=some y:=by
 unfold swap at h
 unfold hrd d3
 generalize a.p.msg=ra at h ⊢
 generalize b.p.msg=rb at h ⊢
 obtain ⟨pa,ma⟩:=ra
 obtain ⟨pb,mb⟩:=rb
 dsimp only at h ⊢
 split at h
 ·rename_i h1
  refine xA h1 λh1 h2=> ?_
  simp only [h1,h2,if_true]
  cases ma <;> cases mb <;> simp only [Option.bind_eq_bind,Option.bind_some,Option.some.injEq,Prod.mk.injEq,Option.bind_eq_some_iff] at h ⊢
  ·exact h
  ·obtain ⟨u,h2,h3,h4⟩:=h;subst h3 h4;exact ⟨h2,rfl⟩
  ·obtain ⟨u,h2,h3,h4⟩:=h;subst h3 h4;exact ⟨rfl,h2⟩
  ·obtain ⟨u,h2,v,h3,h4,h5⟩:=h;subst h4 h5;exact ⟨h3,h2⟩
 ·exact au h
def sr:aF:=(ai (bo (bW 0 (λ_=>0) 543 oF (aa 0) (yA (ae (bz (aa 1) (aa 5)) (ae (aa 6) aj))))) aq)
noncomputable def Jn (c:Cfg)(q:Nat)(V:ar):Prop:=c.n+4≤q∧∃D,V[q]? =some (.idict D)∧∀i,i< c.n→fk D ((i:Int)+1)=some (.int ((c.mate i:Nat)+1))
theorem Jn.far (h:Jn c q V)(f:Far c V σ'):Jn c q σ':=⟨h.1,h.2.imp λD z=>⟨(f.2 q h.1).trans z.1,z.2⟩⟩
def jS (c:Cfg)(s t:Nat→S)(d:List Nat):Nat→S:=λj=>if c.mate j∈d then t j else d3 (s j)
theorem Dy (M:Mt c)(hi:i< c.n)(hj:j< c.n):jS c s t (d ++ [i]) j=upd (jS c s t d) (c.mate i) (t (c.mate i)) j:=by
 by_cases e:j=c.mate i
 ·rw [e,ee];exact if_pos (by refine (M.inv i hi).symm▸ ?_;exact dy _ bY)
 ·rw [ek e]
  unfold jS
  by_cases h:c.mate j∈d
  ·rw [if_pos h,if_pos (dE _ h)]
  ·rw [if_neg h,if_neg λz=>(bC z).elim h λz=>e ((M.inv j hj).symm.trans (congrArg c.mate (aH z)))]
theorem P1 (nd:full.Nodup)(I:List Nat→Lo→ar→Prop)(step:∀(d:List Nat) (i:Nat) (U:Lo) (V:ar),At full d i→I d U V→∃ℓ2 σ2,(∀rest r,b9 tgt body rest ℓ2 σ2=r→b9 tgt body (f i ++rest) U V=r)∧I (d ++ [i]) ℓ2 σ2)
  (U:Lo)(V:ar)(h:I [] U V):∃ℓ' σ',b9 tgt body (full.flatMap f) U V=some (.next,ℓ',σ')∧I full ℓ' σ':=by
 suffices H:∀(r d:List Nat),full=d ++r→∀U V,I d U V→∃ℓ' σ',b9 tgt body (r.flatMap f) U V=some (.next,ℓ',σ')∧I full ℓ' σ' from H full [] rfl U V h
 intro r
 induction r with
 | nil=>exact λd e U V h=>⟨U,V,rfl,(e.trans (List.append_nil d)).symm▸h⟩
 | cons i r ih=>
  intro d e U V h
  refine (step d i U V (Hf e nd) h).elim λℓ2 q=>q.elim λσ2 q=> ?_
  exact (ih (d ++ [i]) (e.trans (List.append_assoc d [i] r).symm) ℓ2 σ2 q.2).imp λℓ' z=>z.imp λσ' z=>⟨q.1 _ _ z.1,z.2⟩
theorem W1 {a0 a1 a2 a3 a4 a5 a6:Option AV}:iB [(bh 5),(bh 6)] (.tup [u,v]) [a0,a1,a2,a3,a4,a5,a6] V=some ([a0,a1,a2,a3,a4,some u,some v],V):=rfl
structure RcI (c:Cfg) (s t:Nat→S) (q:Nat) (o2 o3 o4:Option AV) (σ0:ar) (d:List Nat) (U:Lo) (V:ar):Prop where
 oo:∃o5 o6,U=[some (.ref 0),some (.ref q),o2,o3,o4,o5,o6]
 YY:Sys c (jS c s t d) V
 kk:Far c σ0 V
theorem Tl (M:Mt c)(H:∀i,i< c.n→hrd (s i) (s (c.mate i))=some (t i))(nd:full.Nodup)(hn:∀j∈full,j< c.n)(J:Jn c q σ0)(h:RcI c s t q o2 o3 o4 σ0 [] U V):
  ∃ℓ' σ',b9 (iB [(bh 5),(bh 6)]) sr (full.flatMap (fW c s)) U V=some (.next,ℓ',σ')∧RcI c s t q o2 o3 o4 σ0 full ℓ' σ':=
 P1 nd _ (λd i U V t' h=>by
  have hin:=hn i t'.mem
  haveI hmi:=M.lt i hin
  haveI hH:=w9 (H (c.mate i) hmi)
  rw [M.inv i hin] at hH
  have hat:jS c s t d (c.mate i)=d3 (s (c.mate i)):=if_neg (by refine (M.inv i hin).symm▸ ?_;exact t'.ni)
  cases hm:(s i).p.msg.2 with
  | none=>
   refine ⟨U,V,λrest r e=>by exact (ro hm)▸e,h.oo,h.YY.ext λj hj=>(Dy M hin hj).trans ?_,h.kk⟩
   by_cases e:j=c.mate i
   ·rw [e,ee,hat];exact hH.2.2.1 hm
   ·exact ek e
  | some m=>
   refine fy h.oo λo5 o6 rf2=> ?_;subst rf2
   haveI hre:((jS c s t d (c.mate i)).on (·.hear m)).rest=some (t (c.mate i)):=by exact (hat)▸hH.2.2.2 m hm
   refine (NL h.YY hmi (λj hj=> ?_) hre).elim λσ1 z=> ?_
   ·unfold jS
    split
    ·exact (w9 (H j hj)).2.1
    ·exact (w9 (H j hj)).1
   ·haveI e1:=z.1
    rw [show c.mr (c.mate i)=c.row i by unfold Cfg.mr;rw [M.inv i hin],show c.row (c.mate i)=c.mr i from rfl] at e1
    refine (J.far h.kk).2.elim λD hD=> ?_
    haveI hb:sr [some (.ref 0),some (.ref q),o2,o3,o4,some (.int ((i:Int)+1)),some (eN (c.mr i) (c.row i) m)] V=some (.next,[some (.ref 0),some (.ref q),o2,o3,o4,some (.int ((i:Int)+1)),some (eN (c.mr i) (c.row i) m)],σ1):=
     eF (gZ (a:=aa 0) rfl h.YY.io (aA (dZ rfl rfl (yL hD.1 (hD.2 i hin))) (aA rfl rfl)) (Nat.zero_le _) e1) rfl
    exact ⟨_,σ1,λrest r e=>by rw [rq hm,c.num i hin];exact HN W1 hb e,⟨_,_,rfl⟩,z.2.1.ext λj hj=>Dy M hin hj,h.kk.trans z.2.2⟩) U V h
end
end
section
section
variable {c:Cfg} {ν ν':Nat→Bool→Int} {es es':List (GK × AV)} {s s' t:Nat→S} {V σ':ar}
def su:aF:=(ai (cP (iX (bW 0 (λ_=>0) 543 qv (aa 0) (yA aj))) (iB [(bh 5),(bh 6)]) sr) aq)
theorem W2 (h:x U V=some (.lst l,σ')):iX x U V=some (l,true,σ'):=az h (cB rfl rfl)
theorem VL (M:Mt c)(J:Jn c q V)(Y:Sys c s V)(H:∀i,i< c.n→hrd (s i) (s (c.mate i))=some (t i)):
  ∃o5' o6' σ',su [some (.ref 0),some (.ref q),o2,o3,o4,o5,o6] V=some (.next,[some (.ref 0),some (.ref q),o2,o3,o4,o5',o6'],σ')∧Sys c t σ'∧Far c V σ':=by
 refine (Rf Y).elim λσ1 x=> ?_
 refine (Tl M H (q:=q) (o2:=o2) (o3:=o3) (o4:=o4) (full:=List.range c.n) List.nodup_range (λj hj=>cI hj) (J.far x.2.2) (U:=[some (.ref 0),some (.ref q),o2,o3,o4,o5,o6]) ⟨⟨_,_,rfl⟩,x.2.1.ext λj hj=>if_neg bq,Far.refl⟩).elim λℓ2 z=>z.elim λσ2 z=> ?_
 obtain ⟨p5,p6,rfl⟩:=z.2.oo
 exact ⟨p5,p6,σ2,eV (p:=sr) (W2 (gZ (a:=aa 0) rfl Y.io rfl (Nat.zero_le _) x.1)) z.1 rfl,z.2.YY.ext λj hj=>(if_pos (List.mem_range.mpr (M.lt j hj))).symm,x.2.2.trans z.2.kk⟩
noncomputable def PR (c:Cfg)(f:S × S→Option (S × S))(s t:Nat→S):Prop:=∀i,i< c.n→i< c.mate i→f (s i,s (c.mate i))=some (t i,t (c.mate i))
theorem PR.bind (M:Mt c)(h:PR c (λx=>(f x).bind g) s t):∃u,PR c f s u∧PR c g u t:=by
 have hu:∀i,i< c.n→i< c.mate i→∃p:S × S,f (s i,s (c.mate i))=some p∧g p=some (t i,t (c.mate i)):=λi hi hm=>Option.bind_eq_some_iff.mp (h i hi hm)
 let u:Nat→S:=λj=>if j< c.mate j then ((f (s j,s (c.mate j))).getD (s j,s j)).1 else ((f (s (c.mate j),s j)).getD (s j,s j)).2
 have e:∀i,i< c.n→i< c.mate i→∀p,f (s i,s (c.mate i))=some p→p=(u i,u (c.mate i)):=λi hi hm p hp=>Prod.ext ((if_pos hm).trans (by rw [hp];rfl)).symm ((if_neg (by rw [M.inv i hi];exact Nat.lt_asymm hm)).trans (by rw [M.inv i hi,hp];rfl)).symm
 exact ⟨u,λi hi hm=>(hu i hi hm).elim λp q=>q.1.trans (congrArg some (e i hi hm p q.1)),λi hi hm=>(hu i hi hm).elim λp q=>e i hi hm p q.1▸q.2⟩
theorem PR.each (M:Mt c)(h:PR c f s t){P:S→S→S→Prop}(hP:∀a b x y,f (a,b)=some (x,y)→P a b x∧P b a y):∀i,i< c.n→P (s i) (s (c.mate i)) (t i):=λi hi=>by
 rcases Nat.lt_or_ge i (c.mate i) with hm | hm
 ·exact (hP _ _ _ _ (h i hi hm)).1
 ·have hlt:c.mate i< c.mate (c.mate i):=by rw [M.inv i hi];exact Nat.lt_of_le_of_ne hm (M.ne i hi)
  have:=(hP _ _ _ _ (h (c.mate i) (M.lt i hi) hlt)).2
  rw [M.inv i hi] at this
  exact this
def pS (x:S × S):Option (S × S):=swap x.1 x.2
def yR (x:S × S):Option (S × S):=(sec x.1).bind λa=>(sec x.2).bind λb=>some (a,b)
theorem PR.swap (M:Mt c)(h:PR c pS s t):∀i,i< c.n→hrd (s i) (s (c.mate i))=some (t i):=h.each M (P:=λa b x=>hrd a b=some x) λa b x y e=>Rg e
theorem PR.sec (M:Mt c)(h:PR c yR s t):∀i,i< c.n→sec (s i)=some (t i):=h.each M (P:=λa b x=>Mine.sec a=some x) λa b x y e=>by
 unfold yR at e
 simp only [Option.bind_eq_some_iff,Option.some.injEq,Prod.mk.injEq] at e
 obtain ⟨a',h1,b',h2,rfl,rfl⟩:=e
 exact ⟨h1,h2⟩
theorem PR.zero (M:Mt c)(h:PR c (iter f 0) s t):∀i,i< c.n→t i=s i:=h.each M (P:=λa b x=>x=a) λa b x y e=>by
 cases e
 exact ⟨rfl,rfl⟩
theorem Tm:turn=λx=>(iter pS 4 x).bind yR:=rfl
theorem Tn (M:Mt c)(l:List AV):∀(s:Nat→S) (V:ar) (o4 o5 o6:Option AV),PR c (iter pS l.length) s t→Jn c q V→Sys c s V→
  ∃o4' o5' o6' σ',b9 (bh 4) su l [some (.ref 0),some (.ref q),o2,o3,o4,o5,o6] V=some (.next,[some (.ref 0),some (.ref q),o2,o3,o4',o5',o6'],σ')∧Sys c t σ'∧Far c V σ':=by
 induction l with
 | nil=>exact λs V o4 o5 o6 h J Y=>⟨o4,o5,o6,V,rfl,Y.ext (PR.zero M h),Far.refl⟩
 | cons x l ih=>
  intro s V o4 o5 o6 h J Y
  refine (PR.bind M (f:=pS) (g:=iter pS l.length) h).elim λu h=> ?_
  refine (VL M J Y (PR.swap M h.1) (o2:=o2) (o3:=o3) (o4:=some x) (o5:=o5) (o6:=o6)).elim λp5 y=>y.elim λp6 y=>y.elim λσ1 y=> ?_
  exact (ih u σ1 (some x) p5 p6 h.2 (J.far y.2.2) y.2.1).imp λ_ w=>w.imp λ_ w=>w.imp λ_ w=>w.imp λσ2 w=>⟨eM rfl y.1 w.1,w.2.1,y.2.2.trans w.2.2⟩
def Gy:aF:=(ai (cP (jt (ah (.int 4))) (bh 4) su) (ai (bo (bW 0 (λ_=>0) 543 oG (aa 0) (yA aj))) aq))
theorem To (M:Mt c)(l:List AV):∀(s:Nat→S) (V:ar) (o3 o4 o5 o6:Option AV),PR c (iter turn l.length) s t→Jn c q V→Sys c s V→
  ∃o3' o4' o5' o6' σ',b9 (bh 3) Gy l [some (.ref 0),some (.ref q),o2,o3,o4,o5,o6] V=some (.next,[some (.ref 0),some (.ref q),o2,o3',o4',o5',o6'],σ')∧Sys c t σ'∧Far c V σ':=by
 induction l with
 | nil=>exact λs V o3 o4 o5 o6 h J Y=>⟨o3,o4,o5,o6,V,rfl,Y.ext (PR.zero M h),Far.refl⟩
 | cons x l ih=>
  intro s V o3 o4 o5 o6 h J Y
  refine (PR.bind M (f:=turn) (g:=iter turn l.length) h).elim λu h=> ?_
  have h1:=h.1
  rw [Tm] at h1
  refine (PR.bind M h1).elim λw h3=> ?_
  refine (Tn M (o2:=o2) (o3:=some x) (gQ 0 4) s V o4 o5 o6 h3.1 J Y).elim λp4 y=>y.elim λp5 y=>y.elim λp6 y=>y.elim λσ1 y=> ?_
  refine (OW y.2.1 (PR.sec M h3.2)).elim λσ2 z=> ?_
  exact (ih u σ2 (some x) p4 p5 p6 h.2 ((J.far y.2.2).far z.2.2) z.2.1).imp λ_ w=>w.imp λ_ w=>w.imp λ_ w=>w.imp λ_ w=>w.imp λσ3 w=>⟨eM rfl (eV (p:=su) rfl y.1 (eF (gZ (as:=aj) (a:=aa 0) rfl y.2.1.io rfl (Nat.zero_le _) z.1) rfl)) w.1,w.2.1,(y.2.2.trans z.2.2).trans w.2.2⟩
theorem Rh (M:Mt c)(J:Jn c q V)(Y:Sys c s V)(h:PR c (iter turn 6) s t):∃σ',vY [.ref 0, .ref q, .int 6] V=some (.none,σ')∧Sys c t σ'∧Far c V σ':=
 (To M (o2:=some (.int 6)) (gQ 0 6) s V none none none none h J Y).elim λ_ w=>w.elim λ_ w=>w.elim λ_ w=>w.elim λ_ w=>w.imp λσ' w=>⟨eW rfl (eV (p:=Gy) rfl w.1 rfl),w.2⟩
theorem W3:bS n (cg ν i x)=true:=by cases x <;> rfl
theorem CR (E:Enc c ν es s V)(hi:i< c.n):ic [.ref 0, .int ((i:Int)+1)] V=some (cg ν i (s i).bd):=
 dK rfl (bw (aK (jR E hi (cW rfl (jQ E.o0) (aA rfl rfl) (E.port hi))))) W3
theorem OX (hk:k i=true)(l:List Nat)(nd:l.Nodup)(h:i∈l)(hn:∀j∈l,k j=true→j=i):l.filter k=[i]:=by
 induction l with
 | nil=>cases h
 | cons x l ih=>
  have nd':=List.nodup_cons.mp nd
  rw [List.filter_cons]
  by_cases e:x=i
  ·rw [e,if_pos hk,List.filter_eq_nil_iff.mpr λj hj q=>nd'.1 (by rw [e,← hn j (cQ _ hj) q];exact hj)]
  ·rw [if_neg λq=>e (hn x bY q)]
   exact ih nd'.2 ((aU h).resolve_left (Ne.symm e)) λj hj=>hn j (cQ _ hj)
theorem NM (E:Enc c ν es s V)(N:Num c ν es s)(hi:i< c.n)(hb:(s i).bd=some b)(hm:(s i).p.mx= .dst):oE [.ref 0, .int (ν i b)] V=some (.lst [.int ((i:Int)+1)]):=by
 have hk:(List.range c.n).filter (λj=>i7 ν s i j && decide ((s j).p.mx= .dst))=[i]:=
  OX (Bool.and_eq_true_iff.mpr ⟨Dw,decide_eq_true hm⟩) _ List.nodup_range (List.mem_range.mpr hi) λj hj q=>by
   have q:=(eH q).1
   refine (Et N hi (cI hj) q).elim id λe=> ?_
   unfold i7 at q
   rw [e,hb] at q
   cases q
 refine dK rfl (bw (aK ((gS (hM (ta E rfl) rfl) pj (rB (g:=λj=>AV.int (c.row j).num) (List.range c.n) (λj hj=>oi (iw (bO (jR E (cI hj) rfl) rfl ((congrArg (bp _) (by rw [hb];rfl)).trans (Gv (i:=i)))) λ_=>jx (bO (bR rfl (E.io (cI hj)) c1 rfl rfl) rfl (mxEq (b:= .dst))))) λj hj _=>bR (bR rfl (E.io (cI hj)) c1 rfl rfl) rfl (by decide) rfl rfl)).trans ?_))) rfl
 rw [hk,List.map_cons,List.map_nil,c.num i hi]
end
end
section
section
variable {c:Cfg} {ν ν':Nat→Bool→Int} {es es':List (GK × AV)} {s s' t:Nat→S} {V σ':ar}
theorem NO (l:List Int):kn (l.map AV.int)=some l:=by
 induction l with
 | nil=>rfl
 | cons x l ih=>exact az rfl (cB ih rfl)
theorem NP (l:List Int):∀acc:List Int,(acc ++l).Nodup→l.foldl step_dedup acc=acc ++l:=by
 induction l with
 | nil=>exact λacc _=>(List.append_nil acc).symm
 | cons x l ih=>
  intro acc h
  have hx: ¬ (acc.any (· == x))=true:=λq=>(List.any_eq_true.mp q).elim λy z=>(List.nodup_append.mp h).2.2 y z.1 x bY (eq_of_beq z.2)
  have e:acc ++x::l=(acc ++ [x]) ++l:=(List.append_assoc acc [x] l).symm
  rw [List.foldl_cons,show step_dedup acc x=acc ++ [x] from if_neg hx,e]
  exact ih _ (e▸h)
theorem NQ {l:List Int}:(List.range l.length).map (λi=>l.getD i 0)=l:=Cj
theorem NR (h:l.Nodup):rd l=l.length:=by
 unfold rd firstMet
 rw [NQ,NP l [] h];rfl
noncomputable def mi (ν:Nat→Bool→Int)(s:Nat→S)(i:Nat):Int:=match (s i).bd with | some b=>ν i b | none=>0
theorem Tp (l:List Int):fZ .none (l.map AV.int)=some false:=by
 induction l with
 | nil=>rfl
 | cons x l ih=>exact Dt (x:= .none) (y:= .int x) (a:=false) rfl ih
theorem W4:cY (.int x) (.int x)=some false:=congrArg (λq=>some !q) (beq_self_eq_true x)
theorem Ri:cY (.lst [.int x]) (.lst [.int x])=some false:=
 congrArg (Option.map not) (rE (x:= .int x) (y:= .int x) (a:=true) (congrArg some (beq_self_eq_true x)) (l:=[]) (m:=[]) rfl)
theorem Tq {caps:Lo}{α:Type}{f:α→AV}(l:List α):(∀x∈l,gx ts (some (f x)::caps) V=some false)→dY elt ts caps V (l.map f)=some []:=by
 induction l with
 | nil=>exact λ_=>rfl
 | cons x l ih=>exact λh=>me (h x bY) (ih λy hy=>h y (cQ _ hy))
theorem Rj {l:List Int}(h:a U V=some (.lst (l.map AV.int)))(hl:(l.map AV.int).length≤1000)(nd:l.Nodup):rH a U V=some (.int l.length):=az h (az rfl (az (NO l) (cw hl (by rw [NR nd]))))
theorem VM {l:List Int}:fb .none (.lst (l.map AV.int))=some false:=(if_pos (by rw [xO];decide)).trans (Tp l)
theorem Tr {l:List Int}(h:a U V=some (.lst (l.map AV.int)))(hl:l.length≤4)(nd:l.Nodup):aV cY (rH a) (aL fq (ae a aj)) U V=some false:=by
 have hl':(l.map AV.int).length≤4:=by rw [List.length_map];exact hl
 exact bO (Rj h (ba hl' (by decide)) nd) (yt h (ba hl' (by decide))) (by rw [List.length_map];exact W4)
theorem CS (Y:Sys c s V){idx:List Nat}(nd:idx.Nodup)(hn:∀i∈idx,i< c.n)(Yp:idx.length≤4)(hg:∀i∈idx,(s i).bd≠none∧(s i).p.mx= .dst):qW [.ref 0, .lst (idx.map λ(i:Nat)=> .int ((i:Int)+1))] V=some (.bool true):=by
 refine Y.1.elim λν q=>q.elim λes q=> ?_
 have E:=q.1
 have N:=q.2
 have bd:∀i∈idx,∃b,(s i).bd=some b∧mi ν s i=ν i b:=λi hi=>by
  unfold mi
  cases h:(s i).bd with
  | none=>exact absurd h (hg i hi).1
  | some b=>exact ⟨b,rfl,rfl⟩
 have hvn:(idx.map (mi ν s)).Nodup:=List.pairwise_map.mpr (List.Pairwise.imp_of_mem (λ{a b} ha hb hab e=>(bd a ha).elim λx hx=>(bd b hb).elim λy hy=>hab (N.inj a b x y (hn a ha) (hn b hb) (N.bd a (hn a ha) x hx.1) (N.bd b (hn b hb) y hy.1) (hx.2.symm.trans (e.trans hy.2))).1) nd)
 have hl:∀{α:Type} {f:Nat→α} {m:Nat},4≤m→(idx.map f).length≤m:=λh=>by rw [List.length_map];exact ba Yp h
 have hbo:∀i∈idx,∀{ex},(aT 543 ic (aa 1) (ae (aa 0) aj)) (some (.int ((i:Int)+1))::some (.ref 0)::ex) V=some (.int (mi ν s i)):=λi hi ex=>
  cW rfl (jQ E.o0) (aA rfl rfl) ((CR E (hn i hi)).trans ((bd i hi).elim λb h=>by rw [h.1,h.2];rfl))
 refine dK rfl (cb (aK (gS (hM rfl rfl) (hl (by decide)) ((rC (g:=λi=>AV.int (mi ν s i)) idx λi hi=>hbo i hi).trans (by rw [show (λi=>AV.int (mi ν s i))=AV.int ∘ mi ν s from rfl,← List.map_map]))))
  (d0 (bg (jJ (z:=false) (z':=false) (bO rfl rfl VM) λ_=>kG (Tr rfl (hl (Nat.le_refl _)) hvn)))
   (dw (bw (aK (fF (gS (hM rfl rfl) (hl (by decide)) (Tq idx λi hi=>oi (bO (cW rfl (jQ E.o0) (aA (hbo i hi) rfl) ((bd i hi).elim λb h=>(congrArg (λv=>oE [.ref 0, .int v] V) h.2).trans (NM E N (hn i hi) h.1 (hg i hi).2))) rfl Ri))) rfl rfl)))))) rfl
theorem Rk:uT [bV r] V=some (.int ((if r.act then 1 else 0)+(if r.short then 2 else 0)+4)):=
 have a:∀{f:Nat} {b:Bool} {U:Lo},dG (mc r) f=some (.bool b)→aL fU (ae (aB f [188] (aa 0)) aj) (some (bV r)::U) V=some (.int (if b then 1 else 0)):=λh=>bQ (aA (bR rfl kW (by decide) h rfl) rfl) rfl
 dK rfl (bw (aK ((dN (dN (dN rfl (a rfl) rfl) (dN rfl (a rfl) rfl) rfl) (dN rfl (a rfl) rfl) rfl).trans (by cases r.act <;> cases r.short <;> rfl)))) rfl
theorem VN:um [bV r] V=some (.tup [.int r.prio, .int r.num]):=
 dK rfl (bw (aK (kF (aA (bR rfl kW (by decide) rfl rfl) (aA (bR rfl kW (by decide) rfl rfl) rfl)) (bH rfl)))) rfl
theorem xU (h:F (.ref V.length::avs) (V ++ [.inst C []])=some (.none,σ')):l6 C F avs V=some (.ref V.length,σ'):=by simp only [l6,h]
theorem Rl:qZ [.tup [.int 3, .int 77],bV r] V=some (.ref V.length,V ++ [kV r rp .none (fresh r.act r.short).p]):=
 xU (eW rfl (dq (fs:=[]) rfl rfl c1 rfl dh (dq (aK (kF (aA rfl (aA (bR rfl kW (by decide) rfl rfl) (aA (cW rfl kW rfl VN) (aA (dN (cW rfl kW rfl Rk) rfl rfl) rfl)))) (bH rfl))) rfl c2 rfl dh
  (dq rfl rfl c2 rfl dh (dq rfl rfl c1 rfl dh (dq rfl rfl c1 rfl dh (dq rfl rfl c1 rfl dh (dq rfl rfl c1 rfl dh (dq rfl rfl c1 rfl dh (dq rfl rfl c1 rfl dh (dq rfl rfl c1 rfl dh (dq rfl rfl c1 rfl dh (dq rfl rfl c1 rfl dh rfl)))))))))))))
theorem NS:wd [.tup [.int 3, .int 77], .int m] V=some (.ref V.length,V ++ [.inst 433 (gC m (V.length+1)), .gdict []]):=
 xU (eW rfl (dq (fs:=[]) rfl rfl (by decide) rfl dh (dq rfl rfl (by decide) rfl dh (nS (v:= .ref (V.length+1)) (σ1:=V ++ [.inst 433 [(19, .tup [.int 3, .int 77]),(20, .int m)], .gdict []]) (k:=V.length) (C:=433) (fs:=[(19, .tup [.int 3, .int 77]),(20, .int m)]) (by
  show some (AV.ref (V ++ [_]).length,(V ++ [_]) ++ [_])=_
  rw [List.length_append,List.append_assoc];rfl) rfl (by rw [List.getElem?_append_right (Nat.le_refl _),Nat.sub_self];rfl) ⟨by decide,bH rfl,dh⟩ (by rw [List.set_append_right _ _ (Nat.le_refl _),Nat.sub_self];rfl) rfl))))
theorem Hh (ha:as U V=some us)(h:us.length≤10000):bD as U V=some (.lst us):=by simp only [bD,ha,Option.bind_some,if_pos h]
theorem Dz (ha:a U V=some u)(hb:b U V=some v)(h1:f u v=some true)(hd:d U V=some w)(h2:g v w=some z):iZ a (i3 f b (i1 g d)) U V=some z:=by
 simp only [iZ,i3,i1,ha,hb,h1,hd,h2,Option.bind_some]
theorem qe (h:0≤x∧x< 65536):gx [(dn (iZ (ah (.int 0)) (i3 (de λa b=>decide (a≤b)) (aa 0) (i1 (de λa b=>decide (a< b)) (aY (.int 65536))))))] [some (.int x)] V=some false:=
 oi (eo (z:=true) (Dz rfl rfl (congrArg some (decide_eq_true h.1)) rfl (congrArg some (decide_eq_true h.2))))
theorem Ts (h1:1≤r.num∧r.num< 65536)(h2:0≤r.prio∧r.prio< 65536)(h3:0≤r.key∧r.key< 65536):oR [.tup [.int 3, .int 77],bV r] V=some .none:=by
 have q1:0≤r.num - 1∧r.num - 1< 65536:=⟨Int.sub_nonneg.mpr h1.1,Int.lt_trans (Int.sub_one_lt_of_le (Int.le_refl _)) h1.2⟩
 have a:∀{i:Nat} {v:AV} {U:Lo} {u:Option AV},dG (mc r) i=some v→kX v=true→aB i [188] (aa 1) (u::some (bV r)::U) V=some v:=λh k=>bR rfl kW (by decide) h k
 have ex:vy [.tup [.int 3, .int 77],bV r] V=some (.none,V):=
  eW rfl (cb (aK (Hh (aA rfl (aA (dN (a rfl rfl) rfl rfl) (aA (a rfl rfl) (aA (a rfl rfl) (aA (a rfl rfl) rfl))))) (bH rfl)))
   (d0 (bg (jJ (z:=false) (z':=false) (bO (gS (hM rfl rfl) (bH rfl) (me (qe (x:=3) (by decide)) (me (qe q1) (me (qe ⟨Int.le_trans (by decide) h1.1,h1.2⟩) (me (qe h2) (me (qe h3) rfl)))))) rfl rfl) λ_=>kG (eo (z:=true) (Dz rfl rfl rfl rfl rfl)))) rfl))
 simp only [oR,dj,ex];rfl
end
end
section
def jC (x:S):Bool:=x.p.mx == .dst && x.bd != none && x.p.up && x.rest == some x && (match (x.on P.end_).rest with | some c=>c.bd == none | none=>false)
def Ig (x:S × S):Option (S × S):=(ot x.1).bind λa=>(ot x.2).bind λb=>some (a,b)
def tH (x:S × S):Option (S × S):=if jC x.1 && jC x.2 then some x else none
def yS:S × S→Option (S × S):=λx=>(Ig x).bind λy=>(iter turn 6 y).bind tH
theorem P2 (a b:Bool):([true,false].all λc=>[true,false].all λd=>(yS (fresh a b,fresh c d)).isSome)=true:=match a,b with
 | true,true=>by decide +kernel
 | true,false=>by decide +kernel
 | false,true=>by decide +kernel
 | false,false=>by decide +kernel
theorem sv (a:Bool):a∈ [true,false]:=by cases a <;> decide
theorem Rm (a b c d:Bool):∃x,yS (fresh a b,fresh c d)=some x:=
 Option.isSome_iff_exists.mp (List.all_eq_true.mp (List.all_eq_true.mp (P2 a b) c (sv c)) d (sv d))
theorem P4 (a b:Bool):Stb (fresh a b):=ke (eq_of_beq (List.all_eq_true.mp (List.all_eq_true.mp OM a (sv a)) b (sv b)))
section
variable {c:Cfg} {ν ν':Nat→Bool→Int} {es es':List (GK × AV)} {s s' t:Nat→S} {V σ':ar}
theorem PR.mk (M:Mt c)(h:∀i,i< c.n→i< c.mate i→∃x,f (s i,s (c.mate i))=some x):∃t,PR c f s t:=
 (PR.bind M (f:=f) (g:=λ_=>some ((λi=>s i) 0,s 0)) (t:=λ_=>s 0) λi hi hm=>(h i hi hm).elim λx e=>by show Option.bind (f (s i,s (c.mate i))) _=_;rw [e];rfl).imp λ_ q=>q.1
def fr (c:Cfg):Nat→S:=λi=>fresh (c.row i).act (c.row i).short
theorem XB (M:Mt c):∃u t,(∀i,i< c.n→ot (fr c i)=some (u i))∧PR c (iter turn 6) u t∧∀i,i< c.n→jC (t i)=true:=by
 obtain ⟨t,h⟩:=PR.mk (c:=c) (s:=fr c) M (f:=yS) λi _ _=>Rm _ _ _ _
 obtain ⟨u,h1,h2⟩:=PR.bind M (f:=Ig) (g:=λy=>(iter turn 6 y).bind tH) h
 obtain ⟨w,h3,h4⟩:=PR.bind M (f:=iter turn 6) (g:=tH) h2
 have h5:∀i,i< c.n→jC (w i)=true:=h4.each M (P:=λa b x=>jC a=true) λa b x y e=>by
  unfold tH at e
  by_cases q:(jC a && jC b)=true
  ·exact eH q
  ·exact absurd ((if_neg q).symm.trans e) nofun
 exact ⟨u,w,h1.each M (P:=λa b x=>ot a=some x) λa b x y e=>(Option.bind_eq_some_iff.mp e).elim λa' z=>(Option.bind_eq_some_iff.mp z.2).elim λb' z2=>by cases z2.2;exact ⟨z.1,z2.1⟩,h3,h5⟩
theorem Ro (h:jC x=true):x.p.mx= .dst∧x.bd≠none∧x.p.up=true∧Stb x∧∃y,(x.on P.end_).rest=some y∧y.bd=none:=by
 unfold jC at h
 have h4:=eH h
 have h3:=eH h4.1
 have h2:=eH h3.1
 have h1:=eH h2.1
 refine ⟨eq_of_beq h1.1,bne_iff_ne.mp h1.2,h2.2,ke (eq_of_beq h3.2),?_⟩
 have h5:=h4.2
 cases hr:(x.on P.end_).rest with
 | none=>rw [hr] at h5;cases h5
 | some y=>rw [hr] at h5;exact ⟨y,rfl,eq_of_beq h5⟩
def i4 (c:Cfg)(i:Nat):AO:=kV (c.row i) (c.mr i) .none (fr c i).p
def f9 (c:Cfg)(d:Nat):ar:=[.inst 543 [(22, .ref 1)], .idict (fS d)] ++(List.range d).map (i4 c)
theorem Ex:(f9 c d).length=d+2:=by rw [f9,List.length_append,List.length_map,List.length_range];exact Nat.add_comm 2 d
theorem Gz {i d:Nat}(h:i< d): ¬((i:Int)+1=(d:Int)+1):=λe=>Nat.ne_of_lt h (wY e)
theorem Rq (l:List Nat)(h:∀i∈l,i< d):gX (l.map λ(i:Nat)=>((i:Int)+1,AV.ref (i+2))) ((d:Int)+1) (.ref (d+2))=(l.map λ(i:Nat)=>((i:Int)+1,AV.ref (i+2))) ++ [((d:Int)+1, .ref (d+2))]:=by
 induction l with
 | nil=>rfl
 | cons i l ih=>exact (if_neg (Gz (h i bY))).trans (congrArg (_:: ·) (ih λj hj=>h j (cQ _ hj)))
theorem OY:gX (fS d) ((d:Int)+1) (.ref (d+2))=fS (d+1):=by
 unfold fS
 rw [Rq _ λi hi=>cI hi,List.range_succ,List.map_append]
 rfl
theorem P5 (l:List Nat)(h:∀i∈l,i< d):fk (l.map λ(i:Nat)=>((i:Int)+1,AV.ref (i+2))) ((d:Int)+1)=none:=by
 induction l with
 | nil=>rfl
 | cons i l ih=>exact (if_neg (Gz (h i bY))).trans (ih λj hj=>h j (cQ _ hj))
def xV:aF:=(ai (bo (xP (aL oR (ae (aa 1) (ae (aa 4) aj))))) (ai (aQ (yT (jN false (aB 0 [188] (aa 4)) (aB 22 [543] (aa 0)))) (ai (λ_ _=>none) aq) aq) (ai (iu (iA 0 (aB 22 [543] (aa 0)) (aB 0 [188] (aa 4))) (bB 0 id qZ (yA (ae (aa 1) (ae (aa 4) aj))))) aq)))
noncomputable def sw (c:Cfg):Prop:=∀i,i< c.n→(0≤(c.row i).prio∧(c.row i).prio< 65536)∧(0≤(c.row i).key∧(c.row i).key< 65536)
noncomputable def jL:AV:= .tup [.int 3, .int 77]
theorem XC {es:List (Int × AV)}(h:V[k]? =some (.idict es))(hl:es.length≤10000):lW 0 V (.ref k) (.int i) v=some (V.set k (.idict (gX es i v))):=az rfl (cw (Nat.zero_le _) (az h (cB (az rfl (cw hl rfl)) rfl)))
theorem Tt:(f9 c d ++ [i4 c d]).set 1 (.idict (fS (d+1)))=f9 c (d+1):=
 congrArg ([AO.inst 543 [(22, .ref 1)], .idict (fS (d+1))] ++ ·) (by rw [List.range_succ,List.map_append];rfl:(List.range d).map (i4 c) ++ [i4 c d]=(List.range (d+1)).map (i4 c))
theorem Tu (R:sw c)(hd:d< c.n):xV [some (.ref 0),some jL,a,b,some (bV (c.row d))] (f9 c d)=some (.next,[some (.ref 0),some jL,a,b,some (bV (c.row d))],f9 c (d+1)):=by
 have hnum:=c.num d hd
 have hroom:=Ts (V:=f9 c d) (r:=c.row d) (by have:=c.n4;omega) (R d hd).1 (R d hd).2
 have hnew:=Rl (V:=f9 c d) (r:=c.row d) (rp:=c.mr d)
 rw [Ex] at hnew
 have a0:∀{τ:ar},aB 0 [188] (aa 4) [some (.ref 0),some jL,a,b,some (bV (c.row d))] τ=some (.int ((d:Int)+1)):=(bR rfl kW (by decide) rfl rfl).trans (by rw [hnum])
 have a2:∀{τ:ar} {U:Lo},τ[0]? =some (.inst 543 [(22, .ref 1)])→aB 22 [543] (aa 0) (some (.ref 0)::U) τ=some (.ref 1):=λh=>bR rfl (show eR _ (.ref 0)=some (543,[(22, .ref 1)]) from az h rfl) (by decide) rfl rfl
 refine eF (aK (bQ (aA rfl (aA rfl rfl)) hroom)) (d0 (bg (tE a0 (a2 rfl) (Ie (z:=false) rfl (by rw [show fk (fS d) _=none from P5 _ λi hi=>cI hi];rfl)))) (dw (nB (ew (aA rfl (aA rfl rfl)) (Nat.zero_le _) hnew) (nC (a2 rfl) a0 (XC rfl (by rw [fS,List.length_map,List.length_range];have:=c.n4;omega))) ?_)))
 rw [OY]
 exact congrArg (λτ=>some (Fl.next,_,τ)) Tt
theorem Tv (R:sw c)(k:Nat):∀(d:Nat) (o:Option AV),d+k=c.n→∃o',b9 (bh 4) xV ((List.range' d k).map λi=>bV (c.row i)) [some (.ref 0),some jL,a,b,o] (f9 c d)=some (.next,[some (.ref 0),some jL,a,b,o'],f9 c c.n):=by
 induction k with
 | zero=>exact λd o h=>⟨o,(show d=c.n from h)▸rfl⟩
 | succ k ih=>exact λd o h=>(ih (d+1) _ ((Nat.succ_add_eq_add_succ ..).trans h)).imp λo' e=>eM rfl (Tu R (h▸Nat.lt_add_of_pos_right (Nat.succ_pos _))) e
theorem ent_fresh:(fresh a b).ent x=false:=by cases x <;> rfl
def qs (c:Cfg):ar:= .inst 543 [(22, .ref 1),(23, .ref (c.n+2))]:: .idict (fS c.n)::((List.range c.n).map (i4 c) ++ [.inst 433 (gC c.most (c.n+3)), .gdict []])
theorem GA:(qs c)[c.n+k+2]? =([.inst 433 (gC c.most (c.n+3)), .gdict []]:ar)[k]? :=by
 show ((List.range c.n).map (i4 c) ++ [.inst 433 (gC c.most (c.n+3)), .gdict []])[c.n+k]? =_
 have h:((List.range c.n).map (i4 c)).length=c.n:=by rw [List.length_map,List.length_range]
 rw [List.getElem?_append_right (by rw [h];exact Nat.le_add_right _ _),h,Nat.add_sub_cancel_left]
theorem stN_len:(qs c).length=c.n+4:=by
 show ((List.range c.n).map (i4 c) ++ [AO.inst 433 (gC c.most (c.n+3)),AO.gdict []]).length+1+1=_
 rw [List.length_append,List.length_map,List.length_range];rfl
theorem Tw (R:sw c):∃V,mR [jL, .lst ((List.range c.n).map λi=>bV (c.row i)), .int c.most] []=some (.ref 0,V)∧Sys c (fr c) V∧V.length=c.n+4:=by
 refine (Tv R (a:=some (.lst ((List.range c.n).map λi=>bV (c.row i)))) (b:=some (.int c.most)) c.n 0 none (Nat.zero_add _)).elim λo' e=> ?_
 have hch:=NS (V:=f9 c c.n) (m:=c.most)
 rw [Ex] at hch
 have ex:uF [.ref 0,jL, .lst ((List.range c.n).map λi=>bV (c.row i)), .int c.most] [.inst 543 []]=some (.none,qs c):=
  eW rfl (d0 (bg (bO rfl rfl (congrArg some (decide_eq_false (Int.not_lt.mpr c.m1))))) (dw (nS (fs:=[]) (σ1:=[.inst 543 [], .idict []]) rfl rfl rfl ⟨List.mem_singleton.mpr rfl,bH rfl,Nat.zero_le _⟩ (σ2:=f9 c 0) rfl
   (eV (p:=xV) (by rw [← List.range_eq_range'] at *;exact iy rfl) e (nS (fs:=[(22, .ref 1)]) (ew (aA rfl (aA rfl rfl)) (Nat.zero_le _) hch) rfl rfl ⟨List.mem_singleton.mpr rfl,bH rfl,Nat.zero_le _⟩ rfl rfl)))))
 have hi:qK [.ref 0,jL, .lst ((List.range c.n).map λi=>bV (c.row i)), .int c.most] [.inst 543 []]=some (.none,qs c):=by
  unfold qK jI
  exact ex
 refine ⟨qs c,xU (V:=[]) hi,⟨⟨λ_ _=>0,[],⟨Nat.le_of_eq stN_len.symm,rfl,rfl,λi hi=> ?_,GA (k:=0),GA (k:=1)⟩,⟨λi hi b=> ?_,λp hp=>absurd hp bq,λi j a b hi hj h=> ?_,List.nodup_nil,λi hi b h=>by cases h⟩⟩,λj o hj e=> ?_⟩,stN_len⟩
 ·show ((List.range c.n).map (i4 c) ++_)[i]? =_
  rw [List.getElem?_append_left (by rw [List.length_map,List.length_range];exact hi),List.getElem?_map,List.getElem?_range hi];rfl
 ·rw [show (fr c i).ent b=false from ent_fresh];rfl
 ·exact absurd (ent_fresh.symm.trans h) nofun
 ·rw [List.getElem?_eq_none (ba (Nat.le_of_eq stN_len) hj)] at e
  cases e
end
end
section
section
variable {c:Cfg} {ν ν':Nat→Bool→Int} {es es':List (GK × AV)} {s s' t:Nat→S} {V σ':ar}
theorem Sys.bof (Y:Sys c s V)(hi:i< c.n)(hb:(s i).bd=none):ic [.ref 0, .int ((i:Int)+1)] V=some .none:=Y.1.elim λ_ q=>q.elim λ_ q=>(CR q.1 hi).trans (by rw [hb];rfl)
def GB:aF:=(ai (bo (bW 0 (λ_=>0) 543 lu (aa 3) (yA (ae (aa 5) aj)))) aq)
noncomputable def qg (s u:Nat→S)(d:List Nat):Nat→S:=λj=>if j∈d then u j else s j
structure UpI (c:Cfg) (s u:Nat→S) (o0 o1 o2 o4:Option AV) (σ0:ar) (d:List Nat) (U:Lo) (V:ar):Prop where
 oo:∃o5,U=[o0,o1,o2,some (.ref 0),o4,o5]
 YY:Sys c (qg s u d) V
 kk:Far c σ0 V
theorem Tx (hs:∀j,j< c.n→Stb (s j))(hu:∀j,j< c.n→ot (s j)=some (u j))(hd:∀j,j< c.n→(s j).p.up=false)(nd:full.Nodup)(hn:∀j∈full,j< c.n)(h:UpI c s u o0 o1 o2 o4 σ0 [] U V):
  ∃ℓ' σ',b9 (bh 5) GB (full.map λ(i:Nat)=>AV.int ((i:Int)+1)) U V=some (.next,ℓ',σ')∧UpI c s u o0 o1 o2 o4 σ0 full ℓ' σ':=
 m8 nd _ (λd i U V t h=>by
  have hin:=hn i t.mem
  have hat:qg s u d i=s i:=if_neg t.ni
  obtain ⟨o5,rfl⟩:=h.oo
  refine (VJ h.YY hin (λj hj=> ?_) (by rw [hat];exact hd i hin) (by rw [hat];exact hu i hin)).elim λσ1 q=>⟨_,σ1,eF (gZ rfl h.YY.io (aA rfl rfl) (Nat.zero_le _) q.1) rfl,⟨_,rfl⟩,q.2.1.ext λj hj=> ?_,h.kk.trans q.2.2⟩
  ·unfold qg
   split
   ·exact ke (hu j hj)
   ·exact hs j hj
  ·by_cases e:j=i
   ·rw [e,ee];exact if_pos (dy _ bY)
   ·rw [ek e]
    unfold qg
    by_cases m:j∈d
    ·rw [if_pos m,if_pos (dE _ m)]
    ·rw [if_neg m,if_neg λz=>(bC z).elim m λz=>e (aH z)]) U V h
def DA:aF:=(ai (bo (bW 0 (λ_=>0) 543 qu (aa 3) (yA (ae (aa 5) aj)))) aq)
theorem CT (Y:Sys c s V)(hi:i< c.n)(hs:∀j,j< c.n→Stb (s j))(hu:(s i).p.up=true)(h:((s i).on P.end_).rest=some y):∃σ',DA [o0,o1,o2,some (.ref 0),o4,some (.int ((i:Int)+1))] V=some (.next,[o0,o1,o2,some (.ref 0),o4,some (.int ((i:Int)+1))],σ')∧Sys c (upd s i y) σ'∧Far c V σ':=
 (Rb Y hi hs hu h).imp λσ1 q=>⟨eF (gZ rfl Y.io (aA rfl rfl) (Nat.zero_le _) q.1) rfl,q.2⟩
structure Shp (c:Cfg) (prs:List AV) (D:List (Int × AV)) (a b:Nat) (idx:List Nat):Prop where
 M:Mt c
 R:sw c
 jn:∀V:ar,mL [.lst prs] V=some (.ref V.length,V ++ [.idict D])
 dg:∀i,i< c.n→fk D ((i:Int)+1)=some (.int ((c.mate i:Nat)+1))
 db:∀n,km n D=true
 dl:D.length≤4
 ds:gp (λi j=>decide (i< j)) (D.map (·.1))=(List.range c.n).map λ(i:Nat)=>(i:Int)+1
 p0:i5 prs 0=some (.tup [.int ((a:Int)+1), .int ((b:Int)+1)])
 ha:a< c.n
 hb:b< c.n
 ab:a≠b
 fl:∀V:ar,∀U:Lo,(U[1]?).join=some (.lst prs)→pO (pN (aa 1) (ah (.int 1))) U V=some (.lst (idx.map λ(i:Nat)=> .int ((i:Int)+1)))
 il:idx.length≤4
 ind:idx.Nodup
 im:∀i∈idx,i< c.n∧i≠a∧i≠b
 b0:c8 0 prs=true
def iz (c:Cfg):AV:= .lst ((List.range c.n).map λi=>bV (c.row i))
theorem W5 (h:a U V=some (.tup l)):iX (xP a) U V=some (l,true,V):=az (cB h rfl) (cB rfl rfl)
theorem OZ (c:Cfg)(l:List Nat):c8 0 (l.map λi=>bV (c.row i))=true:=by
 induction l with
 | nil=>rfl
 | cons x r ih=>exact ih
theorem kl:(V ++ [x])[V.length]? =some x:=by rw [List.getElem?_append_right (Nat.le_refl _),Nat.sub_self];rfl
theorem Sys.more (Y:Sys c s V)(hl:V.length=c.n+4)(hb:∀n,iY n o=true):Sys c s (V ++ [o]):=
 ⟨Y.1.imp λ_ q=>q.imp λ_ q=>⟨q.1.more _,q.2⟩,λj o' hj e=>by
  have h:j< (V ++ [o]).length:=lE e
  have hj':j=V.length:=Nat.le_antisymm (Nat.le_of_lt_succ (Nat.lt_of_lt_of_le h (Nat.le_of_eq List.length_append))) (hl▸hj)
  rw [hj',kl] at e
  cases e
  exact hb _⟩
theorem xa (H:Shp c prs D a b idx):(∃V,jb [iz c, .lst prs, .int c.most] []=some (.bool true,V))∧c8 0 [iz c, .lst prs]=true:=by
 refine ⟨?_,show (c8 0 ((List.range c.n).map λi=>bV (c.row i)) && (c8 0 prs && true))=true by rw [OZ,H.b0];rfl⟩
 refine (XB H.M).elim λu x=>x.elim λt x=> ?_
 have hg:∀i,i< c.n→_:=λi hi=>Ro (x.2.2 i hi)
 refine (Tw H.R).elim λσ0 n=> ?_
 have hq:c.n+4≤σ0.length:=Nat.le_of_eq n.2.2.symm
 have Y1:Sys c (fr c) (σ0 ++ [.idict D]):=n.2.1.more n.2.2 H.db
 have J1:Jn c σ0.length (σ0 ++ [.idict D]):=⟨hq,D,kl,H.dg⟩
 refine (Tx (c:=c) (s:=fr c) (u:=u) (λj hj=>P4 _ _) x.1 (λj hj=>rfl) (o0:=some (iz c)) (o1:=some (.lst prs)) (o2:=some (.int c.most)) (o4:=some (.ref σ0.length)) (full:=List.range c.n) List.nodup_range (λj hj=>cI hj) (V:=σ0 ++ [.idict D]) (σ0:=σ0 ++ [.idict D]) ⟨⟨none,rfl⟩,Y1.ext (s':=qg (fr c) u []) λj hj=>if_neg bq,Far.refl⟩).elim λℓ2 e2=>e2.elim λσ2 e2=> ?_
 obtain ⟨o5,rfl⟩:=e2.2.oo
 have Y2:Sys c u σ2:=e2.2.YY.ext λj hj=>(if_pos (List.mem_range.mpr hj)).symm
 refine (Rh H.M (J1.far e2.2.kk) Y2 x.2.1).elim λσ3 e3=> ?_
 have sorted:∀{V:ar},V[σ0.length]? =some (.idict D)→iT [.ref σ0.length] V=some (.lst ((List.range c.n).map λ(i:Nat)=> .int ((i:Int)+1))):=λh=>(Em h H.dl).trans (by rw [H.ds,List.map_map];rfl)
 have hq3:σ3[σ0.length]? =some (.idict D):=(e3.2.2.2 _ hq).trans ((e2.2.kk.2 _ hq).trans kl)
 refine (hg a H.ha).2.2.2.2.elim λya ra=>(hg b H.hb).2.2.2.2.elim λyb rb=> ?_
 have st3:∀j,j< c.n→Stb (t j):=λj hj=>(hg j hj).2.2.2.1
 refine (CT e3.2.1 H.ha st3 (hg a H.ha).2.2.1 ra.1 (o0:=some (iz c)) (o1:=some (.lst prs)) (o2:=some (.int c.most)) (o4:=some (.ref σ0.length))).elim λσ4 e4=> ?_
 have hbn:upd t a ya b=t b:=ek H.ab.symm
 refine (CT e4.2.1 H.hb (λj hj=> ?_) (y:=yb) (by rw [hbn];exact (hg b H.hb).2.2.1) (by rw [hbn];exact rb.1) (o0:=some (iz c)) (o1:=some (.lst prs)) (o2:=some (.int c.most)) (o4:=some (.ref σ0.length))).elim λσ5 e5=> ?_
 ·unfold upd
  split
  ·exact ke ra.1
  ·exact st3 j hj
 have al2:=CS e5.2.1 (idx:=idx) H.ind (λi hi=>(H.im i hi).1) H.il (λi hi=>by
  rw [ek (H.im i hi).2.2,ek (H.im i hi).2.1]
  exact ⟨(hg i (H.im i hi).1).2.1,(hg i (H.im i hi).1).1⟩)
 have hm:∀{i:Nat} {ex:Lo},ic [.ref 0, .int ((i:Int)+1)] σ5=some .none→(aT 543 ic (aa 1) (ae (aa 0) aj)) (some (.int ((i:Int)+1))::some (.ref 0)::ex) σ5=some .none:=λh=>cW rfl e5.2.1.io (aA rfl rfl) h
 have p0:∀{τ:ar} {x3 x4 x5:Option AV},bz (aa 1) (ah (.int 0)) [some (iz c),some (.lst prs),some (.int c.most),x3,x4,x5] τ=some (.tup [.int ((a:Int)+1), .int ((b:Int)+1)]):=dZ rfl rfl H.p0
 refine ⟨σ5,fh rfl (nB (xM (fw (ew (us:=[jL,iz c, .int c.most]) rfl (Nat.zero_le _) n.1) (fw (ew (aA rfl rfl) (Nat.zero_le _) (H.jn σ0)) rfl)) (bH rfl)) rfl (eV (p:=GB) (iy (bQ (aA rfl rfl) (sorted kl))) e2.1 (eF (ew (aA rfl (aA rfl (aA rfl rfl))) (Nat.zero_le _) e3.1)
  (d0 (bg (eo (z:=true) (dP (bQ (aA rfl (aA (bQ (aA rfl rfl) (sorted hq3)) rfl)) (CS e3.2.1 (idx:=List.range c.n) List.nodup_range (λi hi=>cI hi) (by rw [List.length_range];exact c.n4) λi hi=>⟨(hg i (cI hi)).2.1,(hg i (cI hi)).1⟩)))))
   (dw (eV (p:=DA) (W5 p0) (eM rfl e4.1 (eM rfl e5.1 rfl)) (d0 (bg (z:=false) (bO (gS (hM p0 rfl) (bH rfl) (tF rfl (hm (e5.2.1.bof H.ha (by rw [ek H.ab,ee];exact ra.2))) (tF rfl (hm (e5.2.1.bof H.hb (by rw [ee];exact rb.2))) rfl))) rfl rfl))
    (dw (bw (aK (bQ (aA rfl (aA (H.fl σ5 _ rfl) rfl)) al2)))))))))))⟩
end
end
section
set_option genInjectivity false in
structure Dr where
 prio:Int
 key:Int
 act:Bool
 short:Bool
noncomputable def Dr.ok (d:Dr):Prop:=(0≤d.prio∧d.prio< 65536)∧(0≤d.key∧d.key< 65536)
noncomputable def Dr.row (d:Dr)(i:Nat):RowC:=⟨(i:Int)+1,d.prio,d.key,d.act,d.short⟩
noncomputable def lg (n:Nat)(f:Nat→Dr)(mate:Nat→Nat)(most:Int)(h24:n=2∨n=4)(m1:1≤most):Cfg:=⟨n,λi=>(f i).row i,mate,most,h24,λi _=>rfl,m1⟩
noncomputable def m2 (i:Nat):Nat:=if i=0 then 1 else 0
noncomputable def jT (i:Nat):Nat:=if i=0 then 1 else if i=1 then 0 else if i=2 then 3 else 2
noncomputable def jU (i:Nat):Nat:=if i=0 then 2 else if i=1 then 3 else if i=2 then 0 else 1
noncomputable def pr (a b:Int):AV:= .tup [.int a, .int b]
theorem qt {P:Nat→Prop}(h0:P 0)(h1:P 1):∀i,i< 2→P i
 | 0,_=>h0
 | 1,_=>h1
 | n+2,h=>by omega
theorem lh {P:Nat→Prop}(h0:P 0)(h1:P 1)(h2:P 2)(h3:P 3):∀i,i< 4→P i
 | 0,_=>h0
 | 1,_=>h1
 | 2,_=>h2
 | 3,_=>h3
 | n+4,h=>by omega
section
variable {f:Nat→Dr} {m:Int} (hm:1≤m)
theorem nE (h1:t1 u U V=some (ℓ1,σ1))(h2:t2 v ℓ1 σ1=some (ℓ2,σ2)):iB [t1,t2] (.tup [u,v]) U V=some (ℓ2,σ2):=az rfl (az h1 (az h2 rfl))
def sx (n0:Nat):aF:=(ai (iu (iB [(iA n0 (aa 1) (aa 2)),(iA n0 (aa 1) (aa 3))]) (xP (bl (ae (aa 3) (ae (aa 2) aj))))) aq)
theorem DB {V:ar}{x y:AO}:(V ++ [x]).set V.length y=V ++ [y]:=by rw [List.set_append_right _ _ (Nat.le_refl _),Nat.sub_self];rfl
theorem Hi (h0:n0≤k)(h:V[k]? =some (.idict es))(hl:es.length≤10000):lW n0 V (.ref k) (.int i) v=some (V.set k (.idict (gX es i v))):=az rfl (cw h0 (az h (cB (az rfl (cw hl rfl)) rfl)))
theorem pv {V:ar}(h1:D.length≤10000)(h2:(gX D a (.int b)).length≤10000):sx V.length [x,some (.ref V.length),some (.int a),some (.int b)] (V ++ [.idict D])=some (.next,[x,some (.ref V.length),some (.int a),some (.int b)],V ++ [.idict (gX (gX D a (.int b)) b (.int a))]):=
 nB (aK (kF (aA rfl (aA rfl rfl)) (bH rfl))) (nE (nC rfl rfl ((Hi (Nat.le_refl _) kl h1).trans (by rw [DB]))) (nC rfl rfl ((Hi (Nat.le_refl _) kl h2).trans (by rw [DB])))) rfl
theorem Ty:mL [.lst [pr 1 2]] V=some (.ref V.length,V ++ [.idict [(1, .int 2),(2, .int 1)]]):=
 fh rfl (cb rfl (eV (p:=sx V.length) (iy rfl) (eM (nE rfl rfl) (pv (bH rfl) (bH rfl)) rfl) (bw rfl)))
theorem Rr:mL [.lst [pr 1 2,pr 3 4]] V=some (.ref V.length,V ++ [.idict [(1, .int 2),(2, .int 1),(3, .int 4),(4, .int 3)]]):=
 fh rfl (cb rfl (eV (p:=sx V.length) (iy rfl) (eM (nE rfl rfl) (pv (bH rfl) (bH rfl)) (eM (nE rfl rfl) (pv (bH rfl) (bH rfl)) rfl)) (bw rfl)))
theorem Rs:mL [.lst [pr 1 3,pr 2 4]] V=some (.ref V.length,V ++ [.idict [(1, .int 3),(3, .int 1),(2, .int 4),(4, .int 2)]]):=
 fh rfl (cb rfl (eV (p:=sx V.length) (iy rfl) (eM (nE rfl rfl) (pv (bH rfl) (bH rfl)) (eM (nE rfl rfl) (pv (bH rfl) (bH rfl)) rfl)) (bw rfl)))
theorem xb (h:jv (prs.drop 1)=some q)(hl:prs.length≤4)(hq:q.length≤4)(e:(U[1]?).join=some (.lst prs)):pO (pN (aa 1) (ah (.int 1))) U V=some (.lst q):=by
 have h1:pN (aa 1) (ah (.int 1)) U V=some (.lst (prs.drop 1)):=by
  have:prs.length≤10000:=ba hl (by decide)
  exact az e (az rfl (az rfl (az rfl (cw ⟨by decide,this⟩ rfl))))
 have h2:(prs.drop 1).length≤100:=by rw [List.length_drop];exact ba (Nat.sub_le _ _) (ba hl (by decide))
 exact az h1 (az rfl (cw h2 (az h (cw (ba hq (by decide)) rfl))))
theorem XD (ho:∀i,i< 2→(f i).ok):Shp (lg 2 f m2 m (.inl rfl) hm) [pr 1 2] [(1, .int 2),(2, .int 1)] 0 1 [] where
 M:=⟨qt (by show m2 0< 2;decide) (by show m2 1< 2;decide),qt rfl rfl,qt (by show m2 0≠0;decide) (by show m2 1≠1;decide)⟩
 R:=ho
 jn:=λV=>Ty
 dg:=qt rfl rfl
 db:=λn=>rfl
 dl:=by decide
 ds:=by show gp _ [1,2]=[1,2];decide +kernel
 p0:=rfl
 ha:=by show 0< 2;decide
 hb:=by show 1< 2;decide
 ab:=by decide
 fl:=λV U e=>xb rfl (by decide) (by decide) e
 il:=by decide
 ind:=List.nodup_nil
 im:=λi hi=>by cases hi
 b0:=rfl
theorem W6 (ho:∀i,i< 4→(f i).ok):Shp (lg 4 f jT m (.inr rfl) hm) [pr 1 2,pr 3 4] [(1, .int 2),(2, .int 1),(3, .int 4),(4, .int 3)] 0 1 [2,3] where
 M:=⟨lh (by show jT 0< 4;decide) (by show jT 1< 4;decide) (by show jT 2< 4;decide) (by show jT 3< 4;decide),lh rfl rfl rfl rfl,lh (by show jT 0≠0;decide) (by show jT 1≠1;decide) (by show jT 2≠2;decide) (by show jT 3≠3;decide)⟩
 R:=ho
 jn:=λV=>Rr
 dg:=lh rfl rfl rfl rfl
 db:=λn=>rfl
 dl:=by decide
 ds:=by show gp _ [1,2,3,4]=[1,2,3,4];decide +kernel
 p0:=rfl
 ha:=by show 0< 4;decide
 hb:=by show 1< 4;decide
 ab:=by decide
 fl:=λV U e=>xb rfl (by decide) (by decide) e
 il:=by decide
 ind:=by decide
 im:=λi hi=>by
  simp only [List.mem_cons,List.not_mem_nil,or_false] at hi
  show i< 4∧i≠0∧i≠1
  omega
 b0:=rfl
theorem W7 (ho:∀i,i< 4→(f i).ok):Shp (lg 4 f jU m (.inr rfl) hm) [pr 1 3,pr 2 4] [(1, .int 3),(3, .int 1),(2, .int 4),(4, .int 2)] 0 2 [1,3] where
 M:=⟨lh (by show jU 0< 4;decide) (by show jU 1< 4;decide) (by show jU 2< 4;decide) (by show jU 3< 4;decide),lh rfl rfl rfl rfl,lh (by show jU 0≠0;decide) (by show jU 1≠1;decide) (by show jU 2≠2;decide) (by show jU 3≠3;decide)⟩
 R:=ho
 jn:=λV=>Rs
 dg:=lh rfl rfl rfl rfl
 db:=λn=>rfl
 dl:=by decide
 ds:=by show gp _ [1,3,2,4]=[1,2,3,4];decide +kernel
 p0:=rfl
 ha:=by show 0< 4;decide
 hb:=by show 2< 4;decide
 ab:=by decide
 fl:=λV U e=>xb rfl (by decide) (by decide) e
 il:=by decide
 ind:=by decide
 im:=λi hi=>by
  simp only [List.mem_cons,List.not_mem_nil,or_false] at hi
  show i< 4∧i≠0∧i≠2
  omega
 b0:=rfl
def tc (f:Nat→Dr):AV:= .lst [bV ((f 0).row 0),bV ((f 1).row 1)]
def nV (f:Nat→Dr):AV:= .lst [bV ((f 0).row 0),bV ((f 1).row 1),bV ((f 2).row 2),bV ((f 3).row 3)]
theorem VO:iz (lg 2 f m2 m h hm)=tc f:=by
 simp only [iz,lg,tc,List.range_succ,List.range_zero,List.nil_append,List.cons_append,List.map_cons,List.map_nil]
theorem GC {mt:Nat→Nat}:iz (lg 4 f mt m h hm)=nV f:=by
 simp only [iz,lg,nV,List.range_succ,List.range_zero,List.nil_append,List.cons_append,List.map_cons,List.map_nil]
theorem yu {h:n=2∨n=4}{mt:Nat→Nat}:(lg n f mt m h hm).most=m:=rfl
include hm
theorem HO (ho:∀i,i< 2→(f i).ok):(∃V,jb [tc f, .lst [pr 1 2], .int m] []=some (.bool true,V))∧c8 0 [tc f, .lst [pr 1 2]]=true:=by
 have h:=xa (XD hm ho)
 rw [VO,yu] at h
 exact h
theorem W8 (ho:∀i,i< 4→(f i).ok):(∃V,jb [nV f, .lst [pr 1 2,pr 3 4], .int m] []=some (.bool true,V))∧c8 0 [nV f, .lst [pr 1 2,pr 3 4]]=true:=by
 have h:=xa (W6 hm ho)
 rw [GC,yu] at h
 exact h
theorem W9 (ho:∀i,i< 4→(f i).ok):(∃V,jb [nV f, .lst [pr 1 3,pr 2 4], .int m] []=some (.bool true,V))∧c8 0 [nV f, .lst [pr 1 3,pr 2 4]]=true:=by
 have h:=xa (W7 hm ho)
 rw [GC,yu] at h
 exact h
end
end
section
section
variable {V σ' σ'':ar} {k:Nat}
noncomputable def ib (k:Nat)(V:ar):Prop:=∃a b:Int,V[k]? =some (.list [.int a, .int b])
noncomputable def Tk (k:Nat)(V σ':ar):Prop:=σ'.length=V.length∧(∀j,j≠k→σ'[j]? =V[j]?)∧ib k σ'
theorem Tk.trans (a:Tk k V σ')(b:Tk k σ' σ''):Tk k V σ'':=⟨b.1.trans a.1,λj h=>(b.2.1 j h).trans (a.2.1 j h),b.2.2⟩
theorem Tk.set (h:k< V.length):Tk k V (V.set k (.list [.int a, .int b])):=⟨List.length_set,λj hj=>List.getElem?_set_ne (Ne.symm hj),a,b,List.getElem?_set_self h⟩
theorem lF (h:b.natAbs< 2 ^ 64):eu a b=some (a * b):=if_pos (.inr h)
theorem iD (h:V[k]? =some (.list l))(e:i5 l i=some v):gq V (.ref k) (.int i)=some v:=az h e
theorem HP (h:V[k]? =some (.list l))(hi:0≤i∧i< 1000000∧i.toNat< l.length):lW 0 V (.ref k) (.int i) v=some (V.set k (.list (l.set i.toNat v))):=az rfl (cw (Nat.zero_le _) (az h (cB (az rfl (cw hi rfl)) rfl)))
theorem fx (ha:a U V=some (.int x))(hb:b U V=some (.int y))(h:f x y=some z):a8 (bc f) a b U V=some (.int z):=dN ha hb (congrArg (Option.map AV.int) h)
theorem kJ (h:a U V=some (.int x)):aL fU (ae a aj) U V=some (.int x):=bQ (aA h rfl) rfl
theorem m9 (h:y≠0):kN x y=some (x.fmod y):=if_pos h
theorem Ey (h1:0< top)(h2:top< 100)(S:ib k V):∃r σ',jg [.ref k, .int top] V=some (.int r,σ')∧0≤r∧r< top∧Tk k V σ':=by
 refine S.elim λa S=>S.elim λb hs=> ?_
 have hk:=lE hs
 have ht0:top≠0:=Int.ne_of_gt h1
 have htn:top.natAbs< 1073741824:=by omega
 have ga:∀{x y:Option AV},bz (aa 0) (ah (.int 0)) [some (.ref k),x,y] V=some (.int a):=dZ rfl rfl (iD hs rfl)
 by_cases ha:0< a
 ·exact ⟨a.fmod top,_,fh rfl (gu (bg (bO ga rfl (congrArg some (decide_eq_true ha)))) (b8 (cb (aK (fx (kJ ga) rfl (m9 ht0))) (b8 (nB (aK (fx ga rfl (if_pos ⟨ht0,htn⟩))) (nC rfl rfl (HP hs ⟨Int.le_refl _,by decide,Nat.succ_pos _⟩)) (b8 (bw rfl))))))),Int.fmod_nonneg_of_pos _ h1,Int.fmod_lt_of_pos _ h1,Tk.set hk⟩
 ·generalize hb':(b * 39373+7).fmod 2147483647=b'
  have hbn:b'.natAbs< 2 ^ 64:=by
   have hb0:0≤b':=hb'▸Int.fmod_nonneg_of_pos _ (by decide)
   have hb1:b'< 2147483647:=hb'▸Int.fmod_lt_of_pos _ (by decide)
   omega
  have hs2:(V.set k (.list [.int a, .int b']))[k]? =some (.list [.int a, .int b']):=List.getElem?_set_self hk
  have gb:∀{x y:Option AV},bz (aa 0) (ah (.int 1)) [some (.ref k),x,y] (V.set k (.list [.int a, .int b']))=some (.int b'):=dZ rfl rfl (iD hs2 rfl)
  exact ⟨(((b' * b').fmod 2147483629).fdiv 32).fmod top,_,fh rfl (d0 (bg (bO ga rfl (congrArg some (decide_eq_false ha)))) (dw (nB (aK (fx (kJ (dN (fx (dZ rfl rfl (iD hs rfl)) rfl (lF (by decide))) rfl rfl)) rfl ((m9 (by decide)).trans (congrArg some hb')))) (nC rfl rfl (HP hs ⟨by decide,by decide,Nat.lt_succ_self _⟩))
   (bw (aK (fx (kJ (fx (fx (kJ (fx gb gb (lF hbn))) rfl (m9 (by decide))) rfl (if_pos (by decide)))) rfl (m9 ht0))))))),Int.fmod_nonneg_of_pos _ h1,Int.fmod_lt_of_pos _ h1,Tk.set hk⟩
theorem Tz (h0:0≤r)(h1:r< 100)(h:r.toNat< l.length):i5 l r=some l[r.toNat]:=(if_pos ⟨h0,Int.lt_trans h1 (by decide)⟩).trans (List.getElem?_eq_getElem h)
theorem VP (hx:x U V=some (u,σ'))(hy:y U σ'=some (v,σ''))(h:gq σ'' u v=some w):yB x y U V=some (w,σ''):=az hx (az hy (cB h rfl))
theorem VQ (h0:0< l.length)(h1:l.length< 100)(S:ib k V):∃x σ',pe [.ref k, .lst l] V=some (x,σ')∧x∈l∧Tk k V σ':=by
 refine (Ey (top:=(l.length:Int)) (Int.natCast_pos.mpr h0) (Int.ofNat_lt.mpr h1) S).elim λr q=>q.elim λσ' q=> ?_
 have hr:r.toNat< l.length:=(Int.toNat_lt q.2.1).mpr q.2.2.1
 exact ⟨l[r.toNat],σ',fh rfl (bw (VP rfl (ew (aA rfl (aA (yt rfl (Nat.le_of_lt (Nat.lt_trans h1 (by decide)))) rfl)) (Nat.zero_le _) q.1) (Tz q.2.1 (Int.lt_trans q.2.2.1 (Int.ofNat_lt.mpr h1)) hr))),List.getElem_mem hr,q.2.2.2⟩
theorem VR (h:as U V=some us)(hl:us.length≤10000):nK as U V=some (.ref V.length,V ++ [.list us]):=az h (cw hl rfl)
theorem Rt (h1:fq [v] V=some (.int n))(h2:i< n)(h3:gq V v (.int i)=some (.int c))(hi:i.natAbs< 1000):∃a b:Int,oY [v, .int i] V=some (.ref V.length,V ++ [.list [.int a, .int b]]):=by
 generalize hz:decide ((10 ^ 18:Int)≤if -1 - c > c then -1 - c else c)=z
 have hi':i.natAbs< 2 ^ 64:=Nat.lt_trans hi (by decide)
 exact ⟨_,_,fh rfl (cb (aK (lY (bO rfl (bQ (aA rfl rfl) h1) (congrArg some (decide_eq_true h2))) (λ_=>dZ rfl rfl h3) λq=>nomatch q)) (cb (aK (bQ (aA (kJ rfl) (aA (kJ (fx rfl rfl rfl)) rfl)) rfl))
  (cb (aK (fx (kJ (fx (dN (dN (dN (fx (kJ rfl) rfl (m9 (by decide))) (fx (fx rfl rfl (lF hi')) rfl (lF hi')) rfl) (fx rfl rfl (lF hi')) rfl) rfl rfl) rfl (lF (by decide)))) rfl (m9 (by decide))))
   (bw (VR (aA (fx rfl (bQ (aA (fF rfl (fx rfl rfl rfl) (congrArg some hz)) rfl) rfl) (lF (by cases z <;> decide))) (aA rfl rfl)) (bH rfl))))))⟩
theorem TA {l:List Int}(h:i< l.length)(hi:i< 2):gq V (.lst (l.map AV.int)) (.int (i:Int))=some (.int l[i]):=by
 have e:∀{l:List AV} {j:Int},gq V (.lst l) (.int j)=i5 l j:=rfl
 rw [e,i5,if_pos (by omega)]
 rw [Int.toNat_natCast,List.getElem?_map,List.getElem?_eq_getElem h,Option.map_some]
theorem Ez {l:List Int}(hl63:l.length≤63):fq [.lst (l.map AV.int)] V=some (.int l.length):=by
 refine az rfl (az (o:=some (l.map AV.int).length) rfl ?_)
 rw [List.length_map]
 exact if_pos (ba hl63 (by decide))
theorem TC {l:List Int}(hl63:l.length≤63)(h:i< l.length)(hi:i< 2):∃a b:Int,oY [.lst (l.map AV.int), .int (i:Int)] V=some (.ref V.length,V ++ [.list [.int a, .int b]]):=
 Rt (Ez hl63) (by omega) (TA h hi) (by omega)
theorem XE (h:F1 avs V=some r):jI F1 F2 avs V=some r:=by simp only [jI,h]
theorem XG (h:F1 avs V=none):jI F1 F2 avs V=F2 avs V:=by simp only [jI,h]
theorem TD:ed [.int n, .int p, .int q, .bool a, .bool b] V=some (bV ⟨n,p,q,a,b⟩):=
 xL ((XG (F1:=uD) rfl).trans (eW rfl (dq (fs:=[]) rfl rfl (by decide) rfl dh (dq rfl rfl (by decide) rfl dh (dq rfl rfl (by decide) rfl dh (dq rfl rfl (by decide) rfl dh (dq rfl rfl (by decide) rfl dh (dq rfl rfl (by decide) rfl dh rfl)))))))) rfl
theorem DC:ed [.int n, .int p, .int q] V=some (bV ⟨n,p,q,true,false⟩):=
 xL (XE (eW rfl (dq (fs:=[]) rfl rfl (by decide) rfl dh (dq rfl rfl (by decide) rfl dh (dq rfl rfl (by decide) rfl dh (dq rfl rfl (by decide) rfl dh (dq rfl rfl (by decide) rfl dh (dq rfl rfl (by decide) rfl dh rfl)))))))) rfl
end
end
section
def nW (t:Int):bZ:=bB 0 (λ_=>0) jg (yA (ae (aa 2) (ae (ah (.int t)) aj)))
section
variable {V σ' σ'':ar} {k g:Nat}
theorem GD (h:x U V=some (u,σ'))(k:y U σ'=some (v,σ''))(e:f u v=some z):n8 f x y U V=some (.bool z,σ''):=az h (az k (cB e rfl))
theorem xW (h:x U V=some (u,σ'))(k:y U σ'=some (v,σ''))(e:f u v=some w):kP f x y U V=some (w,σ''):=az h (az k (cB e rfl))
theorem TE (h:t U V=some (true,σ'))(k:x U σ'=r):n9 t x y U V=r:=az h k
theorem EA (h:t U V=some (false,σ'))(k:y U σ'=r):n9 t x y U V=r:=az h k
theorem XH (h:as U V=some (us,σ'))(e:F us σ'=some v):rW F as U V=some (v,σ'):=az h (cB e rfl)
theorem Xa (ho:o U V=some (.ref q))(hk:V[q]? =some ao)(hT:oq ao=T)(ha:as U V=some (vs,σ'))(h:F n0 q vs σ'=r):hZ T n0 F o as U V=r:=az ho (az rfl (az hk (cw hT (az ha h))))
theorem XI (ha:as U V=some (us,σ'))(h:F us σ'=r):bB 0 nf F as U V=r:=by simp only [bB,ha,if_pos (Nat.zero_le _),h]
theorem pT (h0:0< t)(h1:t< 100)(hl:(U[2]?).join=some (.ref k))(S:ib k V):∃r σ',nW t U V=some (.int r,σ')∧0≤r∧r< t∧Tk k V σ':=
 (Ey h0 h1 S).imp λr q=>q.imp λσ' q=>⟨ew (aA (a:=aa 2) hl (aA rfl rfl)) (Nat.zero_le _) q.1,q.2⟩
def tI (ls:a7):bZ:=bB 0 (λ_=>0) pe (yA (ae (aa 2) (ae ls aj)))
theorem HQ (hls:ls U V=some (.lst l))(h0:0< l.length)(h1:l.length< 100)(hl:(U[2]?).join=some (.ref k))(S:ib k V):∃x σ',tI ls U V=some (x,σ')∧x∈l∧Tk k V σ':=
 (VQ h0 h1 S).imp λx q=>q.imp λσ' q=>⟨ew (aA (a:=aa 2) hl (aA hls rfl)) (Nat.zero_le _) q.1,q.2⟩
def sy:aF:=(ai (nM 5 6 (nZ (cH (tI (bD (ae (ah (.int 4)) (ae (ah (.int 4)) (ae (ah (.int 5)) aj))))) (cH (n8 (de λa b=>decide (b< a)) (nW 4) (xP (ah (.int 0)))) gv)))) (ai (bo (hZ "list" 0 n7 (aa 3) (cH (rW ed (cH (xP (aa 4)) (cH (nW 4) (cH (xP (aa 5)) (cH (xP (aa 6)) (cH (n8 bp (nW 2) (xP (ah (.int 0)))) gv)))))) gv))) aq))
def f8 (f:Nat→Dr)(d:Nat):List AV:=(List.range d).map λi=>bV ((f i).row i)
theorem wB:(f8 f d).length=d:=by rw [f8,List.length_map,List.length_range]
theorem P6:f8 (upd f d x) (d+1)=f8 f d ++ [bV (x.row d)]:=by
 unfold f8
 rw [List.range_succ,List.map_append,List.map_cons,ee]
 exact congrArg (· ++_) (List.map_congr_left λi hi=>by rw [ek (Nat.ne_of_lt (cI hi))])
theorem VS (h:x∈ [AV.int 4, .int 4, .int 5]):∃q:Int,x= .int q∧0≤q∧q< 65536:=
 have a:∀q:Int,0≤q∧q< 65536→x= .int q→∃q:Int,x= .int q∧0≤q∧q< 65536:=λq h e=>⟨q,e,h⟩
 (aU h).elim (a 4 (by decide)) λh=>(aU h).elim (a 4 (by decide)) λh=>a 5 (by decide) (aH h)
theorem VT (hd:d< 10)(hf:∀i,i< d→(f i).ok)(S:ib k V)(hkg:g≠k)(hs:V[g]? =some (.list (f8 f d))):
  ∃f' o5' o6' σ',sy [a,b,some (.ref k),some (.ref g),some (.int ((d:Int)+1)),o5,o6,o7] V=some (.next,[a,b,some (.ref k),some (.ref g),some (.int ((d:Int)+1)),o5',o6',o7],σ')∧
   (∀i,i< d+1→(f' i).ok)∧ib k σ'∧σ'[g]? =some (.list (f8 f' (d+1)))∧σ'.length=V.length:=by
 refine (HQ (U:=[a,b,some (.ref k),some (.ref g),some (.int ((d:Int)+1)),o5,o6,o7]) (ls:=bD (ae (ah (.int 4)) (ae (ah (.int 4)) (ae (ah (.int 5)) aj)))) (l:=[.int 4, .int 4, .int 5]) rfl (by decide) (by decide) rfl S).elim λkey x1=>x1.elim λσ1 x1=> ?_
 obtain ⟨kk,rfl,hk⟩:=VS x1.2.1
 refine (pT (U:=[a,b,some (.ref k),some (.ref g),some (.int ((d:Int)+1)),o5,o6,o7]) (t:=4) (by decide) (by decide) rfl x1.2.2.2.2).elim λra x2=>x2.elim λσ2 x2=> ?_
 generalize hact:decide (0< ra)=act
 refine (pT (U:=[a,b,some (.ref k),some (.ref g),some (.int ((d:Int)+1)),some (.int kk),some (.bool act),o7]) (t:=4) (by decide) (by decide) rfl x2.2.2.2.2.2).elim λrp x3=>x3.elim λσ3 x3=> ?_
 refine (pT (U:=[a,b,some (.ref k),some (.ref g),some (.int ((d:Int)+1)),some (.int kk),some (.bool act),o7]) (t:=2) (by decide) (by decide) rfl x3.2.2.2.2.2).elim λrs x4=>x4.elim λσ4 x4=> ?_
 have T2:=x1.2.2.trans x2.2.2.2
 have T:=(T2.trans x3.2.2.2).trans x4.2.2.2
 have hs4:σ4[g]? =some (.list (f8 f d)):=(T.2.1 g hkg).trans hs
 refine ⟨upd f d ⟨rp,kk,act,rs == 0⟩,some (.int kk),some (.bool act),_,Gp (xM (fw x1.1 (fw (GD x2.1 rfl (congrArg some hact)) rfl)) (bH rfl)) (eF (Xa rfl ((T2.2.1 g hkg).trans hs) rfl (fw (XH (fw rfl (fw x3.1 (fw rfl (fw rfl (fw (GD x4.1 rfl rfl) rfl))))) TD) rfl) (Ew hs4 (by rw [wB];exact Nat.lt_trans hd (by decide)))) rfl),λi hi=> ?_,?_,(List.getElem?_set_self (lE hs4)).trans (by rw [P6];rfl),List.length_set.trans T.1⟩
 ·by_cases h:i=d
  ·rw [h,ee];exact ⟨⟨x3.2.1,Int.lt_trans x3.2.2.1 (by decide)⟩,hk⟩
  ·rw [ek h];exact hf i (Nat.lt_of_le_of_ne (Nat.le_of_lt_succ hi) h)
 ·exact T.2.2.imp λx z=>z.imp λy z=>(List.getElem?_set_ne hkg).trans z
theorem TF (hkg:g≠k)(r:Nat):∀(d:Nat) (f:Nat→Dr) (V:ar) (o4 o5 o6:Option AV),d+r< 10→(∀i,i< d→(f i).ok)→ib k V→V[g]? =some (.list (f8 f d))→
  ∃f' o4' o5' o6' σ',b9 (bh 4) sy ((List.range' d r).map λ(i:Nat)=>AV.int ((i:Int)+1)) [a,b,some (.ref k),some (.ref g),o4,o5,o6,o7] V=some (.next,[a,b,some (.ref k),some (.ref g),o4',o5',o6',o7],σ')∧
   (∀i,i< d+r→(f' i).ok)∧ib k σ'∧σ'[g]? =some (.list (f8 f' (d+r))):=by
 induction r with
 | zero=>exact λd f V o4 o5 o6 _ hf S hs=>⟨f,o4,o5,o6,V,rfl,hf,S,hs⟩
 | succ r ih=>
  intro d f V o4 o5 o6 hd hf S hs
  refine (VT (dc (Nat.le_add_right d (r+1)) hd) hf S hkg hs (a:=a) (b:=b) (o5:=o5) (o6:=o6) (o7:=o7)).elim λf1 x=>x.elim λp5 x=>x.elim λp6 x=>x.elim λσ1 x=> ?_
  have e:d+1+r=d+(r+1):=Nat.succ_add_eq_add_succ d r
  have z:=ih (d+1) f1 σ1 (some (.int ((d:Int)+1))) p5 p6 (e▸hd) x.2.1 x.2.2.1 x.2.2.2.1
  rw [e] at z
  exact z.imp λf2 z=>z.imp λq4 z=>z.imp λq5 z=>z.imp λq6 z=>z.imp λσ2 z=>⟨eM rfl x.1 z.1,z.2⟩
end
end
section
def Ih (x:Option (AV × ar)):Bool:=(x.bind λp=>rP p.1).getD false
theorem VU:∀{o:Option Bool},o.getD false=true→o=some true
 | some true,_=>rfl
 | some false,h | none,h=>ft h
theorem VV (h:Ih x=true):∃V,x=some (.bool true,V):=aw (VU h) λp e k=>⟨p.2,e.trans (congrArg (λv=>some (v,p.2)) (BC k))⟩
theorem P7:Ih (tZ [] [])=true:=by decide +kernel
theorem M8:mC [] V=some (.bool true,V):=
 (VV P7).elim λτ h=>by
  unfold mC te
  rw [if_pos (show c8 0 []=true from rfl),h];rfl
theorem wg (h:frz V x=some y)(k:l9 V l=some m):l9 V (x::l)=some (y::m):=by simp only [l9,h,k]
theorem GE (hx:frz V x=some (.lst rows))(h:(∃τ,jb [.lst rows, .lst prs, .int m] []=some (.bool true,τ))∧c8 0 [.lst rows, .lst prs]=true):jc [x, .lst prs, .int m] V=some (.bool true,V):=
 h.1.elim λτ h1=>by
  have hp:c8 0 prs=true:=(eH (eH h.2).2).1
  unfold jc tg
  rw [wg hx (wg (show frz V (.lst prs)=some (.lst prs) from if_pos hp) (wg (show frz V (.int m)=some (.int m) from rfl) rfl))]
  dsimp only
  refine (h1)▸ ?_;rfl
theorem GF (h:c8 0 [.lst rows, .lst prs]=true):c8 0 rows=true:=(eH h).1
def sA:aF:=(ai (bx 2 (bB 0 id oY (yA (ae (aa 0) (ae (aa 1) aj))))) (ai (bx 3 (nK aj)) (ai (cP (rL (cH (xP (ah (.int 1))) (cH (kP eI (xP (ah (.int 3))) (kP (bc eu) (xP (ah (.int 2))) (nW 2))) gv))) (bh 4) sy) (ai (bx 7 (n9 (yT (aV bp (aL fq (ae (aa 3) aj)) (ah (.int 2)))) (xP (bD (ae (bl (ae (ah (.int 1)) (ae (ah (.int 2)) aj))) aj))) (tI (bD (ae (bD (ae (bl (ae (ah (.int 1)) (ae (ah (.int 2)) aj))) (ae (bl (ae (ah (.int 3)) (ae (ah (.int 4)) aj))) aj))) (ae (bD (ae (bl (ae (ah (.int 1)) (ae (ah (.int 3)) aj))) (ae (bl (ae (ah (.int 2)) (ae (ah (.int 4)) aj))) aj))) aj)))))) (ai (aQ (gV (fX (bB 0 (λ_=>0) jc (cH (xP (aa 3)) (cH (xP (aa 7)) (cH (kP eI (xP (ah (.int 1))) (nW 2)) gv)))))) (ai (a9 (xP (ah (.bool false)))) aq) aq) aq)))))
section
variable {V σ':ar} {k g:Nat}
theorem TG (h:V[g]? =some (.list rows))(hb:c8 0 rows=true):frz V (.ref g)=some (.lst rows):=by
 unfold frz;dsimp only;exact (h)▸if_pos hb
theorem Ru (h:V[g]? =some (.list rows))(hl:rows.length≤100000):fq [.ref g] V=some (.int rows.length):=az rfl (az (az h (cB rfl rfl)) (cw hl rfl))
theorem Rv (h:as U V=some ([.int a, .int b],σ'))(hc:(-100000< a∧a< 100000)∧(-100000< b∧b< 100000)):rL as U V=some (gQ a (b - a).toNat,true,σ'):=az h (az rfl (az rfl (az rfl (cw hc rfl))))
theorem Rw:gQ 1 n=(List.range' 0 n).map λ(i:Nat)=>AV.int ((i:Int)+1):=by
 exact (List.range_eq_range')▸List.map_congr_left λj _=>congrArg AV.int (Int.add_comm ..)
theorem VW (h:x U V=some (.bool z,σ')):gV (fX x) U V=some (!z,σ'):=by simp only [gV,sW h,Option.map_some]
theorem Rx {U:Lo}(hn:n=2∨n=4)(hf:∀i,i< n→(f i).ok)(hkg:g≠k)(S:ib k V)(hs:V[g]? =some (.list (f8 f n))):
  ∃prs σ5,(n9 (yT (aV bp (aL fq (ae (aa 3) aj)) (ah (.int 2)))) (xP (bD (ae (bl (ae (ah (.int 1)) (ae (ah (.int 2)) aj))) aj))) (tI (bD (ae (bD (ae (bl (ae (ah (.int 1)) (ae (ah (.int 2)) aj))) (ae (bl (ae (ah (.int 3)) (ae (ah (.int 4)) aj))) aj))) (ae (bD (ae (bl (ae (ah (.int 1)) (ae (ah (.int 3)) aj))) (ae (bl (ae (ah (.int 2)) (ae (ah (.int 4)) aj))) aj))) aj))))) [sc,ik,some (.ref k),some (.ref g),q4,q5,q6,o7] V=some (.lst prs,σ5)∧
   ib k σ5∧σ5[g]? =some (.list (f8 f n))∧∀m:Int,1≤m→((∃τ,jb [.lst (f8 f n), .lst prs, .int m] []=some (.bool true,τ))∧c8 0 [.lst (f8 f n), .lst prs]=true):=by
 haveI Yp:aL fq (ae (aa 3) aj) [sc,ik,some (.ref k),some (.ref g),q4,q5,q6,o7] V=some (.int n):=bQ (aA rfl rfl) ((Ru hs (by rw [wB];refine Or.elim hn (λh=> ?_) λh=> ?_ <;> rw [h] <;> decide)).trans (by rw [wB]))
 refine Or.elim hn (λh=> ?_) λh=> ?_
 ·subst h
  exact ⟨[pr 1 2],V,TE (bg (bO Yp rfl rfl)) rfl,S,hs,λm hm=>HO hm hf⟩
 ·subst h
  refine (HQ (U:=[sc,ik,some (.ref k),some (.ref g),q4,q5,q6,o7]) (V:=V) (ls:=(bD (ae (bD (ae (bl (ae (ah (.int 1)) (ae (ah (.int 2)) aj))) (ae (bl (ae (ah (.int 3)) (ae (ah (.int 4)) aj))) aj))) (ae (bD (ae (bl (ae (ah (.int 1)) (ae (ah (.int 3)) aj))) (ae (bl (ae (ah (.int 2)) (ae (ah (.int 4)) aj))) aj))) aj)))) (l:=[.lst [pr 1 2,pr 3 4], .lst [pr 1 3,pr 2 4]]) rfl (by decide) (by decide) rfl S).elim λx q=>q.elim λσ5 q=> ?_
  haveI hs5:=(q.2.2.2.1 g hkg).trans hs
  refine (aU q.2.1).elim (λe=>⟨[pr 1 2,pr 3 4],σ5,EA (bg (bO Yp rfl rfl)) (e▸q.1),q.2.2.2.2,hs5,λm hm=>W8 hm hf⟩) λe=>⟨[pr 1 3,pr 2 4],σ5,EA (bg (bO Yp rfl rfl)) (aH e▸q.1),q.2.2.2.2,hs5,λm hm=>W9 hm hf⟩
theorem Xb:eu 2 r=some (2 * r):=if_pos (.inl (by decide))
theorem XJ:bc eu (.int 2) (.int r)=some (.int (2 * r)):=congrArg (Option.map AV.int) Xb
theorem VX {l:List Int}(hl:l.length≤63)(hi:i< l.length)(hi2:i< 2):∃p2 p3 p4 p5 p6 p7 σ',sA [some (.lst (l.map AV.int)),some (.int (i:Int)),o2,o3,o4,o5,o6,o7] V=some (.next,[some (.lst (l.map AV.int)),some (.int (i:Int)),p2,p3,p4,p5,p6,p7],σ'):=by
 refine (TC (V:=V) hl hi hi2).elim λa e1=>e1.elim λb e1=> ?_
 generalize hsc:some (AV.lst (l.map AV.int))=sc
 generalize hik:some (AV.int (i:Int))=ik
 generalize hσ1:V ++ [.list [.int a, .int b]]=σ1 at e1
 haveI hgl:σ1.length=V.length+1:=hσ1▸List.length_append
 have hkg:σ1.length≠V.length:=hgl▸Nat.succ_ne_self _
 haveI S2:ib V.length (σ1 ++ [.list []]):=⟨a,b,(List.getElem?_append_left (hgl▸Nat.lt_succ_self _)).trans (hσ1▸kl)⟩
 refine (pT (U:=[sc,ik,some (.ref V.length),some (.ref σ1.length),o4,o5,o6,o7]) (t:=2) (by decide) (by decide) rfl S2).elim λr x3=>x3.elim λσ3 x3=> ?_
 have hn:(3+2 * r - 1).toNat=2∨(3+2 * r - 1).toNat=4:=by haveI:=x3.2.1;haveI:=x3.2.2.1;omega
 haveI hr:(-100000< (1:Int)∧(1:Int)< 100000)∧(-100000< 3+2 * r∧3+2 * r< 100000):=by haveI:=x3.2.1;haveI:=x3.2.2.1;omega
 generalize hnn:(3+2 * r - 1).toNat=n at hn
 refine (TF hkg (a:=sc) (b:=ik) (o7:=o7) n 0 (λ_=>⟨0,0,true,true⟩) σ3 o4 o5 o6 (by omega) (λi h=>absurd h (Nat.not_lt_zero _)) x3.2.2.2.2.2 ((x3.2.2.2.2.1 _ hkg).trans kl)).elim λf y=>y.elim λq4 y=>y.elim λq5 y=>y.elim λq6 y=>y.elim λσ4 y=> ?_
 haveI y2:=y.2
 rw [Nat.zero_add] at y2
 refine (Rx (sc:=sc) (ik:=ik) (q4:=q4) (q5:=q5) (q6:=q6) (o7:=o7) (U:=[]) hn y2.1 hkg y2.2.1 y2.2.2).elim λprs w=>w.elim λσ5 w=> ?_
 refine (pT (U:=[sc,ik,some (.ref V.length),some (.ref σ1.length),q4,q5,q6,some (.lst prs)]) (t:=2) (by decide) (by decide) rfl w.2.1).elim λm v=>v.elim λσ6 v=> ?_
 haveI hw:=w.2.2.2 (1+m) (Int.le_add_of_nonneg_right v.2.1)
 haveI hcall:=GE (TG ((v.2.2.2.2.1 _ hkg).trans w.2.2.1) (GF hw.2)) hw
 refine ⟨some (.ref V.length),some (.ref σ1.length),q4,q5,q6,some (.lst prs),σ6,cb (ew (us:=[.lst (l.map AV.int), .int (i:Int)]) (by subst hsc hik;rfl) (Nat.zero_le _) e1) (cb rfl (eV (p:=sy) ((Rv (fw rfl (fw (xW rfl (xW (w:= .int (2 * r)) rfl x3.1 XJ) rfl) rfl)) hr).trans (by rw [hnn,Rw])) y.1 (cb w.1 (d0 (VW (z:=true) (XI (fw rfl (fw rfl (fw (xW rfl v.1 rfl) rfl))) hcall)) rfl))))⟩
theorem TH {l:List Int}(hl:l.length≤63)(r:List Nat):∀(V:ar) (o1 o2 o3 o4 o5 o6 o7:Option AV),(∀i∈r,i< l.length∧i< 2)→∃ℓ' σ',b9 (bh 1) sA (r.map λ(i:Nat)=>AV.int (i:Int)) [some (.lst (l.map AV.int)),o1,o2,o3,o4,o5,o6,o7] V=some (.next,ℓ',σ'):=by
 induction r with
 | nil=>exact λV _ _ _ _ _ _ _ _=>⟨_,V,rfl⟩
 | cons i r ih=>
  intro V o1 o2 o3 o4 o5 o6 o7 h
  haveI hi:=h i bY
  refine (VX (V:=V) hl hi.1 hi.2 (o2:=o2) (o3:=o3) (o4:=o4) (o5:=o5) (o6:=o6) (o7:=o7)).elim λp2 x=>x.elim λp3 x=>x.elim λp4 x=>x.elim λp5 x=>x.elim λp6 x=>x.elim λp7 x=>x.elim λσ1 x=> ?_
  exact (ih σ1 (some (.int (i:Int))) p2 p3 p4 p5 p6 p7 λj hj=>h j (cQ _ hj)).imp λℓ' q=>q.imp λσ' q=>eM rfl x q
end
end
section
section
variable {V:ar}
noncomputable def HR (i:Nat):Dr:=if i=0 then ⟨8,4,true,false⟩ else ⟨3,4,true,false⟩
theorem TJ (h:bS 0 (.lst rows)=true):frz V (.lst rows)=some (.lst rows):=if_pos h
theorem VY:∀i,i< 2→(HR i).ok:=qt ⟨by show (0:Int)≤8∧(8:Int)< 65536;decide,by show (0:Int)≤4∧(4:Int)< 65536;decide⟩ ⟨by show (0:Int)≤3∧(3:Int)< 65536;decide,by show (0:Int)≤4∧(4:Int)< 65536;decide⟩
theorem P8:jc [.lst [bV ⟨1,8,4,true,false⟩,bV ⟨2,3,4,true,false⟩], .lst [pr 1 2], .int 1] V=some (.bool true,V):=
 have h:(∃τ,jb [.lst [bV ⟨1,8,4,true,false⟩,bV ⟨2,3,4,true,false⟩], .lst [pr 1 2], .int 1] []=some (.bool true,τ))∧c8 0 [.lst [bV ⟨1,8,4,true,false⟩,bV ⟨2,3,4,true,false⟩], .lst [pr 1 2]]=true:=HO (f:=HR) (m:=1) (by decide) VY
 GE (TJ (GF h.2)) h
def GG:gA:=(yA (ae (bD (ae (aL ed (ae (ah (.int 1)) (ae (ah (.int 8)) (ae (ah (.int 4)) aj)))) (ae (aL ed (ae (ah (.int 2)) (ae (ah (.int 3)) (ae (ah (.int 4)) aj)))) aj))) (ae (bD (ae (bl (ae (ah (.int 1)) (ae (ah (.int 2)) aj))) aj)) (ae (ah (.int 1)) aj))))
theorem TK:GG U V=some ([.lst [bV ⟨1,8,4,true,false⟩,bV ⟨2,3,4,true,false⟩], .lst [pr 1 2], .int 1],V):=
 yP (aA (Hh (aA (bQ rfl DC) (aA (bQ rfl DC) rfl)) (bH rfl)) (aA rfl (aA rfl rfl)))
theorem P9:(yA aj) U V=some ([],V):=rfl
def sB:eh:=(mv (gV (fX (bB 0 (λ_=>0) jc GG))) (mv (gV (fX (bB 0 (λ_=>0) mC (yA aj)))) (kQ false)))
theorem DD (h:as U V=some (vs,σ'))(hF:F vs σ'=r):bB 0 (λ_=>0) F as U V=r:=by
 unfold bB
 rw [h]
 exact hF
theorem TL (h1:x U V=some (.bool true,V))(h2:y U V=some (.bool true,V)):(mv (gV (fX x)) (mv (gV (fX y)) (kQ false))) U V=some (false,V):=az (cB (sW h1) rfl) (az (cB (sW h2) rfl) rfl)
theorem TM:sB U V=some (false,V):=by
 unfold sB
 exact TL (DD (F:=jc) TK P8) (DD (F:=mC) P9 M8)
def xc:mo:=(jt (aL th (ae (aL fq (ae (aa 0) aj)) (ae (ah (.int 2)) aj))))
theorem Ry {n:Nat}{r:Lo}(hv:fq [v] V=some (.int n)):xc (some v::r) V=some ((List.range (if 2< n then 2 else n)).map λ(i:Nat)=>AV.int (i:Int),true,V):=by
 have hm:(if (2:Int)< (n:Int) then (2:Int) else n)=((if 2< n then 2 else n:Nat):Int):=by split <;> split <;> omega
 have hn:(if 2< n then 2 else n)≤2:=by split <;> omega
 generalize (if 2< n then 2 else n)=k at hm hn
 refine (Dx (bQ (aA (bQ (aA rfl rfl) hv) (aA rfl rfl)) (congrArg (λi=>some (AV.int i)) hm)) (by omega)).trans ?_
 rw [Int.toNat_natCast]
 exact congrArg (λl=>some (l,true,V)) (List.map_congr_left λj _=>congrArg AV.int (Int.zero_add _))
def XL (R:Fn):aF:=(ai (aQ sB (ai (a9 (xP (ah (.bool false)))) aq) aq) (ai (cP xc (bh 1) sA) (ai (a9 (bB 0 (λ_=>0) R (yA aj))) aq)))
end
end
section
variable {prog:Program} {w:World} {g h:Heap} {loose:List Str} {mean:ExcName→Option Value} {mg mb:Str→Option Value}
theorem VZ:tN=aQ sB (ai (a9 (xP (ah (.bool false)))) aq) aq:=rfl
theorem V0:tO=cP xc (bh 1) sA:=rfl
theorem TN {l:List Int}(hl:l.length≤63):∃ℓ' σ',tN [some (.lst (l.map AV.int)),none,none,none,none,none,none,none] []=some (.next,[some (.lst (l.map AV.int)),none,none,none,none,none,none,none],[])∧
  tO [some (.lst (l.map AV.int)),none,none,none,none,none,none,none] []=some (.next,ℓ',σ'):=by
 obtain ⟨ℓ',σ',e2⟩:=TH hl (List.range (if 2< l.length then 2 else l.length)) [] none none none none none none none λi h=>by
  have:=cI h
  split at this <;> omega
 refine ⟨ℓ',σ',by rw [VZ];exact (WV TM).trans rfl,?_⟩
 rw [V0]
 unfold cP
 rw [Ry (Ez hl)]
 exact e2
theorem O0 (hI:IntsAre vs l):VRels G R J h (l.map AV.int) vs:=by
 induction hI with
 | nil=>simp [VRels]
 | cons=>simp only [List.map_cons,VRels];exact ⟨_,_,rfl,by simp [VRel],by assumption⟩
theorem law_fin (X:(H.K w.params).In g)(T:Top topProg loose mean mg mb g)(hm:∃o,g.get? sysModules=some o)(c1:CodeHd g 417 413)(c2:CodeHd g 608 606)(hb:∀x∈bnames,mg x=none)
  (hl:l.length≤63)(hI:IntsAre vs l)(hL:g.IsList a vs.toArray){L fa:Addr}(F:Fr g L h m)(hmm:m "script"=some (.ref a))
  (n1:h.get? 413=some (tabObj #[])∧413≠L∧g.get? 413=none)(n2:h.get? 606=some (tabObj #[])∧606≠L∧g.get? 606=none)(hk:scope.kind= .function)(hn:scope.names=(kz .none "").names)
  (hbd:F7=body)(hs:s.heap=h)(hQ:∀s',(∃h tk,s'= { s with heap:=h,toks:=tk })→g.StaysIn s'.heap→sQ s'.heap→Q (.ret (.bool true)) s'):
  wpAny (model prog w) (callerA.deeper (envOf name scope L fa cd)) (execs body (envOf name scope L fa cd)) Q E s:=by
 subst hs hbd
 obtain ⟨ℓ',σ',e0,e1⟩:=TN hl
 have Z:=XZ (prog:=prog) (X:=X) (T:=T) (hm:=hm) c1 c2 hb
 have hLg:g.get? L=none:=by
  cases q:g.get? L with
  | none=>rfl
  | some o=>exact absurd (Heap.lt_size q) (Nat.not_lt.mpr F.above)
 have haR:a∉ [413,606,L]:=λq=>by
  obtain ⟨o,ho,_⟩:=hL
  simp only [List.mem_cons,List.not_mem_nil,or_false] at q
  rcases q with rfl | rfl | rfl
  ·rw [n1.2.2] at ho;exact au ho
  ·rw [n2.2.2] at ho;exact au ho
  ·rw [hLg] at ho;exact au ho
 have hLl:∃o,s.heap.get? L=some o:=by obtain ⟨o,_,_,e,_⟩:=F.ns;exact ⟨o,e⟩
 have S:SR (gd prog w X T hm) [413,606,L] [] [] s.heap:={
  base:=F.keep
  len:=rfl
  objs:=λk o l e=>by cases e
  nodup:=by simp [own]
  sub:=λa m=>by simp [own] at m
  resv:=λa m=>by
   simp only [List.mem_cons,List.not_mem_nil,or_false] at m
   rcases m with rfl | rfl | rfl
   ·exact n1.2.2
   ·exact n2.2.2
   ·exact hLg
  live:=λa m=>by
   simp only [List.mem_cons,List.not_mem_nil,or_false] at m
   rcases m with rfl | rfl | rfl
   ·exact ⟨_,n1.1⟩
   ·exact ⟨_,n2.1⟩
   ·exact hLl
  tbR:=λa m=>by
   have m:a∈([413,606]:List Addr):=m
   refine ⟨?_,by simp [own]⟩
   simp only [List.mem_cons,List.not_mem_nil,or_false] at m ⊢
   rcases m with rfl | rfl <;> simp
  tabs:=⟨⟨#[],n1.1,trivial,λpos c e=>by cases e⟩,⟨#[],n2.1,trivial,λpos c e=>by cases e⟩⟩
  abv:=by obtain ⟨o,e⟩:=hLl;exact ⟨L,o,e,F.above⟩ }
 have nol:∀x,d8 ((kz cd (name ++".<locals>.")).names.lookup x)≠true:=λx e=>by
  have hx:∀z∈(kz .none "").names,d8 (some z.2)=false:=by decide +kernel
  cases q:(kz cd (name ++".<locals>.")).names.lookup x with
  | none=>rw [q] at e;cases e
  | some k=>
   rw [q,hx (x,k) (mem_of_lookup q)] at e
   cases e
 have cx:Cx (gd prog w X T hm) (kz cd (name ++".<locals>.")) (callerA.deeper (envOf name scope L fa cd)) s (envOf name scope L fa cd) [413,606,L] [] [some (.lst (l.map AV.int)),none,none,none,none,none,none,none] []:=by
  refine ⟨⟨rfl,fG (by kernel_rfl),fG (by kernel_rfl)⟩,S,m,⟨hk,rfl,⟨rfl,rfl,rfl⟩,hn,F,λa q=> ?_,?_,λa q=>(by cases q),λi x v h1 h2 h3=> ?_,λi x v h1 h2 h3=>absurd h3 (nol x),λx h3=>absurd (by show d8 ((kz cd (name ++".<locals>.")).names.lookup x)=true;rw [h3];rfl) (nol x)⟩⟩
  ·have q:a∈ [L]:=q
   rw [aH q]
   refine ⟨by simp,by simp [own],λr=> ?_⟩
   have r:L∈([413,606]:List Addr):=r
   simp only [List.mem_cons,List.not_mem_nil,or_false] at r
   rcases r with r | r
   ·exact n1.2.1 r.symm
   ·exact n2.2.1 r.symm
  ·show [L].Nodup
   simp
  ·match i with
   | 0=>
    cases h1
    cases h2
    refine ⟨_,hmm,?_⟩
    simp only [VRel]
    exact ⟨a,vs,rfl,haR,by obtain ⟨o,ho,r⟩:=hL;exact ⟨o,F.keep _ _ ho,r⟩,O0 hI⟩
   | 1 | 2 | 3 | 4 | 5 | 6 | 7=>cases h2
   | i+8=>cases h2
 refine bN (QS Z (Around.frames_deeper rfl) rfl cx e0 rfl e1) (λf s' e=> ?_) λ_ _ z=>z.elim
 obtain ⟨rfl,h1,h2,h3⟩:=e
 exact hQ s' h1 h2 h3
end
end Mine
end
open PySem PySem.W PySem.Calls PySem.Spec PyProof.Rows PySem.SeqAt
set_option maxRecDepth 100000
set_option maxHeartbeats 8000000
theorem PySem.Challenge.cw_pq1163_01_holds : PySem.Challenge.rw_pq1163_01.Holds := by
  refine Mine.H.hd ?_
  intro w s₀ s₁ mg mb G Y fa o pm cd doc dV kV ho hd hcd hD hmg hg args vals as hpre hlay hrd hwl hlo
  have KX := km_in_of Y
  have hT8 := km_tabs_of Y
  have hT9 : TabsAt [(608, 606), (417, 413)] s₁.heap := List.forall_mem_cons.mpr ⟨⟨codeHd_of_K KX (by kernel_rfl), hT8 606 (by simp)⟩, List.forall_mem_cons.mpr ⟨⟨codeHd_of_K KX (by kernel_rfl), hT8 413 (by simp)⟩, nofun⟩⟩
  refine Ground.open G ?_
  intro T B D TE TW
  clear hmg
  wrow_args hpre hlay hrd hwl hlo
  refine enter_call ?_
  w_top on
  refine kn_post hT9 (fun _ _ => rfl) ?_
  w_call any ho hd hcd hD T F
  clear hd
  kn_ghosts F T
  rename_i l hs hlay0 hLay hr hl2 as1 as2 a vs as3 hL ra w1 r0 hI hr2 hc hc2 h₁ X' T' K' F' cH1 N' l0
  obtain ⟨mm, hm, _⟩ := (T.seer Mine.impN).mods
  obtain ⟨om, _, _, em, _⟩ := ghost_ns hT9 hm
  refine Mine.law_fin X' T' ⟨om, em⟩ codeHd cH1 (Mine.bnone T) (l := l) (by omega) hI lifted F' rfl (N' (413, tabObj #[]) (by simp)) (N' (606, tabObj #[]) (by simp)) rfl (by kernel_rfl) (by kernel_rfl) rfl fun s' sh hst ht => ?_
  obtain ⟨h2, tk, rfl⟩ := sh
  refine ⟨⟨.inl ⟨.bool true, .bool true, [], rfl, fun cls => rfl, .bool true, ?_, fun _ => ⟨List.nodup_nil, fun a m => by cases m⟩⟩, hst, rfl, hg⟩, ?_⟩
  · kernel_rfl
  · obtain ⟨⟨p1, e1, _⟩, ⟨p2, e2, _⟩⟩ := ht
    exact ⟨⟨p2, e2⟩, ⟨p1, e1⟩, trivial⟩
