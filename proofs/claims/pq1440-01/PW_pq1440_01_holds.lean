import PyProof.Rows.All
import Wide.All
import OpenK.AllK
import Wide.FinOn
import KE.KTryDeep
import PySem.Challenge.RW_pq1440_01
open PySem PySem.W PyProof.Rows
set_option Elab.async false
set_option hygiene false
set_option tactic.hygienic false
set_option genInjectivity false
set_option genSizeOfSpec false
set_option compiler.extract_closed false
set_option compiler.reuse false
set_option bootstrap.genMatcherCode false
set_option linter.all false
set_option maxRecDepth 1000000
set_option maxHeartbeats 8000000
namespace Mine
open PySem.Calls PySem.SeqAt
@[elab_as_elim] theorem rwl.{u}{T:Sort u}{P:T→Prop}{a b:T}(e:a=b) (h:P b):P a:=e▸h
@[elab_as_elim] theorem rwr.{u}{T:Sort u}{P:T→Prop}{a b:T}(e:a=b) (h:P a):P b:=e▸h
theorem ft {P:Prop}(h:false=true):P:=nomatch h
theorem tf {P:Prop}(h:true=false):P:=nomatch h
@[elab_as_elim] theorem gen.{u}{T:Sort u}{P:T→Prop}(x:T) (h:∀y,P y):P x:=h x
@[elab_as_elim] theorem genE.{u}{T:Sort u}{P:T→Prop}(x:T) (h:∀y,x=y→P y):P x:=h x rfl
@[elab_as_elim] theorem rwi {P:Prop→Prop}{a b:Prop}(e:a↔b) (h:P b):P a:=propext e▸h
theorem el0_2 {p0 p1:Prop}{C:Prop}(h:p0∧p1)(k:p0→p1→C):C:=by
 rcases h with⟨h0,h1⟩;exact k h0 h1
theorem el0_3 {p0 p1 p2:Prop}{C:Prop}(h:p0∧p1∧p2)(k:p0→p1→p2→C):C:=by
 rcases h with⟨h0,h1,h2⟩;exact k h0 h1 h2
theorem el0_4 {p0 p1 p2 p3:Prop}{C:Prop}(h:p0∧p1∧p2∧p3)(k:p0→p1→p2→p3→C):C:=by
 rcases h with⟨h0,h1,h2,h3⟩;exact k h0 h1 h2 h3
theorem el0_5 {p0 p1 p2 p3 p4:Prop}{C:Prop}(h:p0∧p1∧p2∧p3∧p4)(k:p0→p1→p2→p3→p4→C):C:=by
 rcases h with⟨h0,h1,h2,h3,h4⟩;exact k h0 h1 h2 h3 h4
theorem el0_6 {p0 p1 p2 p3 p4 p5:Prop}{C:Prop}(h:p0∧p1∧p2∧p3∧p4∧p5)(k:p0→p1→p2→p3→p4→p5→C):C:=by
 rcases h with⟨h0,h1,h2,h3,h4,h5⟩;exact k h0 h1 h2 h3 h4 h5
theorem el1_1 {α:Type}{p0:α→Prop}{C:Prop}(h:∃x0,p0 x0)(k:∀x0,p0 x0→C):C:=by
 rcases h with⟨x0,h0⟩;exact k x0 h0
theorem el1_2 {α:Type}{p0 p1:α→Prop}{C:Prop}(h:∃x0,p0 x0∧p1 x0)(k:∀x0,p0 x0→p1 x0→C):C:=by
 rcases h with⟨x0,h0,h1⟩;exact k x0 h0 h1
theorem el1_3 {α:Type}{p0 p1 p2:α→Prop}{C:Prop}(h:∃x0,p0 x0∧p1 x0∧p2 x0)(k:∀x0,p0 x0→p1 x0→p2 x0→C):C:=by
 rcases h with⟨x0,h0,h1,h2⟩;exact k x0 h0 h1 h2
theorem el2_1 {α:Type}{β:Type}{p0:α→β→Prop}{C:Prop}(h:∃x0,∃x1,p0 x0 x1)(k:∀x0,∀x1,p0 x0 x1→C):C:=by
 rcases h with⟨x0,x1,h0⟩;exact k x0 x1 h0
theorem el2_2 {α:Type}{β:Type}{p0 p1:α→β→Prop}{C:Prop}(h:∃x0,∃x1,p0 x0 x1∧p1 x0 x1)(k:∀x0,∀x1,p0 x0 x1→p1 x0 x1→C):C:=by
 rcases h with⟨x0,x1,h0,h1⟩;exact k x0 x1 h0 h1
theorem el2_3 {α:Type}{β:Type}{p0 p1 p2:α→β→Prop}{C:Prop}(h:∃x0,∃x1,p0 x0 x1∧p1 x0 x1∧p2 x0 x1)(k:∀x0,∀x1,p0 x0 x1→p1 x0 x1→p2 x0 x1→C):C:=by
 rcases h with⟨x0,x1,h0,h1,h2⟩;exact k x0 x1 h0 h1 h2
theorem el2_4 {α:Type}{β:Type}{p0 p1 p2 p3:α→β→Prop}{C:Prop}(h:∃x0,∃x1,p0 x0 x1∧p1 x0 x1∧p2 x0 x1∧p3 x0 x1)(k:∀x0,∀x1,p0 x0 x1→p1 x0 x1→p2 x0 x1→p3 x0 x1→C):C:=by
 rcases h with⟨x0,x1,h0,h1,h2,h3⟩;exact k x0 x1 h0 h1 h2 h3
theorem el3_1 {α:Type}{β:Type}{γ:Type}{p0:α→β→γ→Prop}{C:Prop}(h:∃x0,∃x1,∃x2,p0 x0 x1 x2)(k:∀x0,∀x1,∀x2,p0 x0 x1 x2→C):C:=by
 rcases h with⟨x0,x1,x2,h0⟩;exact k x0 x1 x2 h0
theorem el3_2 {α:Type}{β:Type}{γ:Type}{p0 p1:α→β→γ→Prop}{C:Prop}(h:∃x0,∃x1,∃x2,p0 x0 x1 x2∧p1 x0 x1 x2)(k:∀x0,∀x1,∀x2,p0 x0 x1 x2→p1 x0 x1 x2→C):C:=by
 rcases h with⟨x0,x1,x2,h0,h1⟩;exact k x0 x1 x2 h0 h1
theorem el3_3 {α:Type}{β:Type}{γ:Type}{p0 p1 p2:α→β→γ→Prop}{C:Prop}(h:∃x0,∃x1,∃x2,p0 x0 x1 x2∧p1 x0 x1 x2∧p2 x0 x1 x2)(k:∀x0,∀x1,∀x2,p0 x0 x1 x2→p1 x0 x1 x2→p2 x0 x1 x2→C):C:=by
 rcases h with⟨x0,x1,x2,h0,h1,h2⟩;exact k x0 x1 x2 h0 h1 h2
theorem el3_4 {α:Type}{β:Type}{γ:Type}{p0 p1 p2 p3:α→β→γ→Prop}{C:Prop}(h:∃x0,∃x1,∃x2,p0 x0 x1 x2∧p1 x0 x1 x2∧p2 x0 x1 x2∧p3 x0 x1 x2)(k:∀x0,∀x1,∀x2,p0 x0 x1 x2→p1 x0 x1 x2→p2 x0 x1 x2→p3 x0 x1 x2→C):C:=by
 rcases h with⟨x0,x1,x2,h0,h1,h2,h3⟩;exact k x0 x1 x2 h0 h1 h2 h3
theorem el3_5 {α:Type}{β:Type}{γ:Type}{p0 p1 p2 p3 p4:α→β→γ→Prop}{C:Prop}(h:∃x0,∃x1,∃x2,p0 x0 x1 x2∧p1 x0 x1 x2∧p2 x0 x1 x2∧p3 x0 x1 x2∧p4 x0 x1 x2)(k:∀x0,∀x1,∀x2,p0 x0 x1 x2→p1 x0 x1 x2→p2 x0 x1 x2→p3 x0 x1 x2→p4 x0 x1 x2→C):C:=by
 rcases h with⟨x0,x1,x2,h0,h1,h2,h3,h4⟩;exact k x0 x1 x2 h0 h1 h2 h3 h4
theorem el3_6 {α:Type}{β:Type}{γ:Type}{p0 p1 p2 p3 p4 p5:α→β→γ→Prop}{C:Prop}(h:∃x0,∃x1,∃x2,p0 x0 x1 x2∧p1 x0 x1 x2∧p2 x0 x1 x2∧p3 x0 x1 x2∧p4 x0 x1 x2∧p5 x0 x1 x2)(k:∀x0,∀x1,∀x2,p0 x0 x1 x2→p1 x0 x1 x2→p2 x0 x1 x2→p3 x0 x1 x2→p4 x0 x1 x2→p5 x0 x1 x2→C):C:=by
 rcases h with⟨x0,x1,x2,h0,h1,h2,h3,h4,h5⟩;exact k x0 x1 x2 h0 h1 h2 h3 h4 h5
theorem el4_2 {α:Type}{β:Type}{γ:Type}{δ:Type}{p0 p1:α→β→γ→δ→Prop}{C:Prop}(h:∃x0,∃x1,∃x2,∃x3,p0 x0 x1 x2 x3∧p1 x0 x1 x2 x3)(k:∀x0,∀x1,∀x2,∀x3,p0 x0 x1 x2 x3→p1 x0 x1 x2 x3→C):C:=by
 rcases h with⟨x0,x1,x2,x3,h0,h1⟩;exact k x0 x1 x2 x3 h0 h1
theorem el4_4 {α:Type}{β:Type}{γ:Type}{δ:Type}{p0 p1 p2 p3:α→β→γ→δ→Prop}{C:Prop}(h:∃x0,∃x1,∃x2,∃x3,p0 x0 x1 x2 x3∧p1 x0 x1 x2 x3∧p2 x0 x1 x2 x3∧p3 x0 x1 x2 x3)(k:∀x0,∀x1,∀x2,∀x3,p0 x0 x1 x2 x3→p1 x0 x1 x2 x3→p2 x0 x1 x2 x3→p3 x0 x1 x2 x3→C):C:=by
 rcases h with⟨x0,x1,x2,x3,h0,h1,h2,h3⟩;exact k x0 x1 x2 x3 h0 h1 h2 h3
theorem el4_5 {α:Type}{β:Type}{γ:Type}{δ:Type}{p0 p1 p2 p3 p4:α→β→γ→δ→Prop}{C:Prop}(h:∃x0,∃x1,∃x2,∃x3,p0 x0 x1 x2 x3∧p1 x0 x1 x2 x3∧p2 x0 x1 x2 x3∧p3 x0 x1 x2 x3∧p4 x0 x1 x2 x3)(k:∀x0,∀x1,∀x2,∀x3,p0 x0 x1 x2 x3→p1 x0 x1 x2 x3→p2 x0 x1 x2 x3→p3 x0 x1 x2 x3→p4 x0 x1 x2 x3→C):C:=by
 rcases h with⟨x0,x1,x2,x3,h0,h1,h2,h3,h4⟩;exact k x0 x1 x2 x3 h0 h1 h2 h3 h4
theorem el4_6 {α:Type}{β:Type}{γ:Type}{δ:Type}{p0 p1 p2 p3 p4 p5:α→β→γ→δ→Prop}{C:Prop}(h:∃x0,∃x1,∃x2,∃x3,p0 x0 x1 x2 x3∧p1 x0 x1 x2 x3∧p2 x0 x1 x2 x3∧p3 x0 x1 x2 x3∧p4 x0 x1 x2 x3∧p5 x0 x1 x2 x3)(k:∀x0,∀x1,∀x2,∀x3,p0 x0 x1 x2 x3→p1 x0 x1 x2 x3→p2 x0 x1 x2 x3→p3 x0 x1 x2 x3→p4 x0 x1 x2 x3→p5 x0 x1 x2 x3→C):C:=by
 rcases h with⟨x0,x1,x2,x3,h0,h1,h2,h3,h4,h5⟩;exact k x0 x1 x2 x3 h0 h1 h2 h3 h4 h5
theorem el4_7 {α:Type}{β:Type}{γ:Type}{δ:Type}{p0 p1 p2 p3 p4 p5 p6:α→β→γ→δ→Prop}{C:Prop}(h:∃x0,∃x1,∃x2,∃x3,p0 x0 x1 x2 x3∧p1 x0 x1 x2 x3∧p2 x0 x1 x2 x3∧p3 x0 x1 x2 x3∧p4 x0 x1 x2 x3∧p5 x0 x1 x2 x3∧p6 x0 x1 x2 x3)(k:∀x0,∀x1,∀x2,∀x3,p0 x0 x1 x2 x3→p1 x0 x1 x2 x3→p2 x0 x1 x2 x3→p3 x0 x1 x2 x3→p4 x0 x1 x2 x3→p5 x0 x1 x2 x3→p6 x0 x1 x2 x3→C):C:=by
 rcases h with⟨x0,x1,x2,x3,h0,h1,h2,h3,h4,h5,h6⟩;exact k x0 x1 x2 x3 h0 h1 h2 h3 h4 h5 h6
theorem el5_1 {α:Type}{β:Type}{γ:Type}{δ:Type}{ε:Type}{p0:α→β→γ→δ→ε→Prop}{C:Prop}(h:∃x0,∃x1,∃x2,∃x3,∃x4,p0 x0 x1 x2 x3 x4)(k:∀x0,∀x1,∀x2,∀x3,∀x4,p0 x0 x1 x2 x3 x4→C):C:=by
 rcases h with⟨x0,x1,x2,x3,x4,h0⟩;exact k x0 x1 x2 x3 x4 h0
theorem el5_5 {α:Type}{β:Type}{γ:Type}{δ:Type}{ε:Type}{p0 p1 p2 p3 p4:α→β→γ→δ→ε→Prop}{C:Prop}(h:∃x0,∃x1,∃x2,∃x3,∃x4,p0 x0 x1 x2 x3 x4∧p1 x0 x1 x2 x3 x4∧p2 x0 x1 x2 x3 x4∧p3 x0 x1 x2 x3 x4∧p4 x0 x1 x2 x3 x4)(k:∀x0,∀x1,∀x2,∀x3,∀x4,p0 x0 x1 x2 x3 x4→p1 x0 x1 x2 x3 x4→p2 x0 x1 x2 x3 x4→p3 x0 x1 x2 x3 x4→p4 x0 x1 x2 x3 x4→C):C:=by
 rcases h with⟨x0,x1,x2,x3,x4,h0,h1,h2,h3,h4⟩;exact k x0 x1 x2 x3 x4 h0 h1 h2 h3 h4
theorem el5_6 {α:Type}{β:Type}{γ:Type}{δ:Type}{ε:Type}{p0 p1 p2 p3 p4 p5:α→β→γ→δ→ε→Prop}{C:Prop}(h:∃x0,∃x1,∃x2,∃x3,∃x4,p0 x0 x1 x2 x3 x4∧p1 x0 x1 x2 x3 x4∧p2 x0 x1 x2 x3 x4∧p3 x0 x1 x2 x3 x4∧p4 x0 x1 x2 x3 x4∧p5 x0 x1 x2 x3 x4)(k:∀x0,∀x1,∀x2,∀x3,∀x4,p0 x0 x1 x2 x3 x4→p1 x0 x1 x2 x3 x4→p2 x0 x1 x2 x3 x4→p3 x0 x1 x2 x3 x4→p4 x0 x1 x2 x3 x4→p5 x0 x1 x2 x3 x4→C):C:=by
 rcases h with⟨x0,x1,x2,x3,x4,h0,h1,h2,h3,h4,h5⟩;exact k x0 x1 x2 x3 x4 h0 h1 h2 h3 h4 h5
theorem el6_7 {α:Type}{β:Type}{γ:Type}{δ:Type}{ε:Type}{ζ:Type}{p0 p1 p2 p3 p4 p5 p6:α→β→γ→δ→ε→ζ→Prop}{C:Prop}(h:∃x0,∃x1,∃x2,∃x3,∃x4,∃x5,p0 x0 x1 x2 x3 x4 x5∧p1 x0 x1 x2 x3 x4 x5∧p2 x0 x1 x2 x3 x4 x5∧p3 x0 x1 x2 x3 x4 x5∧p4 x0 x1 x2 x3 x4 x5∧p5 x0 x1 x2 x3 x4 x5∧p6 x0 x1 x2 x3 x4 x5)(k:∀x0,∀x1,∀x2,∀x3,∀x4,∀x5,p0 x0 x1 x2 x3 x4 x5→p1 x0 x1 x2 x3 x4 x5→p2 x0 x1 x2 x3 x4 x5→p3 x0 x1 x2 x3 x4 x5→p4 x0 x1 x2 x3 x4 x5→p5 x0 x1 x2 x3 x4 x5→p6 x0 x1 x2 x3 x4 x5→C):C:=by
 rcases h with⟨x0,x1,x2,x3,x4,x5,h0,h1,h2,h3,h4,h5,h6⟩;exact k x0 x1 x2 x3 x4 x5 h0 h1 h2 h3 h4 h5 h6
def qL:= @Fast.te16421684217811934046
def xY:= @Fast.te12652042256554560961
def qM:= @Array.getElem?_eq_some_iff
def lL:= @List.drop_eq_getElem_cons
def cp:= @List.getElem?_eq_some_iff
def r8:= @Option.isSome_iff_exists
def bL:= @List.getElem?_eq_getElem
def uY:= @List.length_filterMap_le
def r9:= @List.pairwise_singleton
def qN:= @Option.bind_eq_some_iff
def dy:= @Heap.get?_push_of_some
def uZ:= @List.take_of_length_le
def eJ:= @Option.map_eq_some_iff
def j4:= @Heap.get?_update_other
def n_:= @List.take_append_drop
def j5:= @Nat.le_of_ble_eq_true
def u_:= @List.length_replicate
def vb:= @List.filterMap_eq_map
def r_:= @Array.getElem?_toList
def qO:= @List.filterMap_append
def og:= @List.length_filter_le
def jy:= @List.mem_append_right
def qP:= @List.getElem?_eq_none
def kE:= @Heap.get?_update_self
def gN:= @List.mem_iff_getElem?
def sg:= @Nat.sub_succ_lt_self
def bw:= @List.mem_cons_of_mem
def jz:= @Heap.get?_none_of_le
def mC:= @Bool.and_eq_true_iff
def sj:= @Array.mem_toList_iff
def cS:= @List.mem_of_getElem?
def gO:= @List.mem_append_left
def sk:= @List.flatten_append
def vd:= @List.length_pos_iff
def gz:= @List.filterMap_cons
def cB:= @List.mem_map_of_mem
def jA:= @Heap.get?_push_size
def sm:= @List.map_congr_left
def jB:= @beq_eq_false_iff_ne
def qQ:= @of_decide_eq_false
def dm:= @List.mem_singleton
def jC:= @Bool.false_eq_true
def pB:= @Int.natCast_nonneg
def j6:= @List.length_append
def sq:= @Nat.lt_of_lt_of_le
def qR:= @List.filter_append
def i4:= @List.mem_filterMap
def bA:= @List.mem_cons_self
def dI:= @List.getElem?_map
def mD:= @of_decide_eq_true
def kG:= @List.length_range
def eY:= @List.take_add_one
def qS:= @wpAny_Call_ofName
def pC:= @wpAny_execs_cons
def kJ:= @List.lookup_cons
def eZ:= @List.length_take
def hO:= @List.getElem_mem
def qT:= @List.getElem_map
def ew:= @List.all_eq_true
def f9:= @List.not_mem_nil
def fM:= @List.take_length
def sr:= @List.cons_append
def fN:= @Bool.and_eq_true
def ay:= @List.length_map
def lM:= @List.range_succ
def fz:= @List.nodup_cons
def jD:= @List.cons.injEq
def i5:= @decide_eq_false
def df:= @List.map_append
def oh:= @List.foldl_cons
def qU:= @wpAny_execs_nil
def cq:= @List.mem_append
def jE:= @List.mem_filter
def j7:= @Option.some.inj
def i6:= @decide_eq_true
def kK:= @List.nodup_nil
def jF:= @Heap.size_push
def iD:= @List.mem_range
def j8:= @wpAny_standAt
def kL:= @Prod.mk.injEq
def gA:= @wpAny_holding
def aY:= @List.mem_cons
def bx:= @List.map_cons
def kM:= @List.map_map
def kN:= @Nat.ne_of_gt
def oj:= @Nat.ne_of_lt
def f_:= @Heap.lt_size
def dO:= @Nat.le_trans
def cF:= @List.mem_map
def mE:= @hideAll_get
def jG:= @Prod.mk.inj
def dp:= @Nat.le_refl
def j9:= @Nat.zero_le
def bY:= @wpAny_pure
def j_:= @wpAny_mono
def i7:= @Nat.mod_lt
def aP:= @wpAny_bind
def c6:= @look_both
def dD:= @congrFun
def gf:= @congrArg
def gB:= @or_false
def ck:= @if_pos
def bK:= @if_neg
local macro_rules
 | `(tactic| obtain ⟨$ps,*⟩ := $e) => do
  let mut bs : Array Lean.Ident := #[]
  let mut po : Array (Lean.TSyntax `tactic) := #[]
  let nm := e.raw.getId.toString
  let base := if nm.startsWith "zq" then nm else "zq"
  for p in ps.getElems do
   let q := p.raw[0][0][0]
   if q.isOfKind `Lean.Parser.Tactic.rcasesPat.one && q[0].getId != `rfl && p.raw[0][0].getNumArgs == 1 then bs := bs.push ⟨q[0]⟩
   else
    let x := Lean.mkIdent (.mkSimple (base ++ toString bs.size))
    bs := bs.push x
    unless q.isOfKind `Lean.Parser.Tactic.rcasesPat.ignore do po := po.push (← `(tactic| obtain $(⟨p.raw[0]⟩):rcasesPatMed := $x))
  let mut alts : Array (Lean.TSyntax ``Lean.Parser.Tactic.tacticSeq) := #[]
  for v in [0:bs.size] do
   alts := alts.push (← `(tacticSeq| refine $(Lean.mkIdent (.mkSimple s!"el{v}_{bs.size - v}")) $e ?_; (try clear $(if e.raw.isIdent then ⟨e.raw⟩ else Lean.mkIdent `zq)); intro $[$bs:ident]*; $[$po];*))
  `(tactic| first $[| $alts]* | rcases $e:term with ⟨$ps,*⟩)
 | `(tactic| obtain ⟨$ps,*⟩ : $t := $e) => `(tactic| obtain ⟨$ps,*⟩ := ($e : $t))
 | `(tactic| rw [$rs,*]) => do
  let mut out : Array (Lean.TSyntax `tactic) := #[]
  for r in rs.getElems do
   let t : Lean.TSyntax `term := ⟨r.raw[1]⟩
   if (t.raw.find? (·.isOfKind `Lean.Parser.Term.syntheticHole)).isSome then Lean.Macro.throwUnsupported
   let f := Lean.mkIdent (if r.raw[0].getNumArgs > 0 then `rwr else `rwl)
   out := out.push (← `(tactic| first | refine $f ($t ..) ?_ | rewrite [$r]))
  `(tactic| ($[$out];*; try (with_reducible rfl)))
 | `(tactic| show $t) => `(tactic| refine (?_ : $t))
 | `(tactic| rw [$rs,*] at $h:ident) => `(tactic| (rewrite [$rs,*] at $h:ident; replace $h := $h; try (with_reducible rfl)))
 | `(tactic| lia) => do
  let f := Lean.Syntax.mkCApp
  let a ← `(by assumption)
  let d ← `(by decide)
  let m ← `(Nat.min_le_right _ _)
  let u := f `Nat.le_trans #[a, d]
  let v := f `Nat.lt_of_lt_of_le #[a, d]
  let w := f `Nat.lt_of_lt_of_le #[a, a]
  let e := fun x => f `Nat.lt_of_lt_of_eq #[a, x]
  let l := fun x => f `Nat.le_of_lt #[x]
  let t := #[l a, f `Nat.le_trans #[m, a], u, f `Nat.le_trans #[m, u], v, l v, w, l w, e a, e (f `Eq.symm #[a]), f `Nat.sub_succ_lt_self #[← `(_), ← `(_), a]]
  `(tactic| first | assumption $[| exact $t]* | lia (config := {}))
 | `(tactic| cases $x:ident) => do
  let i (n) := #[`za, `zb, `zc, `zd].extract 0 n |>.map Lean.mkIdent
  let f (n) := `(tacticSeq| injection $x:ident with $[$(i n):ident]*; $[cases $(i n):ident];*)
  `(tactic| first | subst $x:ident | (injection $x:ident; done) $[| $(#[← f 4, ← f 3, ← f 2, ← f 1])]* | cases ($x))
 | `(tactic| rfl') => `(tactic| kernel_rfl)
noncomputable abbrev gC:PySem.Value:=.str "law_pq1440_01" 3002
noncomputable abbrev mF:PySem.Value:=.str "vectorcove.errors" 194
noncomputable abbrev NO:PySem.Value:=.str "vectorcove.rational" 349
noncomputable abbrev Dl:PySem.Value:=.str "vectorcove.numtext" 456
noncomputable abbrev cG:PySem.Value:=.str "vectorcove.values" 651
noncomputable abbrev gP:PySem.Value:=.str "vectorcove.attrs" 1074
noncomputable abbrev mG:PySem.Value:=.str "vectorcove.coerce" 1151
noncomputable abbrev sy:PySem.Value:=.str "vectorcove.attrcalls" 1312
noncomputable abbrev eQ:PySem.Value:=.str "vectorcove.callargs" 1330
noncomputable abbrev fA:PySem.Value:=.str "vectorcove.sorting" 1477
noncomputable abbrev kO:PySem.Value:=.str "vectorcove.index" 1581
noncomputable abbrev lN:PySem.Value:=.str "vectorcove.subset" 1722
noncomputable abbrev de:PySem.Value:=.str "vectorcove.factors" 1919
noncomputable abbrev ve:PySem.Value:=.str "vectorcove.frames" 2105
noncomputable abbrev NP:PySem.Value:=.str "vectorcove.subassign" 2288
noncomputable abbrev gg:PySem.Value:=.str "vectorcove.groupcalls" 2385
noncomputable abbrev NQ:PySem.Value:=.str "vectorcove.funcall" 2516
noncomputable abbrev jH:PySem.Value:=.str "vectorcove.evaluator" 2603
noncomputable abbrev Dm:PySem.Value:=.str "vectorcove.dispatch" 1468
noncomputable abbrev Dn:PySem.Value:=.str "vectorcove.indexcalls" 2274
noncomputable abbrev VP:=PySem.Value→PySem.Shared→Prop
structure PS where
 D:List (Nat×Obj)
 n:Nat
 gens:Array GenState
 drawn:Drawn
 toks:Nat
 os:OsState
noncomputable def lk:List (Nat×Obj)→Nat→Option Obj
 | [],_=>none
 |p::l,a=>match Nat.beq p.1 a with
  |true=>some p.2
  |false=>lk l a
theorem sA (p:Nat×Obj)(l:List (Nat×Obj))(a:Nat):lk (p::l) a=if p.1=a then some p.2 else lk l a:=by
 show(match Nat.beq p.1 a with|true=>some p.2|false=>lk l a)=_
 rw[BT.beq_eq]
 by_cases h:p.1=a<;>simp[h]
structure Ag (s:Shared)(q:PS):Prop where
 n:s.heap.objs.size=q.n
 gens:s.gens=q.gens
 drawn:s.drawn=q.drawn
 toks:s.toks=q.toks
 os:s.os=q.os
 D:∀a o,lk q.D a=some o→s.heap.get? a=some o
noncomputable def mH (st:Shared→Thread→Step):PS→Thread→Option (PS×Thread)
 |⟨D,n,gens,drawn,toks,os⟩,⟨cur,code,pos,stack⟩=>match cur with
  |.load a _ k=>match lk D a with
   |some o=>some (⟨D,n,gens,drawn,toks,os⟩,⟨k o,code,pos,stack⟩)
   |none=>none
  |.update a _ f k=>match lk D a with
   |some o=>match(f o).isFreed with
    |false=>some (⟨(a,f o)::D,n,gens,drawn,toks,os⟩,⟨k (),code,pos,stack⟩)
    |true=>none
   |none=>none
  |.alloc o k=>match o.isFreed with
   |false=>some (⟨(n,o)::D,n+1,gens,drawn,toks,os⟩,⟨k n,code,pos,stack⟩)
   |true=>none
  |.loadIfAlive a k=>match lk D a with
   |some o=>some (⟨D,n,gens,drawn,toks,os⟩,⟨k (some o),code,pos,stack⟩)
   |none=>none
  |c=>match st ⟨{},gens,drawn,toks,os⟩ ⟨c,code,pos,stack⟩with
   |.go s' t'=>some (⟨D,n,s'.gens,s'.drawn,s'.toks,s'.os⟩,t')
   |.halt _ _=>none
noncomputable def Still (s s':Shared)(q:PS):Prop:=∀b o,b<q.n→lk q.D b=none→s.heap.get? b=some o→s'.heap.get? b=some o
structure iE (s s':Shared)(q q':PS):Prop where
 ag:Ag s' q'
 le:q.n≤q'.n
 out:∀b,b<q.n→lk q.D b=none→lk q'.D b=none
 xZ:Still s s' q
section
variable{den:Code→Sem Fin}{p:Program}{w:World}
theorem iE.refl {s:Shared}{q:PS}(h:Ag s q):iE s s q q:=⟨h,dp _,λ_ _ e=>e,λ_ _ _ _ e=>e⟩
theorem iE.trans {s s' Dp:Shared}{q q' Dq:PS}(a:iE s s' q q')(b:iE s' Dp q' Dq):iE s Dp q Dq:=
 ⟨b.ag,dO a.le b.le,λx hx e=>b.out x (sq hx a.le) (a.out x hx e),
  λx o hx e g=>b.xZ x o (sq hx a.le) (a.out x hx e) (a.xZ x o hx e g)⟩
theorem Dr {p:Nat×Obj}{l:List (Nat×Obj)}{b:Nat}(h:p.1≠b):lk (p::l) b=lk l b:=by rw[sA,bK h]
theorem NR {D:List (Nat×Obj)}{n:Nat}{gens:Array GenState}{drawn:Drawn}{toks:Nat}{os:OsState}{cur:Sem Fin}{code:Code}{pos:Pos}{stack:List PySem.Frame}{q':PS}{t':Thread}{s:Shared}
  (A:Ag s ⟨D,n,gens,drawn,toks,os⟩)
  (h1:∀a q k,cur≠.load a q k)(h2:∀a q f k,cur≠.update a q f k)(h3:∀o k,cur≠.alloc o k)(h4:∀a k,cur≠.loadIfAlive a k)
  (h:(match step den p w ⟨{},gens,drawn,toks,os⟩ ⟨cur,code,pos,stack⟩with
   |.go s' t'=>some ((⟨D,n,s'.gens,s'.drawn,s'.toks,s'.os⟩:PS),t')
   |.halt _ _=>none)=some (q',t')):
  ∃s',step den p w s ⟨cur,code,pos,stack⟩=.go s' t'∧iE s s' ⟨D,n,gens,drawn,toks,os⟩ q':=by
 obtain⟨heap,g,d,tk,o⟩:=s
 obtain⟨a1,a2,a3,a4,a5,a6⟩:=A
 dsimp only at a1 a2 a3 a4 a5 a6
 subst a2 a3 a4 a5
 cases e:step den p w ⟨{},g,d,tk,o⟩ ⟨cur,code,pos,stack⟩with
 |halt o s=>rw[e]at h;cases h
 |go bH t₀=>
  rw[e]at h
  cases h
  exact⟨_,step_heap h1 h2 h3 h4 e,⟨⟨a1,rfl,rfl,rfl,rfl,a6⟩,dp _,λ_ _ e=>e,λ_ _ _ _ e=>e⟩⟩
theorem Ds {s:Shared}{q q':PS}{t t':Thread}(A:Ag s q)(h:mH (step den p w) q t=some (q',t')):
  ∃s',step den p w s t=.go s' t'∧iE s s' q q':=by
 obtain⟨D,n,gens,drawn,toks,os⟩:=q
 obtain⟨cur,code,pos,stack⟩:=t
 cases cur with
 |load a part k=>
  obtain⟨heap,g,d,tk,o⟩:=s
  delta mH at h;dsimp only at h
  cases e:lk D a with
  |none=>rw[e]at h;cases h
  |some x=>
   rw[e]at h
   obtain⟨rfl,rfl⟩:=jG (j7 h)
   have:=A.D a x e
   refine⟨_,?_,iE.refl A⟩
   show step den p w ⟨heap,g,d,tk,o⟩ ⟨.load a part k,code,pos,stack⟩=_
   simp only[step]
   dsimp only at this
   rw[this]
 |update a part f k=>
  obtain⟨heap,g,d,tk,o⟩:=s
  delta mH at h;dsimp only at h
  cases e:lk D a with
  |none=>rw[e]at h;cases h
  |some x=>
   rw[e]at h
   dsimp only at h
   cases e2:(f x).isFreed with
   |true=>rw[e2]at h;cases h
   |false=>
    rw[e2]at h
    obtain⟨rfl,rfl⟩:=jG (j7 h)
    have g0:=A.D a x e
    dsimp only at g0
    refine⟨⟨heap.update a f,g,d,tk,o⟩,?_,⟨⟨?_,A.gens,A.drawn,A.toks,A.os,λb y hb=>?_⟩,dp _,λb hb hn=>?_,λb y hb hn hy=>?_⟩⟩
    show step den p w ⟨heap,g,d,tk,o⟩ ⟨.update a part f k,code,pos,stack⟩=_
    simp only[step]
    rw[g0]
    rfl
    have:=A.n;dsimp only at this ⊢
    rw[←this]
    exact(Heap.SameBut.update ..).1
    rw[sA]at hb
    by_cases lO:a=b
    subst lO
    rw[ck rfl]at hb
    cases hb
    exact kE f g0 e2
    rw[bK lO]at hb
    exact(Heap.get?_update_ne _ _ _ _ (Ne.symm lO)).trans (A.D b y hb)
    have lO:a≠b:=λq=>by subst q;dsimp only at hn;rw[e]at hn;cases hn
    show lk ((a,f x)::D) b=none
    rw[Dr lO];exact hn
    have lO:a≠b:=λq=>by subst q;dsimp only at hn;rw[e]at hn;cases hn
    exact(Heap.get?_update_ne _ _ _ _ (Ne.symm lO)).trans hy
 |alloc x k=>
  obtain⟨heap,g,d,tk,o⟩:=s
  delta mH at h;dsimp only at h
  cases e2:x.isFreed with
  |true=>rw[e2]at h;cases h
  |false=>
   rw[e2]at h
   obtain⟨rfl,rfl⟩:=jG (j7 h)
   have hn:=A.n
   dsimp only at hn
   refine⟨⟨heap.push x,g,d,tk,o⟩,?_,⟨⟨?_,A.gens,A.drawn,A.toks,A.os,λb y hb=>?_⟩,Nat.le_succ _,λb hb pD=>?_,λb y hb pD hy=>?_⟩⟩
   show step den p w ⟨heap,g,d,tk,o⟩ ⟨.alloc x k,code,pos,stack⟩=_
   simp only[step,hn]
   show(heap.push x).objs.size=n+1
   rw[jF,hn]
   rw[sA]at hb
   by_cases lO:n=b
   subst lO
   rw[ck rfl]at hb
   cases hb
   rw[←hn]
   exact jA _ e2
   rw[bK lO]at hb
   exact dy _ (A.D b y hb)
   show lk ((n,x)::D) b=none
   rw[Dr (by dsimp only at hb ⊢;lia)];exact pD
   exact dy _ hy
 |loadIfAlive a k=>
  obtain⟨heap,g,d,tk,o⟩:=s
  delta mH at h;dsimp only at h
  cases e:lk D a with
  |none=>rw[e]at h;cases h
  |some x=>
   rw[e]at h
   obtain⟨rfl,rfl⟩:=jG (j7 h)
   have:=A.D a x e
   refine⟨_,?_,iE.refl A⟩
   show step den p w ⟨heap,g,d,tk,o⟩ ⟨.loadIfAlive a k,code,pos,stack⟩=_
   simp only[step]
   dsimp only at this
   rw[this]
 |_=>exact NR A (by intros;intro e;cases e) (by intros;intro e;cases e) (by intros;intro e;cases e) (by intros;intro e;cases e) h
end
noncomputable def cT (st:Shared→Thread→Step)(ok:Thread→Bool)(b:Nat):Nat→PS→Thread→Option (Flow×PS×Code×Pos)
 |0,_,_=>none
 |n+1,s,t=>match endAt b t with
  |some f=>some (f,s,t.code,t.pos)
  |none=>match ok t with
   |false=>none
   |true=>match mH st s t with
    |some (s',t')=>cT st ok b n s' t'
    |none=>none
noncomputable def sC (st:Shared→Thread→Step)(ok:Thread→Bool):Nat→PS→Thread→Option (PS×Thread)
 |0,s,t=>some (s,t)
 |n+1,s,t=>match through t with
  |true=>none
  |false=>match ok t with
   |false=>none
   |true=>match mH st s t with
    |some (s',t')=>sC st ok n s' t'
    |none=>none
section
variable{tb:String→Option Builtin}{p:Program}{w:World}{qV:Nat}{ann:Option Value}{b:Nat}
theorem x8:∀{n:Nat}{s:Shared}{q q':PS}{t:Thread}{f:Flow}{c:Code}{pos:Pos},Ag s q→cT (step (denote tb) p w) (stepOk qV ann) b n q t=some (f,q',c,pos)→
  ∃s',segRun tb p w qV ann b n s t=some (f,s',c,pos)∧iE s s' q q'
 |0,_,_,_,_,_,_,_,_,h=>by cases h
 |n+1,s,q,q',t,f,c,pos,A,h=>by
  unfold cT at h
  unfold segRun
  cases he:endAt b t with
  |some x=>rw[he]at h;cases h;exact⟨s,rfl,iE.refl A⟩
  |none=>
   rw[he]at h
   cases hk:stepOk qV ann t with
   |false=>rw[hk]at h;cases h
   |true=>
    rw[hk]at h
    cases hs:mH (step (denote tb) p w) q t with
    |none=>rw[hs]at h;cases h
    |some r=>
     obtain⟨b_,NS⟩:=r
     rw[hs]at h
     obtain⟨aG,x9,sD⟩:=Ds A hs
     obtain⟨bI,x_,ya⟩:=x8 sD.ag h
     exact⟨bI,by rw[x9];exact x_,sD.trans ya⟩
theorem yd:∀{n:Nat}{s:Shared}{q q':PS}{t t':Thread},Ag s q→sC (step (denote tb) p w) (stepOk qV ann) n q t=some (q',t')→
  ∃s',topGo tb p w qV ann n s t=some (s',t')∧iE s s' q q'
 |0,s,q,q',t,t',A,h=>by cases h;exact⟨s,rfl,iE.refl A⟩
 |n+1,s,q,q',t,t',A,h=>by
  unfold sC at h
  unfold topGo
  cases he:through t with
  |true=>rw[he]at h;cases h
  |false=>
   rw[he]at h
   cases hk:stepOk qV ann t with
   |false=>rw[hk]at h;cases h
   |true=>
    rw[hk]at h
    cases hs:mH (step (denote tb) p w) q t with
    |none=>rw[hs]at h;cases h
    |some r=>
     obtain⟨b_,NS⟩:=r
     rw[hs]at h
     obtain⟨aG,x9,sD⟩:=Ds A hs
     obtain⟨bI,x_,ya⟩:=yd sD.ag h
     exact⟨bI,by rw[x9];exact x_,sD.trans ya⟩
end
theorem vf {D:List (Nat×Obj)}{a:Nat}{o:Obj}(h:lk D a=some o):(a,o)∈D:=by
 induction D with
 |nil=>cases h
 |cons p l ih=>
  rw[sA]at h
  by_cases e:p.1=a
  rw[ck e]at h;cases h;subst e;exact bA
  rw[bK e]at h;exact bw _ (ih h)
structure Kn (s:Shared)(n tk:Nat)(dr:Drawn)(os:OsState)(fs:List (Nat×Obj)):Prop where
 n:s.heap.objs.size=n
 gens:s.gens= #[]
 drawn:s.drawn=dr
 toks:s.toks=tk
 os:s.os=os
 fs:∀p∈fs,s.heap.get? p.1=some p.2
theorem Kn.ag {s:Shared}{n tk:Nat}{dr:Drawn}{os:OsState}{D old:List (Nat×Obj)}(k:Kn s n tk dr os (D++old)):Ag s ⟨D,n,#[],dr,tk,os⟩:=
 ⟨k.n,k.gens,k.drawn,k.toks,k.os,λ_ _ h=>k.fs _ (gO _ (vf h))⟩
noncomputable abbrev Seen:=Nat×Array GenState×Drawn×Nat×OsState×List (Option Obj)
noncomputable def seenOf (as:List Nat)(q:PS):Seen:=(q.n,q.gens,q.drawn,q.toks,q.os,as.map (lk q.D))
noncomputable def apart (n:Nat)(ks:List Nat)(old:List Nat):Bool:=old.all λa=>Nat.blt a n&& !(ks.any λb=>Nat.beq b a)
theorem NT {D:List (Nat×Obj)}{a:Nat}(h:((D.map (·.1)).any λb=>Nat.beq b a)=false):lk D a=none:=by
 induction D with
 |nil=>rfl
 |cons p l ih=>
  simp only[bx,List.any_cons,Bool.or_eq_false_iff]at h
  rw[sA,bK,ih h.2]
  intro e
  have:=h.1
  rw[BT.beq_eq]at this
  exact qQ this e
theorem Kn.next {s s':Shared}{n tk n' om:Nat}{dr:Drawn}{os:OsState}{D old fs:List (Nat×Obj)}{q':PS}{as:List Nat}(k:Kn s n tk dr os (D++old))(N:iE s s' ⟨D,n,#[],dr,tk,os⟩ q')
  (e:seenOf as q'=(n',#[],dr,om,os,fs.map λp=>some p.2))(ha:fs.map (·.1)=as)(oo:apart n (D.map (·.1)) (old.map (·.1))=true):Kn s' n' om dr os (fs++old):=by
 simp only[seenOf,kL]at e
 obtain⟨e1,e2,e3,e4,e5,e6⟩:=e
 refine⟨N.ag.n.trans e1,N.ag.gens.trans e2,N.ag.drawn.trans e3,N.ag.toks.trans e4,N.ag.os.trans e5,λp hp=>?_⟩
 rcases cq.mp hp with hp|hp
 subst ha
 rw[kM]at e6
 have:=List.map_inj_left.mp e6 p hp
 exact N.ag.D _ _ this
 unfold apart at oo
 have:=ew.mp oo p.1 (cB hp)
 simp only[fN,Bool.not_eq_true']at this
 exact N.xZ p.1 p.2 (j5 this.1) (NT this.2) (k.fs p (jy _ hp))
noncomputable section
noncomputable abbrev aC:=PySem.Challenge.pw_pq1440_01
noncomputable def vg:Code→Sem Fin:=Fast.tw11892475500146522536 Fast.tw14364793385576792824
theorem Dt:denote treeTable=vg:=by
 unfold vg
 rw[Fast.te11892475500146522536,Fast.te14364793385576792824]
noncomputable def cO (w:World):Shared→Thread→Step:=Fast.tw8437177126325714943 vg aC w
theorem vh (w:World):step (denote treeTable) aC w=cO w:=by
 unfold cO
 rw[Fast.te8437177126325714943,Dt]
noncomputable def cP:Thread→Bool:=Fast.tw6613529449190102663 11 (some (.ref 6))
theorem vj:stepOk 11 (some (.ref 6))=cP:=by
 unfold cP
 rw[Fast.te6613529449190102663]
noncomputable def ye:List Stmt→Env→Sem Flow:=Fast.tw12563942051412417395
theorem NU:execs=ye:=by
 unfold ye
 rw[Fast.te12563942051412417395]
noncomputable abbrev bh:Drawn:=⟨0,0,0,0⟩
noncomputable abbrev kP:Pos:=⟨0,0,0,0⟩
noncomputable def mI:Env:={scope:=aC.main.scope,locals:=mainNs,globals:=mainNs,cells:=[],code:=.ref 13,frame:=some 14}
noncomputable def bE:List Stmt:=behindTheImports aC
noncomputable def cE:Code:=.body bE mI
noncomputable def ao (i:Nat):Stmt:=(aC.main.body).getD i (.Pass kP)
noncomputable def bodyOf:Stmt→List Stmt
 |.FunctionDef _ _ b _ _ _ _ _ _ _=>b
 |.ClassDef _ _ _ b _ _ _ _ _ _ _=>b
 |_=>[]
noncomputable def bR (i m:Nat):Stmt:=(bodyOf (ao i)).getD m (.Pass kP)
noncomputable def nameOf:Stmt→Str
 |.FunctionDef n _ _ _ _ _ _ _ _ _=>n
 |_=>Str.empty
noncomputable def sE:Stmt→Arguments
 |.FunctionDef _ a _ _ _ _ _ _ _ _=>a
 |_=>⟨[],[],none,[],[],none,[]⟩
noncomputable def bz:Stmt→Scope
 |.FunctionDef _ _ _ _ _ _ s _ _ _=>s
 |_=>{kind:=.function,names:=[],isGenerator:=false,isCoroutine:=false,more:=[]}
noncomputable abbrev fdOf (s:Stmt)(q:Str)(dV pm cd:Value):FuncData:=
 {name:=nameOf s,qualname:=q,params:=sE s,body:=.stmts (bodyOf s),scope:=bz s,globals:=mainGlobals,closure:=[],defaults:=dV,kwdefaults:=.none,doc:=.none,pyModule:=pm,annotations:=none,code:=cd,closureTuple:=.none,builtins:=builtinsNs}
noncomputable def fo (s:Stmt)(q:Str)(dV pm cd:Value):Obj:=⟨.type "function",none,.func (fdOf s q dV pm cd),#[]⟩
noncomputable def cd (x q:Str)(a:Nat)(L n:Int)(r:Nat)(x1 x2 x3 x4:Value)(e:Nat):Obj:=⟨.type "code",none,.fields #[.str x a,.str q (a+1),.str "/claim/cut.py" (a+2),.int L 0,.int n 0,.int 0 0,.int 0 0,.int 3 0,.ref r,.bool true,.int 181 0,x1,.none,x2,x3,x4,.int e 0,.int L 0,.str "/claim/cut.py" (e+1)],#[]⟩
noncomputable def en (P:Params)(k:Str)(t:Nat)(v:Value):DictEntry:=⟨PyData.keyHash P k,.str k t,v⟩
noncomputable def c7 (i m:Nat)(pos:Pos):Thread:=⟨(ye ((bE.drop i).take m) mI).wrap doneF deadEnd id id,cE,pos,[topFrame kP]⟩
noncomputable abbrev cW (as:List Nat)(r:Flow×PS×Code×Pos):Flow×Seen×Code×Pos:=(r.1,seenOf as r.2.1,r.2.2)
noncomputable def rs (P:Params)(l:List (Str×Nat×Nat)):List DictEntry:=l.map λx=>en P x.1 x.2.1 (.ref x.2.2)
noncomputable def NV (P:Params)(v0:Value):List DictEntry:=[en P "__name__" 165 v0,en P "__doc__" 166 (.none),en P "__package__" 167 (.none),en P "__loader__" 168 (.builtin "__main__.__loader__#opaque"),en P "__spec__" 169 (.none)]++rs P [("__annotations__",170,6),("__builtins__",171,4)]++[en P "__file__" 173 (.str "/claim/cut.py" 172),en P "__cached__" 174 (.none)]
noncomputable def NW (P:Params):List DictEntry:=rs P [("_wall",193,21),("CoveError",215,31)]
noncomputable def NX (P:Params):List DictEntry:=rs P [("Refusal",240,51)]
noncomputable def NY (P:Params):List DictEntry:=rs P [("RError",269,70)]
noncomputable def NZ (P:Params):List DictEntry:=rs P [("LimitReached",294,89)]
noncomputable def N_ (P:Params):List DictEntry:=rs P [("ReturnSignal",321,108)]
noncomputable def Oa (P:Params):List DictEntry:=rs P [("LoopSignal",348,127),("NAN",353,130),("INF",356,131),("ZERO",359,132)]++[en P "MOST_FIGURES" 361 (.int 5000 360),en P "MOST_PART" 364 (.int (10^5000) 363)]++rs P [("gcd",372,139),("bounded",380,146),("make",389,153)]
noncomputable def Ob (P:Params):List DictEntry:=rs P [("from_int",396,160),("is_na",403,167),("is_finite",410,174),("neg",417,181),("to_whole",425,188),("nearest_whole",435,195),("exponent",445,202),("compare",455,209)]++[en P "MOST_EXPONENT" 459 (.int 4096 458),en P "MOST_SIGNS_numtext" 461 (.int 5000 460)]++rs P [("whole_text",471,216),("special_text",478,223),("scaled",488,230),("significant",498,237)]
noncomputable def Oc (P:Params):List DictEntry:=rs P [("without_tail",506,244),("scientific_text",518,251),("fixed_text",528,258),("measures",541,265),("chosen_form",558,272),("formed",567,279),("common_texts",573,284),("number_text",582,292),("digits_value",592,299),("digit_run",601,306),("exponent_value",610,313),("powered",619,320)]
noncomputable def Od (P:Params):List DictEntry:=rs P [("unsigned_number",638,327),("parse_number",650,334)]++[en P "MOST_LENGTH" 654 (.int 1000000 653)]++rs P [("Null",683,351)]
noncomputable def Oe (P:Params):List DictEntry:=rs P [("Missing",712,372)]
noncomputable def Of (P:Params):List DictEntry:=rs P [("Vector",755,401)]
noncomputable def Og (P:Params):List DictEntry:=rs P [("Symbol",786,422)]
noncomputable def Oh (P:Params):List DictEntry:=rs P [("Call",821,444)]
noncomputable def Oi (P:Params):List DictEntry:=rs P [("Builtin",858,465)]
noncomputable def Oj (P:Params):List DictEntry:=rs P [("Environment",895,487)]
noncomputable def Ol (P:Params):List DictEntry:=rs P [("Promise",931,508)]
noncomputable def Om (P:Params):List DictEntry:=rs P [("Dots",962,529),("room",969,540),("null",975,547),("missing",981,554),("integer",988,561),("character",995,568),("named",1003,575)]
noncomputable def Oo (P:Params):List DictEntry:=rs P [("list_of",1009,581),("whole",1016,588),("flag",1023,595),("text",1030,602),("length",1038,609),("is_vector",1045,616),("is_atomic",1052,623),("is_function",1059,630),("own",1066,637),("share",1073,644),("get_attr",1083,651),("drop_attr",1091,658),("put_attr",1100,665),("label_text",1108,672)]
noncomputable def Oq (P:Params):List DictEntry:=rs P [("level_at",1116,679),("label_texts",1122,684),("names_of",1128,689),("dim_of",1136,696),("dimnames_of",1142,701),("class_attr",1150,708)]++[en P "MOST_INTEGER" 1154 (.int 2147483647 1153)]++rs P [("kind_order",1162,715),("common_kind",1172,722),("note",1180,729),("as_logical_text",1187,736),("double_to_integer",1196,743),("text_to_double",1206,750),("to_logical",1214,757)]
noncomputable def Ot (P:Params):List DictEntry:=rs P [("to_integer",1223,764),("to_double",1232,771),("to_text",1240,778),("item_as",1250,785),("is_atomic_kind",1257,792),("list_item_as",1267,799),("refuse_type",1275,806),("as_vector_kind",1281,811),("with_names",1289,818),("as_kind",1295,823),("as_list",1302,830),("condition",1311,837),("one_text",1321,844)]
noncomputable def Ou (P:Params):List DictEntry:=rs P [("truth_of",1329,851)]
noncomputable def Ov (P:Params):List DictEntry:=rs P [("Matching",1414,908)]
noncomputable def Ow (P:Params):List DictEntry:=rs P [("doubled_text",1421,919),("argument_text",1433,926),("plain_text",1441,933),("unused_text",1447,938),("match_names",1453,944),("needed",1461,951),("take",1467,957),("has_class",1476,964),("is_lacking",1486,971),("compare_items",1495,978),("check_sortable",1502,985),("compare_places",1518,992),("compare_keys",1531,999)]
noncomputable def Ox (P:Params)(v0:Value):List DictEntry:=rs P [("merge_runs",1545,1006),("merge_sort",1551,1011),("each_key",1557,1016),("kept_places",1569,1023),("order_by",1580,1031),("whole_subscripts",1591,1038),("logical_places",1603,1045)]++[en P "whole_places" 1609 v0]++rs P [("whole_places_index",1610,1050),("first_places",1620,1057),("name_places",1631,1064),("extending_places",1645,1071),("positions",1656,1078)]
noncomputable def Oy (P:Params):List DictEntry:=rs P [("axis",1668,1085),("strides",1678,1092),("is_matrix_index",1687,1099),("row_place",1699,1106),("named_subscripts",1715,1113),("matrix_index",1721,1119),("lacking_item",1730,1126),("is_list_kind",1737,1133),("refuse_subset",1744,1140),("result_kind",1751,1147),("items_at",1762,1154),("names_at",1772,1161),("subset_vector",1783,1168)]
noncomputable def Oz (P:Params):List DictEntry:=rs P [("array_places",1799,1175),("array_axes",1812,1182),("heads_of_dimnames",1820,1189),("picked_dimnames",1831,1196),("dimnames_value",1842,1203),("put_shape",1853,1210),("only_names",1862,1217),("put_dropped",1868,1222),("subset_array",1874,1227),("subset_row",1886,1234),("subset_call",1892,1239),("is_formula",1899,1246),("is_formula_head",1906,1253)]
noncomputable def OA (P:Params)(v0:Value):List DictEntry:=rs P [("subset_any",1918,1260)]++[en P "MOST_SIGNS_factors" 1922 (.int 20000000 1921),en P "is_factor" 1929 v0]++rs P [("is_factor_factors",1930,1267),("is_ordered",1937,1274),("level_texts",1943,1279),("codes_in",1949,1284),("factor_class",1956,1291),("with_levels",1965,1298),("distinct_texts",1974,1305),("sorted_levels",1980,1310),("codes_of",1986,1315),("item_texts",1993,1322),("label_list",1999,1327),("check_distinct",2008,1334)]
noncomputable def OB (P:Params):List DictEntry:=rs P [("make_factor",2014,1339),("as_factor",2021,1346),("drop_levels",2027,1351),("interaction",2033,1356),("joined_factors",2043,1363),("codes_alone",2053,1370),("subset_factor",2064,1377),("split_places",2070,1382),("split_by",2076,1387)]++[en P "ROW_SHARE" 2080 (.int 50 2079)]++rs P [("grown_text",2088,1394),("make_unique",2104,1401),("is_frame",2115,1408)]
noncomputable def OC (P:Params):List DictEntry:=rs P [("is_factor_frames",2123,1415),("single_texts",2132,1422),("factor_levels",2139,1429),("new_frame",2145,1434),("plain_rows",2152,1441),("frame_rows",2159,1448),("column_names",2165,1453),("row_names",2171,1458),("has_plain_rows",2179,1465),("kept_attrs",2188,1472),("lacking",2195,1479),("pick_items",2206,1486),("check_row_labels",2216,1493),("picked_labels",2222,1498),("pick_rows",2228,1503)]
noncomputable def OD (P:Params):List DictEntry:=rs P [("joined_factor",2244,1510),("joined_column",2250,1515),("matched_columns",2261,1522),("joined_labels",2267,1527),("bind_frames_rows",2273,1532),("part",2287,1539),("converted_items",2298,1546),("raised",2308,1553),("value_vector",2316,1560),("assigned_kind",2324,1567),("extend_vector",2337,1574),("put_items",2350,1581)]
noncomputable def OE (P:Params):List DictEntry:=rs P [("check_places",2359,1588),("first_count",2368,1595),("assign_places",2384,1602),("group_factor",2395,1610),("recycled_places",2401,1615),("frame_count",2409,1622),("b_split",2415,1627),("whole_places_groupcalls",2430,1634),("unsplit_frame",2436,1639),("unsplit_factor",2453,1646),("b_unsplit",2470,1653),("group_values",2476,1658)]
noncomputable def OF (P:Params):List DictEntry:=rs P [("are_single",2484,1665),("simple_vector",2490,1670),("b_tapply",2496,1675),("lookup_here",2506,1682),("lookup",2515,1689),("done_promise",2526,1696),("bound_argument",2533,1703),("dots_argument",2542,1710),("default_binding",2551,1717),("bind_formals",2557,1723),("dots_of",2565,1730),("is_dots_place",2573,1737),("dots_place",2584,1744)]
noncomputable def OG (P:Params):List DictEntry:=rs P [("is_empty_formal",2594,1751),("is_empty_name",2602,1758),("Frame",2643,1775)]
noncomputable def OH (P:Params):List DictEntry:=rs P [("Evaluator",2982,1985)]
noncomputable def OI (P:Params):List DictEntry:=rs P [("hands_on",2989,1996),("quoted_call",3001,2003),("_law_shells",3013,2010),("_law_said",3023,2017),("_law_split_right",3029,2022),("_law_combined_right",3035,2027),("_law_factor",3043,2034),("_law_undone_right",3049,2039),("_law_default_right",3064,2046),("law",3073,2053)]
noncomputable def OJ (P:Params)(v u:Value):List (List DictEntry):=[NW P,NX P,NY P,NZ P,N_ P,Oa P,Ob P,Oc P,Od P,Oe P,Of P,Og P,Oh P,Oi P,Oj P,Ol P,Om P,Oo P,Oq P,Ot P]++[Ou P,Ov P,Ow P,Ox P v,Oy P,Oz P,OA P u,OB P,OC P,OD P,OE P,OF P,OG P,OH P,OI P]
noncomputable def dg (P:Params)(k n:Nat)(m v u:Value):Obj:=⟨.type "dict",none,.dict (NV P m++((OJ P v u).take k).flatten).toArray n,#[]⟩
noncomputable def dh (l:List (Int×Nat)):List Value:=l.flatMap λx=>[.int x.1 0,.int 0 0,.ref x.2]
noncomputable def oq (P:Params):Obj:=dg P 35 257 gC (.ref 1634) (.ref 1415)
noncomputable def OK:List (List Value):=[dh [],dh [(1,20),(5,27)],dh [(7,40)],dh [(11,59)],dh [(17,78)],dh [(21,97)],dh [(26,116),(37,138),(41,145),(45,152)],dh [(55,159),(59,166),(61,173),(63,180),(67,187),(72,194),(78,201),(89,208),(110,215),(121,222),(129,229),(134,236)],dh [(143,243),(148,250),(155,257),(163,264),(170,271),(190,278),(197,283),(201,291),(203,298),(208,305),(212,312),(222,319)],dh [(232,326),(266,333),(285,340)],dh [(290,361)],dh [(295,382)],dh [(309,411)],dh [(315,432)],dh [(323,454)],dh [(332,475)],dh [(342,497)],dh [(352,518),(358,539),(362,546),(364,553),(366,560),(368,567),(370,574)],dh [(374,580),(376,587),(378,594),(382,601),(384,608),(395,615),(397,622),(399,629),(401,636),(405,643),(410,650),(414,657),(419,664),(423,671)],dh [(433,678),(437,683),(443,688),(459,695),(464,700),(469,707),(476,714),(481,721),(487,728),(490,735),(496,742),(504,749),(510,756)]]++[dh [(520,763),(528,770),(534,777),(542,784),(556,791),(558,798),(564,805),(566,810),(580,817),(584,822),(591,829),(593,836),(608,843)],dh [(612,850)],dh [(617,857)],dh [(670,918),(672,925),(678,932),(693,937),(699,943),(708,950),(712,956),(724,963),(727,970),(729,977),(737,984),(740,991),(753,998)],dh [(759,1005),(771,1010),(783,1015),(787,1022),(798,1030),(808,1037),(818,1044),(830,1049),(850,1056),(858,1063),(867,1070),(881,1077)],dh [(896,1084),(908,1091),(915,1098),(920,1105),(940,1112),(957,1118),(973,1125),(977,1132),(979,1139),(981,1146),(985,1153),(994,1160),(1002,1167)],dh [(1009,1174),(1026,1181),(1035,1188),(1040,1195),(1051,1202),(1063,1209),(1069,1216),(1077,1221),(1092,1226),(1103,1233),(1113,1238),(1131,1245),(1133,1252)],dh [(1135,1259),(1159,1266),(1162,1273),(1164,1278),(1169,1283),(1172,1290),(1176,1297),(1182,1304),(1188,1309),(1193,1314),(1199,1321),(1205,1326),(1215,1333)],dh [(1221,1338),(1239,1345),(1243,1350),(1257,1355),(1282,1362),(1287,1369),(1297,1376),(1303,1381),(1310,1386),(1326,1393),(1331,1400),(1355,1407),(1365,1414)],dh [(1368,1421),(1377,1428),(1379,1433),(1383,1440),(1385,1447),(1389,1452),(1392,1457),(1396,1464),(1399,1471),(1407,1478),(1411,1485),(1420,1492),(1430,1497),(1446,1502)],dh [(1451,1509),(1467,1514),(1483,1521),(1495,1526),(1510,1531),(1522,1538),(1532,1545),(1538,1552),(1545,1559),(1553,1566),(1555,1573),(1570,1580)],dh [(1579,1587),(1584,1594),(1590,1601),(1609,1609),(1615,1614),(1632,1621),(1635,1626),(1652,1633),(1664,1638),(1680,1645),(1695,1652),(1716,1657)],dh [(1725,1664),(1730,1669),(1739,1674),(1764,1681),(1766,1688),(1774,1695),(1779,1702),(1783,1709),(1788,1716),(1794,1722),(1807,1729),(1812,1736),(1819,1743)],dh [(1828,1750),(1840,1757),(1843,1764)],dh [(1853,1785)],dh [(2165,1995),(2167,2002),(2177,2009),(2186,2016),(2191,2021),(2204,2026),(2213,2033),(2217,2038),(2228,2045),(2240,2052)]]
noncomputable def di (k:Nat):Obj:=⟨.none,none,.fields ((OK.take k).flatten).toArray,#[]⟩
noncomputable def Dv:Obj:=⟨.type "code",none,.fields #[.str "<module>" 182,.str "<module>" 183,.str "/claim/cut.py" 184,.int 1 0,.int 0 0,.int 0 0,.int 0 0,.int 0 0,.ref 11,.bool false,.int 181 0,.ref 12,.none,.none,.none,.none,.int 185 0,.int 1 0,.str "/claim/cut.py" 186],#[]⟩
noncomputable def OL (P:Params):Obj:=⟨.none,none,.dict [].toArray 0,#[]⟩
noncomputable def D0 (P:Params):List (Nat×Obj):=[(0,boot_o_0 P),(4,boot_o_4 P),(13,Dv),(3,(dg P 0 9 (.str "__main__" 164) .none .none)),(12,di 1),(2,OL P)]
noncomputable def vm (P:Params):Obj:=⟨.none,none,.dict [en P "type.__subclasses__.Exception.0" 212 (.int 31 0),en P "type.__subclasses__.Exception.n" 213 (.int 1 0)].toArray 2,#[]⟩
noncomputable def yf (P:Params):Obj:=⟨.type "dict",none,.dict [en P "__module__" 203 mF,en P "__firstlineno__" 207 (.int 5 206),en P "__static_attributes__" 208 (.ref 29),en P "__weakref__" 210 (.ref 32),en P "__doc__" 211 (.none)].toArray 3,#[]⟩
noncomputable def OM (l:List Value):Obj:=⟨.type "type",none,.cls {name:="CoveError",bases:=[.type "Exception"],mro:=[.ref 31,.type "Exception",.type "BaseException",.type "object"],ns:=30,qualname:="CoveError",subclasses:=l},#[some (.ref 22),none,some (.str "CoveError" 196),some (.str "CoveError" 204),some (.builtin "Exception.__new__"),some (.bool true)]⟩
noncomputable def DD (P:Params)(a b:Obj)(l:List Value):List (Nat×Obj):=[(0,boot_o_0 P),(4,boot_o_4 P),(13,Dv),(3,a),(12,b),(2,vm P),(30,yf P),(31,OM l)]
noncomputable def D1 (P:Params):List (Nat×Obj):=DD P (dg P 1 11 mF .none .none) (di 2) []
noncomputable def D2 (P:Params):List (Nat×Obj):=DD P (dg P 2 12 mF .none .none) (di 3) [.ref 51]
noncomputable def D3 (P:Params):List (Nat×Obj):=DD P (dg P 3 13 mF .none .none) (di 4) [.ref 51,.ref 70]
noncomputable def D4 (P:Params):List (Nat×Obj):=DD P (dg P 4 14 mF .none .none) (di 5) [.ref 51,.ref 70,.ref 89]
noncomputable def D5 (P:Params):List (Nat×Obj):=DD P (dg P 5 15 mF .none .none) (di 6) [.ref 51,.ref 70,.ref 89,.ref 108]
noncomputable def D6 (P:Params):List (Nat×Obj):=DD P (dg P 6 24 NO .none .none) (di 7) [.ref 51,.ref 70,.ref 89,.ref 108,.ref 127]
noncomputable def D7 (P:Params):List (Nat×Obj):=DD P (dg P 7 38 Dl .none .none) (di 8) [.ref 51,.ref 70,.ref 89,.ref 108,.ref 127]
noncomputable def D8 (P:Params):List (Nat×Obj):=DD P (dg P 8 50 Dl .none .none) (di 9) [.ref 51,.ref 70,.ref 89,.ref 108,.ref 127]
noncomputable def D9 (P:Params):List (Nat×Obj):=DD P (dg P 9 54 cG .none .none) (di 10) [.ref 51,.ref 70,.ref 89,.ref 108,.ref 127]
noncomputable def yg (P:Params):List (Nat×Obj):=DD P (dg P 10 55 cG .none .none) (di 11) [.ref 51,.ref 70,.ref 89,.ref 108,.ref 127]
noncomputable def yh (P:Params):List (Nat×Obj):=DD P (dg P 11 56 cG .none .none) (di 12) [.ref 51,.ref 70,.ref 89,.ref 108,.ref 127]
noncomputable def yi (P:Params):List (Nat×Obj):=DD P (dg P 12 57 cG .none .none) (di 13) [.ref 51,.ref 70,.ref 89,.ref 108,.ref 127]
noncomputable def yj (P:Params):List (Nat×Obj):=DD P (dg P 13 58 cG .none .none) (di 14) [.ref 51,.ref 70,.ref 89,.ref 108,.ref 127]
noncomputable def yk (P:Params):List (Nat×Obj):=DD P (dg P 14 59 cG .none .none) (di 15) [.ref 51,.ref 70,.ref 89,.ref 108,.ref 127]
noncomputable def yl (P:Params):List (Nat×Obj):=DD P (dg P 15 60 cG .none .none) (di 16) [.ref 51,.ref 70,.ref 89,.ref 108,.ref 127]
noncomputable def ym (P:Params):List (Nat×Obj):=DD P (dg P 16 61 cG .none .none) (di 17) [.ref 51,.ref 70,.ref 89,.ref 108,.ref 127]
noncomputable def yn (P:Params):List (Nat×Obj):=DD P (dg P 17 68 cG .none .none) (di 18) [.ref 51,.ref 70,.ref 89,.ref 108,.ref 127]
noncomputable def yo (P:Params):List (Nat×Obj):=DD P (dg P 18 82 gP .none .none) (di 19) [.ref 51,.ref 70,.ref 89,.ref 108,.ref 127]
noncomputable def yp (P:Params):List (Nat×Obj):=DD P (dg P 19 96 mG .none .none) (di 20) [.ref 51,.ref 70,.ref 89,.ref 108,.ref 127]
noncomputable def yq (P:Params):List (Nat×Obj):=DD P (dg P 20 109 sy .none .none) (di 21) [.ref 51,.ref 70,.ref 89,.ref 108,.ref 127]
noncomputable def yr (P:Params):List (Nat×Obj):=DD P (dg P 21 110 eQ .none .none) (di 22) [.ref 51,.ref 70,.ref 89,.ref 108,.ref 127]
noncomputable def yt (P:Params):List (Nat×Obj):=DD P (dg P 22 111 eQ .none .none) (di 23) [.ref 51,.ref 70,.ref 89,.ref 108,.ref 127]
noncomputable def yu (P:Params):List (Nat×Obj):=DD P (dg P 23 124 fA .none .none) (di 24) [.ref 51,.ref 70,.ref 89,.ref 108,.ref 127]
noncomputable def yv (P:Params):List (Nat×Obj):=DD P (dg P 24 137 kO (.ref 1050) .none) (di 25) [.ref 51,.ref 70,.ref 89,.ref 108,.ref 127]
noncomputable def yw (P:Params):List (Nat×Obj):=DD P (dg P 25 150 lN (.ref 1050) .none) (di 26) [.ref 51,.ref 70,.ref 89,.ref 108,.ref 127]
noncomputable def yx (P:Params):List (Nat×Obj):=DD P (dg P 26 163 lN (.ref 1050) .none) (di 27) [.ref 51,.ref 70,.ref 89,.ref 108,.ref 127]
noncomputable def yy (P:Params):List (Nat×Obj):=DD P (dg P 27 178 de (.ref 1050) (.ref 1267)) (di 28) [.ref 51,.ref 70,.ref 89,.ref 108,.ref 127]
noncomputable def yz (P:Params):List (Nat×Obj):=DD P (dg P 28 191 ve (.ref 1050) (.ref 1415)) (di 29) [.ref 51,.ref 70,.ref 89,.ref 108,.ref 127]
noncomputable def yA (P:Params):List (Nat×Obj):=DD P (dg P 29 206 ve (.ref 1050) (.ref 1415)) (di 30) [.ref 51,.ref 70,.ref 89,.ref 108,.ref 127]
noncomputable def yB (P:Params):List (Nat×Obj):=DD P (dg P 30 218 NP (.ref 1050) (.ref 1415)) (di 31) [.ref 51,.ref 70,.ref 89,.ref 108,.ref 127]
noncomputable def yC (P:Params):List (Nat×Obj):=DD P (dg P 31 230 gg (.ref 1634) (.ref 1415)) (di 32) [.ref 51,.ref 70,.ref 89,.ref 108,.ref 127]
noncomputable def yD (P:Params):List (Nat×Obj):=DD P (dg P 32 243 NQ (.ref 1634) (.ref 1415)) (di 33) [.ref 51,.ref 70,.ref 89,.ref 108,.ref 127]
noncomputable def yE (P:Params):List (Nat×Obj):=DD P (dg P 33 246 jH (.ref 1634) (.ref 1415)) (di 34) [.ref 51,.ref 70,.ref 89,.ref 108,.ref 127]
noncomputable def yF (P:Params):List (Nat×Obj):=DD P (dg P 34 247 jH (.ref 1634) (.ref 1415)) (di 35) [.ref 51,.ref 70,.ref 89,.ref 108,.ref 127]
noncomputable def lP (P:Params):List (Nat×Obj):=DD P (oq P) (di 36) [.ref 51,.ref 70,.ref 89,.ref 108,.ref 127]
noncomputable def N0 (P:Params):List (Nat×Obj):=[]
noncomputable def ON:List Nat:=[0,4,13,3,12,2,30,31]
theorem OO (w:World)(os:OsState):(cT (cO w) cP 1 235 ⟨D0 w.params,15,#[],bh,187,os⟩ (c7 0 3 ⟨0,0,0,0⟩)).map (cW ON)=
  some (.next,(35,#[],bh,216,os,(D1 w.params++N0 w.params).map λp=>some p.2),cE,⟨5,0,6,8⟩):=by
 rfl'
noncomputable def N1 (P:Params):List (Nat×Obj):=[(47,cd "__init__" "Refusal.__init__" 228 9 2 42 (.ref 43) (.ref 44) (.ref 45) (.ref 46) 233),
 (48,fo (bR 3 0) "Refusal.__init__" (.none) mF (.ref 47)),
 (50,⟨.type "dict",none,.dict [en P "__module__" 223 mF,en P "__firstlineno__" 227 (.int 7 226),en P "__init__" 235 (.ref 48),en P "__static_attributes__" 237 (.ref 49),en P "__doc__" 238 (.none)].toArray 2,#[]⟩),
 (51,⟨.type "type",none,.cls {name:="Refusal",bases:=[.ref 31],mro:=[.ref 51,.ref 31,.type "Exception",.type "BaseException",.type "object"],ns:=50,qualname:="Refusal",subclasses:=[]},#[some (.ref 35),none,some (.str "Refusal" 216),some (.str "Refusal" 224),some (.builtin "Exception.__new__"),some (.bool true)]⟩)]
noncomputable def OP:List Nat:=[0,4,13,3,12,2,30,31,47,48,50,51]
theorem OQ (w:World)(os:OsState):(cT (cO w) cP 1 246 ⟨D1 w.params,35,#[],bh,216,os⟩ (c7 3 1 ⟨5,0,6,8⟩)).map (cW OP)=
  some (.next,(54,#[],bh,241,os,(D2 w.params++N1 w.params).map λp=>some p.2),cE,⟨7,0,10,30⟩):=by
 rfl'
noncomputable def N2 (P:Params):List (Nat×Obj):=[]
noncomputable def OR:List Nat:=[0,4,13,3,12,2,30,31]
theorem OS (w:World)(os:OsState):(cT (cO w) cP 1 250 ⟨D2 w.params,54,#[],bh,241,os⟩ (c7 4 1 ⟨7,0,10,30⟩)).map (cW OR)=
  some (.next,(73,#[],bh,270,os,(D3 w.params++N2 w.params).map λp=>some p.2),cE,⟨11,0,16,34⟩):=by
 rfl'
noncomputable def N3 (P:Params):List (Nat×Obj):=[]
noncomputable def OT:List Nat:=[0,4,13,3,12,2,30,31]
theorem OU (w:World)(os:OsState):(cT (cO w) cP 1 246 ⟨D3 w.params,73,#[],bh,270,os⟩ (c7 5 1 ⟨11,0,16,34⟩)).map (cW OT)=
  some (.next,(92,#[],bh,295,os,(D4 w.params++N3 w.params).map λp=>some p.2),cE,⟨17,0,20,24⟩):=by
 rfl'
noncomputable def N4 (P:Params):List (Nat×Obj):=[]
noncomputable def OV:List Nat:=[0,4,13,3,12,2,30,31]
theorem OW (w:World)(os:OsState):(cT (cO w) cP 1 248 ⟨D4 w.params,92,#[],bh,295,os⟩ (c7 6 1 ⟨17,0,20,24⟩)).map (cW OV)=
  some (.next,(111,#[],bh,322,os,(D5 w.params++N4 w.params).map λp=>some p.2),cE,⟨21,0,25,26⟩):=by
 rfl'
noncomputable def N5 (P:Params):List (Nat×Obj):=[]
noncomputable def OX:List Nat:=[0,4,13,3,12,2,30,31]
theorem OY (w:World)(os:OsState):(cT (cO w) cP 1 409 ⟨D5 w.params,111,#[],bh,322,os⟩ (c7 7 10 ⟨21,0,25,26⟩)).map (cW OX)=
  some (.next,(154,#[],bh,390,os,(D6 w.params++N5 w.params).map λp=>some p.2),cE,⟨45,0,54,44⟩):=by
 rfl'
noncomputable def N6 (P:Params):List (Nat×Obj):=[]
noncomputable def OZ:List Nat:=[0,4,13,3,12,2,30,31]
theorem O0 (w:World)(os:OsState):(cT (cO w) cP 1 395 ⟨D6 w.params,154,#[],bh,390,os⟩ (c7 17 15 ⟨45,0,54,44⟩)).map (cW OZ)=
  some (.next,(238,#[],bh,499,os,(D7 w.params++N6 w.params).map λp=>some p.2),cE,⟨134,0,142,52⟩):=by
 rfl'
noncomputable def N7 (P:Params):List (Nat×Obj):=[]
noncomputable def O1:List Nat:=[0,4,13,3,12,2,30,31]
theorem O2 (w:World)(os:OsState):(cT (cO w) cP 1 385 ⟨D7 w.params,238,#[],bh,499,os⟩ (c7 32 12 ⟨134,0,142,52⟩)).map (cW O1)=
  some (.next,(321,#[],bh,620,os,(D8 w.params++N7 w.params).map λp=>some p.2),cE,⟨222,0,231,35⟩):=by
 rfl'
noncomputable def N8 (P:Params):List (Nat×Obj):=[]
noncomputable def O3:List Nat:=[0,4,13,3,12,2,30,31]
theorem O4 (w:World)(os:OsState):(cT (cO w) cP 1 316 ⟨D8 w.params,321,#[],bh,620,os⟩ (c7 44 5 ⟨222,0,231,35⟩)).map (cW O3)=
  some (.next,(356,#[],bh,684,os,(D9 w.params++N8 w.params).map λp=>some p.2),cE,⟨285,0,289,25⟩):=by
 rfl'
noncomputable def N9 (P:Params):List (Nat×Obj):=[]
noncomputable def O5:List Nat:=[0,4,13,3,12,2,30,31]
theorem O6 (w:World)(os:OsState):(cT (cO w) cP 1 223 ⟨D9 w.params,356,#[],bh,684,os⟩ (c7 49 1 ⟨285,0,289,25⟩)).map (cW O5)=
  some (.next,(377,#[],bh,713,os,(yg w.params++N9 w.params).map λp=>some p.2),cE,⟨290,0,294,25⟩):=by
 rfl'
noncomputable def yG (P:Params):List (Nat×Obj):=[(384,⟨.type "tuple",none,.seq #[.none] 0,#[]⟩),
 (390,cd "__init__" "Vector.__init__" 725 297 4 385 (.ref 386) (.ref 387) (.ref 388) (.ref 389) 732),
 (391,fo (bR 50 0) "Vector.__init__" (.ref 384) cG (.ref 390)),
 (400,⟨.type "dict",none,.dict [en P "__module__" 720 cG,en P "__firstlineno__" 724 (.int 295 723),en P "__init__" 734 (.ref 391),en P "copy" 742 (.ref 398),en P "__static_attributes__" 748 (.ref 399),en P "__dict__" 750 (.ref 402),en P "__weakref__" 752 (.ref 403),en P "__doc__" 753 (.none)].toArray 4,#[]⟩),
 (401,⟨.type "type",none,.cls {name:="Vector",bases:=[.type "object"],mro:=[.ref 401,.type "object"],ns:=400,qualname:="Vector",subclasses:=[]},#[none,none,some (.str "Vector" 713),some (.str "Vector" 721),some (.builtin "object.__new__"),some (.bool true)]⟩)]
noncomputable def O7:List Nat:=[0,4,13,3,12,2,30,31,384,390,391,400,401]
theorem O8 (w:World)(os:OsState):(cT (cO w) cP 1 262 ⟨yg w.params,377,#[],bh,713,os⟩ (c7 50 1 ⟨290,0,294,25⟩)).map (cW O7)=
  some (.next,(406,#[],bh,756,os,(yh w.params++yG w.params).map λp=>some p.2),cE,⟨295,0,308,57⟩):=by
 rfl'
noncomputable def yH (P:Params):List (Nat×Obj):=[(418,cd "__init__" "Symbol.__init__" 768 311 2 413 (.ref 414) (.ref 415) (.ref 416) (.ref 417) 773),
 (419,fo (bR 51 0) "Symbol.__init__" (.none) cG (.ref 418)),
 (421,⟨.type "dict",none,.dict [en P "__module__" 763 cG,en P "__firstlineno__" 767 (.int 309 766),en P "__init__" 775 (.ref 419),en P "__static_attributes__" 779 (.ref 420),en P "__dict__" 781 (.ref 423),en P "__weakref__" 783 (.ref 424),en P "__doc__" 784 (.none)].toArray 4,#[]⟩),
 (422,⟨.type "type",none,.cls {name:="Symbol",bases:=[.type "object"],mro:=[.ref 422,.type "object"],ns:=421,qualname:="Symbol",subclasses:=[]},#[none,none,some (.str "Symbol" 756),some (.str "Symbol" 764),some (.builtin "object.__new__"),some (.bool true)]⟩)]
noncomputable def O9:List Nat:=[0,4,13,3,12,2,30,31,418,419,421,422]
theorem O_ (w:World)(os:OsState):(cT (cO w) cP 1 225 ⟨yh w.params,406,#[],bh,756,os⟩ (c7 51 1 ⟨295,0,308,57⟩)).map (cW O9)=
  some (.next,(427,#[],bh,787,os,(yi w.params++yH w.params).map λp=>some p.2),cE,⟨309,0,314,25⟩):=by
 rfl'
noncomputable def yI (P:Params):List (Nat×Obj):=[(434,⟨.type "tuple",none,.seq #[.none] 0,#[]⟩),
 (440,cd "__init__" "Call.__init__" 799 317 4 435 (.ref 436) (.ref 437) (.ref 438) (.ref 439) 806),
 (441,fo (bR 52 0) "Call.__init__" (.ref 434) cG (.ref 440)),
 (443,⟨.type "dict",none,.dict [en P "__module__" 794 cG,en P "__firstlineno__" 798 (.int 315 797),en P "__init__" 808 (.ref 441),en P "__static_attributes__" 814 (.ref 442),en P "__dict__" 816 (.ref 445),en P "__weakref__" 818 (.ref 446),en P "__doc__" 819 (.none)].toArray 4,#[]⟩),
 (444,⟨.type "type",none,.cls {name:="Call",bases:=[.type "object"],mro:=[.ref 444,.type "object"],ns:=443,qualname:="Call",subclasses:=[]},#[none,none,some (.str "Call" 787),some (.str "Call" 795),some (.builtin "object.__new__"),some (.bool true)]⟩)]
noncomputable def Pa:List Nat:=[0,4,13,3,12,2,30,31,434,440,441,443,444]
theorem Pb (w:World)(os:OsState):(cT (cO w) cP 1 230 ⟨yi w.params,427,#[],bh,787,os⟩ (c7 52 1 ⟨309,0,314,25⟩)).map (cW Pa)=
  some (.next,(449,#[],bh,822,os,(yj w.params++yI w.params).map λp=>some p.2),cE,⟨315,0,322,24⟩):=by
 rfl'
noncomputable def yJ (P:Params):List (Nat×Obj):=[(461,cd "__init__" "Builtin.__init__" 834 325 5 456 (.ref 457) (.ref 458) (.ref 459) (.ref 460) 842),
 (462,fo (bR 53 0) "Builtin.__init__" (.none) cG (.ref 461)),
 (464,⟨.type "dict",none,.dict [en P "__module__" 829 cG,en P "__firstlineno__" 833 (.int 323 832),en P "__init__" 844 (.ref 462),en P "__static_attributes__" 851 (.ref 463),en P "__dict__" 853 (.ref 466),en P "__weakref__" 855 (.ref 467),en P "__doc__" 856 (.none)].toArray 4,#[]⟩),
 (465,⟨.type "type",none,.cls {name:="Builtin",bases:=[.type "object"],mro:=[.ref 465,.type "object"],ns:=464,qualname:="Builtin",subclasses:=[]},#[none,none,some (.str "Builtin" 822),some (.str "Builtin" 830),some (.builtin "object.__new__"),some (.bool true)]⟩)]
noncomputable def Pc:List Nat:=[0,4,13,3,12,2,30,31,461,462,464,465]
theorem Pd (w:World)(os:OsState):(cT (cO w) cP 1 231 ⟨yj w.params,449,#[],bh,822,os⟩ (c7 53 1 ⟨315,0,322,24⟩)).map (cW Pc)=
  some (.next,(470,#[],bh,859,os,(yk w.params++yJ w.params).map λp=>some p.2),cE,⟨323,0,331,25⟩):=by
 rfl'
noncomputable def yK (P:Params):List (Nat×Obj):=[(477,⟨.type "tuple",none,.seq #[.none] 0,#[]⟩),
 (483,cd "__init__" "Environment.__init__" 871 334 4 478 (.ref 479) (.ref 480) (.ref 481) (.ref 482) 878),
 (484,fo (bR 54 0) "Environment.__init__" (.ref 477) cG (.ref 483)),
 (486,⟨.type "dict",none,.dict [en P "__module__" 866 cG,en P "__firstlineno__" 870 (.int 332 869),en P "__init__" 880 (.ref 484),en P "__static_attributes__" 888 (.ref 485),en P "__dict__" 890 (.ref 488),en P "__weakref__" 892 (.ref 489),en P "__doc__" 893 (.none)].toArray 4,#[]⟩),
 (487,⟨.type "type",none,.cls {name:="Environment",bases:=[.type "object"],mro:=[.ref 487,.type "object"],ns:=486,qualname:="Environment",subclasses:=[]},#[none,none,some (.str "Environment" 859),some (.str "Environment" 867),some (.builtin "object.__new__"),some (.bool true)]⟩)]
noncomputable def Pe:List Nat:=[0,4,13,3,12,2,30,31,477,483,484,486,487]
theorem Pf (w:World)(os:OsState):(cT (cO w) cP 1 232 ⟨yk w.params,470,#[],bh,859,os⟩ (c7 54 1 ⟨323,0,331,25⟩)).map (cW Pe)=
  some (.next,(492,#[],bh,896,os,(yl w.params++yK w.params).map λp=>some p.2),cE,⟨332,0,341,23⟩):=by
 rfl'
noncomputable def yL (P:Params):List (Nat×Obj):=[]
noncomputable def Pg:List Nat:=[0,4,13,3,12,2,30,31]
theorem Ph (w:World)(os:OsState):(cT (cO w) cP 1 230 ⟨yl w.params,492,#[],bh,896,os⟩ (c7 55 1 ⟨332,0,341,23⟩)).map (cW Pg)=
  some (.next,(513,#[],bh,932,os,(ym w.params++yL w.params).map λp=>some p.2),cE,⟨342,0,351,25⟩):=by
 rfl'
noncomputable def yM (P:Params):List (Nat×Obj):=[(539,cd "room" "room" 963 358 1 534 (.ref 535) (.ref 536) (.ref 537) (.ref 538) 967),
 (540,fo (ao 57) "room" (.none) cG (.ref 539)),
 (560,cd "integer" "integer" 982 366 1 555 (.ref 556) (.ref 557) (.ref 558) (.ref 559) 986),
 (561,fo (ao 60) "integer" (.none) cG (.ref 560)),
 (567,cd "character" "character" 989 368 1 562 (.ref 563) (.ref 564) (.ref 565) (.ref 566) 993),
 (568,fo (ao 61) "character" (.none) cG (.ref 567)),
 (574,cd "named" "named" 996 370 2 569 (.ref 570) (.ref 571) (.ref 572) (.ref 573) 1001),
 (575,fo (ao 62) "named" (.none) cG (.ref 574))]
noncomputable def Pj:List Nat:=[0,4,13,3,12,2,30,31,539,540,560,561,567,568,574,575]
theorem Pk (w:World)(os:OsState):(cT (cO w) cP 1 398 ⟨ym w.params,513,#[],bh,932,os⟩ (c7 56 7 ⟨342,0,351,25⟩)).map (cW Pj)=
  some (.next,(576,#[],bh,1004,os,(yn w.params++yM w.params).map λp=>some p.2),cE,⟨370,0,373,12⟩):=by
 rfl'
noncomputable def yN (P:Params):List (Nat×Obj):=[(576,⟨.type "tuple",none,.seq #[.none] 0,#[]⟩),
 (580,cd "list_of" "list_of" 1004 374 2 577 (.ref 578) .none .none (.ref 579) 1007),
 (581,fo (ao 63) "list_of" (.ref 576) cG (.ref 580)),
 (587,cd "whole" "whole" 1010 376 1 582 (.ref 583) (.ref 584) (.ref 585) (.ref 586) 1014),
 (588,fo (ao 64) "whole" (.none) cG (.ref 587)),
 (608,cd "length" "length" 1031 384 1 603 (.ref 604) (.ref 605) (.ref 606) (.ref 607) 1036),
 (609,fo (ao 67) "length" (.none) cG (.ref 608)),
 (615,cd "is_vector" "is_vector" 1039 395 1 610 (.ref 611) (.ref 612) (.ref 613) (.ref 614) 1043),
 (616,fo (ao 68) "is_vector" (.none) cG (.ref 615)),
 (622,cd "is_atomic" "is_atomic" 1046 397 1 617 (.ref 618) (.ref 619) (.ref 620) (.ref 621) 1050),
 (623,fo (ao 69) "is_atomic" (.none) cG (.ref 622)),
 (643,cd "share" "share" 1067 405 1 638 (.ref 639) (.ref 640) (.ref 641) (.ref 642) 1071),
 (644,fo (ao 72) "share" (.none) cG (.ref 643)),
 (650,cd "get_attr" "get_attr" 1076 410 2 645 (.ref 646) (.ref 647) (.ref 648) (.ref 649) 1081),
 (651,fo (ao 74) "get_attr" (.none) gP (.ref 650)),
 (671,cd "label_text" "label_text" 1101 423 2 666 (.ref 667) (.ref 668) (.ref 669) (.ref 670) 1106),
 (672,fo (ao 77) "label_text" (.none) gP (.ref 671))]
noncomputable def Pl:List Nat:=[0,4,13,3,12,2,30,31,576,580,581,587,588,608,609,615,616,622,623,643,644,650,651,671,672]
theorem Pm (w:World)(os:OsState):(cT (cO w) cP 1 420 ⟨yn w.params,576,#[],bh,1004,os⟩ (c7 63 15 ⟨370,0,373,12⟩)).map (cW Pl)=
  some (.next,(673,#[],bh,1109,os,(yo w.params++yN w.params).map λp=>some p.2),cE,⟨423,0,432,32⟩):=by
 rfl'
noncomputable def yO (P:Params):List (Nat×Obj):=[(678,cd "level_at" "level_at" 1109 433 2 673 (.ref 674) (.ref 675) (.ref 676) (.ref 677) 1114),
 (679,fo (ao 78) "level_at" (.none) gP (.ref 678)),
 (683,cd "label_texts" "label_texts" 1117 437 1 680 (.ref 681) .none .none (.ref 682) 1120),
 (684,fo (ao 79) "label_texts" (.none) gP (.ref 683)),
 (688,cd "names_of" "names_of" 1123 443 1 685 (.ref 686) .none .none (.ref 687) 1126),
 (689,fo (ao 80) "names_of" (.none) gP (.ref 688)),
 (695,cd "dim_of" "dim_of" 1129 459 1 690 (.ref 691) (.ref 692) (.ref 693) (.ref 694) 1134),
 (696,fo (ao 81) "dim_of" (.none) gP (.ref 695)),
 (700,cd "dimnames_of" "dimnames_of" 1137 464 1 697 (.ref 698) .none .none (.ref 699) 1140),
 (701,fo (ao 82) "dimnames_of" (.none) gP (.ref 700)),
 (707,cd "class_attr" "class_attr" 1143 469 1 702 (.ref 703) (.ref 704) (.ref 705) (.ref 706) 1148),
 (708,fo (ao 83) "class_attr" (.none) gP (.ref 707)),
 (714,cd "kind_order" "kind_order" 1155 476 1 709 (.ref 710) (.ref 711) (.ref 712) (.ref 713) 1160),
 (715,fo (ao 86) "kind_order" (.none) mG (.ref 714)),
 (721,cd "common_kind" "common_kind" 1163 481 1 716 (.ref 717) (.ref 718) (.ref 719) (.ref 720) 1170),
 (722,fo (ao 87) "common_kind" (.none) mG (.ref 721))]
noncomputable def Pn:List Nat:=[0,4,13,3,12,2,30,31,678,679,683,684,688,689,695,696,700,701,707,708,714,715,721,722]
theorem Po (w:World)(os:OsState):(cT (cO w) cP 1 401 ⟨yo w.params,673,#[],bh,1109,os⟩ (c7 78 15 ⟨423,0,432,32⟩)).map (cW Pn)=
  some (.next,(758,#[],bh,1215,os,(yp w.params++yO w.params).map λp=>some p.2),cE,⟨510,0,519,32⟩):=by
 rfl'
noncomputable def yP (P:Params):List (Nat×Obj):=[(817,cd "with_names" "with_names" 1282 580 2 812 (.ref 813) (.ref 814) (.ref 815) (.ref 816) 1287),
 (818,fo (ao 101) "with_names" (.none) mG (.ref 817)),
 (822,cd "as_kind" "as_kind" 1290 584 3 819 (.ref 820) .none .none (.ref 821) 1293),
 (823,fo (ao 102) "as_kind" (.none) mG (.ref 822)),
 (843,cd "one_text" "one_text" 1314 608 2 838 (.ref 839) (.ref 840) (.ref 841) (.ref 842) 1319),
 (844,fo (ao 106) "one_text" (.none) sy (.ref 843))]
noncomputable def Pp:List Nat:=[0,4,13,3,12,2,30,31,817,818,822,823,843,844]
theorem Pq (w:World)(os:OsState):(cT (cO w) cP 1 397 ⟨yp w.params,758,#[],bh,1215,os⟩ (c7 93 14 ⟨510,0,519,32⟩)).map (cW Pp)=
  some (.next,(845,#[],bh,1322,os,(yq w.params++yP w.params).map λp=>some p.2),cE,⟨608,0,611,21⟩):=by
 rfl'
noncomputable def yQ (P:Params):List (Nat×Obj):=[(850,cd "truth_of" "truth_of" 1322 612 2 845 (.ref 846) (.ref 847) (.ref 848) (.ref 849) 1327),
 (851,fo (ao 107) "truth_of" (.none) sy (.ref 850))]
noncomputable def Pr:List Nat:=[0,4,13,3,12,2,30,31,850,851]
theorem Pu (w:World)(os:OsState):(cT (cO w) cP 1 40 ⟨yq w.params,845,#[],bh,1322,os⟩ (c7 107 2 ⟨608,0,611,21⟩)).map (cW Pr)=
  some (.next,(852,#[],bh,1332,os,(yr w.params++yQ w.params).map λp=>some p.2),cE,⟨616,0,616,8⟩):=by
 rfl'
noncomputable def yR (P:Params):List (Nat×Obj):=[(864,cd "__init__" "Matching.__init__" 1344 619 3 859 (.ref 860) (.ref 861) (.ref 862) (.ref 863) 1350),
 (865,fo (bR 109 0) "Matching.__init__" (.none) eQ (.ref 864)),
 (871,cd "exact" "Matching.exact" 1353 625 1 866 (.ref 867) (.ref 868) (.ref 869) (.ref 870) 1359),
 (872,fo (bR 109 1) "Matching.exact" (.none) eQ (.ref 871)),
 (878,cd "partial" "Matching.partial" 1362 635 1 873 (.ref 874) (.ref 875) (.ref 876) (.ref 877) 1367),
 (879,fo (bR 109 2) "Matching.partial" (.none) eQ (.ref 878)),
 (885,cd "partial_of" "Matching.partial_of" 1370 642 2 880 (.ref 881) (.ref 882) (.ref 883) (.ref 884) 1377),
 (886,fo (bR 109 3) "Matching.partial_of" (.none) eQ (.ref 885)),
 (892,cd "positional" "Matching.positional" 1380 653 1 887 (.ref 888) (.ref 889) (.ref 890) (.ref 891) 1386),
 (893,fo (bR 109 4) "Matching.positional" (.none) eQ (.ref 892)),
 (899,cd "is_free" "Matching.is_free" 1389 665 2 894 (.ref 895) (.ref 896) (.ref 897) (.ref 898) 1394),
 (900,fo (bR 109 5) "Matching.is_free" (.none) eQ (.ref 899)),
 (904,cd "rest" "Matching.rest" 1397 668 1 901 (.ref 902) .none .none (.ref 903) 1400),
 (905,fo (bR 109 6) "Matching.rest" (.none) eQ (.ref 904)),
 (907,⟨.type "dict",none,.dict [en P "__module__" 1339 eQ,en P "__firstlineno__" 1343 (.int 617 1342),en P "__init__" 1352 (.ref 865),en P "exact" 1361 (.ref 872),en P "partial" 1369 (.ref 879),en P "partial_of" 1379 (.ref 886),en P "positional" 1388 (.ref 893),en P "is_free" 1396 (.ref 900),en P "rest" 1402 (.ref 905),en P "__static_attributes__" 1407 (.ref 906),en P "__dict__" 1409 (.ref 909),en P "__weakref__" 1411 (.ref 910),en P "__doc__" 1412 (.none)].toArray 4,#[]⟩),
 (908,⟨.type "type",none,.cls {name:="Matching",bases:=[.type "object"],mro:=[.ref 908,.type "object"],ns:=907,qualname:="Matching",subclasses:=[]},#[none,none,some (.str "Matching" 1332),some (.str "Matching" 1340),some (.builtin "object.__new__"),some (.bool true)]⟩)]
noncomputable def Pw:List Nat:=[0,4,13,3,12,2,30,31,864,865,871,872,878,879,885,886,892,893,899,900,904,905,907,908]
theorem Px (w:World)(os:OsState):(cT (cO w) cP 1 419 ⟨yr w.params,852,#[],bh,1332,os⟩ (c7 109 1 ⟨616,0,616,8⟩)).map (cW Pw)=
  some (.next,(913,#[],bh,1415,os,(yt w.params++yR w.params).map λp=>some p.2),cE,⟨617,0,669,82⟩):=by
 rfl'
noncomputable def yS (P:Params):List (Nat×Obj):=[(939,⟨.type "tuple",none,.seq #[.none] 0,#[]⟩),
 (943,cd "match_names" "match_names" 1448 699 3 940 (.ref 941) .none .none (.ref 942) 1451),
 (944,fo (ao 114) "match_names" (.ref 939) eQ (.ref 943)),
 (950,cd "needed" "needed" 1454 708 2 945 (.ref 946) (.ref 947) (.ref 948) (.ref 949) 1459),
 (951,fo (ao 115) "needed" (.none) eQ (.ref 950)),
 (952,⟨.type "tuple",none,.seq #[.none] 0,#[]⟩),
 (956,cd "take" "take" 1462 712 3 953 (.ref 954) .none .none (.ref 955) 1465),
 (957,fo (ao 116) "take" (.ref 952) eQ (.ref 956)),
 (963,cd "has_class" "has_class" 1470 724 1 958 (.ref 959) (.ref 960) (.ref 961) (.ref 962) 1474),
 (964,fo (ao 118) "has_class" (.none) Dm (.ref 963)),
 (970,cd "is_lacking" "is_lacking" 1479 727 2 965 (.ref 966) (.ref 967) (.ref 968) (.ref 969) 1484),
 (971,fo (ao 120) "is_lacking" (.none) fA (.ref 970)),
 (977,cd "compare_items" "compare_items" 1487 729 3 972 (.ref 973) (.ref 974) (.ref 975) (.ref 976) 1493),
 (978,fo (ao 121) "compare_items" (.none) fA (.ref 977)),
 (984,cd "check_sortable" "check_sortable" 1496 737 1 979 (.ref 980) (.ref 981) (.ref 982) (.ref 983) 1500),
 (985,fo (ao 122) "check_sortable" (.none) fA (.ref 984)),
 (991,cd "compare_places" "compare_places" 1503 740 5 986 (.ref 987) (.ref 988) (.ref 989) (.ref 990) 1516),
 (992,fo (ao 123) "compare_places" (.none) fA (.ref 991)),
 (998,cd "compare_keys" "compare_keys" 1519 753 5 993 (.ref 994) (.ref 995) (.ref 996) (.ref 997) 1529),
 (999,fo (ao 124) "compare_keys" (.none) fA (.ref 998))]
noncomputable def Py:List Nat:=[0,4,13,3,12,2,30,31,939,943,944,950,951,952,956,957,963,964,970,971,977,978,984,985,991,992,998,999]
theorem Pz (w:World)(os:OsState):(cT (cO w) cP 1 414 ⟨yt w.params,913,#[],bh,1415,os⟩ (c7 110 15 ⟨617,0,669,82⟩)).map (cW Py)=
  some (.next,(1000,#[],bh,1532,os,(yu w.params++yS w.params).map λp=>some p.2),cE,⟨753,0,758,12⟩):=by
 rfl'
noncomputable def yT (P:Params):List (Nat×Obj):=[(1005,cd "merge_runs" "merge_runs" 1532 759 5 1000 (.ref 1001) (.ref 1002) (.ref 1003) (.ref 1004) 1543),
 (1006,fo (ao 125) "merge_runs" (.none) fA (.ref 1005)),
 (1010,cd "merge_sort" "merge_sort" 1546 771 4 1007 (.ref 1008) .none .none (.ref 1009) 1549),
 (1011,fo (ao 126) "merge_sort" (.none) fA (.ref 1010)),
 (1015,cd "each_key" "each_key" 1552 783 2 1012 (.ref 1013) .none .none (.ref 1014) 1555),
 (1016,fo (ao 127) "each_key" (.none) fA (.ref 1015)),
 (1022,cd "kept_places" "kept_places" 1558 787 2 1017 (.ref 1018) (.ref 1019) (.ref 1020) (.ref 1021) 1567),
 (1023,fo (ao 128) "kept_places" (.none) fA (.ref 1022)),
 (1024,⟨.type "tuple",none,.seq #[.bool false,.bool true] 0,#[]⟩),
 (1030,cd "order_by" "order_by" 1570 798 3 1025 (.ref 1026) (.ref 1027) (.ref 1028) (.ref 1029) 1578),
 (1031,fo (ao 129) "order_by" (.ref 1024) fA (.ref 1030)),
 (1037,cd "whole_subscripts" "whole_subscripts" 1583 808 1 1032 (.ref 1033) (.ref 1034) (.ref 1035) (.ref 1036) 1589),
 (1038,fo (ao 131) "whole_subscripts" (.none) kO (.ref 1037)),
 (1049,cd "whole_places" "whole_places" 1604 830 2 1046 (.ref 1047) .none .none (.ref 1048) 1607),
 (1050,fo (ao 133) "whole_places" (.none) kO (.ref 1049)),
 (1077,cd "positions" "positions" 1646 881 4 1072 (.ref 1073) (.ref 1074) (.ref 1075) (.ref 1076) 1654),
 (1078,fo (ao 138) "positions" (.none) kO (.ref 1077))]
noncomputable def PA:List Nat:=[0,4,13,3,12,2,30,31,1005,1006,1010,1011,1015,1016,1022,1023,1024,1030,1031,1037,1038,1049,1050,1077,1078]
theorem PB (w:World)(os:OsState):(cT (cO w) cP 1 401 ⟨yu w.params,1000,#[],bh,1532,os⟩ (c7 125 14 ⟨753,0,758,12⟩)).map (cW PA)=
  some (.next,(1079,#[],bh,1657,os,(yv w.params++yT w.params).map λp=>some p.2),cE,⟨881,0,895,53⟩):=by
 rfl'
noncomputable def yU (P:Params):List (Nat×Obj):=[(1098,cd "is_matrix_index" "is_matrix_index" 1679 915 2 1093 (.ref 1094) (.ref 1095) (.ref 1096) (.ref 1097) 1685),
 (1099,fo (ao 141) "is_matrix_index" (.none) kO (.ref 1098)),
 (1114,⟨.type "tuple",none,.seq #[.none] 0,#[]⟩),
 (1118,cd "matrix_index" "matrix_index" 1716 957 3 1115 (.ref 1116) .none .none (.ref 1117) 1719),
 (1119,fo (ao 144) "matrix_index" (.ref 1114) kO (.ref 1118)),
 (1146,cd "result_kind" "result_kind" 1745 981 1 1141 (.ref 1142) (.ref 1143) (.ref 1144) (.ref 1145) 1749),
 (1147,fo (ao 149) "result_kind" (.none) lN (.ref 1146)),
 (1153,cd "items_at" "items_at" 1752 985 2 1148 (.ref 1149) (.ref 1150) (.ref 1151) (.ref 1152) 1760),
 (1154,fo (ao 150) "items_at" (.none) lN (.ref 1153)),
 (1167,cd "subset_vector" "subset_vector" 1773 1002 2 1162 (.ref 1163) (.ref 1164) (.ref 1165) (.ref 1166) 1781),
 (1168,fo (ao 152) "subset_vector" (.none) lN (.ref 1167))]
noncomputable def PC:List Nat:=[0,4,13,3,12,2,30,31,1098,1099,1114,1118,1119,1146,1147,1153,1154,1167,1168]
theorem PD (w:World)(os:OsState):(cT (cO w) cP 1 420 ⟨yv w.params,1079,#[],bh,1657,os⟩ (c7 139 14 ⟨881,0,895,53⟩)).map (cW PC)=
  some (.next,(1169,#[],bh,1784,os,(yw w.params++yU w.params).map λp=>some p.2),cE,⟨1002,0,1008,17⟩):=by
 rfl'
noncomputable def yV (P:Params):List (Nat×Obj):=[]
noncomputable def PE:List Nat:=[0,4,13,3,12,2,30,31]
theorem PG (w:World)(os:OsState):(cT (cO w) cP 1 404 ⟨yw w.params,1169,#[],bh,1784,os⟩ (c7 153 13 ⟨1002,0,1008,17⟩)).map (cW PE)=
  some (.next,(1254,#[],bh,1907,os,(yx w.params++yV w.params).map λp=>some p.2),cE,⟨1133,0,1134,53⟩):=by
 rfl'
noncomputable def yW (P:Params):List (Nat×Obj):=[(1259,cd "subset_any" "subset_any" 1907 1135 4 1254 (.ref 1255) (.ref 1256) (.ref 1257) (.ref 1258) 1916),
 (1260,fo (ao 166) "subset_any" (.none) lN (.ref 1259)),
 (1266,cd "is_factor" "is_factor" 1923 1159 1 1261 (.ref 1262) (.ref 1263) (.ref 1264) (.ref 1265) 1927),
 (1267,fo (ao 169) "is_factor" (.none) de (.ref 1266)),
 (1273,cd "is_ordered" "is_ordered" 1931 1162 1 1268 (.ref 1269) (.ref 1270) (.ref 1271) (.ref 1272) 1935),
 (1274,fo (ao 171) "is_ordered" (.none) de (.ref 1273)),
 (1278,cd "level_texts" "level_texts" 1938 1164 1 1275 (.ref 1276) .none .none (.ref 1277) 1941),
 (1279,fo (ao 172) "level_texts" (.none) de (.ref 1278)),
 (1283,cd "codes_in" "codes_in" 1944 1169 1 1280 (.ref 1281) .none .none (.ref 1282) 1947),
 (1284,fo (ao 173) "codes_in" (.none) de (.ref 1283)),
 (1290,cd "factor_class" "factor_class" 1950 1172 1 1285 (.ref 1286) (.ref 1287) (.ref 1288) (.ref 1289) 1954),
 (1291,fo (ao 174) "factor_class" (.none) de (.ref 1290)),
 (1297,cd "with_levels" "with_levels" 1957 1176 3 1292 (.ref 1293) (.ref 1294) (.ref 1295) (.ref 1296) 1963),
 (1298,fo (ao 175) "with_levels" (.none) de (.ref 1297)),
 (1304,cd "distinct_texts" "distinct_texts" 1966 1182 1 1299 (.ref 1300) (.ref 1301) (.ref 1302) (.ref 1303) 1972),
 (1305,fo (ao 176) "distinct_texts" (.none) de (.ref 1304)),
 (1309,cd "sorted_levels" "sorted_levels" 1975 1188 1 1306 (.ref 1307) .none .none (.ref 1308) 1978),
 (1310,fo (ao 177) "sorted_levels" (.none) de (.ref 1309)),
 (1314,cd "codes_of" "codes_of" 1981 1193 2 1311 (.ref 1312) .none .none (.ref 1313) 1984),
 (1315,fo (ao 178) "codes_of" (.none) de (.ref 1314)),
 (1321,cd "item_texts" "item_texts" 1987 1199 1 1316 (.ref 1317) (.ref 1318) (.ref 1319) (.ref 1320) 1991),
 (1322,fo (ao 179) "item_texts" (.none) de (.ref 1321)),
 (1326,cd "label_list" "label_list" 1994 1205 2 1323 (.ref 1324) .none .none (.ref 1325) 1997),
 (1327,fo (ao 180) "label_list" (.none) de (.ref 1326)),
 (1333,cd "check_distinct" "check_distinct" 2000 1215 1 1328 (.ref 1329) (.ref 1330) (.ref 1331) (.ref 1332) 2006),
 (1334,fo (ao 181) "check_distinct" (.none) de (.ref 1333))]
noncomputable def PH:List Nat:=[0,4,13,3,12,2,30,31,1259,1260,1266,1267,1273,1274,1278,1279,1283,1284,1290,1291,1297,1298,1304,1305,1309,1310,1314,1315,1321,1322,1326,1327,1333,1334]
theorem PI (w:World)(os:OsState):(cT (cO w) cP 1 402 ⟨yx w.params,1254,#[],bh,1907,os⟩ (c7 166 16 ⟨1133,0,1134,53⟩)).map (cW PH)=
  some (.next,(1335,#[],bh,2009,os,(yy w.params++yW w.params).map λp=>some p.2),cE,⟨1215,0,1220,30⟩):=by
 rfl'
noncomputable def yX (P:Params):List (Nat×Obj):=[(1338,cd "make_factor" "make_factor" 2009 1221 5 1335 (.ref 1336) .none .none (.ref 1337) 2012),
 (1339,fo (ao 182) "make_factor" (.none) de (.ref 1338)),
 (1345,cd "as_factor" "as_factor" 2015 1239 1 1340 (.ref 1341) (.ref 1342) (.ref 1343) (.ref 1344) 2019),
 (1346,fo (ao 183) "as_factor" (.none) de (.ref 1345)),
 (1355,cd "interaction" "interaction" 2028 1257 3 1352 (.ref 1353) .none .none (.ref 1354) 2031),
 (1356,fo (ao 185) "interaction" (.none) de (.ref 1355)),
 (1362,cd "joined_factors" "joined_factors" 2034 1282 2 1357 (.ref 1358) (.ref 1359) (.ref 1360) (.ref 1361) 2041),
 (1363,fo (ao 186) "joined_factors" (.none) de (.ref 1362)),
 (1381,cd "split_places" "split_places" 2065 1303 1 1378 (.ref 1379) .none .none (.ref 1380) 2068),
 (1382,fo (ao 189) "split_places" (.none) de (.ref 1381)),
 (1386,cd "split_by" "split_by" 2071 1310 2 1383 (.ref 1384) .none .none (.ref 1385) 2074),
 (1387,fo (ao 190) "split_by" (.none) de (.ref 1386)),
 (1407,cd "is_frame" "is_frame" 2107 1355 1 1402 (.ref 1403) (.ref 1404) (.ref 1405) (.ref 1406) 2113),
 (1408,fo (ao 196) "is_frame" (.none) ve (.ref 1407))]
noncomputable def PJ:List Nat:=[0,4,13,3,12,2,30,31,1338,1339,1345,1346,1355,1356,1362,1363,1381,1382,1386,1387,1407,1408]
theorem PK (w:World)(os:OsState):(cT (cO w) cP 1 412 ⟨yy w.params,1335,#[],bh,2009,os⟩ (c7 182 16 ⟨1215,0,1220,30⟩)).map (cW PJ)=
  some (.next,(1416,#[],bh,2123,os,(yz w.params++yX w.params).map λp=>some p.2),cE,⟨1365,0,1366,119⟩):=by
 rfl'
noncomputable def yY (P:Params):List (Nat×Obj):=[]
noncomputable def PM:List Nat:=[0,4,13,3,12,2,30,31]
theorem PN (w:World)(os:OsState):(cT (cO w) cP 1 414 ⟨yz w.params,1416,#[],bh,2123,os⟩ (c7 198 15 ⟨1365,0,1366,119⟩)).map (cW PM)=
  some (.next,(1504,#[],bh,2229,os,(yA w.params++yY w.params).map λp=>some p.2),cE,⟨1446,0,1449,74⟩):=by
 rfl'
noncomputable def yZ (P:Params):List (Nat×Obj):=[(1538,cd "part" "part" 2276 1522 4 1533 (.ref 1534) (.ref 1535) (.ref 1536) (.ref 1537) 2285),
 (1539,fo (ao 220) "part" (.none) Dn (.ref 1538))]
noncomputable def PO:List Nat:=[0,4,13,3,12,2,30,31,1538,1539]
theorem PR (w:World)(os:OsState):(cT (cO w) cP 1 402 ⟨yA w.params,1504,#[],bh,2229,os⟩ (c7 213 15 ⟨1446,0,1449,74⟩)).map (cW PO)=
  some (.next,(1582,#[],bh,2351,os,(yB w.params++yZ w.params).map λp=>some p.2),cE,⟨1570,0,1578,37⟩):=by
 rfl'
noncomputable def y0 (P:Params):List (Nat×Obj):=[(1603,⟨.type "tuple",none,.seq #[.str "." 2387] 0,#[]⟩),
 (1609,cd "group_factor" "group_factor" 2388 1609 2 1604 (.ref 1605) (.ref 1606) (.ref 1607) (.ref 1608) 2393),
 (1610,fo (ao 232) "group_factor" (.ref 1603) gg (.ref 1609)),
 (1614,cd "recycled_places" "recycled_places" 2396 1615 3 1611 (.ref 1612) .none .none (.ref 1613) 2399),
 (1615,fo (ao 233) "recycled_places" (.none) gg (.ref 1614)),
 (1626,cd "b_split" "b_split" 2410 1635 3 1623 (.ref 1624) .none .none (.ref 1625) 2413),
 (1627,fo (ao 235) "b_split" (.none) gg (.ref 1626)),
 (1645,cd "unsplit_factor" "unsplit_factor" 2437 1680 4 1640 (.ref 1641) (.ref 1642) (.ref 1643) (.ref 1644) 2451),
 (1646,fo (ao 239) "unsplit_factor" (.none) gg (.ref 1645)),
 (1652,cd "b_unsplit" "b_unsplit" 2454 1695 3 1647 (.ref 1648) (.ref 1649) (.ref 1650) (.ref 1651) 2468),
 (1653,fo (ao 240) "b_unsplit" (.none) gg (.ref 1652)),
 (1657,cd "group_values" "group_values" 2471 1716 6 1654 (.ref 1655) .none .none (.ref 1656) 2474),
 (1658,fo (ao 241) "group_values" (.none) gg (.ref 1657))]
noncomputable def PT:List Nat:=[0,4,13,3,12,2,30,31,1603,1609,1610,1614,1615,1626,1627,1645,1646,1652,1653,1657,1658]
theorem PU (w:World)(os:OsState):(cT (cO w) cP 1 400 ⟨yB w.params,1582,#[],bh,2351,os⟩ (c7 228 14 ⟨1570,0,1578,37⟩)).map (cW PT)=
  some (.next,(1659,#[],bh,2477,os,(yC w.params++y0 w.params).map λp=>some p.2),cE,⟨1716,0,1724,16⟩):=by
 rfl'
noncomputable def y5 (P:Params):List (Nat×Obj):=[(1664,cd "are_single" "are_single" 2477 1725 1 1659 (.ref 1660) (.ref 1661) (.ref 1662) (.ref 1663) 2482),
 (1665,fo (ao 242) "are_single" (.none) gg (.ref 1664)),
 (1669,cd "simple_vector" "simple_vector" 2485 1730 2 1666 (.ref 1667) .none .none (.ref 1668) 2488),
 (1670,fo (ao 243) "simple_vector" (.none) gg (.ref 1669)),
 (1674,cd "b_tapply" "b_tapply" 2491 1739 3 1671 (.ref 1672) .none .none (.ref 1673) 2494),
 (1675,fo (ao 244) "b_tapply" (.none) gg (.ref 1674))]
noncomputable def PW:List Nat:=[0,4,13,3,12,2,30,31,1664,1665,1669,1670,1674,1675]
theorem PX (w:World)(os:OsState):(cT (cO w) cP 1 404 ⟨yC w.params,1659,#[],bh,2477,os⟩ (c7 242 15 ⟨1716,0,1724,16⟩)).map (cW PW)=
  some (.next,(1745,#[],bh,2585,os,(yD w.params++y5 w.params).map λp=>some p.2),cE,⟨1819,0,1827,34⟩):=by
 rfl'
noncomputable def y6 (P:Params):List (Nat×Obj):=[]
noncomputable def PY:List Nat:=[0,4,13,3,12,2,30,31]
theorem PZ (w:World)(os:OsState):(cT (cO w) cP 1 304 ⟨yD w.params,1745,#[],bh,2585,os⟩ (c7 257 4 ⟨1819,0,1827,34⟩)).map (cW PY)=
  some (.next,(1780,#[],bh,2644,os,(yE w.params++y6 w.params).map λp=>some p.2),cE,⟨1843,0,1852,28⟩):=by
 rfl'
noncomputable def y7 (P:Params):List (Nat×Obj):=[(1787,⟨.type "tuple",none,.seq #[.int 20000 2656,.int 40 2657] 0,#[]⟩),
 (1793,cd "__init__" "Evaluator.__init__" 2658 1855 3 1788 (.ref 1789) (.ref 1790) (.ref 1791) (.ref 1792) 2664),
 (1794,fo (bR 261 0) "Evaluator.__init__" (.ref 1787) jH (.ref 1793)),
 (1800,cd "new_env" "Evaluator.new_env" 2667 1876 2 1795 (.ref 1796) (.ref 1797) (.ref 1798) (.ref 1799) 2673),
 (1801,fo (bR 261 1) "Evaluator.new_env" (.none) jH (.ref 1800)),
 (1824,⟨.type "tuple",none,.seq #[.none] 0,#[]⟩),
 (1830,cd "warn_all" "Evaluator.warn_all" 2704 1894 3 1825 (.ref 1826) (.ref 1827) (.ref 1828) (.ref 1829) 2712),
 (1831,fo (bR 261 5) "Evaluator.warn_all" (.ref 1824) jH (.ref 1830)),
 (1937,cd "call_builtin" "Evaluator.call_builtin" 2868 2055 5 1932 (.ref 1933) (.ref 1934) (.ref 1935) (.ref 1936) 2881),
 (1938,fo (bR 261 20) "Evaluator.call_builtin" (.none) jH (.ref 1937)),
 (1968,⟨.type "tuple",none,.seq #[.none] 0,#[]⟩),
 (1974,cd "call_value" "Evaluator.call_value" 2935 2149 5 1969 (.ref 1970) (.ref 1971) (.ref 1972) (.ref 1973) 2943),
 (1975,fo (bR 261 25) "Evaluator.call_value" (.ref 1968) jH (.ref 1974)),
 (1984,⟨.type "dict",none,.dict [en P "__module__" 2651 jH,en P "__firstlineno__" 2655 (.int 1853 2654),en P "__init__" 2666 (.ref 1794),en P "new_env" 2675 (.ref 1801),en P "define" 2687 (.ref 1809),en P "tick" 2694 (.ref 1816),en P "signal_error" 2703 (.ref 1823),en P "warn_all" 2714 (.ref 1831),en P "running_call" 2721 (.ref 1838),en P "eval" 2731 (.ref 1845),en P "variable" 2742 (.ref 1852),en P "dots_value" 2752 (.ref 1859),en P "force" 2760 (.ref 1866),en P "find_function" 2771 (.ref 1874),en P "function_of" 2782 (.ref 1881),en P "eval_call" 2791 (.ref 1888),en P "plain_call" 2803 (.ref 1895),en P "spread_dots" 2812 (.ref 1902),en P "promise_args" 2825 (.ref 1909),en P "eager_args" 2842 (.ref 1917),en P "empty_arg" 2854 (.ref 1924),en P "call_special" 2867 (.ref 1931),en P "call_builtin" 2883 (.ref 1938),en P "apply_closure" 2902 (.ref 1946),en P "leave" 2914 (.ref 1953),en P "run_exits" 2925 (.ref 1960),en P "shower" 2934 (.ref 1967),en P "call_value" 2945 (.ref 1975),en P "run" 2955 (.ref 1982),en P "__static_attributes__" 2975 (.ref 1983),en P "__dict__" 2977 (.ref 1986),en P "__weakref__" 2979 (.ref 1987),en P "__doc__" 2980 (.none)].toArray 4,#[]⟩),
 (1985,⟨.type "type",none,.cls {name:="Evaluator",bases:=[.type "object"],mro:=[.ref 1985,.type "object"],ns:=1984,qualname:="Evaluator",subclasses:=[]},#[none,none,some (.str "Evaluator" 2644),some (.str "Evaluator" 2652),some (.builtin "object.__new__"),some (.bool true)]⟩)]
noncomputable def P0:List Nat:=[0,4,13,3,12,2,30,31,1787,1793,1794,1800,1801,1824,1830,1831,1937,1938,1968,1974,1975,1984,1985]
theorem P1 (w:World)(os:OsState):(cT (cO w) cP 1 1164 ⟨yE w.params,1780,#[],bh,2644,os⟩ (c7 261 1 ⟨1843,0,1852,28⟩)).map (cW P0)=
  some (.next,(1990,#[],bh,2983,os,(yF w.params++y7 w.params).map λp=>some p.2),cE,⟨1853,0,2164,20⟩):=by
 rfl'
noncomputable def vo (P:Params):List (Nat×Obj):=[(2009,cd "_law_shells" "_law_shells" 3004 2177 1 2004 (.ref 2005) (.ref 2006) (.ref 2007) (.ref 2008) 3011),
 (2010,fo (ao 265) "_law_shells" (.none) gC (.ref 2009)),
 (2016,cd "_law_said" "_law_said" 3014 2186 3 2011 (.ref 2012) (.ref 2013) (.ref 2014) (.ref 2015) 3021),
 (2017,fo (ao 266) "_law_said" (.none) gC (.ref 2016)),
 (2021,cd "_law_split_right" "_law_split_right" 3024 2191 2 2018 (.ref 2019) .none .none (.ref 2020) 3027),
 (2022,fo (ao 267) "_law_split_right" (.none) gC (.ref 2021)),
 (2026,cd "_law_combined_right" "_law_combined_right" 3030 2204 2 2023 (.ref 2024) .none .none (.ref 2025) 3033),
 (2027,fo (ao 268) "_law_combined_right" (.none) gC (.ref 2026)),
 (2033,cd "_law_factor" "_law_factor" 3036 2213 1 2028 (.ref 2029) (.ref 2030) (.ref 2031) (.ref 2032) 3041),
 (2034,fo (ao 269) "_law_factor" (.none) gC (.ref 2033)),
 (2038,cd "_law_undone_right" "_law_undone_right" 3044 2217 2 2035 (.ref 2036) .none .none (.ref 2037) 3047),
 (2039,fo (ao 270) "_law_undone_right" (.none) gC (.ref 2038)),
 (2040,⟨.type "tuple",none,.seq #[] 0,#[]⟩),
 (2041,⟨.none,none,.fields #[],#[]⟩),
 (2045,cd "_law_default_right" "_law_default_right" 3050 2228 2 2040 (.ref 2041) (.ref 2042) (.ref 2043) (.ref 2044) 3062),
 (2046,fo (ao 271) "_law_default_right" (.none) gC (.ref 2045)),
 (2052,cd "law" "law" 3065 2240 1 2047 (.ref 2048) (.ref 2049) (.ref 2050) (.ref 2051) 3071),
 (2053,fo (ao 272) "law" (.none) gC (.ref 2052))]
noncomputable def P2:List Nat:=[0,4,13,3,12,2,30,31,2009,2010,2016,2017,2021,2022,2026,2027,2033,2034,2038,2039,2040,2041,2045,2046,2052,2053]
theorem P4 (w:World)(os:OsState):(cT (cO w) cP 1 313 ⟨yF w.params,1990,#[],bh,2983,os⟩ (c7 262 11 ⟨1853,0,2164,20⟩)).map (cW P2)=
  some (.next,(2054,#[],bh,3074,os,(lP w.params++vo w.params).map λp=>some p.2),cE,⟨2240,0,2245,99⟩):=by
 rfl'
end
noncomputable section
noncomputable abbrev kQ:Option Value:=some (.ref 6)
noncomputable abbrev B0:List PySem.Frame:=[topFrame kP]
theorem P5 {w:World}{os:OsState}{s:Shared}{i m N n n' tk om:Nat}{pos pos':Pos}{D D' Nn old:List (Nat×Obj)}{as:List Nat}(k:Kn s n tk bh os (D++old))
  (h:(cT (cO w) cP 1 N ⟨D,n,#[],bh,tk,os⟩ (c7 i m pos)).map (cW as)=some (.next,(n',#[],bh,om,os,(D'++Nn).map λp=>some p.2),cE,pos'))
  (ha:(D'++Nn).map (·.1)=as)(oo:apart n (D.map (·.1)) (old.map (·.1))=true):
  ∃s',Kn s' n' om bh os (D'++(Nn++old))∧∀(M:Nat) (r:Shared),topRun treeTable aC w 11 kQ M s' (restOf (bE.drop (i+m)) mI cE pos' B0)=some r→
   topRun treeTable aC w 11 kQ (N+M) s (restOf (bE.drop i) mI cE pos B0)=some r:=by
 obtain⟨⟨f,q',c,p⟩,e,e'⟩:=eJ.mp h
 simp only[cW,kL]at e'
 obtain⟨rfl,e2,rfl,rfl⟩:=e'
 rw[←vh,←vj]at e
 unfold c7 at e
 rw[←NU]at e
 obtain⟨s',r1,N1⟩:=x8 k.ag e
 refine⟨s',?_,λM r hr=>?_⟩
 rw[←List.append_assoc]
 exact k.next N1 (by rw[e2]) ha oo
 have:=piece_app r1 hr
 rw[(by rw[←List.drop_drop,n_]:List.drop i bE=(List.drop i bE).take m++List.drop (i+m) bE)]
 exact this
noncomputable def sF (P:Params):List (Nat×Obj):=[(0,boot_o_0 P),(1,boot_o_1 P),(2,boot_o_2 P),(3,boot_o_3 P),(4,boot_o_4 P),(5,boot_o_5 P),(6,boot_o_6 P),(7,boot_o_7 P),(8,boot_o_8 P),(9,boot_o_9 P),(10,boot_o_10 P)]
noncomputable abbrev Dx (as:List Nat)(r:PS×Thread):Seen×Thread:=(seenOf as r.1,r.2)
theorem P6 (w:World)(os:OsState):(sC (cO w) cP 12 ⟨sF w.params,11,#[],bh,181,os⟩ (topStub aC)).map (Dx [0,4,13,3,12,2])=
  some ((15,#[],bh,187,os,(D0 w.params).map λp=>some p.2),⟨vg cE,cE,kP,B0⟩):=by
 rfl'
theorem P7 (w:World)(os:OsState):(cT (cO w) cP 1 1 ⟨D0 w.params,15,#[],bh,187,os⟩ (blockOf bE mI cE kP B0)).map (cW [0,4,13,3,12,2])=
  some (.next,(15,#[],bh,187,os,(D0 w.params).map λp=>some p.2),cE,kP):=by
 rfl'
theorem P8 (w:World)(os:OsState):(sC (cO w) cP 1 ⟨lP w.params,2054,#[],bh,3074,os⟩ ⟨doneF .next,cE,⟨2240,0,2245,99⟩,B0⟩).map (λr=>(seenOf [0,4,13,3,12,2,30,31] r.1,through r.2))=
  some ((2054,#[],bh,3074,os,(lP w.params++[]).map λ(p:Nat×Obj)=>some p.2),true):=by
 rfl'
noncomputable def Fin (w:World):List (Nat×Obj):=lP w.params++(vo w.params++(y7 w.params++(y6 w.params++(y5 w.params++(y0 w.params++(yZ w.params++(yY w.params++(yX w.params++(yW w.params++(yV w.params++(yU w.params++(yT w.params++(yS w.params++(yR w.params++(yQ w.params++(yP w.params++(yO w.params++(yN w.params++(yM w.params++(yL w.params++(yK w.params++(yJ w.params++(yI w.params++(yH w.params++(yG w.params++(N9 w.params++(N8 w.params++(N7 w.params++(N6 w.params++(N5 w.params++(N4 w.params++(N3 w.params++(N2 w.params++(N1 w.params++(N0 w.params++[])))))))))))))))))))))))))))))))))))
theorem P9:bE.drop 273=[]:=by rfl'
inductive vp (w:World)(os:OsState)(s:Shared)(i n tk:Nat)(pos:Pos)(L:List (Nat×Obj)):Prop
 |mk (s':Shared) (k:Kn s' n tk bh os L) (ot:Nat) (h:∀(M:Nat) (r:Shared),topRun treeTable aC w 11 kQ M s' (restOf (bE.drop i) mI cE pos B0)=some r→topRun treeTable aC w 11 kQ (ot+M) s (restOf bE mI cE kP B0)=some r)
theorem vp.step {w:World}{os:OsState}{s:Shared}{i m N n n' tk om:Nat}{pos pos':Pos}{D D' Nn old:List (Nat×Obj)}{as:List Nat}(l:vp w os s i n tk pos (D++old))
  (h:(cT (cO w) cP 1 N ⟨D,n,#[],bh,tk,os⟩ (c7 i m pos)).map (cW as)=some (.next,(n',#[],bh,om,os,(D'++Nn).map λp=>some p.2),cE,pos'))
  (ha:(D'++Nn).map (·.1)=as)(oo:apart n (D.map (·.1)) (old.map (·.1))=true):vp w os s (i+m) n' om pos' (D'++(Nn++old)):=by
 obtain⟨s1,k,ot,hh⟩:=l
 obtain⟨s2,k2,r2⟩:=P5 k h ha oo
 refine⟨s2,k2,ot+N,λM r hr=>?_⟩
 rw[Nat.add_assoc]
 exact hh _ _ (r2 _ _ hr)
theorem P_ (w:World)(os:OsState){s:Shared}(k0:Kn s 15 187 bh os (D0 w.params++[])):∃s':Shared,Kn s' 2054 3074 bh os (Fin w)∧∃ot:Nat,∀(M:Nat)(r:Shared),
  topRun treeTable aC w 11 kQ M s' ⟨doneF .next,cE,⟨2240,0,2245,99⟩,B0⟩=some r→topRun treeTable aC w 11 kQ (ot+M) s (restOf bE mI cE kP B0)=some r:=by
 have l:vp w os s 0 15 187 kP (D0 w.params++[]):=⟨s,k0,0,λM r hr=>by rw[Nat.zero_add];exact hr⟩
 have l:=l.step (D':=D1 w.params) (Nn:=N0 w.params) (OO w os) (by rfl') (by rfl')
 have l:=l.step (D':=D2 w.params) (Nn:=N1 w.params) (OQ w os) (by rfl') (by rfl')
 have l:=l.step (D':=D3 w.params) (Nn:=N2 w.params) (OS w os) (by rfl') (by rfl')
 have l:=l.step (D':=D4 w.params) (Nn:=N3 w.params) (OU w os) (by rfl') (by rfl')
 have l:=l.step (D':=D5 w.params) (Nn:=N4 w.params) (OW w os) (by rfl') (by rfl')
 have l:=l.step (D':=D6 w.params) (Nn:=N5 w.params) (OY w os) (by rfl') (by rfl')
 have l:=l.step (D':=D7 w.params) (Nn:=N6 w.params) (O0 w os) (by rfl') (by rfl')
 have l:=l.step (D':=D8 w.params) (Nn:=N7 w.params) (O2 w os) (by rfl') (by rfl')
 have l:=l.step (D':=D9 w.params) (Nn:=N8 w.params) (O4 w os) (by rfl') (by rfl')
 have l:=l.step (D':=yg w.params) (Nn:=N9 w.params) (O6 w os) (by rfl') (by rfl')
 have l:=l.step (D':=yh w.params) (Nn:=yG w.params) (O8 w os) (by rfl') (by rfl')
 have l:=l.step (D':=yi w.params) (Nn:=yH w.params) (O_ w os) (by rfl') (by rfl')
 have l:=l.step (D':=yj w.params) (Nn:=yI w.params) (Pb w os) (by rfl') (by rfl')
 have l:=l.step (D':=yk w.params) (Nn:=yJ w.params) (Pd w os) (by rfl') (by rfl')
 have l:=l.step (D':=yl w.params) (Nn:=yK w.params) (Pf w os) (by rfl') (by rfl')
 have l:=l.step (D':=ym w.params) (Nn:=yL w.params) (Ph w os) (by rfl') (by rfl')
 have l:=l.step (D':=yn w.params) (Nn:=yM w.params) (Pk w os) (by rfl') (by rfl')
 have l:=l.step (D':=yo w.params) (Nn:=yN w.params) (Pm w os) (by rfl') (by rfl')
 have l:=l.step (D':=yp w.params) (Nn:=yO w.params) (Po w os) (by rfl') (by rfl')
 have l:=l.step (D':=yq w.params) (Nn:=yP w.params) (Pq w os) (by rfl') (by rfl')
 have l:=l.step (D':=yr w.params) (Nn:=yQ w.params) (Pu w os) (by rfl') (by rfl')
 have l:=l.step (D':=yt w.params) (Nn:=yR w.params) (Px w os) (by rfl') (by rfl')
 have l:=l.step (D':=yu w.params) (Nn:=yS w.params) (Pz w os) (by rfl') (by rfl')
 have l:=l.step (D':=yv w.params) (Nn:=yT w.params) (PB w os) (by rfl') (by rfl')
 have l:=l.step (D':=yw w.params) (Nn:=yU w.params) (PD w os) (by rfl') (by rfl')
 have l:=l.step (D':=yx w.params) (Nn:=yV w.params) (PG w os) (by rfl') (by rfl')
 have l:=l.step (D':=yy w.params) (Nn:=yW w.params) (PI w os) (by rfl') (by rfl')
 have l:=l.step (D':=yz w.params) (Nn:=yX w.params) (PK w os) (by rfl') (by rfl')
 have l:=l.step (D':=yA w.params) (Nn:=yY w.params) (PN w os) (by rfl') (by rfl')
 have l:=l.step (D':=yB w.params) (Nn:=yZ w.params) (PR w os) (by rfl') (by rfl')
 have l:=l.step (D':=yC w.params) (Nn:=y0 w.params) (PU w os) (by rfl') (by rfl')
 have l:=l.step (D':=yD w.params) (Nn:=y5 w.params) (PX w os) (by rfl') (by rfl')
 have l:=l.step (D':=yE w.params) (Nn:=y6 w.params) (PZ w os) (by rfl') (by rfl')
 have l:=l.step (D':=yF w.params) (Nn:=y7 w.params) (P1 w os) (by rfl') (by rfl')
 have l:=l.step (D':=lP w.params) (Nn:=vo w.params) (P4 w os) (by rfl') (by rfl')
 obtain⟨s',k,ot,hh⟩:=l
 refine⟨s',k,ot,λM r hr=>hh M r ?_⟩
 show topRun treeTable aC w 11 kQ M s' (restOf (bE.drop 273) mI cE ⟨2240,0,2245,99⟩ B0)=some r
 rw[P9]
 exact hr
end
noncomputable section
noncomputable abbrev dq:=PySem.Challenge.rw_pq1440_01
theorem Qa (w:World)(os:OsState){bH:Shared}(k:Kn bH 11 181 bh os (sF w.params++[])):
  ∃av M,topRun treeTable aC w 11 kQ M bH (topStub aC)=some av∧Kn av 2054 3074 bh os (Fin w):=by
 obtain⟨⟨qa,ta⟩,ea,sG⟩:=eJ.mp (P6 w os)
 simp only[Dx,kL]at sG
 obtain⟨Qb,rfl⟩:=sG
 rw[←vh,←vj]at ea
 obtain⟨sa,ga,Na⟩:=yd k.ag ea
 have ka:Kn sa 15 187 bh os (D0 w.params++[]):=k.next (fs:=D0 w.params) Na Qb (by rfl') (by rfl')
 obtain⟨⟨fb,qb,cb,pb⟩,eb,Dz⟩:=eJ.mp (P7 w os)
 simp only[cW,kL]at Dz
 obtain⟨rfl,Qc,rfl,rfl⟩:=Dz
 rw[←vh,←vj]at eb
 obtain⟨sb,gb,Nb⟩:=x8 ka.ag eb
 have kb:Kn sb 15 187 bh os (D0 w.params++[]):=ka.next (fs:=D0 w.params) Nb Qc (by rfl') (by rfl')
 obtain⟨sc,kc,ot,hc⟩:=P_ w os kb
 obtain⟨⟨qd,td⟩,ed,DA⟩:=eJ.mp (P8 w os)
 simp only[kL]at DA
 obtain⟨DB,Qd⟩:=DA
 rw[←vh,←vj]at ed
 obtain⟨sd,gd,Nd⟩:=yd (Kn.ag (old:=_) kc) ed
 have kd:Kn sd _ _ bh os _:=kc.next (fs:=lP w.params) Nd (by rw[List.append_nil]at DB;exact DB) (by rfl') (by rfl')
 have r1:topRun treeTable aC w 11 kQ 1 sd td=some sd:=by unfold topRun;rw[Qd]
 have r2:=hc _ _ (go_top gd r1)
 have r3:=piece_block gb r2
 rw[←Dt]at ga
 have r4:=go_top ga r3
 exact⟨sd,_,r4,kd⟩
theorem iF {h h':Heap}{a:Addr}(e:h.get? a=h'.get? a):h.isNs a=h'.isNs a:=by unfold Heap.isNs;rw[e]
theorem vq {h h':Heap}{a:Addr}(e:h.get? a=h'.get? a):h.nsKeys a=h'.nsKeys a:=by unfold Heap.nsKeys;rw[e]
theorem jI {h h':Heap}{a:Addr}(e:h.get? a=h'.get? a):h.nsMap a=h'.nsMap a:=by funext x;unfold Heap.nsMap;rw[e]
theorem Qe {h h':Heap}{a:Addr}(e:h.get? a=h'.get? a):h.nsPairs a=h'.nsPairs a:=by unfold Heap.nsPairs;rw[e]
noncomputable def hB (P:Params):Heap:=⟨#[boot_o_0 P,boot_o_1 P,boot_o_2 P,boot_o_3 P,boot_o_4 P],{}⟩
noncomputable def hF (P:Params):Heap:=⟨#[boot_o_0 P,boot_o_1 P,vm P,oq P,boot_o_4 P],{}⟩
theorem y8 {w:World}{s:Shared}{n tk:Nat}{os:OsState}(k:Kn s n tk bh os (Fin w)):s.heap.get? builtinsNs=(hF w.params).get? builtinsNs∧s.heap.get? cStatics=(hF w.params).get? cStatics∧s.heap.get? mainGlobals=(hF w.params).get? mainGlobals∧s.heap.get? 4=(hF w.params).get? 4:=by
 refine⟨?_,?_,?_,?_⟩
 show s.heap.get? 0=_;rw[k.fs (0,boot_o_0 w.params) (gO _ (by unfold lP DD;exact bA))];rfl
 show s.heap.get? 2=_;rw[k.fs (2,vm w.params) (gO _ (by unfold lP DD;simp))];rfl
 show s.heap.get? 3=_;rw[k.fs (3,oq w.params) (gO _ (by unfold lP DD;simp))];rfl
 rw[k.fs (4,boot_o_4 w.params) (gO _ (by unfold lP DD;simp))];rfl
theorem Qf (P:Params):∀p∈sF P++[],(boot_heap P).get? p.1=some p.2:=by
 intro p hp
 simp only[sF,List.append_nil,aY,f9,gB]at hp
 rcases hp with rfl|rfl|rfl|rfl|rfl|rfl|rfl|rfl|rfl|rfl|rfl<;>rfl
theorem Qg (P:Params):PySem.W.staticsOk (importedModules aC.main.body) (hB P) (hF P)=true:=by rfl'
theorem Qh (P:Params):laidKept (hB P) (hF P)=true:=by rfl'
theorem Qi (P:Params):(hF P).accountedOkI (importedModules aC.main.body)=true:=by rfl'
theorem qW (P:Params):(hF P).isNs mainGlobals=true:=by rfl'
theorem DE (P:Params):(hF P).isNs builtinsNs=true:=by rfl'
theorem Qj (P:Params):(hF P).bltView=bltViewBooted:=by rfl'
noncomputable def inOrder:List Str→List Str→Bool
 | [],ks=>ks.isEmpty
 |b::bs,ks=>match ks with
  | []=>true
  |k::r=>match(k==b)with
   |true=>inOrder bs r
   |false=>inOrder bs (k::r)
theorem y9:∀{bs ks:List Str},inOrder bs ks=true→∀k∈ks,k∈bs
 | [],ks,h,k,hk=>by
  rw[List.isEmpty_iff.mp h]at hk;cases hk
 |b::bs,[],_,k,hk=>by cases hk
 |b::bs,x::r,h,k,hk=>by
  unfold inOrder at h
  dsimp only at h
  cases e:(x==b)with
  |true=>
   rw[e]at h
   rcases aY.mp hk with rfl|hk
   rw[beq_iff_eq.mp e];exact bA
   exact bw _ (y9 h k hk)
  |false=>rw[e]at h;exact bw _ (y9 h k hk)
theorem Qk (P:Params):(((hF P).nsKeys mainGlobals).take 9).all (λk=>startupNames.contains k)=true:=by
 rw[Fast.te12749700546528644094]
 rfl'
theorem Ql (P:Params):inOrder aC.boundNames (((hF P).nsKeys mainGlobals).drop 9)=true:=by
 rw[Fast.te18344453789297297638]
 rfl'
theorem Qm (P:Params):namesBound aC (hF P)=true:=by
 unfold namesBound
 rw[qW,Bool.true_and,←n_ 9 ((hF P).nsKeys mainGlobals),List.all_append,fN]
 refine⟨ew.mpr λk hk=>?_,ew.mpr λk hk=>?_⟩
 rw[ew.mp (Qk P) k hk];rfl
 rw[List.contains_iff_mem.mpr (y9 (Ql P) k hk),Bool.or_true]
theorem Qn (P:Params):(hB P).nsMap mainGlobals "__annotations__"=kQ:=by rfl'
theorem Qo (P:Params):(hF P).nsMap mainGlobals "__builtins__"=some (.ref 4):=by rfl'
theorem DF (w:World):(∃s,AfterRun (opening aC) w s)∧∀s,AfterRun (opening aC) w s→∃bH,fenceModules? aC s=some bH∧bH.gens= #[]∧∃av,TopRan aC w bH av∧av.asleep∧
  (∃os,Kn av 2054 3074 bh os (Fin w))∧av.heap.get? 1=some (boot_o_1 w.params):=by
 have h:=boot_open (p:=aC) (N:=3000) (by rfl') (by decide) (λs=>rfl) w
 obtain⟨bH,hs,hv⟩:=eJ.mp h
 rw[←table_eq_tree]at hs
 unfold fencedOpening at hs
 obtain⟨s,h4,h5⟩:=qN.mp hs
 have A:=AfterImport.of_importEnds h4
 refine⟨⟨s,A⟩,λs' lQ=>?_⟩
 obtain rfl:s'=s:=AfterImport.unique lQ A
 have z:bH.asleep:=Shared.asleep_of_life (fence_lifeW h5) A.life
 simp only[kL]at hv
 obtain⟨v1,v2,v3,v4⟩:=hv
 have k:Kn bH 11 181 bh bH.os (sF w.params++[]):=⟨by rw[v1];rfl,v2,by rw[v3];rfl,by rw[v4];rfl,rfl,by rw[v1];exact Qf _⟩
 obtain⟨av,M,hr,kF⟩:=Qa w bH.os k
 rw[←table_eq_tree]at hr
 obtain⟨a,l,os,fr⟩:=topRun_spec _ _ _ _ z hr
 have e1:bH.heap.get? 1=some (boot_o_1 w.params):=by rw[v1];rfl
 obtain⟨f0,f2,f3,f4⟩:=y8 kF
 have b0:bH.heap.get? builtinsNs=(hB w.params).get? builtinsNs:=by rw[v1];rfl
 have b2:bH.heap.get? cStatics=(hB w.params).get? cStatics:=by rw[v1];rfl
 have b3:bH.heap.get? mainGlobals=(hB w.params).get? mainGlobals:=by rw[v1];rfl
 have hg:av.heap.isNs mainGlobals=true:=(iF f3).trans (qW _)
 have hb:av.heap.isNs builtinsNs=true:=(iF f0).trans (DE _)
 have Qp:globalOf bH.heap "__annotations__"=kQ:=by
  have g0:bH.heap.isNs mainGlobals=true:=(iF b3).trans (by rfl')
  rw[Pin.globalOf_eq g0,jI b3];exact Qn _
 have mJ:PySem.W.staticsOk (importedModules aC.main.body) bH.heap av.heap=true:=by
  unfold PySem.W.staticsOk
  rw[iF b2,iF f2,vq b2,vq f2,jI b2,jI f2]
  exact Qg _
 have pE:laidKept bH.heap av.heap=true:=by
  unfold laidKept
  rw[iF b3,iF f3,jI b3,jI f3]
  exact Qh _
 have sH:av.heap.accountedOkI (importedModules aC.main.body)=true:=by
  unfold Heap.accountedOkI
  rw[iF f2,vq f2,jI f2]
  exact Qi _
 have pD:namesBound aC av.heap=true:=by
  unfold namesBound
  rw[iF f3,vq f3]
  exact Qm _
 have Qq:av.heap.bltView=bltViewBooted:=by
  unfold Heap.bltView
  rw[Qe f0]
  exact Qj _
 have ou:gensDone av=true:=by unfold gensDone;rw[kF.gens];rfl
 have y_:globalOf av.heap "__builtins__"=some (.ref 4):=by
  rw[Pin.globalOf_eq hg,jI f3];exact Qo _
 refine⟨bH,h5,v2,av,⟨a,l,Shared.rest_eq os,λb o hb hn=>fr b o (k.n▸f_ hb) (λq=>hn (.inl q)) (λq=>hn (.inr (.inl q))) (λq=>hn (.inr (.inr (Qp.trans q)))) hb,
  Heap.accountedI_of_ok sH,statics_of_ok mJ,Pin.keysAreStrs_of hg,λx hx=>(Pin.builtinOf_eq hb x).trans (Heap.of_bltView hb Qq x hx),?_,gens_of_done ou,names_of_bound pD,laid_of_kept pE⟩,Shared.asleep_of_life l z,⟨_,kF⟩,fr 1 _ (k.n▸f_ e1) (by decide) (by decide) (by decide) e1⟩
 exact⟨4,boot_o_4 w.params,y_,f4,rfl,rfl⟩
end
noncomputable section
theorem DG (P:Params):(hF P).nsMap mainGlobals "law"=some (.ref 2053):=by rfl'
theorem Qr:aC.theDef "law"=some (sE (ao 272),bodyOf (ao 272),bz (ao 272)):=by
 rw[Fast.te10235530238920679567]
 rfl'
section
open TablesWhole
variable{α:Type}{A:Alg α}{m:PySem.Module}
noncomputable abbrev eR (A:Alg α)(m:PySem.Module)(b:List Stmt):α:=wSs A m.scope ⟨m.scope,[],[],[],none⟩ m.scope b
theorem za (H:∀x y,A.both x y=A.unit↔x=A.unit∧y=A.unit):∀{a b:List Stmt},eR A m a=A.unit→eR A m b=A.unit→eR A m (a++b)=A.unit
 | [],_,_,h=>h
 |_::_,_,h,h'=>have h:=(H _ _).1 h;(H _ _).2 ⟨h.1,za H h.2 h'⟩
theorem DH (H:∀x y,A.both x y=A.unit↔x=A.unit∧y=A.unit)(h0:eR A m (m.body.take 100)=A.unit)(h1:eR A m ((m.body.drop 100).take 80)=A.unit)(h2:eR A m ((m.body.drop 100).drop 80)=A.unit):eR A m m.body=A.unit:=by
 rw[←n_ 100 m.body,←n_ 80 (m.body.drop 100)]
 exact za H h0 (za H h1 h2)
theorem Qs (e:eR gather m m.body=[])(f:eR holds m m.body=true)(n:noTwice m.scope=true):wModule holds m=true:=by
 unfold wModule
 unfold eR at e
 dsimp only
 rw[e]
 show(true&&(noTwice m.scope&&(eR holds m m.body&&true)))=true
 rw[f,n]
 rfl
theorem Qt:eR gather aC.main (aC.main.body.take 100)=[]:=by
 unfold eR;rw[qL,xY];rfl'
theorem to2:eR gather aC.main ((aC.main.body.drop 100).take 80)=[]:=by
 unfold eR;rw[qL,xY];rfl'
theorem to3:eR gather aC.main ((aC.main.body.drop 100).drop 80)=[]:=by
 unfold eR;rw[qL,xY];rfl'
theorem Qu:eR holds aC.main (aC.main.body.take 100)=true:=by
 unfold eR holds Scope.bears;rw[qL,Fast.sDec_eq];rfl'
theorem Qv:eR holds aC.main ((aC.main.body.drop 100).take 80)=true:=by
 unfold eR holds Scope.bears;rw[qL,Fast.sDec_eq];rfl'
theorem Qw:eR holds aC.main ((aC.main.body.drop 100).drop 80)=true:=by
 unfold eR holds Scope.bears;rw[qL,Fast.sDec_eq];rfl'
theorem nt:noTwice aC.main.scope=true:=by
 rw[Fast.te8331962902438777018];rfl'
theorem Qy:wModule holds aC.main=true:=
 Qs (DH (A:=gather) (by simp[gather]) Qt to2 to3) (DH (A:=holds) (by simp[holds]) Qu Qv Qw) nt
end
theorem Qz:aC.tablesWhole=true:=by
 unfold Program.tablesWhole TablesWhole.wProgram
 rw[Qy]
 rfl
theorem QA:aC.bare:=⟨rfl,rfl,rfl,rfl,rfl,Qz⟩
theorem QC:opensWell aC=true:=by decide+kernel
theorem QE:(frees dq.row.toRowW&&dq.row.within.isEmpty)=true:=by decide+kernel
theorem DI:dq.row.toRowW.promised:=⟨[.list []],by decide+kernel,by decide+kernel⟩
noncomputable abbrev i8:ClaimW:=dq.row.toRowW.claim
theorem QF {w:World}{s:Shared}{n tk:Nat}{os:OsState}(k:Kn s n tk bh os (Fin w)):s.heap.get? 2053=some (fo (ao 272) "law" (.none) gC (.ref 2052)):=
 k.fs (2053,_) (by
  unfold Fin
  refine jy _ (gO _ ?_)
  unfold vo
  simp only[aY,kL,Nat.reduceEqDiff,false_and,false_or,true_and]
  simp[fo])
theorem QG {w:World}{s:Shared}{n tk:Nat}{os:OsState}(k:Kn s n tk bh os (Fin w)):isTheDefsW aC s.heap "law":=by
 obtain⟨f0,f2,f3,f4⟩:=y8 k
 have hg:s.heap.isNs mainGlobals=true:=(iF f3).trans (qW _)
 exact⟨2053,_,_,_,_,_,by rw[Pin.globalOf_eq hg,jI f3];exact DG _,QF k,rfl,Qr,by rfl',rfl,rfl,rfl,rfl,rfl,rfl,rfl,.inl ⟨by rfl',rfl⟩,[],by rfl',.inl ⟨rfl,rfl⟩⟩
theorem QH (zd:dq.row.wellSaid=true)
  (call:∀(w:World)(bH av:Shared)(os:OsState),Kn bH 2054 3074 bh os (Fin w)→bH.heap.get? 1=some (boot_o_1 w.params)→∀(args:List WData)(vs:List Value)(as:List Addr),
   i8.pre args=true→WData.layableAll args=true→Laid [] w bH av args vs as→
    wpAny (model aC w) callerA (PySem.call (.ref 2053) vs) (λv s'=>GoodWG i8 (classAt bH.heap) (ExcName.means bH.heap) args av (.ok (.ret v)) s')
     (λe s'=>GoodWG i8 (classAt bH.heap) (ExcName.means bH.heap) args av (.error e) s') av):dq.row.Holds:=by
 refine⟨zd,DI,⟨QA,QC,rfl⟩,DI.witness,λw=>⟨(DF w).1,λs' lQ=>?_⟩⟩
 obtain⟨bH,hf,vt,s,hT,hz,⟨os,k⟩,k1⟩:=(DF w).2 s' lQ
 obtain⟨f0,f2,f3,f4⟩:=y8 k
 have hg:s.heap.isNs mainGlobals=true:=(iF f3).trans (qW _)
 refine⟨bH,hf,vt,s,hT,λn hn=>?_,λx hx=>(nomatch hx),λx hx=>(nomatch hx),?_⟩
 obtain rfl:n="law":=by
  have:n∈(["law"]:List Str):=hn
  simpa using this
 exact QG k
 have ou:s.gens= #[]:=k.gens
 obtain⟨DJ,hu,ha,oo,hm⟩:=frees_parts (mC.mp QE).1
 refine ClaimW.callFrom_of_specG (c:=i8) (tree:=fun vs=>do match←nsGet mainNs "law"with
   |some f=>do ret (←PySem.call f vs)
   |none=>unsupported "claim.caller:no-such-global") hz ou fun args vv ze ord DK=>?_
 obtain⟨⟨vs,av⟩,sI⟩:=r8.mp (layAllW_isSome (R:=[]) (P:=w.params) (ord:=ord) (cl:=classAt s.heap) (λc hc=>(nomatch hc)) args dq.row.args s (pre_splitW vv).1)
 have keeps:=layAllW_keeps _ _ _ sI
 have vw:=layAllW_rest _ _ _ sI
 obtain⟨as,QI,QJ,hold⟩:=reads_layAllW DK _ _ _ sI ze av.heap (λ_ _ e=>e)
 have L:Laid [] w s av args vs as:=⟨⟨ord,DK,sI⟩,QI,QJ,hold,keeps,vw.1.trans ou,vw.2.2.1⟩
 have h:=call w s av os k k1 args vs as vv ze L
 have hi:=ident_freeW hu ha oo
 have DL:i8.within=[]:=rfl
 have hV:av.heap.Ns mainGlobals (s.heap.nsMap mainGlobals):=(Heap.Ns.of_isNs hg).keeps keeps
 refine⟨vs,av,sI,aP (wpAny_nsGet hV ?_)⟩
 rw[(by rw[jI f3];exact DG _:s.heap.nsMap mainGlobals "law"=some (.ref 2053))]
 exact aP (j_ h (λv s' g=>bY ⟨_,rfl,have z:=g.laid (c:=i8) DJ DL hi L;⟨z.1,z.2.1,z.2.2,λq=>(nomatch q)⟩⟩)
  λe s' g=>have z:=g.laid (c:=i8) DJ DL hi L;⟨z.1,z.2.1,z.2.2,λq=>(nomatch q)⟩)
end
set_option genInjectivity true in
inductive V where
 |none|bool (b:Bool)|int (i:Int)|str (s:Str)|ref (a:Addr)|cK (v:Value)
noncomputable def er:Value→V
 |.none=>.none
 |.bool b=>.bool b
 |.int i _=>.int i
 |.str s _=>.str s
 |.ref a=>.ref a
 |v=>.cK v
noncomputable def sJ:V→Value
 |.none=>.none
 |.bool b=>.bool b
 |.int i=>.int i 0
 |.str s=>.str s 0
 |.ref a=>.ref a
 |.cK v=>v
theorem zf (v:Value):(∃i t,v=.int i t)∨(∃x t,v=.str x t)∨v=sJ (er v):=by
 cases v<;>first|exact .inr (.inr rfl)|exact .inl ⟨_,_,rfl⟩|exact .inr (.inl ⟨_,_,rfl⟩)
theorem sL {v:Value}{u:V}(h:er v=u)(n:∀i,V.int i=u→False)(m:∀x,V.str x=u→False):v=sJ u:=by
 rcases zf v with⟨i,t,e⟩|⟨x,t,e⟩|e
 exact(n i (h▸e▸rfl)).elim
 exact(m x (h▸e▸rfl)).elim
 exact e.trans (gf sJ h)
theorem ke {v:Value}(h:er v=.none):v=.none:=sL h (λ_=>V.noConfusion) λ_=>V.noConfusion
theorem mK {v:Value}{b:Bool}(h:er v=.bool b):v=.bool b:=sL h (λ_=>V.noConfusion) λ_=>V.noConfusion
theorem vx {v:Value}{a:Addr}(h:er v=.ref a):v=.ref a:=sL h (λ_=>V.noConfusion) λ_=>V.noConfusion
theorem DM {v:Value}{n:String}(h:er v=.cK (.type n)):v=.type n:=sL h (λ_=>V.noConfusion) λ_=>V.noConfusion
theorem QK {v:Value}{n:String}(h:er v=.cK (.builtin n)):v=.builtin n:=sL h (λ_=>V.noConfusion) λ_=>V.noConfusion
theorem QL {v:Value}{i:Int}(h:er v=.int i):∃t,v=.int i t:=by
 rcases zf v with⟨i,t,rfl⟩|⟨x,t,rfl⟩|e
 exact⟨t,V.int.inj h▸rfl⟩
 cases h
 exact⟨0,e.trans (gf sJ h)⟩
theorem DN {v:Value}{x:Str}(h:er v=.str x):∃t,v=.str x t:=by
 rcases zf v with⟨i,t,rfl⟩|⟨x,t,rfl⟩|e
 cases h
 exact⟨t,V.str.inj h▸rfl⟩
 exact⟨0,e.trans (gf sJ h)⟩
@[elab_as_elim] theorem bJ {P:Value→Prop}{v:Value}{a:Addr}(h:er v=.ref a) (k:P (.ref a)):P v:=vx h▸k
@[elab_as_elim] theorem cL {P:Value→Prop}{v:Value}{i:Int}(h:er v=.int i) (k:∀t,P (.int i t)):P v:=by
 obtain⟨t,rfl⟩:=QL h;exact k t
@[elab_as_elim] theorem gh {P:Value→Prop}{v:Value}{x:Str}(h:er v=.str x) (k:∀t,P (.str x t)):P v:=by
 obtain⟨t,rfl⟩:=DN h;exact k t
@[elab_as_elim] theorem bZ {α β:Type}{P:β→Prop}{f:α→β}{l:List α}{b:β}(h:b∈l.map f) (k:∀a,a∈l→P (f a)):P b:=by
 obtain⟨a,ha,rfl⟩:=cF.mp h;exact k a ha
set_option genInjectivity true in
inductive MO where
 |list (xs:List V)
 |tup (xs:List V)
 |dict (kvs:List (Str×V))
 |inst (C:Addr) (fs:List (Str×Option V))
 |range (a b c:Int)
 |raw (o:Obj) (od:Option Obj)
noncomputable abbrev Hp:=Addr→Option MO
noncomputable abbrev LO:=List (Option V)
noncomputable abbrev LV:=List (Str×V)
noncomputable abbrev PQ:=V→Hp→Prop
noncomputable def upd (σ:Hp)(a:Addr)(o:MO):Hp:=λb=>if b=a then some o else σ b
noncomputable def Kv (w:World)(e:DictEntry)(x:Str):Prop:=∃t,e.key=.str x t∧e.hash=PyData.keyHash w.params x
noncomputable def fB (w:World)(e:DictEntry)(p:Str×Option V):Prop:=Kv w e p.1∧∀v,p.2=some v→er e.val=v
inductive br {α β:Type}(R:α→β→Prop):List α→List β→Prop
 |nil:br R [] []
 |cons {a b l m}:R a b→br R l m→br R (a::l) (b::m)
noncomputable def eK (o:Obj):Option Addr:=match o.data with
 |.cell _=>none
 |_=>o.dict
theorem br.ex {α β:Type}{R:α→β→Prop}{l:List α}{m:List β}(h:br R l m):∀x∈l,∃y,R x y:=by
 induction h with
 |nil=>intro x h;cases h
 |cons h _ ih=>
  intro x hm
  rcases aY.mp hm with rfl|hm
  exact⟨_,h⟩
  exact ih x hm
theorem br.map {α β γ:Type}{R:α→γ→Prop}{f:β→γ}{l:List α}{m:List β}(h:br (λa b=>R a (f b)) l m):br R l (m.map f):=by
 induction h with
 |nil=>exact .nil
 |cons h _ ih=>exact .cons h ih
theorem br.inv {α β:Type}{R:α→β→Prop}{l:List α}{b:β}{m:List β}(h:br R l (b::m)):∃a t,l=a::t∧R a b∧br R t m:=by
 cases h with|cons h1 h2=>exact⟨_,_,rfl,h1,h2⟩
theorem QM {α β:Type}{R:α→β→Prop}{l:List α}{w x y z:β}(h:br R l [w,x,y,z]):∃a b c d,l=[a,b,c,d]∧R a w∧R b x∧R c y∧R d z:=by
 obtain⟨a,l1,e1,h1,g1⟩:=h.inv
 obtain⟨b,l2,e2,h2,g2⟩:=g1.inv
 obtain⟨c,l3,e3,h3,g3⟩:=g2.inv
 obtain⟨d,l4,e4,h4,g4⟩:=g3.inv
 cases g4
 exact⟨a,b,c,d,by rw[e1,e2,e3,e4],h1,h2,h3,h4⟩
theorem zg {o:Obj}(h:o.dict=none):eK o=none:=by unfold eK;split<;>first|rfl|exact h
inductive DO (T:String)(h:Heap)(a:Addr)(xs:List V):Prop
 |mk (n:Nat) (vs:Array Value) (e:h.get? a=some {cls:=.type T,data:=.seq vs n}) (r:vs.toList.map er=xs)
inductive QN (w:World)(h:Heap)(a:Addr)(kvs:LV):Prop
 |mk (n:Nat) (es:Array DictEntry) (e:h.get? a=some {cls:=.type "dict",data:=.dict es n}) (kv:List (Str×Value)) (k1:KeysOf (strKind aC w) es) (k2:Pairs (strKind aC w) es.toList kv) (k3:(kv.map (·.1)).Nodup) (k4:kv.map (fun p=>(p.1,er p.2))=kvs)
inductive QO (w:World)(h:Heap)(a C:Addr)(fs:List (Str×Option V)):Prop
 |mk (d:Addr) (n:Nat) (es:Array DictEntry) (sl:Array (Option Value)) (e:h.get? a=some ⟨.ref C,some d,.plain,sl⟩) (e2:h.get? d=some {cls:=.type "dict",data:=.dict es n}) (f:br (fB w) es.toList fs) (nd:(fs.map (·.1)).Nodup)
noncomputable def At (w:World)(h:Heap)(a:Addr):MO→Prop
 |.list xs=>DO "list" h a xs
 |.tup xs=>DO "tuple" h a xs
 |.dict kvs=>QN w h a kvs
 |.inst C fs=>QO w h a C fs
 |.range i j c=>∃t u v,h.get? a=some {cls:=.type "range",dict:=none,data:=.fields #[.int i t,.int j u,.int c v],slots:= #[]}
 |.raw o od=>h.get? a=some o∧∀d,eK o=some d→∃x,od=some x∧h.get? d=some x
noncomputable def dictAt (h:Heap)(a:Addr):Option Addr:=(h.get? a).bind eK
noncomputable def foot (h:Heap)(a:Addr):List Addr:=a::(dictAt h a).toList
theorem bD {h:Heap}{a b:Addr}:b∈foot h a↔b=a∨dictAt h a=some b:=by
 unfold foot
 rw[aY,Option.mem_toList]
structure HR (w:World)(h:Heap)(σ:Hp):Prop where
 at_:∀a o,σ a=some o→At w h a o
 apart:∀a b oa ob,σ a=some oa→σ b=some ob→a≠b→∀x,x∈foot h a→x∈foot h b→False
 fin:∃l:List Addr,∀a o,σ a=some o→a∈l
theorem At.live {w:World}{h:Heap}{a:Addr}{o:MO}(x:At w h a o):∀b∈foot h a,∃ob,h.get? b=some ob:=by
 intro b hb
 cases o with
 |list xs=>obtain⟨n,vs,e,_⟩:=x;rcases bD.mp hb with rfl|q;exact⟨_,e⟩;simp[dictAt,eK,e]at q
 |tup xs=>obtain⟨n,vs,e,_⟩:=x;rcases bD.mp hb with rfl|q;exact⟨_,e⟩;simp[dictAt,eK,e]at q
 |dict xs=>obtain⟨n,vs,e,_⟩:=x;rcases bD.mp hb with rfl|q;exact⟨_,e⟩;simp[dictAt,eK,e]at q
 |range i j c=>obtain⟨t,u,v,e⟩:=x;rcases bD.mp hb with rfl|q;exact⟨_,e⟩;simp[dictAt,eK,e]at q
 |raw o od=>
  obtain⟨e,h2⟩:=x
  rcases bD.mp hb with rfl|q
  exact⟨_,e⟩
  simp only[dictAt,e,Option.bind_some]at q;obtain⟨y,_,g⟩:=h2 _ q;exact⟨_,g⟩
 |inst C fs=>
  obtain⟨d,n,es,sl,e,e2,_⟩:=x
  rcases bD.mp hb with rfl|q
  exact⟨_,e⟩
  simp[dictAt,eK,e]at q;subst q;exact⟨_,e2⟩
theorem ey {h h':Heap}{a:Addr}(e:h'.get? a=h.get? a):foot h' a=foot h a:=by unfold foot dictAt;rw[e]
theorem At.same {w:World}{h h':Heap}{a:Addr}{o:MO}(x:At w h a o)(e:∀b∈foot h a,h'.get? b=h.get? b):At w h' a o:=by
 have ea:=e a (bD.mpr (.inl rfl))
 cases o with
 |list xs=>obtain⟨n,vs,q,r⟩:=x;exact⟨n,vs,ea.trans q,r⟩
 |tup xs=>obtain⟨n,vs,q,r⟩:=x;exact⟨n,vs,ea.trans q,r⟩
 |dict xs=>obtain⟨n,vs,q,kv,k1,k2,k3,k4⟩:=x;exact⟨n,vs,ea.trans q,kv,k1,k2,k3,k4⟩
 |range i j c=>obtain⟨t,u,v,q⟩:=x;exact⟨t,u,v,ea.trans q⟩
 |raw o od=>
  obtain⟨q,r⟩:=x
  exact⟨ea.trans q,λd hd=>let⟨y,e1,e2⟩:=r d hd;⟨y,e1,(e d (bD.mpr (.inr (by simp[dictAt,q,hd])))).trans e2⟩⟩
 |inst C fs=>
  obtain⟨d,n,es,sl,q,q2,r,r'⟩:=x
  exact⟨d,n,es,sl,ea.trans q,(e d (bD.mpr (.inr (by simp[dictAt,eK,q])))).trans q2,r,r'⟩
theorem HR.same {w:World}{h h':Heap}{σ:Hp}(H:HR w h σ)(e:∀a o,σ a=some o→∀b∈foot h a,h'.get? b=h.get? b):HR w h' σ:=by
 have fs:∀a o,σ a=some o→foot h' a=foot h a:=λa o s=>ey (e a o s a (bD.mpr (.inl rfl)))
 exact⟨λa o s=>(H.at_ a o s).same (e a o s),λa b oa ob sa sb ne x xa xb=>H.apart a b oa ob sa sb ne x (fs a oa sa▸xa) (fs b ob sb▸xb),H.fin⟩
theorem HR.grow {w:World}{h h':Heap}{σ:Hp}(H:HR w h σ)(e:∀b o,h.get? b=some o→h'.get? b=some o):HR w h' σ:=
 H.same λa o s b hb=>by obtain⟨ob,q⟩:=(H.at_ a o s).live b hb;rw[q];exact e b ob q
theorem ai (σ:Hp)(a:Addr)(o:MO):upd σ a o a=some o:=by simp[upd]
theorem aJ {σ:Hp}{a b:Addr}{o:MO}(h:b≠a):upd σ a o b=σ b:=by simp[upd,h]
theorem QP {σ:Hp}{a b:Addr}{o x:MO}(hf:σ a=none)(h:σ b=some x):upd σ a o b=some x:=by
 rw[aJ];exact h
 rintro rfl;rw[hf]at h;cases h
theorem HR.new {w:World}{h h':Heap}{σ:Hp}{a:Addr}{o:MO}(H:HR w h σ)(e:∀b o,h.get? b=some o→h'.get? b=some o)(ha:At w h' a o)
  (hn:∀b∈foot h' a,h.get? b=none):HR w h' (upd σ a o)∧σ a=none:=by
 have G:=H.grow e
 have fr:σ a=none:=by
  cases q:σ a with
  |none=>rfl
  |some x=>
   obtain⟨ob,z⟩:=(H.at_ a x q).live a (bD.mpr (.inl rfl))
   rw[hn a (bD.mpr (.inl rfl))]at z;cases z
 have old:∀b ob,σ b=some ob→∀x∈foot h' b,h.get? x≠none:=λb ob sb x hx q=>by
  obtain⟨z,hz⟩:=(H.at_ b ob sb).live b (bD.mpr (.inl rfl))
  have:foot h' b=foot h b:=ey (by rw[hz];exact e _ _ hz)
  rw[this]at hx
  obtain⟨y,hy⟩:=(H.at_ b ob sb).live x hx
  rw[q]at hy;cases hy
 refine⟨⟨λb ob sb=>?_,λb c ob oc sb sc ne x xb xc=>?_,?_⟩,fr⟩
 by_cases hb:b=a
 subst hb;rw[ai]at sb;cases sb;exact ha
 rw[aJ hb]at sb;exact G.at_ b ob sb
 by_cases hb:b=a
 subst hb
 have hc:c≠b:=Ne.symm ne
 rw[aJ hc]at sc
 exact old c oc sc x xc (hn x xb)
 rw[aJ hb]at sb
 by_cases hc:c=a
 subst hc;exact old b ob sb x xb (hn x xc)
 rw[aJ hc]at sc;exact G.apart b c ob oc sb sc ne x xb xc
 obtain⟨l,hl⟩:=H.fin
 refine⟨a::l,λb ob sb=>?_⟩
 by_cases hb:b=a
 subst hb;exact bA
 rw[aJ hb]at sb;exact bw _ (hl b ob sb)
theorem HR.set {w:World}{h h':Heap}{σ:Hp}{a x:Addr}{o o':MO}(H:HR w h σ)(ha:σ a=some o)(hx:x∈foot h a)(hs:∀b,b≠x→h'.get? b=h.get? b)
  (cM:At w h' a o')(hf:foot h' a=foot h a):HR w h' (upd σ a o'):=by
 have cK:∀b ob,σ b=some ob→b≠a→∀y∈foot h b,h'.get? y=h.get? y:=λb ob sb ne y hy=>hs y λq=>by
  subst q;exact H.apart b a ob o sb ha ne y hy hx
 have fo:∀b ob,σ b=some ob→foot h' b=foot h b:=λb ob sb=>by
  by_cases hb:b=a
  rw[hb];exact hf
  exact ey (cK b ob sb hb b (bD.mpr (.inl rfl)))
 have low:∀b ob,upd σ a o' b=some ob→∃fO,σ b=some fO:=λb ob sb=>by
  by_cases hb:b=a
  exact⟨o,hb▸ha⟩
  rw[aJ hb]at sb;exact⟨ob,sb⟩
 refine⟨λb ob sb=>?_,λb c ob oc sb sc ne y yb yc=>?_,?_⟩
 by_cases hb:b=a
 subst hb;rw[ai]at sb;cases sb;exact cM
 rw[aJ hb]at sb;exact(H.at_ b ob sb).same (cK b ob sb hb)
 obtain⟨fO,mL⟩:=low b ob sb
 obtain⟨sM,sN⟩:=low c oc sc
 exact H.apart b c fO sM mL sN ne y (fo b fO mL▸yb) (fo c sM sN▸yc)
 obtain⟨l,hl⟩:=H.fin
 exact⟨l,λb ob sb=>let⟨fO,mL⟩:=low b ob sb;hl b fO mL⟩
inductive VK where
 |loc|cell|free
noncomputable abbrev SN:=List (Str×NameKind)
noncomputable abbrev KV:=List (Str×VK)
structure Ctx where
 A₀:Around
 A:Around
 base:Heap
 h₀:Heap
 outer:List Env
 iG:Env
 FL:Addr
 env:Env
 kp:List (Addr×Obj)
 vars:KV
 gls:LV
 fm:Option (Str→Option Value)
 d:Nat
 os:OsState
noncomputable def Ctx.bM (Γ:Ctx):List Addr:=Γ.FL::Γ.env.locals::(Γ.env.cells.map (·.2)++Γ.kp.map (·.1))
inductive Lk:KV→LO→Str→VK→V→Prop
 |here {x k vs v ρ}:Lk ((x,k)::vs) (some v::ρ) x k v
 |there {x k vs v ρ p o}:Lk vs ρ x k v→Lk (p::vs) (o::ρ) x k v
theorem Lk.inv {p:Str×VK}{vs:KV}{o:Option V}{ρ:LO}{x:Str}{k:VK}{v:V}(h:Lk (p::vs) (o::ρ) x k v):(p=(x,k)∧o=some v)∨Lk vs ρ x k v:=by
 cases h with|here=>exact .inl ⟨rfl,rfl⟩|there h=>exact .inr h
theorem aD {p0 x k vs o0 v ρ}:Lk (p0::(x,k)::vs) (o0::some v::ρ) x k v:=.there (.here)
theorem qX {p0 p1 x k vs o0 o1 v ρ}:Lk (p0::p1::(x,k)::vs) (o0::o1::some v::ρ) x k v:=.there (.there (.here))
theorem qY {p0 p1 p2 x k vs o0 o1 o2 v ρ}:Lk (p0::p1::p2::(x,k)::vs) (o0::o1::o2::some v::ρ) x k v:=.there (.there (.there (.here)))
theorem sO {p0 p1 p2 p3 x k vs o0 o1 o2 o3 v ρ}:Lk (p0::p1::p2::p3::(x,k)::vs) (o0::o1::o2::o3::some v::ρ) x k v:=.there (.there (.there (.there (.here))))
theorem QQ {p0 p1 p2 p3 p4 p5 x k vs o0 o1 o2 o3 o4 o5 v ρ}:Lk (p0::p1::p2::p3::p4::p5::(x,k)::vs) (o0::o1::o2::o3::o4::o5::some v::ρ) x k v:=.there (.there (.there (.there (.there (.there (.here))))))
theorem QR {p0 p1 p2 p3 p4 p5 p6 x k vs o0 o1 o2 o3 o4 o5 o6 v ρ}:Lk (p0::p1::p2::p3::p4::p5::p6::(x,k)::vs) (o0::o1::o2::o3::o4::o5::o6::some v::ρ) x k v:=.there (.there (.there (.there (.there (.there (.there (.here)))))))
theorem QS {p0 p1 p2 p3 p4 p5 p6 p7 p8 x k vs o0 o1 o2 o3 o4 o5 o6 o7 o8 v ρ}:Lk (p0::p1::p2::p3::p4::p5::p6::p7::p8::(x,k)::vs) (o0::o1::o2::o3::o4::o5::o6::o7::o8::some v::ρ) x k v:=.there (.there (.there (.there (.there (.there (.there (.there (.there (.here)))))))))
theorem Lk.mem {vs:KV}{ρ:LO}{x:Str}{k:VK}{v:V}(h:Lk vs ρ x k v):(x,k)∈vs:=by
 induction h with
 |here=>exact bA
 |there _ ih=>exact bw _ ih
noncomputable def DP (env:Env)(h:Heap)(m:Str→Option Value)(x:Str)(v:V):VK→Prop
 |.loc=>∃val,m x=some val∧er val=v
 |_=>∃c val,env.cells.lookup x=some c∧h.IsCell c (some val)∧er val=v
noncomputable def DQ (env:Env)(p:Str×VK):Prop:=match p.2 with
 |.loc=>env.kindOf p.1=some .local
 |.cell=>env.kindOf p.1=some .cell∧∃c,env.cells.lookup p.1=some c
 |.free=>env.kindOf p.1=some .free
structure Known (w:World)(h:Heap):Prop where
 fin:∀p∈Fin w,p.1≠2041→h.get? p.1=some p.2
 sys:h.get? 1=some (boot_o_1 w.params)
theorem Known.keeps {w:World}{h h':Heap}(k:Known w h)(e:∀b o,h.get? b=some o→h'.get? b=some o):Known w h':=⟨λp hp hn=>e _ _ (k.fin p hp hn),e _ _ k.sys⟩
theorem Known.at {w:World}{h:Heap}(k:Known w h){a:Addr}{o:Obj}(e:lk (Fin w) a=some o)(hn:a≠2041:=by decide):h.get? a=some o:=k.fin (a,o) (vf e) hn
noncomputable def i9 (w:World)(x:Str):Option Value:=match(hF w.params).nsMap mainGlobals x with
 |some v=>some v
 |none=>(hF w.params).nsMap builtinsNs x
structure QU (w:World)(env:Env)(p:Str×V):Prop where
 kind:env.kindOf p.1=some .globalImplicit
 nd:(p.1==("__debug__":Str))=false
 val:∃v,i9 w p.1=some v∧er v=p.2
structure bt (w:World)(Γ:Ctx):Prop where
 hh:Γ.A.handled=none
 sP:∀p∈Γ.vars,(p.1==("__debug__":Str))=false∧(p.1==("__classdict__":Str))=false
 gl:∀p∈Γ.gls,QU w Γ.env p
 B:Below Γ.A₀ Γ.base Γ.outer Γ.h₀
 hA:Γ.A.frames=some (Γ.iG::Γ.outer)
 hf:Γ.iG.frame=some Γ.FL
 hk:Γ.iG.scope.kind=.function
 ek:Γ.env.scope.kind=.function
 eg:Γ.env.globals=mainGlobals
 eb:Γ.env.builtins=builtinsNs
 ef:Γ.env.frame=some Γ.FL
 vk:∀p∈Γ.vars,DQ Γ.env p
 nd:(Γ.vars.map (·.1)).Nodup
 cd:∀x y c,Γ.env.cells.lookup x=some c→Γ.env.cells.lookup y=some c→x=y
 lc:∀x c,Γ.env.cells.lookup x=some c→c≠Γ.FL∧c≠Γ.env.locals∧((x,VK.cell)∈Γ.vars→c∉Γ.kp.map (·.1))
 lk:Γ.env.locals∉Γ.kp.map (·.1)
 fk:Γ.FL∉Γ.kp.map (·.1)
 fc:∀p∈Γ.env.cells,p.2≠Γ.FL
 cl:∀p∈Γ.env.cells,Γ.env.cells.lookup p.1=some p.2
 DR:Γ.env.locals=Γ.FL→Γ.fm=none
 new:∀b∈Γ.bM,Γ.h₀.get? b=none
 K:Known w Γ.h₀
 dep:Γ.A.depth+6*Γ.d<recursionLimit
 un:Γ.A.units+40*Γ.d+40<cLine
structure az (w:World)(Γ:Ctx)(s:Shared)(σ:Hp)(ρ:LO):Prop where
 fr:∃m,Fr Γ.h₀ Γ.FL s.heap m
 hr:HR w s.heap σ
 free:∀a o,σ a=some o→∀b∈foot s.heap a,Γ.h₀.get? b=none∧b∉Γ.bM
 kp:∀p∈Γ.kp,s.heap.get? p.1=some p.2
 cells:∀p∈Γ.env.cells,∃v,s.heap.IsCell p.2 v
 loc:∃m,s.heap.Ns Γ.env.locals m∧∀x k v,Lk Γ.vars ρ x k v→DP Γ.env s.heap m x v k
 gens:s.gens= #[]
 os:s.os=Γ.os
 fm:∀f,Γ.fm=some f→s.heap.Ns Γ.FL f
section
variable{w:World}{Γ:Ctx}{s s':Shared}{σ σ':Hp}{ρ:LO}
noncomputable def Off (h:Heap)(σ:Hp)(b:Addr):Prop:=∀a x,σ a=some x→b∉foot h a
theorem az.off (D:az w Γ s σ ρ){b:Addr}(h:b∈Γ.bM∨(Γ.h₀.get? b).isSome=true):Off s.heap σ b:=λa x sx hb=>by
 have:=D.free a x sx b hb
 rcases h with h|h
 exact this.2 h
 rw[this.1]at h;cases h
theorem QV {l:List (Str×Addr)}{x:Str}{c:Addr}(h:l.lookup x=some c):c∈l.map (·.2):=by
 induction l with
 |nil=>cases h
 |cons p r ih=>
  obtain⟨y,d⟩:=p
  rw[kJ]at h
  by_cases e:(x==y)=true
  rw[e]at h;cases h;exact bA
  simp only[e]at h;exact bw _ (ih h)
theorem Ctx.dG (Γ:Ctx):Γ.FL∈Γ.bM:=bA
theorem Ctx.fP (Γ:Ctx):Γ.env.locals∈Γ.bM:=bw _ bA
theorem Ctx.QW {Γ:Ctx}{x:Str}{c:Addr}(h:Γ.env.cells.lookup x=some c):c∈Γ.bM:=bw _ (bw _ (gO _ (QV h)))
def eS:= @Ctx.QW
theorem Ctx.QX {Γ:Ctx}{p:Str×Addr}(h:p∈Γ.env.cells):p.2∈Γ.bM:=bw _ (bw _ (gO _ (cB h)))
def ow:= @Ctx.QX
theorem Ctx.QY {Γ:Ctx}{p:Addr×Obj}(h:p∈Γ.kp):p.1∈Γ.bM:=bw _ (bw _ (jy _ (cB h)))
def iH:= @Ctx.QY
theorem Ns.at {h h':Heap}{a:Addr}{m:Str→Option Value}(n:h.Ns a m)(e:∀o,h.get? a=some o→h'.get? a=some o):h'.Ns a m:=
 let⟨o,es,ep,ho,r⟩:=n;⟨o,es,ep,e o ho,r⟩
theorem az.move (D:az w Γ s σ ρ)(keep:∀b o,s.heap.get? b=some o→Off s.heap σ b→s'.heap.get? b=some o)(hr:HR w s'.heap σ')
  (free:∀a o,σ' a=some o→∀b∈foot s'.heap a,(∃a' x,σ a'=some x∧b∈foot s.heap a')∨s.heap.get? b=none)
  (hg:s'.gens=s.gens)(ho:s'.os=s.os):az w Γ s' σ' ρ:=by
 have d0:∀b o,b∈Γ.bM→s.heap.get? b=some o→s'.heap.get? b=some o:=λb o hb e=>keep b o e (D.off (.inl hb))
 obtain⟨m,F⟩:=D.fr
 obtain⟨ml,hl,hh⟩:=D.loc
 have kR:∀b∈Γ.bM,∃o,s.heap.get? b=some o:=by
  intro b hb
  rcases aY.mp hb with rfl|hb
  obtain⟨o,_,_,e,_⟩:=F.ns;exact⟨o,e⟩
  rcases aY.mp hb with rfl|hb
  obtain⟨o,_,_,e,_⟩:=hl;exact⟨o,e⟩
  rcases cq.mp hb with hb|hb
  refine bZ hb λp hp=>?_
  obtain⟨v,o,ho,_⟩:=D.cells p hp
  exact⟨o,ho⟩
  refine bZ hb λp hp=>?_
  exact⟨_,D.kp p hp⟩
 refine⟨⟨m,Ns.at F.ns λo e=>d0 _ _ Γ.dG e,λb o e=>keep b o (F.keep b o e) (D.off (.inr (by rw[e];rfl))),F.above⟩,hr,λa o sa b hb=>?_,λp hp=>d0 _ _ (iH hp) (D.kp p hp),
  λp hp=>?_,⟨ml,Ns.at hl λo e=>d0 _ _ Γ.fP e,λx k v hx=>?_⟩,hg.trans D.gens,ho.trans D.os,λf e=>Ns.at (D.fm f e) λo e=>d0 _ _ Γ.dG e⟩
 rcases free a o sa b hb with⟨a',x,sx,cg⟩|q
 exact D.free a' x sx b cg
 constructor
 cases e:Γ.h₀.get? b with
 |none=>rfl
 |some ob=>rw[F.keep b ob e]at q;cases q
 intro hp
 obtain⟨ob,e⟩:=kR b hp
 rw[e]at q;cases q
 obtain⟨v,o,ho,hd⟩:=D.cells p hp
 exact⟨v,o,d0 _ _ (ow hp) ho,hd⟩
 have:=hh x k v hx
 cases k with
 |loc=>exact this
 |cell=>obtain⟨c,val,hc,⟨o,ho,hd⟩,hv⟩:=this;exact⟨c,val,hc,⟨o,d0 _ _ (eS hc) ho,hd⟩,hv⟩
 |free=>obtain⟨c,val,hc,⟨o,ho,hd⟩,hv⟩:=this;exact⟨c,val,hc,⟨o,d0 _ _ (eS hc) ho,hd⟩,hv⟩
theorem az.zj (S:bt w Γ)(D:az w Γ s σ ρ)(keep:∀b o,b≠Γ.FL→s.heap.get? b=some o→Off s.heap σ b→s'.heap.get? b=some o)(zk:∀m,s.heap.Ns Γ.FL m→s'.heap.Ns Γ.FL m)(hr:HR w s'.heap σ')
  (free:∀a o,σ' a=some o→∀b∈foot s'.heap a,(∃a' x,σ a'=some x∧b∈foot s.heap a')∨s.heap.get? b=none)
  (hg:s'.gens=s.gens)(ho:s'.os=s.os):az w Γ s' σ' ρ:=by
 have d0:∀b o,b≠Γ.FL→b∈Γ.bM→s.heap.get? b=some o→s'.heap.get? b=some o:=λb o hn hb e=>keep b o hn e (D.off (.inl hb))
 obtain⟨m,F⟩:=D.fr
 obtain⟨ml,hl,hh⟩:=D.loc
 have kR:∀b∈Γ.bM,∃o,s.heap.get? b=some o:=by
  intro b hb
  rcases aY.mp hb with rfl|hb
  obtain⟨o,_,_,e,_⟩:=F.ns;exact⟨o,e⟩
  rcases aY.mp hb with rfl|hb
  obtain⟨o,_,_,e,_⟩:=hl;exact⟨o,e⟩
  rcases cq.mp hb with hb|hb
  refine bZ hb λp hp=>?_
  obtain⟨v,o,ho,_⟩:=D.cells p hp
  exact⟨o,ho⟩
  refine bZ hb λp hp=>?_
  exact⟨_,D.kp p hp⟩
 have zm:Γ.h₀.get? Γ.FL=none:=S.new _ Γ.dG
 refine⟨⟨m,zk m F.ns,λb o e=>keep b o (λq=>by rw[q,zm]at e;cases e) (F.keep b o e) (D.off (.inr (by rw[e];rfl))),F.above⟩,hr,λa o sa b hb=>?_,
  λp hp=>d0 _ _ (λq=>S.fk (q▸cB hp)) (iH hp) (D.kp p hp),
  λp hp=>?_,⟨ml,?_,λx k v hx=>?_⟩,hg.trans D.gens,ho.trans D.os,λf e=>zk f (D.fm f e)⟩
 rcases free a o sa b hb with⟨a',x,sx,cg⟩|q
 exact D.free a' x sx b cg
 constructor
 cases e:Γ.h₀.get? b with
 |none=>rfl
 |some ob=>rw[F.keep b ob e]at q;cases q
 intro hp
 obtain⟨ob,e⟩:=kR b hp
 rw[e]at q;cases q
 obtain⟨v,o,ho,hd⟩:=D.cells p hp
 exact⟨v,o,d0 _ _ (S.fc p hp) (ow hp) ho,hd⟩
 by_cases q:Γ.env.locals=Γ.FL
 rw[q]at hl ⊢;exact zk ml hl
 exact Ns.at hl λo e=>d0 _ _ q Γ.fP e
 have:=hh x k v hx
 cases k with
 |loc=>exact this
 |cell=>obtain⟨c,val,hc,⟨o,ho,hd⟩,hv⟩:=this;exact⟨c,val,hc,⟨o,d0 _ _ (S.fc _ (mem_of_lookup hc)) (eS hc) ho,hd⟩,hv⟩
 |free=>obtain⟨c,val,hc,⟨o,ho,hd⟩,hv⟩:=this;exact⟨c,val,hc,⟨o,d0 _ _ (S.fc _ (mem_of_lookup hc)) (eS hc) ho,hd⟩,hv⟩
theorem az.grow (D:az w Γ s σ ρ)(e:∀b o,s.heap.get? b=some o→s'.heap.get? b=some o)(hg:s'.gens=s.gens)(ho:s'.os=s.os):az w Γ s' σ ρ:=
 D.move (λb o h _=>e b o h) (D.hr.grow e) (λa o sa b hb=>.inl ⟨a,o,sa,by
  obtain⟨z,hz⟩:=(D.hr.at_ a o sa).live a (bD.mpr (.inl rfl))
  rw[←ey (h:=s.heap) (h':=s'.heap) (by rw[hz];exact e _ _ hz)];exact hb⟩) hg ho
theorem az.new {a:Addr}{o:MO}(D:az w Γ s σ ρ)(e:∀b o,s.heap.get? b=some o→s'.heap.get? b=some o)(ha:At w s'.heap a o)
  (hn:∀b∈foot s'.heap a,s.heap.get? b=none)(hg:s'.gens=s.gens)(ho:s'.os=s.os):az w Γ s' (upd σ a o) ρ∧σ a=none:=by
 obtain⟨H,fr⟩:=D.hr.new e ha hn
 refine⟨D.move (λb o h _=>e b o h) H (λb ob sb x hx=>?_) hg ho,fr⟩
 by_cases hb:b=a
 subst hb;exact .inr (hn x hx)
 rw[aJ hb]at sb
 refine .inl ⟨b,ob,sb,?_⟩
 obtain⟨z,hz⟩:=(D.hr.at_ b ob sb).live b (bD.mpr (.inl rfl))
 rw[←ey (h:=s.heap) (h':=s'.heap) (by rw[hz];exact e _ _ hz)];exact hx
theorem az.set {a x:Addr}{o o':MO}(D:az w Γ s σ ρ)(ha:σ a=some o)(hx:x∈foot s.heap a)(hs:∀b,b≠x→s'.heap.get? b=s.heap.get? b)
  (cM:At w s'.heap a o')(hf:foot s'.heap a=foot s.heap a)(hg:s'.gens=s.gens)(ho:s'.os=s.os):az w Γ s' (upd σ a o') ρ:=by
 refine D.move (λb ob h off=>(hs b λq=>off a o ha (q▸hx)).trans h) (D.hr.set ha hx hs cM hf) (λb ob sb y hy=>.inl ?_) hg ho
 by_cases hb:b=a
 subst hb;exact⟨b,o,ha,hf▸hy⟩
 rw[aJ hb]at sb
 refine⟨b,ob,sb,?_⟩
 have:=hs b λq=>D.hr.apart b a ob o sb ha hb b (bD.mpr (.inl rfl)) (q▸hx)
 rw[←ey this];exact hy
theorem az.toks (D:az w Γ s σ ρ)(t:Nat):az w Γ {s with toks:=t} σ ρ:=D.grow (λ_ _ e=>e) rfl rfl
noncomputable def since (h₀:Heap)(L:Addr)(h:Heap)(but:Addr→Bool):List (Addr×Obj):=(List.range h.objs.size).filterMap λb=>if b=L∨(h₀.get? b).isSome=true∨but b=true then none else(h.get? b).map λo=>(b,o)
theorem vy {h₀ h:Heap}{L:Addr}{but:Addr→Bool}:News h₀ L h (since h₀ L h but):=by
 intro p hp
 obtain⟨b,hb,e⟩:=i4.mp hp
 split at e
 cases e
 next hn=>
 obtain⟨o,ho,rfl⟩:=eJ.mp e
 refine⟨ho,λq=>hn (.inl q),?_⟩
 cases q:h₀.get? b with
 |none=>rfl
 |some x=>exact absurd (.inr (.inl (by rw[q];rfl))) hn
theorem DS {h₀ h:Heap}{L:Addr}{but:Addr→Bool}{b:Addr}{o:Obj}(e:h.get? b=some o)(hL:b≠L)(hn:h₀.get? b=none)(hb:but b=false):(b,o)∈since h₀ L h but:=by
 refine i4.mpr ⟨b,iD.mpr (f_ e),?_⟩
 rw[bK (by simp[hL,hn,hb]),e];rfl
theorem QZ {h₀ h:Heap}{L:Addr}{but:Addr→Bool}:∀p∈since h₀ L h but,but p.1=false:=by
 intro p hp
 obtain⟨b,hb,e⟩:=i4.mp hp
 split at e
 cases e
 next hn=>
 obtain⟨o,ho,rfl⟩:=eJ.mp e
 cases q:but b with
 |false=>rfl
 |true=>exact absurd (.inr (.inr q)) hn
theorem vz {h₀ h h':Heap}{L:Addr}{m m':Str→Option Value}{but:Addr→Bool}{news:List (Addr×Obj)}(F:Fr h₀ L h m)(F':Fr h₀ L h' m')(N':News h₀ L h' news)(sub:∀p∈since h₀ L h but,p∈news):
  ∀b o,b≠L→but b=false→h.get? b=some o→h'.get? b=some o:=by
 intro b o hL hb e
 cases q:h₀.get? b with
 |some x=>
  have:=F.keep b x q
  rw[e]at this;cases this
  exact F'.keep b o q
 |none=>exact(N' _ (sub _ (DS e hL q hb))).1
theorem az.news (D:az w Γ s σ ρ):∃news:List (Addr×Obj),News Γ.h₀ Γ.FL s.heap news∧(∀a o,σ a=some o→∀b∈foot s.heap a,b∈news.map (·.1))∧
  (∀p∈news,∃a o,σ a=some o∧p.1∈foot s.heap a):=by
 obtain⟨l,hl⟩:=D.hr.fin
 have key:∀l:List Addr,∃news:List (Addr×Obj),News Γ.h₀ Γ.FL s.heap news∧(∀a∈l,∀o,σ a=some o→∀b∈foot s.heap a,b∈news.map (·.1))∧(∀p∈news,∃a o,σ a=some o∧p.1∈foot s.heap a):=by
  intro l
  induction l with
  |nil=>exact⟨[],News.nil,λa ha=>(nomatch ha),λp hp=>(nomatch hp)⟩
  |cons a r ih=>
   obtain⟨ns,h1,h2,h3⟩:=ih
   cases e:σ a with
   |none=>exact⟨ns,h1,λb hb o so=>by
     rcases aY.mp hb with rfl|hb
     rw[e]at so;cases so
     exact h2 b hb o so,h3⟩
   |some o=>
    have Q0:=(D.hr.at_ a o e).live
    refine⟨(foot s.heap a).filterMap (λb=>(s.heap.get? b).map λob=>(b,ob))++ns,λp hp=>?_,λb hb ob sb y hy=>?_,λp hp=>?_⟩
    rcases cq.mp hp with hp|hp
    obtain⟨b,hb,q⟩:=i4.mp hp
    obtain⟨ob,mM,rfl⟩:=eJ.mp q
    have:=D.free a o e b hb
    exact⟨mM,λz=>this.2 (by have z2:b=Γ.FL:=z;rw[z2];exact Γ.dG),this.1⟩
    exact h1 p hp
    rw[df,cq]
    rcases aY.mp hb with rfl|hb
    obtain⟨z,hz⟩:=Q0 y hy
    exact .inl (cF.mpr ⟨(y,z),i4.mpr ⟨y,hy,by rw[hz];rfl⟩,rfl⟩)
    exact .inr (h2 b hb ob sb y hy)
    rcases cq.mp hp with hp|hp
    obtain⟨b,hb,q⟩:=i4.mp hp
    obtain⟨ob,mM,rfl⟩:=eJ.mp q
    exact⟨a,o,e,hb⟩
    exact h3 p hp
 obtain⟨ns,h1,h2,h3⟩:=key l
 exact⟨ns,h1,λa o sa=>h2 a (hl a o sa) o sa,h3⟩
end
noncomputable def Ok {α β:Type}(w:World)(Γ:Ctx)(f:α→β)(t:Sem α)(σ:Hp)(ρ:LO)(Q:β→Hp→Prop):Prop:=
 bt w Γ→∀s,az w Γ s σ ρ→∀(k:α→Shared→Prop) (X:VP),(∀a s' σ',Q (f a) σ'→az w Γ s' σ' ρ→k a s')→wpAny (model aC w) Γ.A t k X s
inductive Fl where
 |next|brk|cont|ret (v:V)
noncomputable abbrev PF:=Fl→Hp→LO→Prop
noncomputable def sQ:Flow→Fl
 |.next=>.next|.brk=>.brk|.cont=>.cont|.ret v=>.ret (er v)
noncomputable def pF (w:World)(Γ:Ctx)(t:Sem Flow)(σ:Hp)(ρ:LO)(Q:PF):Prop:=
 bt w Γ→∀s,az w Γ s σ ρ→∀(k:Flow→Shared→Prop) (X:VP),(∀a s' σ' aR,Q (sQ a) σ' aR→az w Γ s' σ' aR→k a s')→wpAny (model aC w) Γ.A t k X s
noncomputable def Q1 (w:World)(Γ:Ctx)(f:Value)(args:List Value)(σ:Hp)(ρ:LO)(Q:PQ):Prop:=
 bt w Γ→∀s,az w Γ s σ ρ→∀(k:VP) (X:VP),(∀a s' σ',Q (er a) σ'→az w Γ s' σ' ρ→k a s')→
  codeAny (model aC w) Γ.A (.call f ⟨args,[]⟩) (λr s'=>match r with|.ok (.ret v)=>k v s'|.ok _=>False|.error e=>X e s') s
structure Call (w:World)(d:Nat)(fv:V)(vs:List V)(σ:Hp)(Q:PQ):Prop where
 run:∀Γ:Ctx,d≤Γ.d→∀ρ f args,er f=fv→args.map er=vs→Q1 w Γ f args σ ρ Q
section
variable{w:World}{Γ:Ctx}{σ:Hp}{ρ:LO}{α β γ δ:Type}{f:α→β}{g:γ→δ}
theorem pF.mono {t:Sem Flow}{Q Q':PF}(h:pF w Γ t σ ρ Q)(hq:∀b σ' aR,Q b σ' aR→Q' b σ' aR):pF w Γ t σ ρ Q':=
 λS s D k X hk=>h S s D k X λa s' σ' aR q D'=>hk a s' σ' aR (hq _ _ _ q) D'
theorem Call.mono {d:Nat}{fv:V}{vs:List V}{Q Q':PQ}(h:Call w d fv vs σ Q)(hq:∀b σ',Q b σ'→Q' b σ'):Call w d fv vs σ Q':=
 ⟨fun Γ hd ρ f args hf ha S s D k X hk=>h.run Γ hd ρ f args hf ha S s D k X λa s' σ' q D'=>hk a s' σ' (hq _ _ q) D'⟩
theorem Call.ok {d:Nat}{fv:V}{vs:List V}{Q:PQ}(h:Call w d fv vs σ Q)(hd:d≤Γ.d){fa:Value}{args:List Value}(e1:er fa=fv)(e2:args.map er=vs):Ok w Γ er (PySem.call fa args) σ ρ Q:=
 λS s D k X hk=>wpAny_call (h.run Γ hd ρ fa args e1 e2 S s D k X hk)
end
noncomputable def zo (sc:Scope):KV:=sc.names.filterMap λp=>match p.2 with
 |.local=>some (p.1,.loc)
 |.cell=>some (p.1,.cell)
 |_=>none
theorem DT {kindOf:Str→Option NameKind}{x:Str}{v:Value}(hk:kindOf x=some .local):∀{bs:List (Str×Value)}{m:Str→Option Value},(bs.map (·.1)).Nodup→((x,v)∈bs∨(m x=some v∧x∉bs.map (·.1)))→bindL kindOf bs m x=some v
 | [],m,_,h=>by
  rcases h with h|h
  cases h
  exact h.1
 |(n,u)::r,m,nd,h=>by
  rw[bx,fz]at nd
  unfold bindL
  refine DT hk nd.2 ?_
  by_cases e:x=n
  subst e
  refine .inr ⟨?_,nd.1⟩
  rw[ck hk,ck rfl]
  rcases h with h|h
  rcases aY.mp h with h|h
  cases h;rfl
  exact absurd (cB (f:=(·.1)) h) nd.1
  exact absurd bA h.2
  rcases h with h|h
  rcases aY.mp h with h|h
  cases h;exact absurd rfl e
  exact .inl h
  refine .inr ⟨?_,λq=>h.2 (bw _ q)⟩
  split
  show(if x=n then some u else m x)=some v
  rw[bK e];exact h.1
  exact h.1
theorem DU {kindOf:Str→Option NameKind}{x:Str}{v:Value}(hk:kindOf x≠some .local):∀{bs:List (Str×Value)}{m:Str→Option Value},(bs.map (·.1)).Nodup→((x,v)∈bs∨(m x=some v∧x∉bs.map (·.1)))→bindC kindOf bs m x=some v
 | [],m,_,h=>by
  rcases h with h|h
  cases h
  exact h.1
 |(n,u)::r,m,nd,h=>by
  rw[bx,fz]at nd
  unfold bindC
  refine DU hk nd.2 ?_
  by_cases e:x=n
  subst e
  refine .inr ⟨?_,nd.1⟩
  rw[bK hk,ck rfl]
  rcases h with h|h
  rcases aY.mp h with h|h
  cases h;rfl
  exact absurd (cB (f:=(·.1)) h) nd.1
  exact absurd bA h.2
  rcases h with h|h
  rcases aY.mp h with h|h
  cases h;exact absurd rfl e
  exact .inl h
  refine .inr ⟨?_,λq=>h.2 (bw _ q)⟩
  split
  exact h.1
  show(if x=n then some u else m x)=some v
  rw[bK e];exact h.1
theorem Lk.of_map {bs:LV}{vs:KV}{x:Str}{k:VK}{v:V}(h:Lk vs (vs.map λp=>bs.lookup p.1) x k v):bs.lookup x=some v:=by
 generalize hq:vs.map (λp=>bs.lookup p.1)=q at h
 induction h with
 |here=>simp only[bx,jD]at hq;exact hq.1
 |there _ ih=>simp only[bx,jD]at hq;exact ih hq.2
theorem Q2 {bs:LV}{x:Str}{v:V}(h:bs.lookup x=some v):(x,v)∈bs:=by
 induction bs with
 |nil=>cases h
 |cons p r ih=>
  obtain⟨y,u⟩:=p
  rw[kJ]at h
  cases e:(x==y)with
  |true=>rw[e]at h;cases h;rw[beq_iff_eq.mp e];exact bA
  |false=>rw[e]at h;exact bw _ (ih h)
theorem zp:∀(names:SN)(n lo:Nat)(acc:List (Str×Addr)),lo≤n→(∀p∈acc,lo≤p.2)→∀p∈cellsFrom n names acc,lo≤p.2
 | [],_,_,_,_,h=>h
 |(x,k)::r,n,lo,acc,hn,h=>by
  unfold cellsFrom
  split
  exact zp r (n+1) lo _ (Nat.le_succ_of_le hn) λp hp=>by
   rcases aY.mp hp with rfl|hp
   exact hn
   exact h p hp
  exact zp r n lo acc hn h
theorem Known.nolimit {w:World}{h:Heap}(k:Known w h):h.NoLimit:=by
 have e:h.get? cStatics=(hF w.params).get? cStatics:=(k.at (a:=2) (o:=vm w.params) (by rfl')).trans rfl
 refine Heap.NoLimit.of_ok ?_
 unfold Heap.noLimitOk
 rw[iF e,jI e]
 rfl'
theorem Q3 {h:Heap}{c:Addr}{ob:Obj}{q:Str}{tq:Tok}(e:h.get? c=some ob)(qZ:(match ob.data with|.fields vs=>vs[1]? |_=>none)=some (.str q tq)):h.CodeRec (.ref c) q:=by
 cases hd:ob.data with
 |fields vs=>rw[hd]at qZ;exact⟨c,ob,vs,tq,rfl,e,hd,qZ⟩
 |_=>rw[hd]at qZ;cases qZ
theorem Q4 {l:List (Str×Addr)}(h:l.Pairwise λx y=>x.2≠y.2){y z:Str}{b:Addr}(hy:(y,b)∈l)(hz:(z,b)∈l):y=z:=by
 induction l with
 |nil=>cases hy
 |cons p r ih=>
  rw[List.pairwise_cons]at h
  rcases aY.mp hy with e|DV
  rcases aY.mp hz with e'|zq
  rw[←e']at e;exact gf Prod.fst e
  exact absurd (by rw[←e]:p.2=b) (h.1 _ zq)
  rcases aY.mp hz with e'|zq
  exact absurd (by rw[←e']:p.2=b) (h.1 _ DV)
  exact ih h.2 DV zq
noncomputable def vA:Option Obj→Option Str
 |some ob=>(match ob.data with|.fields vs=>(match vs[1]? with|some (Value.str x _)=>some x|_=>none)|_=>none)
 |none=>none
structure Def (w:World)(f c:Addr)(st:Stmt)(q:Str)(dV pm:Value)(vs:List V)(bs:LV)(vars:KV)(gls:LV)(cu:LO):Prop where
 hf:lk (Fin w) f=some (fo st q dV pm (.ref c))
 hc:vA (lk (Fin w) c)=some q
 hv:zo (bz st)=vars
 i_:vars.map (λp=>bs.lookup p.1)=cu
 hb:∀args:List Value,args.map er=vs→∃binds,(∀s:Shared,Known w s.heap→BindsTo s (fdOf st q dV pm (.ref c)) ⟨args,[]⟩ binds)∧binds.map (λp=>(p.1,er p.2))=bs
 gQ:((bz st).kind==.function&& !(bz st).isCoroutine&& !(bz st).isGenerator&&(bs.all λp=>(bz st).names.lookup p.1==some .local||(bz st).names.lookup p.1==some .cell)&&
   (vars.all λp=>match p.2 with|.loc=>(bz st).names.lookup p.1==some .local|.cell=>(bz st).names.lookup p.1==some .cell|.free=>false))=true
 mN:(bs.map (·.1)).Nodup
 DX:(vars.map (·.1)).Nodup
 DY:((cellsFrom 0 (bz st).names []).map (·.1)).Nodup
 b8:f≠2041∧c≠2041
 zu:((vars.all fun p=> !(p.1==("__debug__":Str))&& !(p.1==("__classdict__":Str)))&&(gls.all fun p=>(bz st).names.lookup p.1==some .globalImplicit&& !(p.1==("__debug__":Str))))=true
 gD:gls.map (λp=>(i9 w p.1).map er)=gls.map (λp=>some p.2)
set_option tactic.hygienic true in
theorem Def.code {w:World}{f c:Addr}{st:Stmt}{q:Str}{dV pm:Value}{vs:List V}{bs:LV}{vars:KV}{gls:LV}{cu:LO}(D:Def w f c st q dV pm vs bs vars gls cu):∃ob tq,lk (Fin w) c=some ob∧(match ob.data with|.fields vs=>vs[1]? |_=>none)=some (.str q tq):=by
 have h:=D.hc
 cases e:lk (Fin w) c with
 |none=>rw[e]at h;cases h
 |some ob=>
  rw[e]at h
  refine⟨ob,?_⟩
  unfold vA at h
  dsimp only at h
  split at h
  ·next vs hd=>
   split at h
   ·next x t hx=>cases h;exact⟨t,rfl,by first|exact hx|(rw[hd];exact hx)⟩
   ·cases h
  ·cases h
inductive Q5 (w:World)(Γ aE:Ctx)(ρ:LO)(s:Shared)(σ:Hp):Prop
 |mk (sR:aE.iG=aE.env) (sS:aE.outer=Γ.iG::Γ.outer) (DZ:aE.base=Γ.base) (A_:aE.A=Γ.A.deeper aE.env) (os_:aE.os=Γ.os) (st:bt w aE) (q5:∀b o,aE.h₀.get? b=some o→s.heap.get? b=some o) (pG:aE.h₀.objs.size=s.heap.objs.size)
  (news:List (Addr×Obj))(kS:∀b o,s.heap.get? b=some o→b∉news.map (·.1)→aE.h₀.get? b=some o)(lR:∀p∈news,∃a o,σ a=some o∧p.1∈foot s.heap a)
  (back:∀aG aZ dz h',az w aE aG aZ dz→(∀b,b≠aE.FL→h'.get? b=aG.heap.get? b)→az w Γ {aG with heap:=h'} aZ ρ)
theorem D_ {w:World}{f c:Addr}{st:Stmt}{q:Str}{dV pm:Value}{vs:List V}{bs:LV}{vars:KV}{gls:LV}{cu:LO}{d:Nat}{σ:Hp}(e_:Def w f c st q dV pm vs bs vars gls cu)
  {A:Around}{B:Heap}{outer:List Env}{os:OsState}{args:List Value}(ez:args.map er=vs) {s:Shared}{news:List Addr}(hr:HR w s.heap σ) (oy:∀a o,σ a=some o→∀b∈foot s.heap a,b∈news) (KG:Known w (hideAll s.heap news))
  (BG:Below A B outer (hideAll s.heap news))(hh:A.handled=none)(hA:A.frames=some outer)(ou:s.gens= #[])(Q6:s.os=os)(Q7:A.depth+1+6*d<recursionLimit)(Q8:A.units+3+40*d+40<cLine){R:Result→Shared→Prop}
  (body:∀(aE:Ctx)(s':Shared),aE.d=d→aE.vars=vars→aE.gls=gls→aE.iG=aE.env→aE.outer=outer→aE.base=B→aE.h₀=hideAll s.heap news→aE.A=A.deeper aE.env→aE.os=os→aE.kp=[]→aE.FL=s.heap.objs.size→aE.env=newEnv (bz st) aE.FL mainGlobals (cellsFrom (aE.FL+1) (bz st).names []) (q++".<locals>.") (some f) (.ref c) none builtinsNs→bt w aE→az w aE s' σ cu→
   wpAny (model aC w) aE.A (execs (bodyOf st) aE.env) (λfl aG=>R (.ok (.ret (match fl with|.ret v=>v|_=>.none))) aG)
    (λe aG=>wpAny (model aC w) aE.A (leaving aE.env e) (λ_ bI=>R (.error e) bI) (λe' bI=>R (.error e') bI) aG) s'):
  codeAny (model aC w) A (.call (.ref f) ⟨args,[]⟩) R s:=by
 obtain⟨hf,eA,hv,i_,hb,gQ,mN,DX,DY,b8,zu,gD⟩:=id e_
 obtain⟨ob,tq,hc,qZ⟩:=e_.code
 obtain⟨binds,Q9,ja⟩:=hb args ez
 simp only[fN,beq_iff_eq,Bool.not_eq_true']at gQ
 obtain⟨⟨⟨⟨zv,jb⟩,Q_⟩,Ra⟩,Ea⟩:=gQ
 have q6:Known w s.heap:=KG.keeps λb o e=>of_hideAll _ e
 have pD:(binds.map (·.1))=bs.map (·.1):=by rw[←ja,kM];rfl
 revert KG BG body;refine genE (hideAll s.heap news) ?_;intro G hG KG BG body
 have zx:A.depth<recursionLimit:=by lia
 refine codeAny_call_function zx (q6.at hf b8.1) rfl jb Q_ rfl (Q3 (q6.at hc b8.2) qZ) (Q9 s q6 _ _ _ _ ?_)
 refine wpAny_newFunctionEnv_cells zv (λx hx=>?_) λafl he s' x=>?_
 have:x.1∈bs.map (·.1):=pD▸cB hx
 obtain⟨p,hp,Rb⟩:=cF.mp this
 have:=ew.mp Ra p hp
 rw[Rb]at this
 rcases Bool.or_eq_true_iff.mp this with z|z
 exact .inl (by simpa using z)
 have z:(bz st).names.lookup x.1=some .cell:=by simpa using z
 exact .inr ⟨z,cellsFrom_some _ _ _ (.inl z)⟩
 subst he
 obtain⟨h₁,tk,rfl,kT⟩:=x.done
 have q5:∀b o,G.get? b=some o→s.heap.get? b=some o:=λb o e=>of_hideAll _ (hG▸e)
 have vB:∀b∈news,G.get? b=none:=λb hb=>by rw[←hG];exact hideAll_none _ hb
 have pG:G.objs.size=s.heap.objs.size:=by rw[←hG];exact hideAll_size _ _
 have kS:∀b o,s.heap.get? b=some o→b∉news→G.get? b=some o:=λb o e n=>by rw[←hG];exact mE _ e n
 have dQ:∀a o,σ a=some o→∀b∈foot s.heap a,b<s.heap.objs.size:=λa o sa b hb=>by
  obtain⟨z,hz⟩:=(hr.at_ a o sa).live b hb
  exact f_ hz
 refine⟨((q6.keeps kT).nolimit),codeAny_func ?_⟩
 revert x;refine genE (newEnv (bz st) s.heap.objs.size mainGlobals (cellsFrom (s.heap.objs.size+1) (bz st).names []) (q++".<locals>.") (some f) (.ref c) none builtinsNs) ?_;intro E hE x
 have E1:E.locals=s.heap.objs.size:=by rw[←hE];rfl
 have E2:E.frame=some s.heap.objs.size:=by rw[←hE];rfl
 have E3:E.scope=bz st:=by rw[←hE];rfl
 have E4:E.cells=cellsFrom (s.heap.objs.size+1) (bz st).names []:=by rw[←hE];rfl
 have E5:E.globals=mainGlobals:=by rw[←hE];rfl
 have E6:E.builtins=builtinsNs:=by rw[←hE];rfl
 have Ek:∀y,E.kindOf y=(bz st).names.lookup y:=λy=>by show E.scope.names.lookup y=_;rw[E3]
 have zy:∀p∈E.cells,s.heap.objs.size+1≤p.2:=by rw[E4];exact zp _ _ _ _ (dp _) λp hp=>(nomatch hp)
 have Eb:(E.cells.map (·.1)).Nodup:=by rw[E4,cellsFrom_names (bz st).names (s.heap.objs.size+1) 0 [] [] rfl];exact DY
 have Ed:∀y z b,E.cells.lookup y=some b→E.cells.lookup z=some b→y=z:=by
  have:=x.apart
  intro y z b hy hz
  exact Q4 this (mem_of_lookup hy) (mem_of_lookup hz)
 let aE:Ctx:={A₀:=A,A:=A.deeper E,base:=B,h₀:=G,outer:=outer,iG:=E,FL:=s.heap.objs.size,env:=E,kp:=[],vars:=vars,gls:=gls,fm:=none,d:=d,os:=os}
 have zz:∀b,s.heap.objs.size≤b→G.get? b=none:=λb hb=>by
  cases e:G.get? b with
  |none=>rfl
  |some o=>exact absurd (f_ e) (by rw[pG];exact Nat.not_lt.mpr hb)
 have sT:∀b∈aE.bM,s.heap.objs.size≤b:=by
  intro b hb
  rcases aY.mp hb with rfl|hb
  exact dp _
  rcases aY.mp hb with rfl|hb
  exact Nat.le_of_eq E1.symm
  rcases cq.mp hb with hb|hb
  refine bZ hb λp hp=>?_
  exact Nat.le_of_succ_le (zy p hp)
  cases hb
 have S':bt w aE:=by
  refine⟨hh,λp hp=>?_,λp hp=>?_,BG,Around.frames_deeper hA,E2,by rw[E3];exact zv,by show E.scope.kind=_;rw[E3];exact zv,E5,E6,E2,λp hp=>?_,DX,Ed,λy b hb=>?_,λhb=>(nomatch hb),λhb=>(nomatch hb),λp hp=>kN (Nat.lt_of_succ_le (zy p hp)),λp hp=>lookup_of_mem_nodup Eb hp,λ_=>rfl,λb hb=>zz b (sT b hb),KG,?_,?_⟩
  have:=ew.mp (mC.mp zu).1 p hp
  simpa using this
  have:=ew.mp (mC.mp zu).2 p hp
  rw[mC]at this
  have e:=List.map_eq_map_iff.mp gD p hp
  refine⟨by show E.kindOf p.1=_;rw[Ek];simpa using this.1,by simpa using this.2,eJ.mp e⟩
  have:=ew.mp Ea p hp
  obtain⟨y,j⟩:=p
  cases j with
  |loc=>show E.kindOf y=_;rw[Ek];simpa using this
  |cell=>
   have z:(bz st).names.lookup y=some .cell:=by simpa using this
   refine⟨by show E.kindOf y=_;rw[Ek];exact z,?_⟩
   have:=cellsFrom_some (x:=y) (bz st).names (s.heap.objs.size+1) [] (.inl z)
   rw[←E4]at this
   exact r8.mp this
  |free=>cases this
  have:=zy _ (mem_of_lookup hb)
  refine⟨kN (Nat.lt_of_succ_le this),?_,λ_ h=>(nomatch h)⟩
  show b≠E.locals
  rw[E1]
  exact kN (Nat.lt_of_succ_le this)
  exact Q7
  exact Q8
 have zB:∀a o,σ a=some o→foot h₁ a=foot s.heap a:=λa o sa=>by
  obtain⟨z,hz⟩:=(hr.at_ a o sa).live a (bD.mpr (.inl rfl))
  exact ey (by rw[hz];exact kT _ _ hz)
 have D':az w aE {s with heap:=h₁,toks:=tk} σ cu:=by
  refine⟨⟨_,⟨(by have:=x.toInCall.ns;rw[E1]at this;exact this),λb o e=>kT b o (q5 b o e),Nat.le_of_eq pG⟩⟩,hr.grow kT,λa o sa b hb=>?_,λp hp=>(nomatch hp),λp hp=>?_,⟨_,x.toInCall.ns,λy j v hx=>?_⟩,ou,Q6,λf e=>(nomatch e)⟩
  have cg:b∈foot s.heap a:=zB a o sa▸hb
  exact⟨vB b (oy a o sa b cg),λhp=>absurd (dQ a o sa b cg) (Nat.not_lt.mpr (sT b hp))⟩
  exact⟨_,x.cell p.1 p.2 (lookup_of_mem_nodup Eb hp)⟩
  have hj:=hx.mem
  rw[←i_]at hx
  have hm:=Q2 hx.of_map
  rw[←ja]at hm
  obtain⟨⟨y',val⟩,q7,e⟩:=cF.mp hm
  simp only[kL]at e
  obtain⟨rfl,rfl⟩:=e
  have nd:(binds.map (·.1)).Nodup:=pD▸mN
  have kk:=ew.mp Ea _ hj
  cases j with
  |loc=>exact⟨val,DT (by rw[Ek];simpa using kk) nd (.inl q7),rfl⟩
  |cell=>
   have z:(bz st).names.lookup y'=some .cell:=by simpa using kk
   have:=cellsFrom_some (x:=y') (bz st).names (s.heap.objs.size+1) [] (.inl z)
   rw[←E4]at this
   obtain⟨b,hb⟩:=r8.mp this
   refine⟨b,val,hb,?_,rfl⟩
   have:=x.cell y' b hb
   rw[DU (by rw[Ek,z];simp) nd (.inl q7)]at this
   exact this
  |free=>cases kk
 exact body aE _ rfl rfl rfl rfl rfl rfl rfl rfl rfl rfl rfl hE.symm S' D'
theorem Ee {w:World}{f c:Addr}{st:Stmt}{q:Str}{dV pm:Value}{vs:List V}{bs:LV}{vars:KV}{gls:LV}{cu:LO}{d:Nat}{σ:Hp}(e_:Def w f c st q dV pm vs bs vars gls cu)
  {Γ:Ctx}(hd:d+1≤Γ.d) {ρ:LO}{args:List Value}(ez:args.map er=vs) (S:bt w Γ) {s:Shared}(D:az w Γ s σ ρ) {R:Result→Shared→Prop}
  (body:∀(aE:Ctx)(s':Shared),aE.d=d→aE.vars=vars→aE.gls=gls→Q5 w Γ aE ρ s σ→aE.kp=[]→aE.env=newEnv (bz st) aE.FL mainGlobals (cellsFrom (aE.FL+1) (bz st).names []) (q++".<locals>.") (some f) (.ref c) none builtinsNs→az w aE s' σ cu→
   wpAny (model aC w) aE.A (execs (bodyOf st) aE.env) (λfl aG=>R (.ok (.ret (match fl with|.ret v=>v|_=>.none))) aG)
    (λe aG=>wpAny (model aC w) aE.A (leaving aE.env e) (λ_ bI=>R (.error e) bI) (λe' bI=>R (.error e') bI) aG) s'):
  codeAny (model aC w) Γ.A (.call (.ref f) ⟨args,[]⟩) R s:=by
 obtain⟨news,N,oy,lR⟩:=D.news
 obtain⟨mf,F⟩:=D.fr
 obtain⟨FG,BG,iI,lv⟩:=groundX (R:=R) S.B F N S.hA S.hf S.hk
 refine D_ e_ ez D.hr oy (S.K.keeps iI) BG S.hh S.hA D.gens D.os (by have:=S.dep;lia) (Nat.lt_of_le_of_lt (by lia:Γ.A.units+3+40*d+40≤Γ.A.units+40*Γ.d+40) S.un) fun aE s' e1 e2 e3 e4 e5 e6 e7 e8 e9 vC eF Rc S' D'=>?_
 have kS:∀b o,s.heap.get? b=some o→b∉news.map (·.1)→aE.h₀.get? b=some o:=λb o e n=>by rw[e7];exact mE _ e n
 refine body aE s' e1 e2 e3 ⟨e4,e5,e6,e8,e9,S',by rw[e7];exact λb o e=>of_hideAll _ e,by rw[e7];exact hideAll_size _ _,news,kS,lR,λaG aZ dz h' aA hh=>?_⟩ vC Rc D'
 obtain⟨m₂,pH⟩:=aA.fr
 have same:∀a o,aZ a=some o→∀b∈foot aG.heap a,h'.get? b=aG.heap.get? b:=λa o sa b hb=>hh b λq=>(aA.free a o sa b hb).2 (q▸aE.dG)
 have ft:∀a o,aZ a=some o→foot h' a=foot aG.heap a:=λa o sa=>ey (same a o sa a (bD.mpr (.inl rfl)))
 refine D.move (λb o e off=>(hh b ?_).trans (pH.keep b o (kS b o e λhb=>?_))) (aA.hr.same same) (λa o sa b hb=>?_) (aA.gens.trans D.gens.symm) (aA.os.trans (e9.trans D.os.symm))
 rw[eF];exact oj (f_ e)
 obtain⟨p,hp,rfl⟩:=cF.mp hb
 obtain⟨a,o',sa,cg⟩:=lR p hp
 exact off a o' sa cg
 have hb:b∈foot h' a:=hb
 rw[ft a o sa]at hb
 have hn:=(aA.free a o sa b hb).1
 cases e:s.heap.get? b with
 |none=>exact .inr rfl
 |some ob=>
  by_cases cg:b∈news.map (·.1)
  refine bZ cg λp hp=>?_
  obtain⟨a',o',jJ,sU⟩:=lR p hp
  exact .inl ⟨a',o',jJ,sU⟩
  have:=kS b ob e cg
  rw[this]at hn
  cases hn
theorem Rd {w:World}{f c:Addr}{st:Stmt}{q:Str}{dV pm:Value}{vs:List V}{bs:LV}{vars:KV}{gls:LV}{cu:LO}{d:Nat}{σ:Hp}{Q:PQ}(e_:Def w f c st q dV pm vs bs vars gls cu)
  (body:∀Γ:Ctx,Γ.d=d→Γ.vars=vars→Γ.gls=gls→Γ.kp=[]→pF w Γ (execs (bodyOf st) Γ.env) σ cu λfl σ' _=>Q (match fl with|.ret v=>v|_=>.none) σ'):Call w (d+1) (.ref f) vs σ Q:=by
 refine⟨fun Γ hd ρ fv args jK ez S s D k X hk=>?_⟩
 refine bJ jK ?_
 refine Ee e_ hd ez S D (R:=λr s'=>match r with|.ok (.ret v)=>k v s'|.ok _=>False|.error e=>X e s') fun aE s' e1 e2 e3 I e4 _ D'=>?_
 obtain⟨_,_,_,_,_,st,_,_,_,_,_,back⟩:=I
 refine body aE e1 e2 e3 e4 st s' D' _ _ λfl aG aZ dz q aA=>?_
 have bN:=back aG aZ dz aG.heap aA λ_ _=>rfl
 cases fl<;>exact hk _ aG aZ q bN
structure ak (w:World)(Γ:Ctx)(e:Expr)(σ:Hp)(ρ:LO)(Q:PQ):Prop where
 run:Ok w Γ er (eval e Γ.env) σ ρ Q
structure dJ (w:World)(Γ:Ctx)(e:Expr)(σ:Hp)(ρ:LO)(Q:Bool→Hp→Prop):Prop where
 run:Ok w Γ id (isTrue e Γ.env (eval e Γ.env)) σ ρ Q
structure aT (w:World)(Γ:Ctx)(st:Stmt)(σ:Hp)(ρ:LO)(Q:PF):Prop where
 run:pF w Γ (exec st Γ.env) σ ρ Q
structure dj (w:World)(Γ:Ctx)(st:List Stmt)(σ:Hp)(ρ:LO)(Q:PF):Prop where
 run:pF w Γ (execs st Γ.env) σ ρ Q
noncomputable def Op (w:World)(Γ:Ctx)(t:Sem Value)(σ:Hp)(ρ:LO)(Q:PQ):Prop:=Ok w Γ er t σ ρ Q
noncomputable abbrev sV (w:World)(Γ:Ctx)(t:Value→Value→Sem Value)(ρ:LO)(Q:PQ)(a b:V):Hp→Prop:=λσ=>∀a' b',er a'=a→er b'=b→Op w Γ (t a' b') σ ρ Q
noncomputable abbrev zC (w:World)(Γ:Ctx)(t:Value→Value→Sem Value)(r:Expr)(ρ:LO)(Q:PQ):PQ:=λa σ=>ak w Γ r σ ρ (sV w Γ t ρ Q a)
inductive kB (QB:Bool→Hp→Prop)(c:V)(σ:Hp):Prop
 |mk (t:Bool) (e:c=.bool t) (q:QB t σ)
structure Br (c:Bool)(A B:Prop):Prop where
 t:c=true→A
 f:c=false→B
noncomputable abbrev Rf (QB:Bool→Hp→Prop):Bool→Hp→Prop:=λb σ=>QB (!b) σ
noncomputable abbrev Rg (w:World)(Γ:Ctx)(a b:Expr)(ρ:LO)(Q:PQ):Bool→Hp→Prop:=λc σ=>Br c (ak w Γ a σ ρ Q) (ak w Γ b σ ρ Q)
section
variable{w:World}{Γ:Ctx}{h:Heap}{σ:Hp}{ρ:LO}{Q:PQ}{QB:Bool→Hp→Prop}
theorem ak.Eg {k pos}(q:Q .none σ):ak w Γ (.Constant .none k pos) σ ρ Q:=⟨λS s D K X hk=>wpAny_Constant_none (hk _ s σ q D)⟩
def bg:= @ak.Eg
theorem ak.Eh {b k pos}(q:Q (.bool b) σ):ak w Γ (.Constant (.bool b) k pos) σ ρ Q:=⟨λS s D K X hk _ _ _=>hk _ s σ q D⟩
def gR:= @ak.Eh
theorem ak.Ei {i k pos}(q:Q (.int i) σ):ak w Γ (.Constant (.int i) k pos) σ ρ Q:=⟨λS s D K X hk=>wpAny_Constant_int (hk _ _ σ q (D.toks _))⟩
def aW:= @ak.Ei
theorem ak.Ej {x k pos}(q:Q (.str x) σ):ak w Γ (.Constant (.str x) k pos) σ ρ Q:=⟨λS s D K X hk=>wpAny_Constant_str (hk _ _ σ q (D.toks _))⟩
def bu:= @ak.Ej
theorem El {vars}(hv:Γ.vars=vars){x:Str}{k:VK}{v:V}(l:Lk vars ρ x k v)(q:Q v σ):Ok w Γ er (loadName Γ.env x) σ ρ Q:=by
 subst hv
 intro S s D K X hk
 obtain⟨m,hn,hh⟩:=D.loc
 have hl:=hh x k v l
 have sW:=S.vk _ l.mem
 cases k with
 |loc=>
  obtain⟨val,h1,rfl⟩:=hl
  exact wpAny_loadName_local S.ek sW hn h1 (hk _ s σ q D)
 |cell=>
  obtain⟨c,val,h1,h2,rfl⟩:=hl
  exact wpAny_loadName_cell S.ek sW.1 h1 h2 (hk _ s σ q D)
 |free=>
  obtain⟨c,val,h1,h2,rfl⟩:=hl
  exact wpAny_loadName_free S.ek sW h1 h2 (hk _ s σ q D) (S.sP _ l.mem).2
set_option tactic.hygienic true in
theorem Known.glob (k:Known w h){x:Str}{v:Value}(e:i9 w x=some v){env:Env}(eg:env.globals=mainGlobals)(eb:env.builtins=builtinsNs){M:Model}{A:Around}{E:VP}{s:Shared}(hs:s.heap=h)
  {Q:VP}(q:Q v s):wpAny M A (loadGlobal env x) Q E s:=by
 subst hs
 have f3:s.heap.get? mainGlobals=(hF w.params).get? mainGlobals:=(k.at (a:=3) (o:=oq w.params) (by rfl')).trans rfl
 have f0:s.heap.get? builtinsNs=(hF w.params).get? builtinsNs:=(k.at (a:=0) (o:=boot_o_0 w.params) (by rfl')).trans rfl
 have g:s.heap.Ns env.globals ((hF w.params).nsMap mainGlobals):=by
  rw[eg,←jI f3];exact Heap.Ns.of_isNs ((iF f3).trans (qW _))
 have b:s.heap.Ns env.builtins ((hF w.params).nsMap builtinsNs):=by
  rw[eb,←jI f0];exact Heap.Ns.of_isNs ((iF f0).trans (DE _))
 unfold i9 at e
 split at e
 next u hu=>cases e;exact loadGlobal_global g hu q
 next hu=>exact loadGlobal_builtin g hu b e q
theorem az.known {s:Shared}(D:az w Γ s σ ρ)(S:bt w Γ):Known w s.heap:=S.K.keeps (let⟨m,F⟩:=D.fr;F.keep)
theorem ak.var {vars}(hv:Γ.vars=vars){x:Str} {pos}{k:VK}{v:V}(l:Lk vars ρ x k v)(q:Q v σ):ak w Γ (.Name x pos) σ ρ Q:=
 ⟨λS s D K X hk=>wpAny_Name (El hv l q S s D K X hk) (S.sP _ (hv▸l.mem)).1⟩
def ah:= @ak.var
theorem ak.glob {gls}(hg:Γ.gls=gls){x:Str} {pos}{v:V}(l:(x,v)∈gls)(q:Q v σ):ak w Γ (.Name x pos) σ ρ Q:=by
 subst hg
 refine⟨λS s D K X hk=>?_⟩
 obtain⟨kd,nd,val,e,rfl⟩:=S.gl _ l
 exact Name_function_global S.ek kd ((D.known S).glob e S.eg S.eb rfl (hk _ s σ q D)) nd
def cm:= @ak.glob
theorem ak.binop {l op r pos}(h:ak w Γ l σ ρ (zC w Γ (binaryOp op) r ρ Q)):ak w Γ (.BinOp l op r pos) σ ρ Q:=
 ⟨λS s D k X hk=>wpAny_BinOp (h.run S s D _ X λa' av aH h₁ aL=>h₁.run S av aL _ X λb' aG aZ iJ aA=>iJ a' b' rfl rfl S aG aA k X hk)⟩
def bC:= @ak.binop
theorem ak.cmp {l op r pos}(h:ak w Γ l σ ρ (zC w Γ (compareOp op) r ρ Q))
  (hm:behindInMarks op r=false:=by with_unfolding_all rfl):ak w Γ (.Compare l [op] [r] pos) σ ρ Q:=
 ⟨λS s D k X hk=>wpAny_Compare1 (h.run S s D _ X λa' av aH h₁ aL=>h₁.run S av aL _ X λb' aG aZ iJ aA=>iJ a' b' rfl rfl S aG aA k X hk) hm⟩
def dP:= @ak.cmp
theorem dJ.cmp {l op r pos}(h:ak w Γ l σ ρ (zC w Γ (compareOp op) r ρ (kB QB)))
  (hm:behindInMarks op r=false:=by with_unfolding_all rfl):dJ w Γ (.Compare l [op] [r] pos) σ ρ QB:=
 ⟨λS s D k X hk=>wpAny_isTrue_Compare1 (h.run S s D _ X λa' av aH h₁ aL=>h₁.run S av aL _ X λb' aG aZ iJ aA=>iJ a' b' rfl rfl S aG aA _ X λc bI lS q bN=>by
  obtain⟨t,e,q⟩:=q
  obtain rfl:=mK e
  exact wpAny_truthy_bool (hk t bI lS q bN)) hm⟩
def aF:= @dJ.cmp
inductive oz (σ:Hp):V→Bool→Prop
 |none:oz σ .none false
 |bool {b}:oz σ (.bool b) b
 |int {i}:oz σ (.int i) (i !=0)
theorem oz.ok {v:V}{b:Bool}(t:oz σ v b){v':Value}(e:er v'=v){QB:Bool→Hp→Prop}(q:QB b σ):Ok w Γ id (truthy v') σ ρ QB:=by
 intro S s D k X hk
 cases t with
 |none=>obtain rfl:=ke e;exact truthy_none (hk _ s σ q D)
 |bool=>obtain rfl:=mK e;exact wpAny_truthy_bool (hk _ s σ q D)
 |int=>refine cL e λt=>?_;exact P.truthy_int (hk _ s σ q D)
inductive Rh (QB:Bool→Hp→Prop)(v:V)(σ:Hp):Prop
 |mk (b:Bool) (t:oz σ v b) (q:QB b σ)
theorem dJ.value {e:Expr}(h:ak w Γ e σ ρ (Rh QB))
  (he:∀env whole,isTrue e env whole=(do let v←whole;standAt e.pos;holding [v] (truthy v)):=by intro _ _;rfl):dJ w Γ e σ ρ QB:=
 ⟨λS s D k X hk=>wpAny_isTrue_value (h.run S s D _ X λv av aH q aL=>by
  obtain⟨b,t,q⟩:=q
  exact t.ok rfl q S av aL k X hk) (he _ _)⟩
def c8:= @dJ.value
theorem dJ.not {x pos}(h:dJ w Γ x σ ρ (Rf QB)):dJ w Γ (.UnaryOp .Not x pos) σ ρ QB:=
 ⟨λS s D k X hk=>wpAny_isTrue_Not (h.run S s D _ X λb av aH q aL=>hk _ av aH q aL)⟩
theorem ak.Ri {t a b pos}(h:dJ w Γ t σ ρ (Rg w Γ a b ρ Q)):ak w Γ (.IfExp t a b pos) σ ρ Q:=
 ⟨λS s D k X hk=>wpAny_IfExp (h.run S s D _ X λc av aH q aL=>by
  cases c with
  |true=>exact(q.1 rfl).run S av aL k X hk
  |false=>exact(q.2 rfl).run S av aL k X hk)⟩
def gS:= @ak.Ri
structure hY (w:World)(Γ:Ctx)(op:BoolOp)(xs:List Expr)(σ:Hp)(ρ:LO)(Q:Bool→Hp→Prop):Prop where
 run:Ok w Γ id (allTrue op xs Γ.env) σ ρ Q
noncomputable abbrev Rj (w:World)(Γ:Ctx)(rest:List Expr)(ρ:LO)(QB:Bool→Hp→Prop):Bool→Hp→Prop:=λc σ=>Br c (hY w Γ .And rest σ ρ QB) (QB false σ)
noncomputable abbrev Rk (w:World)(Γ:Ctx)(rest:List Expr)(ρ:LO)(QB:Bool→Hp→Prop):Bool→Hp→Prop:=λc σ=>Br c (QB true σ) (hY w Γ .Or rest σ ρ QB)
theorem hY.and_nil (q:QB true σ):hY w Γ .And [] σ ρ QB:=⟨λS s D k X hk=>wpAny_allTrue_And_nil (hk _ s σ q D)⟩
def jL:= @hY.and_nil
theorem hY.or_nil (q:QB false σ):hY w Γ .Or [] σ ρ QB:=⟨λS s D k X hk=>wpAny_allTrue_Or_nil (hk _ s σ q D)⟩
def kU:= @hY.or_nil
theorem hY.and_cons {x rest}(h:dJ w Γ x σ ρ (Rj w Γ rest ρ QB)):hY w Γ .And (x::rest) σ ρ QB:=
 ⟨λS s D k X hk=>wpAny_allTrue_And_cons (h.run S s D _ X λc av aH q aL=>by
  cases c with
  |true=>exact(q.1 rfl).run S av aL k X hk
  |false=>exact hk _ av aH (q.2 rfl) aL)⟩
def bW:= @hY.and_cons
theorem hY.or_cons {x rest}(h:dJ w Γ x σ ρ (Rk w Γ rest ρ QB)):hY w Γ .Or (x::rest) σ ρ QB:=
 ⟨λS s D k X hk=>wpAny_allTrue_Or_cons (h.run S s D _ X λc av aH q aL=>by
  cases c with
  |true=>exact hk _ av aH (q.1 rfl) aL
  |false=>exact(q.2 rfl).run S av aL k X hk)⟩
def dK:= @hY.or_cons
theorem dJ.all {op xs pos}(h:hY w Γ op xs σ ρ QB):dJ w Γ (.BoolOp op xs pos) σ ρ QB:=⟨λS s D k X hk=>wpAny_isTrue_BoolOp (h.run S s D k X hk)⟩
def cw:= @dJ.all
structure h8 (w:World)(Γ:Ctx)(pos:Pos)(op:BoolOp)(xs:List Expr)(σ:Hp)(ρ:LO)(Q:PQ):Prop where
 run:Ok w Γ er (PySem.boolOp pos op (evalEach xs Γ.env)) σ ρ Q
inductive Rl (w:World)(Γ:Ctx)(pos:Pos)(r:List Expr)(ρ:LO)(Q:PQ)(v:V)(σ:Hp):Prop
 |mk (b:Bool) (t:oz σ v b) (q:Br b (h8 w Γ pos .And r σ ρ Q) (Q v σ))
inductive Rm (w:World)(Γ:Ctx)(pos:Pos)(r:List Expr)(ρ:LO)(Q:PQ)(v:V)(σ:Hp):Prop
 |mk (b:Bool) (t:oz σ v b) (q:Br b (Q v σ) (h8 w Γ pos .Or r σ ρ Q))
theorem h8.one {pos op x}(h:ak w Γ x σ ρ Q):h8 w Γ pos op [x] σ ρ Q:=⟨h.run⟩
def iK:= @h8.one
theorem h8.and {pos x y rest}(h:ak w Γ x σ ρ (Rl w Γ pos (y::rest) ρ Q)):h8 w Γ pos .And (x::y::rest) σ ρ Q:=by
 refine⟨λS s D k X hk=>?_⟩
 unfold evalEach
 refine aP (h.run S s D _ X λv av aH q aL=>?_)
 obtain⟨b,t,h1,h2⟩:=q
 refine aP (j8 (aP (gA (t.ok (QB:=λc σ'=>c=b∧σ'=aH) rfl ⟨rfl,rfl⟩ S av aL _ X λc aG aZ b_ aA=>?_))))
 obtain⟨q2,rfl⟩:=b_
 have q2:c=b:=q2
 subst q2
 cases c with
 |true=>exact(h1 rfl).run S aG aA k X hk
 |false=>exact bY (hk _ aG _ (h2 rfl) aA)
def h_:= @h8.and
theorem h8.or {pos x y rest}(h:ak w Γ x σ ρ (Rm w Γ pos (y::rest) ρ Q)):h8 w Γ pos .Or (x::y::rest) σ ρ Q:=by
 refine⟨λS s D k X hk=>?_⟩
 unfold evalEach
 refine aP (h.run S s D _ X λv av aH q aL=>?_)
 obtain⟨b,t,h1,h2⟩:=q
 refine aP (j8 (aP (gA (t.ok (QB:=λc σ'=>c=b∧σ'=aH) rfl ⟨rfl,rfl⟩ S av aL _ X λc aG aZ b_ aA=>?_))))
 obtain⟨q2,rfl⟩:=b_
 have q2:c=b:=q2
 subst q2
 cases c with
 |false=>exact(h2 rfl).run S aG aA k X hk
 |true=>exact bY (hk _ aG _ (h1 rfl) aA)
theorem ak.Rn {op xs pos}(h:h8 w Γ pos op xs σ ρ Q):ak w Γ (.BoolOp op xs pos) σ ρ Q:=⟨λS s D k X hk=>h.run S s D k X hk⟩
def fQ:= @ak.Rn
end
inductive cU (σ:Hp):Nat→V→V→Bool→Prop
 |nn {n}:cU σ n .none .none true
 |bb {n a b}:cU σ n (.bool a) (.bool b) (a==b)
 |ii {n a b}:cU σ n (.int a) (.int b) (a==b)
 |ss {n a b}:cU σ n (.str a) (.str b) (a==b)
 |ni {n b}:cU σ n .none (.int b) false
 |Ro {n b}:cU σ n (.int b) .none false
 |ns {n b}:cU σ n .none (.str b) false
 |sn {n b}:cU σ n (.str b) .none false
 |si {n a b}:cU σ n (.str a) (.int b) false
 |is {n a b}:cU σ n (.int a) (.str b) false
 |ti {n l xs b}:σ l=some (.tup xs)→cU σ (n+1) (.ref l) (.int b) false
 |ln {n l xs}:σ l=some (.list xs)→cU σ (n+1) (.ref l) .none false
 |ll {n l b xs ys}(f:Nat→Bool):σ l=some (.list xs)→σ b=some (.list ys)→l≠b→xs.length=ys.length→
   (∀j (h1:j<xs.length)(h2:j<ys.length),cU σ n xs[j] ys[j] (f j))→cU σ (n+1) (.ref l) (.ref b) ((List.range xs.length).all f)
 |sX {n l b xs ys}:σ l=some (.list xs)→σ b=some (.list ys)→l≠b→xs.length≠ys.length→cU σ (n+1) (.ref l) (.ref b) false
theorem At.isList {w:World}{h:Heap}{l:Addr}{xs:List V}(x:At w h l (.list xs)):∃vs:Array Value,h.IsList l vs∧vs.toList.map er=xs:=by
 obtain⟨n,vs,e,r⟩:=x
 exact⟨vs,⟨_,e,rfl,n,rfl⟩,r⟩
theorem At.isTup {w:World}{h:Heap}{l:Addr}{xs:List V}(x:At w h l (.tup xs)):∃vs:Array Value,h.IsTuple l vs∧vs.toList.map er=xs:=by
 obtain⟨n,vs,e,r⟩:=x
 exact⟨vs,⟨_,e,rfl,n,rfl⟩,r⟩
theorem fg {vs:Array Value}{xs:List V}(h:vs.toList.map er=xs):vs.size=xs.length:=by rw[←h];simp
theorem Em {vs:Array Value}{xs:List V}(h:vs.toList.map er=xs){j:Nat}(h1:j<vs.size):er vs[j]=xs[j]'(fg h▸h1):=by subst h;simp
theorem cU.at {w:World}{σ:Hp}{n:Nat}{a b:V}{c:Bool}(e:cU σ n a b c):∀{s:Shared}{A:Around},HR w s.heap σ→A.units+n<cLine→∀{a' b':Value},er a'=a→er b'=b→EqAt A s a' b' c∧RcAt A s a' b' c∧RcNeAt A s a' b' (!c):=by
 induction e with
 |nn=>intro s A H hu a' b' ea eb;obtain rfl:=ke ea;obtain rfl:=ke eb;exact⟨EqAt.same _,RcAt.none_none,RcNeAt.none_none⟩
 |bb=>intro s A H hu a' b' ea eb;obtain rfl:=mK ea;obtain rfl:=mK eb;exact⟨EqAt.bool_bool _ _,RcAt.bool_bool _ _,RcNeAt.bool_bool _ _⟩
 |ii=>intro s A H hu a' b' ea eb;refine cL ea λt=>?_;refine cL eb λu=>?_;exact⟨EqAt.int_int _ _ _ _,RcAt.int_int _ _ _ _,RcNeAt.int_int _ _ _ _⟩
 |ss=>intro s A H hu a' b' ea eb;refine gh ea λt=>?_;refine gh eb λu=>?_;exact⟨EqAt.str_str _ _ _ _,RcAt.str_str _ _ _ _,RcNeAt.str_str _ _ _ _⟩
 |ni=>intro s A H hu a' b' ea eb;obtain rfl:=ke ea;refine cL eb λu=>?_;exact⟨EqAt.none_int _ _,RcAt.none_int _ _,RcNeAt.none_int _ _⟩
 |Ro=>intro s A H hu a' b' ea eb;refine cL ea λt=>?_;obtain rfl:=ke eb;exact⟨EqAt.int_none _ _,RcAt.int_none _ _,RcNeAt.int_none _ _⟩
 |ns=>intro s A H hu a' b' ea eb;obtain rfl:=ke ea;refine gh eb λu=>?_;exact⟨EqAt.none_str _ _,RcAt.none_str _ _,RcNeAt.none_str _ _⟩
 |sn=>intro s A H hu a' b' ea eb;refine gh ea λt=>?_;obtain rfl:=ke eb;exact⟨EqAt.str_none _ _,RcAt.str_none _ _,RcNeAt.str_none _ _⟩
 |si=>intro s A H hu a' b' ea eb;refine gh ea λt=>?_;refine cL eb λu=>?_;exact⟨EqAt.str_int _ _ _ _,RcAt.str_int _ _ _ _,RcNeAt.str_int _ _ _ _⟩
 |is=>intro s A H hu a' b' ea eb;refine cL ea λt=>?_;refine gh eb λu=>?_;exact⟨EqAt.int_str _ _ _ _,RcAt.int_str _ _ _ _,RcNeAt.int_str _ _ _ _⟩
 |ti hl=>
  intro s A H hu a' b' ea eb
  refine bJ ea ?_;refine cL eb λu=>?_
  obtain⟨vs,ht,_⟩:=(H.at_ _ _ hl).isTup
  exact⟨EqAt.tuple_int _ _ ht (by lia),RcAt.tuple_int _ _ ht (by lia),RcNeAt.tuple_int _ _ ht (by lia)⟩
 |ln hl=>
  intro s A H hu a' b' ea eb
  refine bJ ea ?_;obtain rfl:=ke eb
  obtain⟨vs,ht,_⟩:=(H.at_ _ _ hl).isList
  exact⟨EqAt.list_none ht (by lia),RcAt.list_none ht (by lia),RcNeAt.list_none ht (by lia)⟩
 |ll f hl hb b8 hlen he ih=>
  intro s A H hu a' b' ea eb
  refine bJ ea ?_;refine bJ eb ?_
  obtain⟨vs,hv,ev⟩:=(H.at_ _ _ hl).isList
  obtain⟨us,pI,eu⟩:=(H.at_ _ _ hb).isList
  have sz:vs.size=us.size:=by rw[fg ev,fg eu];exact hlen
  have k:∀j (h1:j<vs.size) (h2:j<us.size),EqAt A.in1 s vs[j] us[j] (f j):=λj h1 h2=>
   (ih j (fg ev▸h1) (fg eu▸h2) H (A:=A.in1) (by show A.units+1+_<_;lia) (Em ev h1) (Em eu h2)).1
  rw[←fg ev]
  exact⟨EqAt.of_refs b8 (RcAt.lists hv pI sz (by lia) k),RcAt.lists hv pI sz (by lia) k,RcNeAt.lists hv pI sz (by lia) k⟩
 |sX hl hb b8 hlen=>
  intro s A H hu a' b' ea eb
  refine bJ ea ?_;refine bJ eb ?_
  obtain⟨vs,hv,ev⟩:=(H.at_ _ _ hl).isList
  obtain⟨us,pI,eu⟩:=(H.at_ _ _ hb).isList
  have sz:(vs.size !=us.size)=true:=by rw[fg ev,fg eu];simpa using hlen
  exact⟨EqAt.of_refs b8 (RcAt.lists_lengths hv pI sz (by lia)),RcAt.lists_lengths hv pI sz (by lia),RcNeAt.lists_lengths hv pI sz (by lia)⟩
noncomputable def bB:V→Bool
 |.none=>true
 |_=>false
theorem Ep {v:Value}:bB (er v)=(v==.none):=by cases v<;>rfl
noncomputable def keyOf:LV→Str→Option V
 | [],_=>none
 |(k,v)::r,x=>if k=x then some v else keyOf r x
inductive gU (σ:Hp):CmpOp→V→V→Bool→Prop
 |eq {a b c}:cU σ 3 a b c→gU σ .Eq a b c
 |ne {a b c}:cU σ 3 a b c→gU σ .NotEq a b (!c)
 |ltI {a b}:gU σ .Lt (.int a) (.int b) (decide (a<b))
 |vD {a b}:gU σ .LtE (.int a) (.int b) (decide (a≤b))
 |jc {a b}:gU σ .Gt (.int a) (.int b) (decide (a>b))
 |Er {a b}:gU σ .GtE (.int a) (.int b) (decide (a≥b))
 |Es {a b}:gU σ .Lt (.str a) (.str b) (decide (a.cps.toList<b.cps.toList))
 |Et {a b}:gU σ .Gt (.str a) (.str b) (decide (b.cps.toList<a.cps.toList))
 |bB {a}:gU σ .Is a .none (bB a)
 |d7 {a}:gU σ .IsNot a .none (!bB a)
 |vE {a l xs}(f:V→Bool):σ l=some (.tup xs)→(∀y∈xs,cU σ 3 y a (f y))→gU σ .In a (.ref l) (xs.any f)
 |pJ {a l xs}(f:V→Bool):σ l=some (.list xs)→(∀y∈xs,cU σ 3 y a (f y))→gU σ .In a (.ref l) (xs.any f)
 |Eu {a l xs}(f:V→Bool):σ l=some (.tup xs)→(∀y∈xs,cU σ 3 y a (f y))→gU σ .NotIn a (.ref l) (!xs.any f)
 |zD {a l xs}(f:V→Bool):σ l=some (.list xs)→(∀y∈xs,cU σ 3 y a (f y))→gU σ .NotIn a (.ref l) (!xs.any f)
theorem vF {vs:Array Value}{xs:List V}(h:vs.toList.map er=xs)(f:V→Bool):vs.any (λv=>f (er v))=xs.any f:=by
 subst h
 rw[←Array.any_toList,List.any_map];rfl
section
variable{w:World}{Γ:Ctx}{σ:Hp}{ρ:LO}{Q:PQ}{QB:Bool→Hp→Prop}
theorem bt.u3 (S:bt w Γ){n:Nat}(hn:n≤30:=by decide):Γ.A.units+n<cLine:=by have:=S.un;lia
theorem gU.ok {op:CmpOp}{a b:V}{c:Bool}(x:gU σ op a b c)(q:Q (.bool c) σ):∀a' b',er a'=a→er b'=b→Op w Γ (compareOp op a' b') σ ρ Q:=by
 intro a' b' ea eb S s D k X hk
 have fin:k (.bool c) s:=hk _ s σ q D
 cases x with
 |eq e=>exact(e.at D.hr S.u3 ea eb).2.1 aC w X k fin
 |ne e=>exact(e.at D.hr S.u3 ea eb).2.2 aC w X k fin
 |ltI=>refine cL ea λt=>?_;refine cL eb λu=>?_;exact P.lt_int fin
 |vD=>refine cL ea λt=>?_;refine cL eb λu=>?_;exact P.le_int fin
 |jc=>refine cL ea λt=>?_;refine cL eb λu=>?_;exact P.gt_int fin
 |Er=>refine cL ea λt=>?_;refine cL eb λu=>?_;exact P.ge_int fin
 |Es=>refine gh ea λt=>?_;refine gh eb λu=>?_;exact P.lt_str fin
 |Et=>refine gh ea λt=>?_;refine gh eb λu=>?_;exact P.gt_str fin
 |bB=>obtain rfl:=ke eb;rw[←ea,Ep]at fin;exact is_none fin
 |d7=>obtain rfl:=ke eb;rw[←ea,Ep]at fin;exact isNot_none fin
 |vE f hl he=>
  refine bJ eb ?_
  obtain⟨vs,ht,ev⟩:=(D.hr.at_ _ _ hl).isTup
  rw[←vF ev]at fin
  exact in_tupleAt _ ht (λy hy=>((he _ (ev▸cB (sj.mpr hy))).at D.hr (A:=Γ.A.in1) (by show Γ.A.units+1+3<_;exact S.u3 (n:=4)) rfl ea).1) fin
 |pJ f hl he=>
  refine bJ eb ?_
  obtain⟨vs,ht,ev⟩:=(D.hr.at_ _ _ hl).isList
  rw[←vF ev]at fin
  exact in_listAt _ ht (λy hy=>((he _ (ev▸cB (sj.mpr hy))).at D.hr (A:=Γ.A.in1) (by show Γ.A.units+1+3<_;exact S.u3 (n:=4)) rfl ea).1) fin
 |Eu f hl he=>
  refine bJ eb ?_
  obtain⟨vs,ht,ev⟩:=(D.hr.at_ _ _ hl).isTup
  rw[←vF ev]at fin
  exact notIn_tupleAt _ ht (λy hy=>((he _ (ev▸cB (sj.mpr hy))).at D.hr (A:=Γ.A.in1) (by show Γ.A.units+1+3<_;exact S.u3 (n:=4)) rfl ea).1) fin
 |zD f hl he=>
  refine bJ eb ?_
  obtain⟨vs,ht,ev⟩:=(D.hr.at_ _ _ hl).isList
  rw[←vF ev]at fin
  exact notIn_listAt _ ht (λy hy=>((he _ (ev▸cB (sj.mpr hy))).at D.hr (A:=Γ.A.in1) (by show Γ.A.units+1+3<_;exact S.u3 (n:=4)) rfl ea).1) fin
def ax:= @gU.ok
theorem Op.jd {x y:Int}(q:Q (.int (x+y)) σ):∀a' b',er a'=.int x→er b'=.int y→Op w Γ (binaryOp .Add a' b') σ ρ Q:=by
 intro a' b' ea eb S s D k X hk
 refine cL ea λt=>?_;refine cL eb λu=>?_
 exact P.add_int (hk _ _ σ q (D.toks _))
theorem Op.pK {x y:Int}(q:Q (.int (x-y)) σ):∀a' b',er a'=.int x→er b'=.int y→Op w Γ (binaryOp .Sub a' b') σ ρ Q:=by
 intro a' b' ea eb S s D k X hk
 refine cL ea λt=>?_;refine cL eb λu=>?_
 exact P.sub_int (hk _ _ σ q (D.toks _))
theorem Op.q8 {x y:Int}(hx: -(2^64)<x∧x<2^64)(q:Q (.int (x*y)) σ):∀a' b',er a'=.int x→er b'=.int y→Op w Γ (binaryOp .Mult a' b') σ ρ Q:=by
 intro a' b' ea eb S s D k X hk
 refine cL ea λt=>?_;refine cL eb λu=>?_
 exact P.mul_int (hk _ _ σ q (D.toks _)) (IntMulOk.of_left (intBits_le_64 hx.1 hx.2))
theorem Op.Rp {x y:Int}(hy:y≠0)(q:Q (.int (x.fmod y)) σ):∀a' b',er a'=.int x→er b'=.int y→Op w Γ (binaryOp .Mod a' b') σ ρ Q:=by
 intro a' b' ea eb S s D k X hk
 refine cL ea λt=>?_;refine cL eb λu=>?_
 exact mod_int' hy (hk _ _ σ q (D.toks _))
def fC:= @Op.Rp
theorem Rq {x y:Str}(h:x.length+y.length≤1000000):(x++y).length≤sizeLine:=by
 rw[strLen_append];exact dO h (by decide)
theorem Op.lT {x y:Str}(hs:x.length+y.length≤1000000)(q:Q (.str (x++y)) σ):∀a' b',er a'=.str x→er b'=.str y→Op w Γ (binaryOp .Add a' b') σ ρ Q:=by
 intro a' b' ea eb S s D k X hk
 refine gh ea λt=>?_;refine gh eb λu=>?_
 refine P.add_str ?_
 split
 ·next h0=>
  have:x++y=y:=by
   obtain⟨cx⟩:=x;obtain⟨cy⟩:=y
   have h0:cx= #[]:=Array.eq_empty_of_size_eq_zero (by simpa [Str.length]using h0)
   subst h0
   show Str.append _ _=_
   simp[Str.append]
  exact hk _ s σ (this▸q) D
 ·split
  ·next h0=>
   have:x++y=x:=by
    obtain⟨cx⟩:=x;obtain⟨cy⟩:=y
    have h0:cy= #[]:=Array.eq_empty_of_size_eq_zero (by simpa [Str.length]using h0)
    subst h0
    show Str.append _ _=_
    simp[Str.append]
   exact hk _ s σ (this▸q) D
  ·exact⟨Rq hs,hk _ _ σ q (D.toks _)⟩
end
inductive Pt:KV→LO→Str→V→LO→Prop
 |here {x k vs o ρ v}:k≠.free→Pt ((x,k)::vs) (o::ρ) x v (some v::ρ)
 |there {p vs o ρ x v aR}:Pt vs ρ x v aR→Pt (p::vs) (o::ρ) x v (o::aR)
theorem bX {p0 x vs o0 o v ρ}:Pt (p0::(x,.loc)::vs) (o0::o::ρ) x v (o0::some v::ρ):=.there (.here (λh=>nomatch h))
theorem eL {p0 p1 x vs o0 o1 o v ρ}:Pt (p0::p1::(x,.loc)::vs) (o0::o1::o::ρ) x v (o0::o1::some v::ρ):=.there (.there (.here (λh=>nomatch h)))
theorem eM {p0 p1 p2 x vs o0 o1 o2 o v ρ}:Pt (p0::p1::p2::(x,.loc)::vs) (o0::o1::o2::o::ρ) x v (o0::o1::o2::some v::ρ):=.there (.there (.there (.here (λh=>nomatch h))))
theorem dR {p0 p1 p2 p3 x vs o0 o1 o2 o3 o v ρ}:Pt (p0::p1::p2::p3::(x,.loc)::vs) (o0::o1::o2::o3::o::ρ) x v (o0::o1::o2::o3::some v::ρ):=.there (.there (.there (.there (.here (λh=>nomatch h)))))
theorem fh {p0 p1 p2 p3 p4 x vs o0 o1 o2 o3 o4 o v ρ}:Pt (p0::p1::p2::p3::p4::(x,.loc)::vs) (o0::o1::o2::o3::o4::o::ρ) x v (o0::o1::o2::o3::o4::some v::ρ):=.there (.there (.there (.there (.there (.here (λh=>nomatch h))))))
theorem eB {p0 p1 p2 p3 p4 p5 x vs o0 o1 o2 o3 o4 o5 o v ρ}:Pt (p0::p1::p2::p3::p4::p5::(x,.loc)::vs) (o0::o1::o2::o3::o4::o5::o::ρ) x v (o0::o1::o2::o3::o4::o5::some v::ρ):=.there (.there (.there (.there (.there (.there (.here (λh=>nomatch h)))))))
theorem gV {p0 p1 p2 p3 p4 p5 p6 x vs o0 o1 o2 o3 o4 o5 o6 o v ρ}:Pt (p0::p1::p2::p3::p4::p5::p6::(x,.loc)::vs) (o0::o1::o2::o3::o4::o5::o6::o::ρ) x v (o0::o1::o2::o3::o4::o5::o6::some v::ρ):=.there (.there (.there (.there (.there (.there (.there (.here (λh=>nomatch h))))))))
theorem je {p0 p1 p2 p3 p4 p5 p6 p7 x vs o0 o1 o2 o3 o4 o5 o6 o7 o v ρ}:Pt (p0::p1::p2::p3::p4::p5::p6::p7::(x,.loc)::vs) (o0::o1::o2::o3::o4::o5::o6::o7::o::ρ) x v (o0::o1::o2::o3::o4::o5::o6::o7::some v::ρ):=.there (.there (.there (.there (.there (.there (.there (.there (.here (λh=>nomatch h)))))))))
theorem vG {p0 p1 p2 p3 p4 p5 p6 p7 p8 x vs o0 o1 o2 o3 o4 o5 o6 o7 o8 o v ρ}:Pt (p0::p1::p2::p3::p4::p5::p6::p7::p8::(x,.loc)::vs) (o0::o1::o2::o3::o4::o5::o6::o7::o8::o::ρ) x v (o0::o1::o2::o3::o4::o5::o6::o7::o8::some v::ρ):=.there (.there (.there (.there (.there (.there (.there (.there (.there (.here (λh=>nomatch h))))))))))
theorem vH {p0 p1 p2 p3 p4 p5 p6 p7 p8 p9 x vs o0 o1 o2 o3 o4 o5 o6 o7 o8 o9 o v ρ}:Pt (p0::p1::p2::p3::p4::p5::p6::p7::p8::p9::(x,.loc)::vs) (o0::o1::o2::o3::o4::o5::o6::o7::o8::o9::o::ρ) x v (o0::o1::o2::o3::o4::o5::o6::o7::o8::o9::some v::ρ):=.there (.there (.there (.there (.there (.there (.there (.there (.there (.there (.here (λh=>nomatch h)))))))))))
theorem zE {p0 p1 p2 p3 p4 p5 p6 p7 p8 p9 mO x vs o0 o1 o2 o3 o4 o5 o6 o7 o8 o9 jf o v ρ}:Pt (p0::p1::p2::p3::p4::p5::p6::p7::p8::p9::mO::(x,.loc)::vs) (o0::o1::o2::o3::o4::o5::o6::o7::o8::o9::jf::o::ρ) x v (o0::o1::o2::o3::o4::o5::o6::o7::o8::o9::jf::some v::ρ):=.there (.there (.there (.there (.there (.there (.there (.there (.there (.there (.there (.here (λh=>nomatch h))))))))))))
theorem Ew {p0 p1 p2 p3 p4 p5 p6 p7 p8 p9 mO pL x vs o0 o1 o2 o3 o4 o5 o6 o7 o8 o9 jf kV o v ρ}:Pt (p0::p1::p2::p3::p4::p5::p6::p7::p8::p9::mO::pL::(x,.loc)::vs) (o0::o1::o2::o3::o4::o5::o6::o7::o8::o9::jf::kV::o::ρ) x v (o0::o1::o2::o3::o4::o5::o6::o7::o8::o9::jf::kV::some v::ρ):=.there (.there (.there (.there (.there (.there (.there (.there (.there (.there (.there (.there (.here (λh=>nomatch h)))))))))))))
theorem zH {p0 p1 p2 p3 p4 p5 p6 p7 p8 p9 mO pL sY x vs o0 o1 o2 o3 o4 o5 o6 o7 o8 o9 jf kV oA o v ρ}:Pt (p0::p1::p2::p3::p4::p5::p6::p7::p8::p9::mO::pL::sY::(x,.loc)::vs) (o0::o1::o2::o3::o4::o5::o6::o7::o8::o9::jf::kV::oA::o::ρ) x v (o0::o1::o2::o3::o4::o5::o6::o7::o8::o9::jf::kV::oA::some v::ρ):=.there (.there (.there (.there (.there (.there (.there (.there (.there (.there (.there (.there (.there (.here (λh=>nomatch h))))))))))))))
theorem Ex {p0 p1 p2 p3 p4 p5 p6 p7 p8 p9 mO pL sY zI x vs o0 o1 o2 o3 o4 o5 o6 o7 o8 o9 jf kV oA sZ o v ρ}:Pt (p0::p1::p2::p3::p4::p5::p6::p7::p8::p9::mO::pL::sY::zI::(x,.loc)::vs) (o0::o1::o2::o3::o4::o5::o6::o7::o8::o9::jf::kV::oA::sZ::o::ρ) x v (o0::o1::o2::o3::o4::o5::o6::o7::o8::o9::jf::kV::oA::sZ::some v::ρ):=.there (.there (.there (.there (.there (.there (.there (.there (.there (.there (.there (.there (.there (.there (.here (λh=>nomatch h)))))))))))))))
theorem Rr {p0 p1 p2 p3 p4 p5 p6 p7 p8 p9 mO pL sY zI Rt x vs o0 o1 o2 o3 o4 o5 o6 o7 o8 o9 jf kV oA sZ Ey o v ρ}:Pt (p0::p1::p2::p3::p4::p5::p6::p7::p8::p9::mO::pL::sY::zI::Rt::(x,.loc)::vs) (o0::o1::o2::o3::o4::o5::o6::o7::o8::o9::jf::kV::oA::sZ::Ey::o::ρ) x v (o0::o1::o2::o3::o4::o5::o6::o7::o8::o9::jf::kV::oA::sZ::Ey::some v::ρ):=.there (.there (.there (.there (.there (.there (.there (.there (.there (.there (.there (.there (.there (.there (.there (.here (λh=>nomatch h))))))))))))))))
theorem zJ {p0 x vs o0 o v ρ}:Pt (p0::(x,.cell)::vs) (o0::o::ρ) x v (o0::some v::ρ):=.there (.here (λh=>nomatch h))
theorem vJ {p0 p1 x vs o0 o1 o v ρ}:Pt (p0::p1::(x,.cell)::vs) (o0::o1::o::ρ) x v (o0::o1::some v::ρ):=.there (.there (.here (λh=>nomatch h)))
theorem s6 {p0 p1 p2 x vs o0 o1 o2 o v ρ}:Pt (p0::p1::p2::(x,.cell)::vs) (o0::o1::o2::o::ρ) x v (o0::o1::o2::some v::ρ):=.there (.there (.there (.here (λh=>nomatch h))))
theorem Ez {p0 p1 p2 p3 x vs o0 o1 o2 o3 o v ρ}:Pt (p0::p1::p2::p3::(x,.cell)::vs) (o0::o1::o2::o3::o::ρ) x v (o0::o1::o2::o3::some v::ρ):=.there (.there (.there (.there (.here (λh=>nomatch h)))))
theorem Ru {p0 p1 p2 p3 p4 p5 p6 p7 x vs o0 o1 o2 o3 o4 o5 o6 o7 o v ρ}:Pt (p0::p1::p2::p3::p4::p5::p6::p7::(x,.cell)::vs) (o0::o1::o2::o3::o4::o5::o6::o7::o::ρ) x v (o0::o1::o2::o3::o4::o5::o6::o7::some v::ρ):=.there (.there (.there (.there (.there (.there (.there (.there (.here (λh=>nomatch h)))))))))
theorem Rv {p0 p1 p2 p3 p4 p5 p6 p7 p8 x vs o0 o1 o2 o3 o4 o5 o6 o7 o8 o v ρ}:Pt (p0::p1::p2::p3::p4::p5::p6::p7::p8::(x,.cell)::vs) (o0::o1::o2::o3::o4::o5::o6::o7::o8::o::ρ) x v (o0::o1::o2::o3::o4::o5::o6::o7::o8::some v::ρ):=.there (.there (.there (.there (.there (.there (.there (.there (.there (.here (λh=>nomatch h))))))))))
theorem Pt.mem {vs:KV}{ρ aR:LO}{x:Str}{v:V}(h:Pt vs ρ x v aR):∃k,k≠.free∧(x,k)∈vs:=by
 induction h with
 |here h=>exact⟨_,h,bA⟩
 |there _ ih=>obtain⟨k,a,b⟩:=ih;exact⟨k,a,bw _ b⟩
theorem Pt.inv {p:Str×VK}{vs:KV}{o:Option V}{ρ aR:LO}{x:Str}{v:V}(h:Pt (p::vs) (o::ρ) x v aR):(p.1=x∧aR=some v::ρ)∨∃bj,aR=o::bj∧Pt vs ρ x v bj:=by
 cases h with|here _=>exact .inl ⟨rfl,rfl⟩|there h=>exact .inr ⟨_,rfl,h⟩
theorem Pt.lk {vs:KV}{ρ aR:LO}{x:Str}{v:V}(h:Pt vs ρ x v aR):(vs.map (·.1)).Nodup→∀{y k u},Lk vs aR y k u→(y=x∧u=v)∨(y≠x∧Lk vs ρ y k u):=by
 induction h with
 |here _=>
  intro nd y k u l
  rw[bx,fz]at nd
  rcases l.inv with⟨e1,e2⟩|l
  exact .inl ⟨(jG e1).1.symm,(j7 e2).symm⟩
  exact .inr ⟨λq=>nd.1 (q▸cB (f:=(·.1)) l.mem),.there l⟩
 |there ht ih=>
  intro nd y k u l
  rw[bx,fz]at nd
  rcases l.inv with⟨e1,e2⟩|l
  refine .inr ⟨λq=>?_,e1▸e2▸.here⟩
  obtain⟨k,_,hm⟩:=ht.mem
  exact nd.1 (e1▸q▸cB (f:=(·.1)) hm)
  exact(ih nd.2 l).imp id λh=>⟨h.1,.there h.2⟩
theorem zK {vs:KV}(nd:(vs.map (·.1)).Nodup){x:Str}{k j:VK}(h1:(x,k)∈vs)(h2:(x,j)∈vs):k=j:=by
 induction vs with
 |nil=>cases h1
 |cons p r ih=>
  rw[bx,fz]at nd
  rcases aY.mp h1 with e1|h1
  rcases aY.mp h2 with e2|h2
  rw[←e1]at e2;exact(jG e2).2.symm
  exact absurd (cB (f:=(·.1)) h2) (by rw[←e1]at nd;exact nd.1)
  rcases aY.mp h2 with e2|h2
  exact absurd (cB (f:=(·.1)) h1) (by rw[←e2]at nd;exact nd.1)
  exact ih nd.2 h1 h2
section
variable{w:World}{Γ:Ctx}{σ:Hp}{ρ aR:LO}{Q:PF}
theorem At.zM {h h':Heap}{b:Addr}(hs:∀c,c≠b→h'.get? c=h.get? c)(H:HR w h σ)(off:Off h σ b):HR w h' σ:=
 H.same λa o sa c hc=>hs c λq=>off a o sa (q▸hc)
theorem mP {s:Shared}{x:Str}{v':Value}{k:Unit→Shared→Prop}{X:VP}(S:bt w Γ)(D:az w Γ s σ ρ)(p:Pt Γ.vars ρ x (er v') aR)(hk:∀s',az w Γ s' σ aR→k () s'):
  wpAny (model aC w) Γ.A (storeName Γ.env x v') k X s:=by
 obtain⟨kd,sW,hm⟩:=p.mem
 have kk:=S.vk _ hm
 obtain⟨m,F⟩:=D.fr
 obtain⟨ml,hl,hh⟩:=D.loc
 have off:∀b,b∈Γ.bM→Off s.heap σ b:=λb hb=>D.off (.inl hb)
 have fR:∀(h':Heap) (b:Addr),b∈Γ.bM→(∀c,c≠b→h'.get? c=s.heap.get? c)→∀a o,σ a=some o→∀c∈foot h' a,c∈foot s.heap a:=λh' b hb hs a o sa c hc=>by
  have:a≠b:=λq=>off b hb a o sa (q▸bD.mpr (.inl rfl))
  rwa[ey (hs a this)]at hc
 cases kd with
 |free=>exact absurd rfl sW
 |loc=>
  refine wpAny_storeName_local kk hl (λh' hn hs=>hk _ ?_) (by rw[S.ek];rfl)
  have dS:=hs.2
  refine⟨?_,At.zM dS D.hr (off _ Γ.fP),λa o sa c hc=>D.free a o sa c (fR h' _ Γ.fP dS a o sa c hc),λq hq=>?_,λq hq=>?_,⟨_,hn,λy j u l=>?_⟩,D.gens,D.os,λf e=>(D.fm f e).sameBut hs λq=>by rw[S.DR q.symm]at e;cases e⟩
  have kp:∀b o,Γ.h₀.get? b=some o→h'.get? b=some o:=λb o e=>by
   have:b≠Γ.env.locals:=λq=>by rw[q,S.new _ Γ.fP]at e;cases e
   exact(dS b this).trans (F.keep b o e)
  by_cases q:Γ.env.locals=Γ.FL
  exact⟨_,q▸hn,kp,F.above⟩
  exact⟨m,F.ns.sameBut hs (Ne.symm q),kp,F.above⟩
  exact(dS _ λz=>S.lk (z▸cB hq)).trans (D.kp q hq)
  obtain⟨v,o,ho,hd⟩:=D.cells q hq
  refine⟨v,o,(dS _ ?_).trans ho,hd⟩
  obtain⟨c,hc⟩:∃y,Γ.env.cells.lookup y=some q.2:=by
   have:=S.cl q hq
   exact⟨q.1,this⟩
  exact(S.lc _ _ hc).2.1
  rcases p.lk S.nd l with⟨rfl,rfl⟩|⟨b8,l'⟩
  cases zK S.nd hm l.mem
  exact⟨v',by simp,rfl⟩
  have:=hh y j u l'
  cases j with
  |loc=>obtain⟨z,h1,h2⟩:=this;exact⟨z,by simp[b8,h1],h2⟩
  |cell=>obtain⟨c,z,h1,⟨o,h2,h3⟩,h4⟩:=this;exact⟨c,z,h1,⟨o,(dS _ (S.lc _ _ h1).2.1).trans h2,h3⟩,h4⟩
  |free=>obtain⟨c,z,h1,⟨o,h2,h3⟩,h4⟩:=this;exact⟨c,z,h1,⟨o,(dS _ (S.lc _ _ h1).2.1).trans h2,h3⟩,h4⟩
 |cell=>
  obtain⟨kc,c,hc⟩:=kk
  obtain⟨afm,pM⟩:=D.cells (x,c) (mem_of_lookup hc)
  refine wpAny_storeName_cell S.ek kc hc pM λh' hn hs=>hk _ ?_
  have dS:=hs.2
  have mQ:=eS hc
  refine⟨?_,At.zM dS D.hr (off _ mQ),λa o sa b hb=>D.free a o sa b (fR h' _ mQ dS a o sa b hb),λq hq=>?_,λq hq=>?_,⟨ml,hl.sameBut hs (Ne.symm (S.lc _ _ hc).2.1),λy j u l=>?_⟩,D.gens,D.os,λf e=>(D.fm f e).sameBut hs (Ne.symm (S.lc _ _ hc).1)⟩
  exact⟨m,F.ns.sameBut hs (Ne.symm (S.lc _ _ hc).1),λb o e=>(dS b λq=>by rw[q,S.new _ mQ]at e;cases e).trans (F.keep b o e),F.above⟩
  exact(dS _ λz=>(S.lc _ _ hc).2.2 hm (z▸cB hq)).trans (D.kp q hq)
  by_cases z:q.2=c
  obtain⟨o,ho,hd⟩:=hn;exact⟨_,o,z▸ho,hd⟩
  obtain⟨v,o,ho,hd⟩:=D.cells q hq
  exact⟨v,o,(dS _ z).trans ho,hd⟩
  rcases p.lk S.nd l with⟨rfl,rfl⟩|⟨b8,l'⟩
  cases zK S.nd hm l.mem
  exact⟨c,v',hc,hn,rfl⟩
  have:=hh y j u l'
  cases j with
  |loc=>exact this
  |cell=>obtain⟨c',z,h1,⟨o,h2,h3⟩,h4⟩:=this;exact⟨c',z,h1,⟨o,(dS _ λq=>b8 (S.cd _ _ _ (q▸h1) hc)).trans h2,h3⟩,h4⟩
  |free=>obtain⟨c',z,h1,⟨o,h2,h3⟩,h4⟩:=this;exact⟨c',z,h1,⟨o,(dS _ λq=>b8 (S.cd _ _ _ (q▸h1) hc)).trans h2,h3⟩,h4⟩
noncomputable abbrev Rx (Q:PF)(ρ:LO):PQ:=λv σ=>Q (.ret v) σ ρ
noncomputable abbrev Ry (w:World)(Γ:Ctx)(a b:List Stmt)(ρ:LO)(Q:PF):Bool→Hp→Prop:=λc σ=>Br c (dj w Γ a σ ρ Q) (dj w Γ b σ ρ Q)
noncomputable abbrev kEx (Q:PF)(ρ:LO):PQ:=λ_ σ=>Q .next σ ρ
inductive kf (vars:KV)(x:Str)(ρ:LO)(Q:PF)(v:V)(σ:Hp):Prop
 |mk (bj:LO) (p:Pt vars ρ x v bj) (q:Q .next σ bj)
noncomputable def Rz (w:World)(Γ:Ctx)(rest:List Stmt)(Q:PF):PF
 |.next,σ,ρ=>dj w Γ rest σ ρ Q
 |f,σ,ρ=>Q f σ ρ
theorem dj.nil (q:Q .next σ ρ):dj w Γ [] σ ρ Q:=⟨λS s D k X hk=>qU (hk .next s σ ρ q D)⟩
def au:= @dj.nil
theorem dj.cons {st rest}(h:aT w Γ st σ ρ (Rz w Γ rest Q)):dj w Γ (st::rest) σ ρ Q:=
 ⟨λS s D k X hk=>pC (h.run S s D _ X λfl av aH bj q aL=>by
  cases fl with
  |next=>exact dj.run (q:dj w Γ rest aH bj Q) S av aL k X hk
  |brk=>exact hk _ av aH bj q aL
  |cont=>exact hk _ av aH bj q aL
  |ret v=>exact hk _ av aH bj q aL)⟩
def ae:= @dj.cons
theorem aT.ret {e pos}(h:ak w Γ e σ ρ (Rx Q ρ)):aT w Γ (.Return (some e) pos) σ ρ Q:=
 ⟨λS s D k X hk=>wpAny_Return_some (h.run S s D _ X λv av aH q aL=>hk (.ret v) av aH ρ q aL)⟩
def a_:= @aT.ret
theorem aT.EA {pos}(q:Q (.ret .none) σ ρ):aT w Γ (.Return none pos) σ ρ Q:=
 ⟨λS s D k X hk=>wpAny_Return_none (hk (.ret .none) s σ ρ q D)⟩
theorem aT.iff {test body orelse pos}(h:dJ w Γ test σ ρ (Ry w Γ body orelse ρ Q)):aT w Γ (.If test body orelse pos) σ ρ Q:=
 ⟨λS s D k X hk=>wpAny_If (h.run S s D _ X λb av aH q aL=>by
  cases b with
  |true=>exact(q.1 rfl).run S av aL k X hk
  |false=>exact(q.2 rfl).run S av aL k X hk)⟩
def aM:= @aT.iff
theorem aT.asg {vars}(hv:Γ.vars=vars) {x pos' value pos}(h:ak w Γ value σ ρ (kf vars x ρ Q))
  (hs:∀env,swapsWith value (some (.Name x pos')) pos.line env=pure false:=by intro _;rfl):aT w Γ (.Assign [.Name x pos'] value pos) σ ρ Q:=
 ⟨λS s D k X hk=>wpAny_Assign_Name (h.run S s D _ X λv av aH q aL=>by
  obtain⟨bj,p,q⟩:=q
  subst hv
  exact mP S aL p λaG aA=>hk .next aG aH bj q aA) (hs _)⟩
def aS:= @aT.asg
theorem aT.expr {e pos}(h:ak w Γ e σ ρ (kEx Q ρ))(hs:∀env,swapsWith e none pos.line env=pure false:=by intro _;rfl):aT w Γ (.Expr e pos) σ ρ Q:=
 ⟨λS s D k X hk=>wpAny_Expr_any (h.run S s D _ X λv av aH q aL=>hk .next av aH ρ q aL) (by unfold interactive;rw[S.ek];rfl) (hs _)⟩
def jg:= @aT.expr
theorem aT.aug {vars}(hv:Γ.vars=vars) {x pos' op value pos kx old}(l:Lk vars ρ x kx old)
  (h:ak w Γ value σ ρ (sV w Γ (inplaceOp op) ρ (kf vars x ρ Q) old)):aT w Γ (.AugAssign (.Name x pos') op value pos) σ ρ Q:=
 ⟨λS s D k X hk=>wpAny_AugAssign_Name (El (Q:=λv σ'=>v=old∧σ'=σ) hv l ⟨rfl,rfl⟩ S s D _ X λa' av aH q aL=>by
  obtain⟨qa,rfl⟩:=q
  exact h.run S av aL _ X λb' aG aZ b_ aA=>b_ a' b' qa rfl S aG aA _ X λr bI lS kg bN=>by
   obtain⟨bj,p,q⟩:=kg
   subst hv
   exact mP S bN p λgi jh=>hk .next gi lS bj q jh)⟩
end
section
variable{w:World}{Γ:Ctx}{s s':Shared}{σ:Hp}{ρ aR:LO}{Q:PQ}
theorem oB {h:Heap}{o:Obj}(hf:o.isFreed=false:=by rfl):(h.push o).get? h.objs.size=some o:=jA _ hf
theorem RA {h:Heap}{o:Obj}(hf:o.isFreed=false):dictAt (h.push o) h.objs.size=eK o:=by unfold dictAt;rw[jA _ hf];rfl
theorem az.push (D:az w Γ s σ ρ){o:Obj}{mo:MO}(hf:o.isFreed=false)(hd:o.dict=none)(ha:At w (s.heap.push o) s.heap.objs.size mo)(tk:Nat):
  az w Γ {s with heap:=s.heap.push o,toks:=tk} (upd σ s.heap.objs.size mo) ρ∧σ s.heap.objs.size=none:=
 D.new (s':={s with heap:=s.heap.push o,toks:=tk}) (λb x e=>dy _ e) ha (λb hb=>by
  rcases bD.mp hb with rfl|q
  exact jz (dp _)
  rw[RA hf,zg hd]at q;cases q) rfl rfl
theorem At.newList {h:Heap}{vs:List Value}:At w (h.push {cls:=.type "list",data:=.seq vs.toArray}) h.objs.size (.list (vs.map er)):=⟨0,vs.toArray,oB,by simp⟩
theorem At.RB {h:Heap}{vs:List Value}:At w (h.push {cls:=.type "tuple",data:=.seq vs.toArray}) h.objs.size (.tup (vs.map er)):=⟨0,vs.toArray,oB,by simp⟩
structure eC (w:World)(Γ:Ctx)(pos:Pos)(es:List Expr)(σ:Hp)(ρ:LO)(Q:List V→Hp→Prop):Prop where
 run:Ok w Γ (List.map er) (spliced (backTo pos (starEach es Γ.env))) σ ρ Q
noncomputable abbrev zN (Q:List V→Hp→Prop)(v:V):List V→Hp→Prop:=λvs σ=>Q (v::vs) σ
noncomputable abbrev RC (w:World)(Γ:Ctx)(pos:Pos)(es:List Expr)(ρ:LO)(Q:List V→Hp→Prop):PQ:=λv σ=>eC w Γ pos es σ ρ (zN Q v)
structure EB (mk:List V→MO)(Q:PQ)(vs:List V)(σ:Hp):Prop where
 le:vs.length≤1000000
 q:∀a,σ a=none→Q (.ref a) (upd σ a (mk vs))
inductive s7 (w:World)(Γ:Ctx)(ρ:LO)(Q:PQ)(o i:V)(σ:Hp):Prop
 |mk (a:Addr) (mo:MO) (e:o=.ref a) (h:σ a=some mo) (m:match mo with|.inst _ _=>False|.range _ _ _=>False|.raw _ _=>False|_=>True) (q:sV w Γ getItem ρ Q o i σ)
noncomputable abbrev RD (w:World)(Γ:Ctx)(r:Expr)(ρ:LO)(Q:PQ):PQ:=λo σ=>ak w Γ r σ ρ (s7 w Γ ρ Q o)
theorem eC.nil {pos}{Q:List V→Hp→Prop}(q:Q [] σ):eC w Γ pos [] σ ρ Q:=⟨λS s D k X hk=>spliced_nil (hk _ s σ q D)⟩
def aK:= @eC.nil
theorem eC.cons {pos e es}{Q:List V→Hp→Prop}(h:ak w Γ e σ ρ (RC w Γ pos es ρ Q))
  (he:∀env,starEach (e::es) env=(false,eval e env)::starEach es env:=by intro _;rfl):eC w Γ pos (e::es) σ ρ Q:=by
 refine⟨λS s D k X hk=>?_⟩
 rw[he]
 exact spliced_cons (h.run S s D _ X λv av aH q aL=>q.run S av aL _ X λvs aG aZ b_ aA=>hk (v::vs) aG aZ b_ aA)
def aq:= @eC.cons
noncomputable def pN {α:Type}:List α→Nat→Option α
 | [],_=>none
 |a::_,0=>some a
 |_::l,n+1=>pN l n
noncomputable def EC:Const→Option V
 |.none=>some .none
 |.bool b=>some (.bool b)
 |.int i=>some (.int i)
 |.str x=>some (.str x)
 |_=>none
noncomputable def RE (e:Expr):Str ⊕ Const→Prop
 |.inl x=>∃p,e=.Name x p
 |.inr c=>∃k p,e=.Constant c k p
noncomputable def plain:(e:Expr)→Option (Subtype (RE e))
 |.Name x p=>some ⟨.inl x,p,rfl⟩
 |.Constant c k p=>some ⟨.inr c,k,p,rfl⟩
 |_=>none
noncomputable def zO (vars:KV)(ρ:LO)(ns:List Nat)(es:List Expr):Option (List Str×List Str×List V):=
 match es with
 | []=>some ([],[],[])
 |e::es=>(plain e).bind λr=>match r.1 with
  |.inl x=>(pN vars (ns.headD 0)).bind λp=>(pN ρ (ns.headD 0)).bind λo=>o.bind λv=>(zO vars ρ ns.tail es).map λt=>(x::t.1,p.1::t.2.1,v::t.2.2)
  |.inr c=>(EC c).bind λv=>(zO vars ρ ns es).map λt=>(t.1,t.2.1,v::t.2.2)
theorem EE {vars:KV}{n:Nat}{x:Str}{k:VK}{v:V}(h:pN vars n=some (x,k))(h':pN ρ n=some (some v)):Lk vars ρ x k v:=by
 induction vars generalizing ρ n with
 |nil=>cases h
 |cons p vars ih=>
  cases ρ with
  |nil=>cases h'
  |cons o ρ=>
   cases n with
   |zero=>cases h;cases h';exact .here
   |succ n=>exact .there (ih h h')
theorem ak.vn {vars}(hv:Γ.vars=vars)(i:Nat) {x k v pos}(h:pN vars i=some (x,k))(h':pN ρ i=some (some v))(q:Q v σ):ak w Γ (.Name x pos) σ ρ Q:=.var hv (EE h h') q
def aj:= @ak.vn
theorem ak.cv {c v}(h:EC c=some v)(q:Q v σ) {k pos}:ak w Γ (.Constant c k pos) σ ρ Q:=by
 cases c<;>cases h
 exact .Eg q
 exact .Eh q
 exact .Ei q
 exact .Ej q
theorem eC.v {vars}(hv:Γ.vars=vars) {pos}(ns:List Nat) {es xs vs}{Q:List V→Hp→Prop}(h:zO vars ρ ns es=some (xs,xs,vs))(q:Q vs σ):eC w Γ pos es σ ρ Q:=by
 induction es generalizing ns xs vs Q with
 |nil=>cases h;exact .nil q
 |cons e es ih=>
  obtain⟨r,hp,h⟩:=qN.mp (h:(plain e).bind _=_)
  obtain⟨r,hr⟩:=r
  cases r with
  |inl x=>
   obtain⟨p,rfl⟩:=hr
   obtain⟨⟨y,k⟩,h1,h⟩:=qN.mp h
   obtain⟨o,h2,h⟩:=qN.mp h
   obtain⟨v,rfl,h⟩:=qN.mp h
   obtain⟨t,h4,h5⟩:=eJ.mp h
   obtain⟨a,b,c⟩:=t
   cases h5
   exact aq (ah hv (EE h1 h2) (ih _ h4 q))
  |inr c=>
   obtain⟨k,p,rfl⟩:=hr
   obtain⟨v,h1,h⟩:=qN.mp h
   obtain⟨t,h4,h5⟩:=eJ.mp h
   obtain⟨a,b,c⟩:=t
   cases h5
   exact aq (.cv h1 (ih _ h4 q))
def ar:= @eC.v
theorem EF {vs:List Value}:(vs.map er).length=vs.length:=by simp
theorem mR {n:Nat}(h:n≤1000000):n≤sizeLine:=dO h (by decide)
theorem ak.list {es pos}(h:eC w Γ pos es σ ρ (EB .list Q)):ak w Γ (.List es pos) σ ρ Q:=
 ⟨λS s D k X hk=>wpAny_List (h.run S s D _ X λvs av aH q aL=>by
  obtain⟨aA,fr⟩:=aL.push rfl rfl (At.newList (vs:=vs)) av.toks
  exact⟨mR (EF (vs:=vs)▸q.1),hk _ _ _ (q.2 _ fr) aA⟩)⟩
def bq:= @ak.list
theorem ak.tuple {es n pos}(h:eC w Γ pos es σ ρ (EB .tup Q)):ak w Γ (.Tuple es n pos) σ ρ Q:=
 ⟨λS s D k X hk=>wpAny_Tuple (h.run S s D _ X λvs av aH q aL=>by
  obtain⟨aA,fr⟩:=aL.push rfl rfl (At.RB (vs:=vs)) av.toks
  exact⟨mR (EF (vs:=vs)▸q.1),hk _ _ _ (q.2 _ fr) aA⟩)⟩
def fD:= @ak.tuple
theorem ak.oD {pos}(q:∀a,σ a=none→Q (.ref a) (upd σ a (.dict []))):ak w Γ (.Dict [] [] pos) σ ρ Q:=by
 refine⟨λS s D k X hk=>?_⟩
 have ha:At w (s.heap.push {cls:=.type "dict",data:=.dict #[]}) s.heap.objs.size (.dict []):=⟨0,#[],oB,[],(fun _ he=>by simp at he),.nil,kK,rfl⟩
 obtain⟨aA,fr⟩:=D.push rfl rfl ha s.toks
 exact wpAny_Dict_empty (hk (.ref s.heap.objs.size) _ _ (q _ fr) aA)
theorem Op.item {l:Addr}{xs:List V}{i:Int}{x:V}(hl:σ l=some (.list xs))(h0:0≤i)(hx:xs[i.toNat]? =some x)(hs:i<2^63)(q:Q x σ):
  ∀o' i',er o'=.ref l→er i'=.int i→Op w Γ (getItem o' i') σ ρ Q:=by
 intro o' i' eo ei S s D k X hk
 refine bJ eo ?_
 refine cL ei λt=>?_
 obtain⟨vs,hv,ev⟩:=(D.hr.at_ _ _ hl).isList
 have:∃v,vs[i.toNat]? =some v∧er v=x:=by
  subst ev
  rw[dI,r_]at hx
  exact eJ.mp hx
 obtain⟨v,eD,rfl⟩:=this
 exact wpAny_getItem_list hv h0 hs eD (hk _ s σ q D)
theorem Op.RF {l:Addr}{xs:List V}{x:V}(hl:σ l=some (.list xs))(hx:xs.getLast? =some x)(q:Q x σ):
  ∀o' i',er o'=.ref l→er i'=.int (-1)→Op w Γ (getItem o' i') σ ρ Q:=by
 intro o' i' eo ei S s D k X hk
 refine bJ eo ?_
 refine cL ei λt=>?_
 obtain⟨vs,hv,ev⟩:=(D.hr.at_ _ _ hl).isList
 have b8:vs.size≠0:=λq=>by
  have:xs=[]:=by rw[←ev];simpa using q
  rw[this]at hx;cases hx
 have:∃v,vs[((-1:Int)+vs.size).toNat]? =some v∧er v=x:=by
  subst ev
  have e:((-1:Int)+vs.size).toNat=vs.size-1:=by lia
  rw[List.getLast?_map,List.getLast?_eq_getElem?,r_,Array.length_toList]at hx
  rw[e]
  exact eJ.mp hx
 obtain⟨v,eD,rfl⟩:=this
 exact wpAny_getItem_list_neg hv (by decide) (by lia) (by decide) eD (hk _ s σ q D)
theorem Op.RG {l:Addr}{xs:List V}{i:Nat}{x:V}(hl:σ l=some (.tup xs))(hx:xs[i]? =some x)(hs:i<1000000)(q:Q x σ):
  ∀o' i',er o'=.ref l→er i'=.int (i:Int)→Op w Γ (getItem o' i') σ ρ Q:=by
 intro o' i' eo ei S s D k X hk
 refine bJ eo ?_
 refine cL ei λt=>?_
 obtain⟨n,vs,hv,ev⟩:=D.hr.at_ _ _ hl
 have:∃v,vs[i]? =some v∧er v=x:=by
  subst ev
  rw[dI,r_]at hx
  exact eJ.mp hx
 obtain⟨v,eD,rfl⟩:=this
 have hi:i<vs.size:=by
  have:=qM.mp eD
  exact this.1
 exact getItem_tuple (t:=l) (items:=vs) ⟨_,hv,rfl,n,rfl⟩ (by lia) (by lia) (j:=i) (by unfold seqIndex?;simp;lia) eD (hk _ s σ q D)
theorem ak.item {value slice pos}(h:ak w Γ value σ ρ (RD w Γ slice ρ Q))
  (hs:∀o i,subscripted slice false o i=operate [o,i] (getItem o i):=by intro _ _;rfl):ak w Γ (.Subscript value slice pos) σ ρ Q:=by
 refine⟨λS s D k X hk=>Subscript_ (h.run S s D _ X λo av aH q aL=>q.run S av aL _ X λi aG aZ b_ aA=>?_)⟩
 obtain⟨a,mo,eo,sa,hm,b_⟩:=b_
 obtain rfl:=vx eo
 have fin:=b_ (.ref a) i rfl rfl S aG aA k X hk
 unfold subscriptTail
 have key:∀T id,typeLookup (.type T) "__getitem__"=pure (some (.builtin id))→aG.TypeIs (.ref a) T→wpAny (model aC w) Γ.A (do
   let r←subscripted slice (←getitemInPython (.ref a)) (.ref a) i
   letTemporaryGo value (.ref a) r
   pure r) k X aG:=λT id hl hT=>by
  refine aP ?_
  rw[getitemInPython_of_ne hT.not_modules]
  refine aP (wpAny_specialOf hT hl ?_)
  have f2:wpAny (model aC w) Γ.A (subscripted slice false (.ref a) i) (λr bI=>wpAny (model aC w) Γ.A (letTemporaryGo value (.ref a) r>>=λ_=>pure r) k X bI) X aG:=by
   rw[hs]
   refine wpAny_operating (j_ fin (λr bI mT=>?_) λ_ _ x=>x)
   exact aP (wpAny_letTemporaryGo (bY mT))
  first
   |exact bY (aP f2)
   |exact aP (bY (aP f2))
   |exact aP f2
 cases mo with
 |list xs=>obtain⟨vs,hv,_⟩:=(aA.hr.at_ _ _ sa).isList;exact key "list" _ list_getitem_lookup hv.typeIs
 |tup xs=>obtain⟨n,vs,hv,_⟩:=aA.hr.at_ _ _ sa;exact key "tuple" _ slot_tuple_getitem.lookup ⟨_,hv,rfl⟩
 |dict xs=>obtain⟨n,vs,hv,_⟩:=aA.hr.at_ _ _ sa;exact key "dict" _ slot_dict_getitem.lookup ⟨_,hv,rfl⟩
 |inst C fs=>exact hm.elim
 |range i j c=>exact hm.elim
 |raw o od=>exact hm.elim
def bo:= @ak.item
end
noncomputable def Kc (w:World):Frag:=(Fin w).filter λp=>p.1 !=2041
theorem RH {l:Frag}{a:Addr}{o:Obj}(h:l.lookup a=some o):(a,o)∈l:=by
 induction l with
 |nil=>cases h
 |cons p r ih=>
  obtain⟨b,x⟩:=p
  rw[kJ]at h
  cases e:(a==b)with
  |true=>rw[e]at h;cases h;rw[beq_iff_eq.mp e];exact bA
  |false=>rw[e]at h;exact bw _ (ih h)
theorem ji {w:World}{h:Heap}(k:Known w h):(Kc w).In h:=λa o e=>by
 have m:=RH e
 unfold Kc at m
 rw[jE]at m
 exact k.fin (a,o) m.1 (by simpa using m.2)
noncomputable def gE (w:World)(C:Addr):Bool:=plainGet (Kc w) C "kind"&&hasDictIn (Kc w) C&&(findIn (Kc w) (.ref C) "__setattr__"==some (some (.builtin "object.__setattr__")))&&plainOver (Kc w) C
noncomputable def EG:Option (Option Value)→Bool
 |some none=>true
 |_=>false
theorem vK {o:Option (Option Value)}(h:EG o=true):o=some none:=by
 rcases o with _|_|_<;>first|rfl|cases h
noncomputable def bP (w:World)(C:Addr)(name:Str):Bool:=EG (findIn (Kc w) (.ref C) name)
section
variable{w:World}{Γ:Ctx}{s s':Shared}{σ:Hp}{ρ aR:LO}{Q:PQ}
theorem q9 {x y:Str}{t:Tok}:(Value.str y t).isStr x=decide (y=x):=by
 unfold Value.isStr
 by_cases h:y=x<;>simp[h]
theorem fB.find {es:List DictEntry}{fs:List (Str×Option V)}(h:br (fB w) es fs)(nd:(fs.map (·.1)).Nodup){x:Str}{v:V}(hm:(x,some v)∈fs):
  ∃e,es.find? (λe=>e.key.isStr x)=some e∧er e.val=v:=by
 induction h with
 |nil=>cases hm
 | @cons e p es fs he _ ih=>
  obtain⟨y,o⟩:=p
  rw[bx,fz]at nd
  obtain⟨⟨t,hk,_⟩,hv⟩:=he
  rw[List.find?_cons,hk,q9]
  rcases aY.mp hm with q|hm
  cases q
  exact⟨e,by simp,hv _ rfl⟩
  have:y≠x:=λq=>nd.1 (q▸cB (f:=(·.1)) hm)
  simp only[i5 this]
  exact ih nd.2 hm
theorem fB.strs {es:List DictEntry}{fs:List (Str×Option V)}(h:br (fB w) es fs):es.any (·.refKey)=false:=by
 induction h with
 |nil=>rfl
 | @cons e p es fs he _ ih=>
  obtain⟨⟨t,hk,_⟩,hv⟩:=he
  rw[List.any_cons,ih,Bool.or_false]
  unfold DictEntry.refKey
  rw[hk]
theorem fB.getL {es:List DictEntry}{fs:List (Str×Option V)}(h:br (fB w) es fs)(nd:(fs.map (·.1)).Nodup){x:Str}{v:V}(hm:(x,some v)∈fs):∃u,PySem.W.getL x es=some (some u)∧er u=v:=by
 obtain⟨e,he,hv⟩:=fB.find h nd hm
 exact⟨e.val,by unfold PySem.W.getL;rw[he],hv⟩
theorem fB.RI {es:List DictEntry}{fs:List (Str×Option V)}(h:br (fB w) es fs){x:Str}(hm:x∉fs.map (·.1)):PySem.W.getL x es=some none:=by
 have:es.find? (λe=>e.key.isStr x)=none:=by
  induction h with
  |nil=>rfl
  | @cons e p es fs he _ ih=>
   obtain⟨⟨t,hk,_⟩,hv⟩:=he
   rw[bx,aY,not_or]at hm
   rw[List.find?_cons,hk,q9,i5 (λq=>hm.1 q.symm)]
   exact ih hm.2
 unfold PySem.W.getL
 rw[this]
 simp only[fB.strs h,jC,if_false]
noncomputable def gW:V→Bool
 |.cK _=>false
 |_=>true
theorem RJ {v:Value}(h:gW (er v)=true):handedIn v=true:=by cases v<;>first|rfl|cases h
theorem At.s8 {h:Heap}{a C:Addr}{fs:List (Str×Option V)}(x:At w h a (.inst C fs)):∃d es n sl,h.get? a=some ⟨.ref C,some d,.plain,sl⟩∧InstAt h a ⟨.ref C,some d,.plain,sl⟩ C (some (dictOf es n))∧h.get? d=some (dictOf es n)∧
  br (fB w) es fs∧(fs.map (·.1)).Nodup:=by
 obtain⟨d,n,es,sl,e,e2,f,nd⟩:=x
 have EH:h.get? d=some (dictOf es.toList n):=by rw[e2]
 exact⟨d,es.toList,n,sl,e,⟨e,rfl,rfl,EH⟩,EH,f,nd⟩
theorem Op.fld {a C:Addr}{fs:List (Str×Option V)}{name:Str}{v:V}(ha:σ a=some (.inst C fs))(hm:(name,some v)∈fs)(hc:gE w C=true)(hf:bP w C name=true)(hv:gW v=true)(q:Q v σ):
  ∀o',er o'=.ref a→Op w Γ (getAttr o' name true) σ ρ Q:=by
 intro o' eo S s D k X hk
 refine bJ eo ?_
 obtain⟨d,es,n,sl,e,I,e2,f,nd⟩:=(D.hr.at_ _ _ ha).s8
 obtain⟨u,hu,rfl⟩:=fB.getL f nd hm
 unfold gE at hc
 simp only[fN]at hc
 obtain⟨⟨⟨c1,c2⟩,c3⟩,c4⟩:=hc
 exact get_value (ji (D.known S)) I (plainGet_of (name:="kind") c1).1 (findObj_own c2 (vK hf) rfl (by rw[lookIn_dict];exact hu)) (RJ hv) (hk u _ σ q (D.toks _))
def bF:= @Op.fld
noncomputable abbrev RK (w:World)(Γ:Ctx)(attr:Str)(ρ:LO)(Q:PQ):PQ:=λo σ=>∀o',er o'=o→Op w Γ (getAttr o' attr true) σ ρ Q
theorem ak.attr {value attr pos}(h:ak w Γ value σ ρ (RK w Γ attr ρ Q))
  (he:∀env,eval (.Attribute value attr pos) env=(do
   let o←eval value env
   standAt pos.atName
   let r←holding [o] (getAttr o attr true)
   letTemporaryGo value o r
   pure r):=by intro _;with_unfolding_all rfl):ak w Γ (.Attribute value attr pos) σ ρ Q:=
 ⟨λS s D k X hk=>Attribute_any_ (h.run S s D _ X λo av aH q aL=>q o rfl S av aL k X hk) (he _)⟩
def aU:= @ak.attr
inductive Sf:List (Str×Option V)→Str→V→List (Str×Option V)→Prop
 |nil {x v}:Sf [] x v [(x,some v)]
 |here {x o r v}:Sf ((x,o)::r) x v ((x,some v)::r)
 |there {p r x v r'}:p.1≠x→Sf r x v r'→Sf (p::r) x v (p::r')
theorem RL {a b:Str}(h:(!(a==b))=true):a≠b:=by simpa using h
section
variable{fs c9:List (Str×Option V)}{x:Str}{v:V}
theorem Sf.more {k:Str}{u:Option V}{b:Bool}(s:b=true→Sf fs x v c9)(h:(!(k==x)&&b)=true):Sf ((k,u)::fs) x v ((k,u)::c9):=.there (RL (mC.mp h).1) (s (mC.mp h).2)
end
theorem EJ {k0 u0 x o v r}(h:(!(k0==x)&&true)=true):Sf ((k0,u0)::(x,o)::r) x v ((k0,u0)::(x,some v)::r):=.more (λ_=>.here) h
theorem EK {k0 k1 u0 u1 x o v r}(h:(!(k0==x)&&(!(k1==x)&&true))=true):Sf ((k0,u0)::(k1,u1)::(x,o)::r) x v ((k0,u0)::(k1,u1)::(x,some v)::r):=.more EJ h
theorem zQ {k0 k1 k2 u0 u1 u2 x o v r}(h:(!(k0==x)&&(!(k1==x)&&(!(k2==x)&&true)))=true):Sf ((k0,u0)::(k1,u1)::(k2,u2)::(x,o)::r) x v ((k0,u0)::(k1,u1)::(k2,u2)::(x,some v)::r):=.more EK h
theorem RM {k0 k1 k2 k3 u0 u1 u2 u3 x o v r}(h:(!(k0==x)&&(!(k1==x)&&(!(k2==x)&&(!(k3==x)&&true))))=true):Sf ((k0,u0)::(k1,u1)::(k2,u2)::(k3,u3)::(x,o)::r) x v ((k0,u0)::(k1,u1)::(k2,u2)::(k3,u3)::(x,some v)::r):=.more zQ h
theorem RN {k0 k1 k2 k3 k4 u0 u1 u2 u3 u4 x o v r}(h:(!(k0==x)&&(!(k1==x)&&(!(k2==x)&&(!(k3==x)&&(!(k4==x)&&true)))))=true):Sf ((k0,u0)::(k1,u1)::(k2,u2)::(k3,u3)::(k4,u4)::(x,o)::r) x v ((k0,u0)::(k1,u1)::(k2,u2)::(k3,u3)::(k4,u4)::(x,some v)::r):=.more RM h
theorem RO {k0 k1 k2 k3 k4 k5 u0 u1 u2 u3 u4 u5 x o v r}(h:(!(k0==x)&&(!(k1==x)&&(!(k2==x)&&(!(k3==x)&&(!(k4==x)&&(!(k5==x)&&true))))))=true):Sf ((k0,u0)::(k1,u1)::(k2,u2)::(k3,u3)::(k4,u4)::(k5,u5)::(x,o)::r) x v ((k0,u0)::(k1,u1)::(k2,u2)::(k3,u3)::(k4,u4)::(k5,u5)::(x,some v)::r):=.more RN h
theorem RP {k0 k1 k2 k3 k4 k5 k6 u0 u1 u2 u3 u4 u5 u6 x o v r}(h:(!(k0==x)&&(!(k1==x)&&(!(k2==x)&&(!(k3==x)&&(!(k4==x)&&(!(k5==x)&&(!(k6==x)&&true)))))))=true):Sf ((k0,u0)::(k1,u1)::(k2,u2)::(k3,u3)::(k4,u4)::(k5,u5)::(k6,u6)::(x,o)::r) x v ((k0,u0)::(k1,u1)::(k2,u2)::(k3,u3)::(k4,u4)::(k5,u5)::(k6,u6)::(x,some v)::r):=.more RO h
theorem RQ {k0 k1 k2 k3 k4 k5 k6 k7 u0 u1 u2 u3 u4 u5 u6 u7 x o v r}(h:(!(k0==x)&&(!(k1==x)&&(!(k2==x)&&(!(k3==x)&&(!(k4==x)&&(!(k5==x)&&(!(k6==x)&&(!(k7==x)&&true))))))))=true):Sf ((k0,u0)::(k1,u1)::(k2,u2)::(k3,u3)::(k4,u4)::(k5,u5)::(k6,u6)::(k7,u7)::(x,o)::r) x v ((k0,u0)::(k1,u1)::(k2,u2)::(k3,u3)::(k4,u4)::(k5,u5)::(k6,u6)::(k7,u7)::(x,some v)::r):=.more RP h
theorem RS {k0 k1 k2 k3 k4 k5 k6 k7 k8 u0 u1 u2 u3 u4 u5 u6 u7 u8 x o v r}(h:(!(k0==x)&&(!(k1==x)&&(!(k2==x)&&(!(k3==x)&&(!(k4==x)&&(!(k5==x)&&(!(k6==x)&&(!(k7==x)&&(!(k8==x)&&true)))))))))=true):Sf ((k0,u0)::(k1,u1)::(k2,u2)::(k3,u3)::(k4,u4)::(k5,u5)::(k6,u6)::(k7,u7)::(k8,u8)::(x,o)::r) x v ((k0,u0)::(k1,u1)::(k2,u2)::(k3,u3)::(k4,u4)::(k5,u5)::(k6,u6)::(k7,u7)::(k8,u8)::(x,some v)::r):=.more RQ h
theorem RT {k0 k1 k2 k3 k4 k5 k6 k7 k8 k9 u0 u1 u2 u3 u4 u5 u6 u7 u8 u9 x o v r}(h:(!(k0==x)&&(!(k1==x)&&(!(k2==x)&&(!(k3==x)&&(!(k4==x)&&(!(k5==x)&&(!(k6==x)&&(!(k7==x)&&(!(k8==x)&&(!(k9==x)&&true))))))))))=true):Sf ((k0,u0)::(k1,u1)::(k2,u2)::(k3,u3)::(k4,u4)::(k5,u5)::(k6,u6)::(k7,u7)::(k8,u8)::(k9,u9)::(x,o)::r) x v ((k0,u0)::(k1,u1)::(k2,u2)::(k3,u3)::(k4,u4)::(k5,u5)::(k6,u6)::(k7,u7)::(k8,u8)::(k9,u9)::(x,some v)::r):=.more RS h
theorem RU {k0 k1 k2 k3 k4 k5 k6 k7 k8 k9 cN u0 u1 u2 u3 u4 u5 u6 u7 u8 u9 dH x o v r}(h:(!(k0==x)&&(!(k1==x)&&(!(k2==x)&&(!(k3==x)&&(!(k4==x)&&(!(k5==x)&&(!(k6==x)&&(!(k7==x)&&(!(k8==x)&&(!(k9==x)&&(!(cN==x)&&true)))))))))))=true):Sf ((k0,u0)::(k1,u1)::(k2,u2)::(k3,u3)::(k4,u4)::(k5,u5)::(k6,u6)::(k7,u7)::(k8,u8)::(k9,u9)::(cN,dH)::(x,o)::r) x v ((k0,u0)::(k1,u1)::(k2,u2)::(k3,u3)::(k4,u4)::(k5,u5)::(k6,u6)::(k7,u7)::(k8,u8)::(k9,u9)::(cN,dH)::(x,some v)::r):=.more RT h
theorem vL {k0 k1 k2 k3 k4 k5 k6 k7 k8 k9 cN du u0 u1 u2 u3 u4 u5 u6 u7 u8 u9 dH d9 x o v r}(h:(!(k0==x)&&(!(k1==x)&&(!(k2==x)&&(!(k3==x)&&(!(k4==x)&&(!(k5==x)&&(!(k6==x)&&(!(k7==x)&&(!(k8==x)&&(!(k9==x)&&(!(cN==x)&&(!(du==x)&&true))))))))))))=true):Sf ((k0,u0)::(k1,u1)::(k2,u2)::(k3,u3)::(k4,u4)::(k5,u5)::(k6,u6)::(k7,u7)::(k8,u8)::(k9,u9)::(cN,dH)::(du,d9)::(x,o)::r) x v ((k0,u0)::(k1,u1)::(k2,u2)::(k3,u3)::(k4,u4)::(k5,u5)::(k6,u6)::(k7,u7)::(k8,u8)::(k9,u9)::(cN,dH)::(du,d9)::(x,some v)::r):=.more RU h
theorem EM {k0 k1 k2 k3 k4 k5 k6 k7 k8 k9 cN du d8 u0 u1 u2 u3 u4 u5 u6 u7 u8 u9 dH d9 fS x o v r}(h:(!(k0==x)&&(!(k1==x)&&(!(k2==x)&&(!(k3==x)&&(!(k4==x)&&(!(k5==x)&&(!(k6==x)&&(!(k7==x)&&(!(k8==x)&&(!(k9==x)&&(!(cN==x)&&(!(du==x)&&(!(d8==x)&&true)))))))))))))=true):Sf ((k0,u0)::(k1,u1)::(k2,u2)::(k3,u3)::(k4,u4)::(k5,u5)::(k6,u6)::(k7,u7)::(k8,u8)::(k9,u9)::(cN,dH)::(du,d9)::(d8,fS)::(x,o)::r) x v ((k0,u0)::(k1,u1)::(k2,u2)::(k3,u3)::(k4,u4)::(k5,u5)::(k6,u6)::(k7,u7)::(k8,u8)::(k9,u9)::(cN,dH)::(du,d9)::(d8,fS)::(x,some v)::r):=.more vL h
theorem oE {k0 u0 x v}(h:(!(k0==x)&&true)=true):Sf ((k0,u0)::[]) x v ((k0,u0)::[(x,some v)]):=.more (λ_=>.nil) h
theorem oF {k0 k1 u0 u1 x v}(h:(!(k0==x)&&(!(k1==x)&&true))=true):Sf ((k0,u0)::(k1,u1)::[]) x v ((k0,u0)::(k1,u1)::[(x,some v)]):=.more oE h
theorem q_ {k0 k1 k2 u0 u1 u2 x v}(h:(!(k0==x)&&(!(k1==x)&&(!(k2==x)&&true)))=true):Sf ((k0,u0)::(k1,u1)::(k2,u2)::[]) x v ((k0,u0)::(k1,u1)::(k2,u2)::[(x,some v)]):=.more oF h
theorem s9 {k0 k1 k2 k3 u0 u1 u2 u3 x v}(h:(!(k0==x)&&(!(k1==x)&&(!(k2==x)&&(!(k3==x)&&true))))=true):Sf ((k0,u0)::(k1,u1)::(k2,u2)::(k3,u3)::[]) x v ((k0,u0)::(k1,u1)::(k2,u2)::(k3,u3)::[(x,some v)]):=.more q_ h
theorem vM {k0 k1 k2 k3 k4 u0 u1 u2 u3 u4 x v}(h:(!(k0==x)&&(!(k1==x)&&(!(k2==x)&&(!(k3==x)&&(!(k4==x)&&true)))))=true):Sf ((k0,u0)::(k1,u1)::(k2,u2)::(k3,u3)::(k4,u4)::[]) x v ((k0,u0)::(k1,u1)::(k2,u2)::(k3,u3)::(k4,u4)::[(x,some v)]):=.more s9 h
theorem zV {k0 k1 k2 k3 k4 k5 u0 u1 u2 u3 u4 u5 x v}(h:(!(k0==x)&&(!(k1==x)&&(!(k2==x)&&(!(k3==x)&&(!(k4==x)&&(!(k5==x)&&true))))))=true):Sf ((k0,u0)::(k1,u1)::(k2,u2)::(k3,u3)::(k4,u4)::(k5,u5)::[]) x v ((k0,u0)::(k1,u1)::(k2,u2)::(k3,u3)::(k4,u4)::(k5,u5)::[(x,some v)]):=.more vM h
theorem EN {k0 k1 k2 k3 k4 k5 k6 u0 u1 u2 u3 u4 u5 u6 x v}(h:(!(k0==x)&&(!(k1==x)&&(!(k2==x)&&(!(k3==x)&&(!(k4==x)&&(!(k5==x)&&(!(k6==x)&&true)))))))=true):Sf ((k0,u0)::(k1,u1)::(k2,u2)::(k3,u3)::(k4,u4)::(k5,u5)::(k6,u6)::[]) x v ((k0,u0)::(k1,u1)::(k2,u2)::(k3,u3)::(k4,u4)::(k5,u5)::(k6,u6)::[(x,some v)]):=.more zV h
theorem EO {k0 k1 k2 k3 k4 k5 k6 k7 u0 u1 u2 u3 u4 u5 u6 u7 x v}(h:(!(k0==x)&&(!(k1==x)&&(!(k2==x)&&(!(k3==x)&&(!(k4==x)&&(!(k5==x)&&(!(k6==x)&&(!(k7==x)&&true))))))))=true):Sf ((k0,u0)::(k1,u1)::(k2,u2)::(k3,u3)::(k4,u4)::(k5,u5)::(k6,u6)::(k7,u7)::[]) x v ((k0,u0)::(k1,u1)::(k2,u2)::(k3,u3)::(k4,u4)::(k5,u5)::(k6,u6)::(k7,u7)::[(x,some v)]):=.more EN h
theorem EP {k0 k1 k2 k3 k4 k5 k6 k7 k8 u0 u1 u2 u3 u4 u5 u6 u7 u8 x v}(h:(!(k0==x)&&(!(k1==x)&&(!(k2==x)&&(!(k3==x)&&(!(k4==x)&&(!(k5==x)&&(!(k6==x)&&(!(k7==x)&&(!(k8==x)&&true)))))))))=true):Sf ((k0,u0)::(k1,u1)::(k2,u2)::(k3,u3)::(k4,u4)::(k5,u5)::(k6,u6)::(k7,u7)::(k8,u8)::[]) x v ((k0,u0)::(k1,u1)::(k2,u2)::(k3,u3)::(k4,u4)::(k5,u5)::(k6,u6)::(k7,u7)::(k8,u8)::[(x,some v)]):=.more EO h
theorem ER {k0 k1 k2 k3 k4 k5 k6 k7 k8 k9 u0 u1 u2 u3 u4 u5 u6 u7 u8 u9 x v}(h:(!(k0==x)&&(!(k1==x)&&(!(k2==x)&&(!(k3==x)&&(!(k4==x)&&(!(k5==x)&&(!(k6==x)&&(!(k7==x)&&(!(k8==x)&&(!(k9==x)&&true))))))))))=true):Sf ((k0,u0)::(k1,u1)::(k2,u2)::(k3,u3)::(k4,u4)::(k5,u5)::(k6,u6)::(k7,u7)::(k8,u8)::(k9,u9)::[]) x v ((k0,u0)::(k1,u1)::(k2,u2)::(k3,u3)::(k4,u4)::(k5,u5)::(k6,u6)::(k7,u7)::(k8,u8)::(k9,u9)::[(x,some v)]):=.more EP h
theorem ES {k0 k1 k2 k3 k4 k5 k6 k7 k8 k9 cN u0 u1 u2 u3 u4 u5 u6 u7 u8 u9 dH x v}(h:(!(k0==x)&&(!(k1==x)&&(!(k2==x)&&(!(k3==x)&&(!(k4==x)&&(!(k5==x)&&(!(k6==x)&&(!(k7==x)&&(!(k8==x)&&(!(k9==x)&&(!(cN==x)&&true)))))))))))=true):Sf ((k0,u0)::(k1,u1)::(k2,u2)::(k3,u3)::(k4,u4)::(k5,u5)::(k6,u6)::(k7,u7)::(k8,u8)::(k9,u9)::(cN,dH)::[]) x v ((k0,u0)::(k1,u1)::(k2,u2)::(k3,u3)::(k4,u4)::(k5,u5)::(k6,u6)::(k7,u7)::(k8,u8)::(k9,u9)::(cN,dH)::[(x,some v)]):=.more ER h
theorem ET {k0 k1 k2 k3 k4 k5 k6 k7 k8 k9 cN du u0 u1 u2 u3 u4 u5 u6 u7 u8 u9 dH d9 x v}(h:(!(k0==x)&&(!(k1==x)&&(!(k2==x)&&(!(k3==x)&&(!(k4==x)&&(!(k5==x)&&(!(k6==x)&&(!(k7==x)&&(!(k8==x)&&(!(k9==x)&&(!(cN==x)&&(!(du==x)&&true))))))))))))=true):Sf ((k0,u0)::(k1,u1)::(k2,u2)::(k3,u3)::(k4,u4)::(k5,u5)::(k6,u6)::(k7,u7)::(k8,u8)::(k9,u9)::(cN,dH)::(du,d9)::[]) x v ((k0,u0)::(k1,u1)::(k2,u2)::(k3,u3)::(k4,u4)::(k5,u5)::(k6,u6)::(k7,u7)::(k8,u8)::(k9,u9)::(cN,dH)::(du,d9)::[(x,some v)]):=.more ES h
theorem EU {k0 k1 k2 k3 k4 k5 k6 k7 k8 k9 cN du d8 u0 u1 u2 u3 u4 u5 u6 u7 u8 u9 dH d9 fS x v}(h:(!(k0==x)&&(!(k1==x)&&(!(k2==x)&&(!(k3==x)&&(!(k4==x)&&(!(k5==x)&&(!(k6==x)&&(!(k7==x)&&(!(k8==x)&&(!(k9==x)&&(!(cN==x)&&(!(du==x)&&(!(d8==x)&&true)))))))))))))=true):Sf ((k0,u0)::(k1,u1)::(k2,u2)::(k3,u3)::(k4,u4)::(k5,u5)::(k6,u6)::(k7,u7)::(k8,u8)::(k9,u9)::(cN,dH)::(du,d9)::(d8,fS)::[]) x v ((k0,u0)::(k1,u1)::(k2,u2)::(k3,u3)::(k4,u4)::(k5,u5)::(k6,u6)::(k7,u7)::(k8,u8)::(k9,u9)::(cN,dH)::(du,d9)::(d8,fS)::[(x,some v)]):=.more ET h
theorem EV {k0 k1 k2 k3 k4 k5 k6 k7 k8 k9 cN du d8 gj u0 u1 u2 u3 u4 u5 u6 u7 u8 u9 dH d9 fS jj x v}(h:(!(k0==x)&&(!(k1==x)&&(!(k2==x)&&(!(k3==x)&&(!(k4==x)&&(!(k5==x)&&(!(k6==x)&&(!(k7==x)&&(!(k8==x)&&(!(k9==x)&&(!(cN==x)&&(!(du==x)&&(!(d8==x)&&(!(gj==x)&&true))))))))))))))=true):Sf ((k0,u0)::(k1,u1)::(k2,u2)::(k3,u3)::(k4,u4)::(k5,u5)::(k6,u6)::(k7,u7)::(k8,u8)::(k9,u9)::(cN,dH)::(du,d9)::(d8,fS)::(gj,jj)::[]) x v ((k0,u0)::(k1,u1)::(k2,u2)::(k3,u3)::(k4,u4)::(k5,u5)::(k6,u6)::(k7,u7)::(k8,u8)::(k9,u9)::(cN,dH)::(du,d9)::(d8,fS)::(gj,jj)::[(x,some v)]):=.more EU h
theorem EW {k0 k1 k2 k3 k4 k5 k6 k7 k8 k9 cN du d8 gj iL u0 u1 u2 u3 u4 u5 u6 u7 u8 u9 dH d9 fS jj kW x v}(h:(!(k0==x)&&(!(k1==x)&&(!(k2==x)&&(!(k3==x)&&(!(k4==x)&&(!(k5==x)&&(!(k6==x)&&(!(k7==x)&&(!(k8==x)&&(!(k9==x)&&(!(cN==x)&&(!(du==x)&&(!(d8==x)&&(!(gj==x)&&(!(iL==x)&&true)))))))))))))))=true):Sf ((k0,u0)::(k1,u1)::(k2,u2)::(k3,u3)::(k4,u4)::(k5,u5)::(k6,u6)::(k7,u7)::(k8,u8)::(k9,u9)::(cN,dH)::(du,d9)::(d8,fS)::(gj,jj)::(iL,kW)::[]) x v ((k0,u0)::(k1,u1)::(k2,u2)::(k3,u3)::(k4,u4)::(k5,u5)::(k6,u6)::(k7,u7)::(k8,u8)::(k9,u9)::(cN,dH)::(du,d9)::(d8,fS)::(gj,jj)::(iL,kW)::[(x,some v)]):=.more EV h
theorem EY {k0 k1 k2 k3 k4 k5 k6 k7 k8 k9 cN du d8 gj iL kX u0 u1 u2 u3 u4 u5 u6 u7 u8 u9 dH d9 fS jj kW oG x v}(h:(!(k0==x)&&(!(k1==x)&&(!(k2==x)&&(!(k3==x)&&(!(k4==x)&&(!(k5==x)&&(!(k6==x)&&(!(k7==x)&&(!(k8==x)&&(!(k9==x)&&(!(cN==x)&&(!(du==x)&&(!(d8==x)&&(!(gj==x)&&(!(iL==x)&&(!(kX==x)&&true))))))))))))))))=true):Sf ((k0,u0)::(k1,u1)::(k2,u2)::(k3,u3)::(k4,u4)::(k5,u5)::(k6,u6)::(k7,u7)::(k8,u8)::(k9,u9)::(cN,dH)::(du,d9)::(d8,fS)::(gj,jj)::(iL,kW)::(kX,oG)::[]) x v ((k0,u0)::(k1,u1)::(k2,u2)::(k3,u3)::(k4,u4)::(k5,u5)::(k6,u6)::(k7,u7)::(k8,u8)::(k9,u9)::(cN,dH)::(du,d9)::(d8,fS)::(gj,jj)::(iL,kW)::(kX,oG)::[(x,some v)]):=.more EW h
theorem EZ {k0 k1 k2 k3 k4 k5 k6 k7 k8 k9 cN du d8 gj iL kX pO u0 u1 u2 u3 u4 u5 u6 u7 u8 u9 dH d9 fS jj kW oG s_ x v}(h:(!(k0==x)&&(!(k1==x)&&(!(k2==x)&&(!(k3==x)&&(!(k4==x)&&(!(k5==x)&&(!(k6==x)&&(!(k7==x)&&(!(k8==x)&&(!(k9==x)&&(!(cN==x)&&(!(du==x)&&(!(d8==x)&&(!(gj==x)&&(!(iL==x)&&(!(kX==x)&&(!(pO==x)&&true)))))))))))))))))=true):Sf ((k0,u0)::(k1,u1)::(k2,u2)::(k3,u3)::(k4,u4)::(k5,u5)::(k6,u6)::(k7,u7)::(k8,u8)::(k9,u9)::(cN,dH)::(du,d9)::(d8,fS)::(gj,jj)::(iL,kW)::(kX,oG)::(pO,s_)::[]) x v ((k0,u0)::(k1,u1)::(k2,u2)::(k3,u3)::(k4,u4)::(k5,u5)::(k6,u6)::(k7,u7)::(k8,u8)::(k9,u9)::(cN,dH)::(du,d9)::(d8,fS)::(gj,jj)::(iL,kW)::(kX,oG)::(pO,s_)::[(x,some v)]):=.more EY h
theorem RV {k0 k1 k2 k3 k4 k5 k6 k7 k8 k9 cN du d8 gj iL kX pO zY u0 u1 u2 u3 u4 u5 u6 u7 u8 u9 dH d9 fS jj kW oG s_ E_ x v}(h:(!(k0==x)&&(!(k1==x)&&(!(k2==x)&&(!(k3==x)&&(!(k4==x)&&(!(k5==x)&&(!(k6==x)&&(!(k7==x)&&(!(k8==x)&&(!(k9==x)&&(!(cN==x)&&(!(du==x)&&(!(d8==x)&&(!(gj==x)&&(!(iL==x)&&(!(kX==x)&&(!(pO==x)&&(!(zY==x)&&true))))))))))))))))))=true):Sf ((k0,u0)::(k1,u1)::(k2,u2)::(k3,u3)::(k4,u4)::(k5,u5)::(k6,u6)::(k7,u7)::(k8,u8)::(k9,u9)::(cN,dH)::(du,d9)::(d8,fS)::(gj,jj)::(iL,kW)::(kX,oG)::(pO,s_)::(zY,E_)::[]) x v ((k0,u0)::(k1,u1)::(k2,u2)::(k3,u3)::(k4,u4)::(k5,u5)::(k6,u6)::(k7,u7)::(k8,u8)::(k9,u9)::(cN,dH)::(du,d9)::(d8,fS)::(gj,jj)::(iL,kW)::(kX,oG)::(pO,s_)::(zY,E_)::[(x,some v)]):=.more EZ h
theorem Sf.mem {fs c9:List (Str×Option V)}{x:Str}{v:V}(h:Sf fs x v c9):∀y∈c9.map (·.1),y=x∨y∈fs.map (·.1):=by
 induction h with
 |nil=>intro y hy;simp at hy;exact .inl hy
 |here=>intro y hy;exact .inr hy
 |there _ _ ih=>
  intro y hy
  rcases aY.mp hy with rfl|hy
  exact .inr bA
  rcases ih y hy with e|e
  exact .inl e
  exact .inr (bw _ e)
theorem Sf.nodup {fs c9:List (Str×Option V)}{x:Str}{v:V}(h:Sf fs x v c9)(nd:(fs.map (·.1)).Nodup):(c9.map (·.1)).Nodup:=by
 induction h with
 |nil=>simp
 |here=>exact nd
 | @there p r x v r' hp hs ih=>
  rw[bx,fz]at nd ⊢
  refine⟨λq=>?_,ih nd.2⟩
  rcases hs.mem _ q with e|e
  exact hp e
  exact nd.1 e
theorem Sf.put {fs c9:List (Str×Option V)}{x:Str}{v':Value}(h:Sf fs x (er v') c9){es:List DictEntry}(f:br (fB w) es fs){t:Tok}:br (fB w) (putL x (PyData.keyHash w.params x) (.str x t) v' es) c9:=by
 generalize hv:er v'=v at h
 induction h generalizing es with
 |nil=>cases f;exact .cons ⟨⟨t,rfl,rfl⟩,λu hu=>by cases hu;exact hv⟩ .nil
 |here=>
  cases f with
  |cons he hr=>
   obtain⟨⟨u,hk,hh⟩,_⟩:=he
   unfold putL
   rw[hk,q9,i6 rfl,ck rfl]
   exact .cons ⟨⟨u,rfl,hh⟩,λz hz=>by cases hz;exact hv⟩ hr
 |there hp hs ih=>
  cases f with
  |cons he hr=>
   obtain⟨⟨u,hk,hh⟩,hz⟩:=he
   unfold putL
   rw[hk,q9,i5 hp,bK (by simp)]
   exact .cons ⟨⟨u,hk,hh⟩,hz⟩ (ih hr hv)
theorem fB.isSome {es:List DictEntry}{fs:List (Str×Option V)}(h:br (fB w) es fs)(x:Str):(PySem.W.getL x es).isSome=true:=by
 unfold PySem.W.getL
 cases es.find? (λe=>e.key.isStr x)with
 |some e=>rfl
 |none=>simp[fB.strs h]
theorem br.length {α β:Type}{R:α→β→Prop}{l:List α}{m:List β}(h:br R l m):l.length=m.length:=by induction h with|nil=>rfl|cons _ _ ih=>simp[ih]
theorem Fi {a C:Addr}{fs c9:List (Str×Option V)}{name:Str}{v':Value}(S:bt w Γ)(D:az w Γ s σ ρ)(ha:σ a=some (.inst C fs))(hs:Sf fs name (er v') c9)(hl:c9.length≤1000)(hc:gE w C=true)(hf:bP w C name=true)
  {k:Unit→Shared→Prop}{X:VP}(hk:∀s',az w Γ s' (upd σ a (.inst C c9)) ρ→k () s'):wpAny (model aC w) Γ.A (setAttr (.ref a) name v') k X s:=by
 obtain⟨d,es,n,sl,e,I,e2,f,nd⟩:=(D.hr.at_ _ _ ha).s8
 unfold gE at hc
 simp only[fN]at hc
 obtain⟨⟨⟨c1,c2⟩,c3⟩,c4⟩:=hc
 obtain⟨m,F⟩:=D.fr
 have hd:dictAt s.heap a=some d:=by unfold dictAt;rw[e];rfl
 have zZ:d∈foot s.heap a:=bD.mpr (.inr hd)
 have Fj:=D.free _ _ ha d zZ
 have z0:d≠Γ.FL:=λq=>Fj.2 (q▸Γ.dG)
 have RW:d≠a:=λq=>by rw[←q,e2]at e;cases e
 have hN:News Γ.h₀ Γ.FL s.heap ((d,dictOf es n)::since Γ.h₀ Γ.FL s.heap (·==d)):=λp hp=>by
  rcases aY.mp hp with rfl|hp
  exact⟨e2,z0,Fj.1⟩
  exact vy p hp
 refine set_dict (K:=Kc w) F (ji S.K) hN I rfl (beq_iff_eq.mp c3) c4 (by unfold takerIn;rw[vK hf];rfl) c2 (fB.isSome f name) rfl (.head λp hp q=>?_) ?_ λh' F' N'=>hk _ ?_
 have:=QZ p hp
 rw[q]at this;simp at this
 rw[(hs.put f).length];exact hl
 have kp:∀b o,b≠Γ.FL→b≠d→s.heap.get? b=some o→h'.get? b=some o:=λb o hb RX eb=>
  vz (but:=(·==d)) F F' N' (λp hp=>bw _ hp) b o hb (by simpa using RX) eb
 have eN:=(N' _ bA).1
 have Fm:∀b ob,σ b=some ob→b≠a→∀c∈foot s.heap b,c≠d∧c≠Γ.FL:=λb ob sb ne c hc=>⟨λq=>D.hr.apart b a ob _ sb ha ne d (q▸hc) zZ,λq=>(D.free b ob sb c hc).2 (q▸Γ.dG)⟩
 have sG:h'.get? a=some ⟨.ref C,some d,.plain,sl⟩:=kp a _ (λq=>(D.free _ _ ha a (bD.mpr (.inl rfl))).2 (q▸Γ.dG)) (Ne.symm RW) e
 have fR:∀b ob,σ b=some ob→foot h' b=foot s.heap b:=λb ob sb=>by
  by_cases ne:b=a
  subst ne;exact ey (sG.trans e.symm)
  obtain⟨z,hz⟩:=(D.hr.at_ b ob sb).live b (bD.mpr (.inl rfl))
  have:=Fm b ob sb ne b (bD.mpr (.inl rfl))
  exact ey ((kp b z this.2 this.1 hz).trans hz.symm)
 have cM:At w h' a (.inst C c9):=⟨d,_,_,sl,sG,eN,by simpa using hs.put f,hs.nodup nd⟩
 have hr:HR w h' (upd σ a (.inst C c9)):=by
  have RY:∀b ob,σ b=some ob→b≠a→∀c∈foot s.heap b,h'.get? c=s.heap.get? c:=λb ob sb ne c hc=>by
   obtain⟨z,hz⟩:=(D.hr.at_ b ob sb).live c hc
   have:=Fm b ob sb ne c hc
   exact(kp c z this.2 this.1 hz).trans hz.symm
  have low:∀b ob,upd σ a (.inst C c9) b=some ob→∃fO,σ b=some fO:=λb ob sb=>by
   by_cases hb:b=a
   exact⟨_,hb▸ha⟩
   rw[aJ hb]at sb;exact⟨ob,sb⟩
  refine⟨λb ob sb=>?_,λb c ob oc sb sc ne y yb yc=>?_,?_⟩
  by_cases hb:b=a
  subst hb;rw[ai]at sb;cases sb;exact cM
  rw[aJ hb]at sb;exact(D.hr.at_ b ob sb).same (RY b ob sb hb)
  obtain⟨fO,mL⟩:=low b ob sb
  obtain⟨sM,sN⟩:=low c oc sc
  exact D.hr.apart b c fO sM mL sN ne y (fR b fO mL▸yb) (fR c sM sN▸yc)
  obtain⟨l,hl⟩:=D.hr.fin
  exact⟨l,λb ob sb=>let⟨fO,mL⟩:=low b ob sb;hl b fO mL⟩
 refine D.zj S (λb o hb eb off=>kp b o hb (λq=>off a _ ha (q▸zZ)) eb) (λm' nm=>?_) hr (λb ob sb c hc=>.inl ?_) rfl rfl
 have e1:=nm.eq_nsMap
 have e3:=F.ns.eq_nsMap
 rw[e1,←e3];exact F'.ns
 by_cases hb:b=a
 subst hb;exact⟨b,_,ha,fR b _ ha▸hc⟩
 rw[aJ hb]at sb;exact⟨b,ob,sb,fR b ob sb▸hc⟩
end
section
variable{w:World}{Γ:Ctx}{s s':Shared}{σ:Hp}{ρ aR:LO}{Q:PQ}
theorem lU {f:Value}{A:List (Bool×Sem Value)}{M:Model}{Ar:Around}{E:VP}{Q:Args→Shared→Prop}(h0:A.any (·.1)=false)(h:wpAny M Ar (spliced A) (λvs s'=>Q ⟨vs,[]⟩ s') E s):
  wpAny M Ar (evalArgs f true A []) Q E s:=by
 cases A with
 |nil=>
  unfold evalArgs
  show wpAny M Ar (spliced []>>=_) Q E s
  refine aP (j_ h (λvs s' q=>?_) λ_ _ e=>e)
  refine gA ?_
  exact aP (bY (aP (bY (bY q))))
 |cons p r=>
  obtain⟨b,x⟩:=p
  cases b with
  |true=>simp at h0
  |false=>exact evalArgs_plain h
noncomputable abbrev z4 (w:World)(d:Nat)(f:V)(Q:PQ):List V→Hp→Prop:=λvs σ=>Call w d f vs σ Q
inductive RZ (w:World)(Γ:Ctx)(pos:Pos)(args:List Expr)(ρ:LO)(Q:PQ)(fv:V)(σ:Hp):Prop
 |mk (a:Addr) (e:fv=.ref a) (k:keepIn (Kc w) (.ref a)=true) (h:eC w Γ pos args σ ρ (z4 w Γ.d (.ref a) Q))
structure R0 (Q:PQ)(a v:V)(σ:Hp):Prop where
 e:v=.none
 q:Q a σ
theorem ak.call {x np pos args}(h:ak w Γ (.Name x np) σ ρ (RZ w Γ pos args ρ Q))
  (hp:∀env,(backTo pos (starEach args env)).any (·.1)=false:=by intro _;rfl):ak w Γ (.Call (.Name x np) args [] pos) σ ρ Q:=by
 refine⟨λS s D k X hk=>qS (h.run S s D _ X λf av aH q aL=>?_)⟩
 obtain⟨a,e,pP,q⟩:=q
 refine bJ e ?_
 have gX:(backTo pos (starEach args Γ.env)).any (·.1)=false:=hp _
 refine callWith_of (P:=(Kc w).In) (by rw[gX];rfl) (λh kY=>keeps_K pP h kY) (lU gX (q.run S av aL _ X λvs aG aZ c aA=>⟨ji (aA.known S),?_⟩))
 exact c.ok (dp _) rfl rfl S aG aA k X hk
theorem Fn (A:Around)(args:Args):A.under (.builtin "type.__call__" args)={A with depth:=A.depth+(Code.builtin "type.__call__" args).weight,units:=A.units+(Code.builtin "type.__call__" args).cUnits}:=by
 obtain⟨a,b,c,d,e⟩:=A
 unfold Around.under
 have h1:(Code.builtin "type.__call__" args).envs=[]:=rfl
 have h2:(Code.builtin "type.__call__" args).guards=[]:=by rfl
 rw[h1,h2]
 cases c<;>cases d<;>rfl
theorem Fo (C:Addr)(args:List Value):(Code.builtin "type.__call__" ⟨.ref C::args,[]⟩).weight≤2∧(Code.builtin "type.__call__" ⟨.ref C::args,[]⟩).cUnits≤10:=by
 have a:(Code.builtin "type.__call__" ⟨.ref C::args,[]⟩).weight=1:=by rfl'
 have b:(Code.builtin "type.__call__" ⟨.ref C::args,[]⟩).cUnits=1:=by rfl'
 rw[a,b]
 constructor<;>decide
noncomputable def Ctx.at (Γ:Ctx)(A:Around)(d:Nat):Ctx:={Γ with A:=A,d:=d}
theorem bt.at (S:bt w Γ){A:Around}{d:Nat}(h1:A.handled=Γ.A.handled)(h2:A.frames=Γ.A.frames)(h3:A.depth+6*d<recursionLimit)(h4:A.units+40*d+40<cLine):bt w (Γ.at A d):=by
 obtain⟨a1,a2,a3,a4,a5,a6,a7,a8,a9,d_,eT,gk,gF,ia,ib,kZ,k_,oH,oI,lV,iM,kh,lW,lX⟩:=S
 exact⟨h1.trans a1,a2,a3,a4,h2.trans a5,a6,a7,a8,a9,d_,eT,gk,gF,ia,ib,kZ,k_,oH,oI,lV,iM,kh,h3,h4⟩
theorem az.at {A:Around}{d:Nat}(D:az w Γ s σ ρ):az w (Γ.at A d) s σ ρ:=⟨D.fr,D.hr,D.free,D.kp,D.cells,D.loc,D.gens,D.os,D.fm⟩
theorem az.Fp {A:Around}{d:Nat}(D:az w (Γ.at A d) s σ ρ):az w Γ s σ ρ:=⟨D.fr,D.hr,D.free,D.kp,D.cells,D.loc,D.gens,D.os,D.fm⟩
theorem Call.cls {C fI:Addr}{d:Nat}{vs:List V}(hm:makesIn (Kc w) C=true)(hi:findIn (Kc w) (.ref C) "__init__"=some (some (.ref fI)))(hf:isFn (Kc w) (.ref fI)=true)
  (h:∀a,σ a=none→Call w d (.ref fI) (.ref a::vs) (upd σ a (.inst C [])) (R0 Q (.ref a))):Call w (d+1) (.ref C) vs σ Q:=by
 refine⟨fun Γ hd ρ fv args jK ez S s D k X hk=>?_⟩
 refine bJ jK ?_
 obtain⟨m,F⟩:=D.fr
 refine make_K (K:=Kc w) F (vy (but:=λ_=>false)) (ji (D.known S)) hm hi (beq_iff_eq.mp hf) λx dx h' F' N' dQ R1=>?_
 have nx:=N' (x,instObj C dx) bA
 have nd:=N' (dx,emptyDict) (bw _ bA)
 have fresh:∀b,dx≤b→b≠Γ.FL→Γ.h₀.get? b=none→s.heap.get? b=none:=λb hb hL h0=>by
  cases e:s.heap.get? b with
  |none=>rfl
  |some o=>exact absurd (dQ (b,o) (DS e hL h0 rfl)) (Nat.not_lt.mpr hb)
 have R2:=fresh dx (dp _) nd.2.1 nd.2.2
 have fx:=fresh x (Nat.le_of_lt R1) nx.2.1 nx.2.2
 have keep:∀b o,b≠Γ.FL→s.heap.get? b=some o→h'.get? b=some o:=λb o hb e=>vz F F' N' (λp hp=>bw _ (bw _ hp)) b o hb rfl e
 have cM:At w h' x (.inst C []):=⟨dx,0,#[],#[],nx.1,nd.1,.nil,kK⟩
 have Fq:∀b∈foot h' x,s.heap.get? b=none∧b≠Γ.FL:=λb hb=>by
  rcases bD.mp hb with rfl|q
  exact⟨fx,nx.2.1⟩
  have:dictAt h' x=some dx:=by unfold dictAt;rw[nx.1];rfl
  rw[this]at q;cases q
  exact⟨R2,nd.2.1⟩
 have afn:∃o,s.heap.get? Γ.FL=some o:=by obtain⟨o,_,_,e,_⟩:=F.ns;exact⟨o,e⟩
 have Fs:∀a o,σ a=some o→foot h' a=foot s.heap a:=λa o sa=>by
  obtain⟨z,hz⟩:=(D.hr.at_ a o sa).live a (bD.mpr (.inl rfl))
  have:a≠Γ.FL:=λq=>(D.free a o sa a (bD.mpr (.inl rfl))).2 (q▸Γ.dG)
  exact ey ((keep a z this hz).trans hz.symm)
 have H1:HR w h' σ:=D.hr.same λa o sa b hb=>by
  obtain⟨z,hz⟩:=(D.hr.at_ a o sa).live b hb
  have:b≠Γ.FL:=λq=>(D.free a o sa b hb).2 (q▸Γ.dG)
  exact(keep b z this hz).trans hz.symm
 have fr:σ x=none:=by
  cases q:σ x with
  |none=>rfl
  |some o=>obtain⟨z,hz⟩:=(D.hr.at_ x o q).live x (bD.mpr (.inl rfl));rw[fx]at hz;cases hz
 have H2:HR w h' (upd σ x (.inst C [])):=by
  have old:∀b ob,σ b=some ob→∀c∈foot h' b,c∈foot h' x→False:=λb ob sb c hc hx=>by
   rw[Fs b ob sb]at hc
   obtain⟨z,hz⟩:=(D.hr.at_ b ob sb).live c hc
   rw[(Fq c hx).1]at hz;cases hz
  refine⟨λb ob sb=>?_,λb c ob oc sb sc ne y yb yc=>?_,?_⟩
  by_cases hb:b=x
  subst hb;rw[ai]at sb;cases sb;exact cM
  rw[aJ hb]at sb;exact H1.at_ b ob sb
  by_cases hb:b=x
  subst hb
  rw[aJ (Ne.symm ne)]at sc
  exact old c oc sc y yc yb
  rw[aJ hb]at sb
  by_cases hc:c=x
  subst hc;exact old b ob sb y yb yc
  rw[aJ hc]at sc;exact H1.apart b c ob oc sb sc ne y yb yc
  obtain⟨l,hl⟩:=D.hr.fin
  refine⟨x::l,λb ob sb=>?_⟩
  by_cases hb:b=x
  subst hb;exact bA
  rw[aJ hb]at sb;exact bw _ (hl b ob sb)
 have D':az w Γ {s with heap:=h'} (upd σ x (.inst C [])) ρ:=by
  refine D.zj S (λb o hb e _=>keep b o hb e) (λm' nm=>?_) H2 (λb ob sb c hc=>?_) rfl rfl
  rw[nm.eq_nsMap,←F.ns.eq_nsMap];exact F'.ns
  by_cases hb:b=x
  subst hb;exact .inr (Fq c hc).1
  rw[aJ hb]at sb;exact .inl ⟨b,ob,sb,Fs b ob sb▸hc⟩
 have U:=Fo C args
 have S':bt w (Γ.at (Γ.A.under (.builtin "type.__call__" ⟨.ref C::args,[]⟩)) d):=by
  rw[Fn]
  refine S.at rfl rfl ?_ ?_
  have:=S.dep;show Γ.A.depth+_+6*d<_;lia
  have:=S.un;show Γ.A.units+_+40*d+40<_;lia
 have:=(h x fr).run (Γ.at (Γ.A.under (.builtin "type.__call__" ⟨.ref C::args,[]⟩)) d) (dp _) ρ (.ref fI) (.ref x::args) rfl (by rw[bx,ez];rfl) S' _ D'.at
  (λv s'=>v=.none∧k (.ref x) s') X λv aG aZ q aA=>⟨ke q.1,hk _ aG aZ q.2 aA.Fp⟩
 refine codeAny_mono this λr aG hr=>?_
 unfold InitBack
 split at hr<;>first|exact hr|exact hr.elim
end
section
variable{w:World}{Γ:Ctx}{s s':Shared}{σ:Hp}{ρ aR:LO}{Q:PQ}{QT:PF}
inductive R3 (w:World)(QT:PF)(attr:Str)(ρ:LO)(v ov:V)(σ:Hp):Prop
 |mk (a C:Addr) (fs c9:List (Str×Option V)) (e:ov=.ref a) (h:σ a=some (.inst C fs)) (s:Sf fs attr v c9) (l:c9.length≤1000) (c:gE w C=true) (f:bP w C attr=true) (q:QT .next (upd σ a (.inst C c9)) ρ)
noncomputable abbrev R4 (w:World)(Γ:Ctx)(o:Expr)(attr:Str)(ρ:LO)(QT:PF):PQ:=λv σ=>ak w Γ o σ ρ (R3 w QT attr ρ v)
theorem aT.setattr {o attr apos value pos}(h:ak w Γ value σ ρ (R4 w Γ o attr ρ QT))
  (hs:∀env,swapsWithSole [.Attribute o attr apos] value pos.line env=pure false:=by intro _;rfl)(hw:∀env,swappedStores [.Attribute o attr apos] value env=pure none:=by intro _;rfl):
  aT w Γ (.Assign [.Attribute o attr apos] value pos) σ ρ QT:=by
 refine⟨λS s D k X hk=>wpAny_Assign_stores (h.run S s D _ X λv av aH q aL=>?_) (hs _) (hw _)⟩
 show wpAny _ _ (assign (.Attribute o attr apos) Γ.env v) _ _ _
 show wpAny _ _ (do
  let ov←holding [v] (eval o Γ.env)
  standAt apos.atName
  holding [v,ov] (setAttr ov attr v)
  release [v,ov] []) _ _ _
 refine aP (gA (q.run S av aL _ X λov aG aZ b_ aA=>?_))
 obtain⟨a,C,fs,c9,eo,ha,hf,hl,hc,hn,b_⟩:=b_
 refine bJ eo ?_
 exact aP (j8 (aP (gA (Fi S aA ha hf hl hc hn λbI bN=>wpAny_release (hk .next bI _ ρ b_ bN)))))
def ic:= @aT.setattr
end
noncomputable def rv:Fl→V
 |.ret v=>v
 |_=>.none
noncomputable def cpsOf (x:Str):List Nat:=x.cps.toList
theorem R5 {x y:Str}(h:cpsOf x=cpsOf y):x=y:=by
 obtain⟨a⟩:=x;obtain⟨b⟩:=y
 have:a.toList=b.toList:=h
 rw[Array.toList_inj.mp this]
noncomputable def rd:List Nat→List Nat→Bool
 | [],[]=>true
 |a::l,b::m=>Nat.beq a b&&rd l m
 |_,_=>false
theorem z5:∀{l m:List Nat},rd l m=true↔l=m
 | [],[]=>⟨λ_=>rfl,λ_=>rfl⟩
 | [],_::_=>⟨nofun,nofun⟩
 |_::_,[]=>⟨nofun,nofun⟩
 |a::l,b::m=>by
  show(Nat.beq a b&&rd l m)=true↔_
  simp[z5,Nat.beq_eq]
noncomputable def hs (x:Str):Nat:=x.cps.toList.foldl (λh c=>(h*31+c) % 4294967296) 0
noncomputable def pQ (x:Nat):List Nat→Bool
 | []=>false
 |y::r=>match Nat.beq x y with
  |true=>true
  |false=>pQ x r
theorem vN {x:Nat}:∀{l:List Nat},pQ x l=false→x∉l
 | [],_=>by simp
 |y::r,h=>by
  unfold pQ at h
  cases e:Nat.beq x y with
  |true=>rw[e]at h;cases h
  |false=>
   rw[e]at h
   have:x≠y:=λq=>by rw[q,Nat.beq_refl]at e;cases e
   simp[this,vN h]
noncomputable def tc:List Nat→Bool
 | []=>true
 |x::r=>match pQ x r with
  |true=>false
  |false=>tc r
theorem vO:∀{l:List Nat},tc l=true→l.Nodup
 | [],_=>kK
 |x::r,h=>by
  unfold tc at h
  cases e:pQ x r with
  |true=>rw[e]at h;cases h
  |false=>rw[e]at h;exact fz.mpr ⟨vN e,vO h⟩
noncomputable def rf (names:SN):Bool:=tc (names.map fun p=>hs p.1)&& !pQ (hs "__debug__") (names.map fun p=>hs p.1)&& !pQ (hs "__classdict__") (names.map fun p=>hs p.1)
theorem z6 {α β:Type}{f:α→β}{l:List α}(h:(l.map f).Nodup):l.Nodup:=by
 induction l with
 |nil=>exact kK
 |cons p r ih=>
  rw[bx,fz]at h
  exact fz.mpr ⟨λhm=>h.1 (cB hm),ih h.2⟩
theorem z7 {names:SN}(h:rf names=true):(names.map (·.1)).Nodup∧∀x∈names.map (·.1),(x==("__debug__":Str))=false∧(x==("__classdict__":Str))=false:=by
 unfold rf at h
 simp only[fN,Bool.not_eq_true']at h
 obtain⟨⟨n1,n2⟩,n3⟩:=h
 have e:(names.map λp=>hs p.1)=(names.map (·.1)).map hs:=by rw[kM];rfl
 rw[e]at n1 n2 n3
 exact⟨z6 (vO n1),λx hx=>⟨jB.mpr λq=>vN n2 (q▸cB hx),jB.mpr λq=>vN n3 (q▸cB hx)⟩⟩
theorem jM {α:Type}{l:List (Str×α)}(nd:(l.map (·.1)).Nodup){x:Str}{k:α}(h:(x,k)∈l):l.lookup x=some k:=by
 induction l with
 |nil=>cases h
 |cons p r ih=>
  obtain⟨y,j⟩:=p
  rw[bx,fz]at nd
  rw[kJ]
  rcases aY.mp h with e|hr
  cases e;simp
  have:(x==y)=false:=by
   simp only[jB,ne_eq]
   intro q
   refine nd.1 ?_
   show y∈_
   rw[←q]
   exact cB (f:=(·.1)) hr
  rw[this];exact ih nd.2 hr
theorem lookup_none {α:Type}{l:List (Str×α)}{x:Str}(h:x∉l.map (·.1)):l.lookup x=none:=by
 induction l with
 |nil=>rfl
 |cons p r ih=>
  obtain⟨y,j⟩:=p
  rw[bx,aY,not_or]at h
  rw[kJ,jB.mpr h.1]
  exact ih h.2
noncomputable def pR:Str×NameKind→Option (Str×VK)
 |(x,.local)=>some (x,.loc)
 |(x,.cell)=>some (x,.cell)
 |_=>none
theorem R6 {sc:Scope}:zo sc=sc.names.filterMap pR:=by
 unfold zo
 congr 1
 funext p
 obtain⟨x,k⟩:=p
 cases k<;>rfl
theorem R7 {l:SN}{x:Str}{k:VK}(h:(x,k)∈l.filterMap pR):(k=.loc∧(x,NameKind.local)∈l)∨(k=.cell∧(x,NameKind.cell)∈l):=by
 obtain⟨⟨y,j⟩,hm,e⟩:=i4.mp h
 cases j<;>simp only[pR]at e<;>cases e
 exact .inl ⟨rfl,hm⟩
 exact .inr ⟨rfl,hm⟩
theorem Ft {l:SN}:((l.filterMap pR).map (·.1)).Sublist (l.map (·.1)):=by
 induction l with
 |nil=>exact List.Sublist.refl _
 |cons p r ih=>
  obtain⟨x,k⟩:=p
  cases k<;>simp only[gz,pR,bx]<;>first|exact ih.cons_cons _|exact ih.cons _
theorem z8:∀(l:SN)(n:Nat)(acc:List (Str×Addr)),(l.map (·.1)).Nodup→(acc.map (·.1)).Nodup→(∀x∈l.map (·.1),x∉acc.map (·.1))→((cellsFrom n l acc).map (·.1)).Nodup
 | [],_,_,_,h,_=>h
 |(x,k)::r,n,acc,nd,ha,hd=>by
  rw[bx,fz]at nd
  unfold cellsFrom
  split
  refine z8 r (n+1) _ nd.2 ?_ λy hy=>?_
  rw[bx,fz];exact⟨hd x bA,ha⟩
  rw[bx,aY,not_or]
  exact⟨λq=>nd.1 (by rw[←q];exact hy),hd y (bw _ hy)⟩
  exact z8 r n acc nd.2 ha λy hy=>hd y (bw _ hy)
noncomputable def rg:Str×NameKind→Bool
 |(_,.globalImplicit)=>true
 |_=>false
theorem R8 {bs:LV}:∀{vars:KV},(vars.map (·.1)).Nodup→bs.map (·.1)=(vars.take bs.length).map (·.1)→vars.map (λp=>bs.lookup p.1)=bs.map (λp=>some p.2)++List.replicate (vars.length-bs.length) none:=by
 intro vars nd hb
 have key:∀(pre bs:LV) (vars:KV),((pre.map (·.1))++vars.map (·.1)).Nodup→bs.map (·.1)=(vars.take bs.length).map (·.1)→
   vars.map (λp=>(pre++bs).lookup p.1)=bs.map (λp=>some p.2)++List.replicate (vars.length-bs.length) none:=by
  intro pre bs
  induction bs generalizing pre with
  |nil=>
   intro vars nd _
   simp only[List.append_nil,List.map_nil,List.nil_append,List.length_nil,Nat.sub_zero]
   refine List.eq_replicate_iff.mpr ⟨by simp,λb hb=>?_⟩
   refine bZ hb λp hp=>?_
   refine lookup_none λhm=>?_
   exact(List.nodup_append.mp nd).2.2 _ hm _ (cB (f:=(·.1)) hp) rfl
  |cons b r ih=>
   intro vars nd hb
   cases vars with
   |nil=>simp at hb
   |cons v vs=>
    obtain⟨x,u⟩:=b
    obtain⟨y,k⟩:=v
    simp only[List.length_cons,List.take_succ_cons,bx,jD]at hb
    obtain⟨rfl,hb⟩:=hb
    have:=ih (pre++[(x,u)]) vs (by simpa using nd) hb
    simp only[bx,sr,List.length_cons,Nat.add_sub_add_right]
    rw[(by simp:pre++(x,u)::r=(pre++[(x,u)])++r),this]
    congr 1
    refine List.lookup_append.trans ?_
    have h1:(pre++[(x,u)]).lookup x=some u:=by
     rw[List.lookup_append,lookup_none (l:=pre) λhm=>?_]
     simp
     exact(List.nodup_append.mp nd).2.2 _ hm _ bA rfl
    rw[h1];rfl
 simpa using key [] bs vars (by simpa using nd) hb
theorem z9 {names:SN}{gls:LV}(hg:gls.map (·.1)=(names.filter rg).map (·.1)):∀p∈gls,(p.1,NameKind.globalImplicit)∈names:=λp hp=>by
 have:p.1∈(names.filter rg).map (·.1):=hg▸cB (f:=(·.1)) hp
 obtain⟨⟨y,k⟩,hm,e⟩:=cF.mp this
 rw[jE]at hm
 have hk:k=.globalImplicit:=by
  have:=hm.2
  cases k<;>first|rfl|cases this
 subst hk
 have e:y=p.1:=e
 subst e
 exact hm.1
structure aO (w:World)(f c:Addr)(st:Stmt)(q:Str)(dV pm:Value)(vars:KV)(gls:LV):Prop where
 hf:lk (Fin w) f=some (fo st q dV pm (.ref c))
 hc:vA (lk (Fin w) c)=some q
 mN:rf (bz st).names=true
 hv:(bz st).names.filterMap pR=vars
 hg:gls.map (·.1)=((bz st).names.filter rg).map (·.1)
 Fu:((bz st).kind==.function&& !(bz st).isCoroutine&& !(bz st).isGenerator)=true
 b8:(!(f==2041)&& !(c==2041))=true
 gD:gls.map (λp=>(i9 w p.1).map er)=gls.map (λp=>some p.2)
theorem aO.def {w:World}{f c:Addr}{st:Stmt}{q:Str}{dV pm:Value}{vs:List V}{bs:LV}{vars:KV}{gls:LV}{cu:LO}(F:aO w f c st q dV pm vars gls)
  (iN:bs.map (·.1)=(vars.take bs.length).map (·.1))(i_:bs.map (λp=>some p.2)++List.replicate (vars.length-bs.length) none=cu)
  (hb:∀args:List Value,args.map er=vs→∃binds,(∀s:Shared,Known w s.heap→BindsTo s (fdOf st q dV pm (.ref c)) ⟨args,[]⟩ binds)∧binds.map (λp=>(p.1,er p.2))=bs):Def w f c st q dV pm vs bs vars gls cu:=by
 obtain⟨hf,hc,fE,hv,hg,Fu,b8,gD⟩:=F
 obtain⟨nd,db⟩:=z7 fE
 have mU:(vars.map (·.1)).Nodup:=hv▸Ft.nodup nd
 have lY:∀p∈vars,(p.2=.loc∧(bz st).names.lookup p.1=some .local)∨(p.2=.cell∧(bz st).names.lookup p.1=some .cell):=λp hp=>by
  obtain⟨x,k⟩:=p
  rcases R7 (hv▸hp)with⟨rfl,h⟩|⟨rfl,h⟩
  exact .inl ⟨rfl,jM nd h⟩
  exact .inr ⟨rfl,jM nd h⟩
 have R9:∀p∈vars,p.1∈(bz st).names.map (·.1):=λp hp=>(hv▸Ft:(vars.map (λp:Str×VK=>p.1)).Sublist ((bz st).names.map (λp:Str×NameKind=>p.1))).subset (cB (f:=λp:Str×VK=>p.1) hp)
 have R_:∀p∈bs,∃k,(p.1,k)∈vars:=λp hp=>by
  have:p.1∈(vars.take bs.length).map (·.1):=iN▸cB (f:=(·.1)) hp
  obtain⟨q,hq,e⟩:=cF.mp this
  exact⟨q.2,by rw[←e];exact List.mem_of_mem_take hq⟩
 simp only[fN,Bool.not_eq_true',jB]at b8
 refine⟨hf,hc,by rw[R6];exact hv,(R8 mU iN).trans i_,hb,?_,?_,mU,?_,b8,?_,gD⟩
 rw[fN,fN]
 refine⟨⟨Fu,ew.mpr λp hp=>?_⟩,ew.mpr λp hp=>?_⟩
 obtain⟨k,hk⟩:=R_ p hp
 rcases lY _ hk with⟨_,h⟩|⟨_,h⟩
 have h:(bz st).names.lookup p.1=some .local:=h
 rw[h];rfl
 have h:(bz st).names.lookup p.1=some .cell:=h
 rw[h];rfl
 rcases lY p hp with⟨e,h⟩|⟨e,h⟩<;>rw[e]<;>dsimp only<;>rw[h]<;>rfl
 rw[iN];exact(List.Sublist.map (λp:Str×VK=>p.1) (List.take_sublist bs.length vars)).nodup mU
 exact z8 _ _ _ nd kK λx _ h=>(nomatch h)
 rw[fN]
 refine⟨ew.mpr λp hp=>?_,ew.mpr λp hp=>?_⟩
 have:=db _ (R9 p hp)
 rw[this.1,this.2];rfl
 have hm:=z9 hg p hp
 rw[jM nd hm,(db _ (cB (f:=λp:Str×NameKind=>p.1) hm)).1];rfl
noncomputable abbrev Sa (Q:PQ):PF:=λfl σ _=>Q (rv fl) σ
noncomputable abbrev En (w:World)(d:Nat)(st:Stmt)(vars:KV)(gls:LV)(ρ:LO)(σ:Hp)(Q:PQ):Prop:=∀Γ:Ctx,Γ.d=d→Γ.vars=vars→Γ.gls=gls→dj w Γ (bodyOf st) σ ρ (Sa Q)
section
variable{w:World}{f c:Addr}{st:Stmt}{q:Str}{dV pm:Value}{vs:List V}{bs:LV}{vars:KV}{gls:LV}{cu:LO}{d:Nat}{σ:Hp}{Q:PQ}{x1 x2 x3 x4 x5 x6 x7:V}{n1 n2 n3 n4 n5 n6 n7:Str}{k1 k2 k3 k4 k5 k6 k7:VK}
theorem Def.enter (D:Def w f c st q dV pm vs bs vars gls cu)(h:En w d st vars gls cu σ Q):Call w (d+1) (.ref f) vs σ Q:=
 Rd D fun Γ e1 e2 e3 _=>pF.mono (h Γ e1 e2 e3).run λfl σ' aR q=>by cases fl<;>exact q
theorem Sb {args:List Value}(h:args.map er=[]):args=[]:=by cases args with|nil=>rfl|cons _ _=>cases h
theorem args_1 {args:List Value}{x1:V}(h:args.map er=[x1]):∃a1,args=[a1]∧er a1=x1:=by
 rcases args with _|⟨a,r⟩<;>first|cases(h)|skip
 rw[bx,jD]at h
 obtain rfl:=Sb h.2
 exact⟨a,rfl,h.1⟩
theorem aO.d1 (F:aO w f c st q dV pm ((n1,k1)::vars) gls)(b:∀a1:Value,∀s:Shared,BindsTo s (fdOf st q dV pm (.ref c)) ⟨[a1],[]⟩ [(n1,a1)]):Def w f c st q dV pm [x1] [(n1,x1)] ((n1,k1)::vars) gls (some x1::List.replicate vars.length none):=
 F.def rfl (by simp) λargs ha=>by
  obtain⟨a1,rfl,rfl⟩:=args_1 ha
  exact⟨[(n1,a1)],λs _=>b _ _,rfl⟩
theorem args_2 {args:List Value}{x1 x2:V}(h:args.map er=[x1,x2]):∃a1 a2,args=[a1,a2]∧er a1=x1∧er a2=x2:=by
 rcases args with _|⟨a,r⟩<;>first|cases(h)|skip
 rw[bx,jD]at h
 obtain⟨b1,rfl,e1⟩:=args_1 h.2
 exact⟨a,b1,rfl,h.1,e1⟩
theorem aO.d2 (F:aO w f c st q dV pm ((n1,k1)::(n2,k2)::vars) gls)(b:∀a1 a2:Value,∀s:Shared,BindsTo s (fdOf st q dV pm (.ref c)) ⟨[a1,a2],[]⟩ [(n1,a1),(n2,a2)]):Def w f c st q dV pm [x1,x2] [(n1,x1),(n2,x2)] ((n1,k1)::(n2,k2)::vars) gls (some x1::some x2::List.replicate vars.length none):=
 F.def rfl (by simp) λargs ha=>by
  obtain⟨a1,a2,rfl,rfl,rfl⟩:=args_2 ha
  exact⟨[(n1,a1),(n2,a2)],λs _=>b _ _ _,rfl⟩
theorem args_3 {args:List Value}{x1 x2 x3:V}(h:args.map er=[x1,x2,x3]):∃a1 a2 a3,args=[a1,a2,a3]∧er a1=x1∧er a2=x2∧er a3=x3:=by
 rcases args with _|⟨a,r⟩<;>first|cases(h)|skip
 rw[bx,jD]at h
 obtain⟨b1,b2,rfl,e1,e2⟩:=args_2 h.2
 exact⟨a,b1,b2,rfl,h.1,e1,e2⟩
theorem aO.d3 (F:aO w f c st q dV pm ((n1,k1)::(n2,k2)::(n3,k3)::vars) gls)(b:∀a1 a2 a3:Value,∀s:Shared,BindsTo s (fdOf st q dV pm (.ref c)) ⟨[a1,a2,a3],[]⟩ [(n1,a1),(n2,a2),(n3,a3)]):Def w f c st q dV pm [x1,x2,x3] [(n1,x1),(n2,x2),(n3,x3)] ((n1,k1)::(n2,k2)::(n3,k3)::vars) gls (some x1::some x2::some x3::List.replicate vars.length none):=
 F.def rfl (by simp) λargs ha=>by
  obtain⟨a1,a2,a3,rfl,rfl,rfl,rfl⟩:=args_3 ha
  exact⟨[(n1,a1),(n2,a2),(n3,a3)],λs _=>b _ _ _ _,rfl⟩
theorem args_4 {args:List Value}{x1 x2 x3 x4:V}(h:args.map er=[x1,x2,x3,x4]):∃a1 a2 a3 a4,args=[a1,a2,a3,a4]∧er a1=x1∧er a2=x2∧er a3=x3∧er a4=x4:=by
 rcases args with _|⟨a,r⟩<;>first|cases(h)|skip
 rw[bx,jD]at h
 obtain⟨b1,b2,b3,rfl,e1,e2,e3⟩:=args_3 h.2
 exact⟨a,b1,b2,b3,rfl,h.1,e1,e2,e3⟩
theorem aO.d4 (F:aO w f c st q dV pm ((n1,k1)::(n2,k2)::(n3,k3)::(n4,k4)::vars) gls)(b:∀a1 a2 a3 a4:Value,∀s:Shared,BindsTo s (fdOf st q dV pm (.ref c)) ⟨[a1,a2,a3,a4],[]⟩ [(n1,a1),(n2,a2),(n3,a3),(n4,a4)]):Def w f c st q dV pm [x1,x2,x3,x4] [(n1,x1),(n2,x2),(n3,x3),(n4,x4)] ((n1,k1)::(n2,k2)::(n3,k3)::(n4,k4)::vars) gls (some x1::some x2::some x3::some x4::List.replicate vars.length none):=
 F.def rfl (by simp) λargs ha=>by
  obtain⟨a1,a2,a3,a4,rfl,rfl,rfl,rfl,rfl⟩:=args_4 ha
  exact⟨[(n1,a1),(n2,a2),(n3,a3),(n4,a4)],λs _=>b _ _ _ _ _,rfl⟩
theorem Fv {args:List Value}{x1 x2 x3 x4 x5:V}(h:args.map er=[x1,x2,x3,x4,x5]):∃a1 a2 a3 a4 a5,args=[a1,a2,a3,a4,a5]∧er a1=x1∧er a2=x2∧er a3=x3∧er a4=x4∧er a5=x5:=by
 rcases args with _|⟨a,r⟩<;>first|cases(h)|skip
 rw[bx,jD]at h
 obtain⟨b1,b2,b3,b4,rfl,e1,e2,e3,e4⟩:=args_4 h.2
 exact⟨a,b1,b2,b3,b4,rfl,h.1,e1,e2,e3,e4⟩
theorem aO.d5 (F:aO w f c st q dV pm ((n1,k1)::(n2,k2)::(n3,k3)::(n4,k4)::(n5,k5)::vars) gls)(b:∀a1 a2 a3 a4 a5:Value,∀s:Shared,BindsTo s (fdOf st q dV pm (.ref c)) ⟨[a1,a2,a3,a4,a5],[]⟩ [(n1,a1),(n2,a2),(n3,a3),(n4,a4),(n5,a5)]):Def w f c st q dV pm [x1,x2,x3,x4,x5] [(n1,x1),(n2,x2),(n3,x3),(n4,x4),(n5,x5)] ((n1,k1)::(n2,k2)::(n3,k3)::(n4,k4)::(n5,k5)::vars) gls (some x1::some x2::some x3::some x4::some x5::List.replicate vars.length none):=
 F.def rfl (by simp) λargs ha=>by
  obtain⟨a1,a2,a3,a4,a5,rfl,rfl,rfl,rfl,rfl,rfl⟩:=Fv ha
  exact⟨[(n1,a1),(n2,a2),(n3,a3),(n4,a4),(n5,a5)],λs _=>b _ _ _ _ _ _,rfl⟩
theorem Sd {args:List Value}{x1 x2 x3 x4 x5 x6:V}(h:args.map er=[x1,x2,x3,x4,x5,x6]):∃a1 a2 a3 a4 a5 a6,args=[a1,a2,a3,a4,a5,a6]∧er a1=x1∧er a2=x2∧er a3=x3∧er a4=x4∧er a5=x5∧er a6=x6:=by
 rcases args with _|⟨a,r⟩<;>first|cases(h)|skip
 rw[bx,jD]at h
 obtain⟨b1,b2,b3,b4,b5,rfl,e1,e2,e3,e4,e5⟩:=Fv h.2
 exact⟨a,b1,b2,b3,b4,b5,rfl,h.1,e1,e2,e3,e4,e5⟩
theorem aO.d6 (F:aO w f c st q dV pm ((n1,k1)::(n2,k2)::(n3,k3)::(n4,k4)::(n5,k5)::(n6,k6)::vars) gls)(b:∀a1 a2 a3 a4 a5 a6:Value,∀s:Shared,BindsTo s (fdOf st q dV pm (.ref c)) ⟨[a1,a2,a3,a4,a5,a6],[]⟩ [(n1,a1),(n2,a2),(n3,a3),(n4,a4),(n5,a5),(n6,a6)]):Def w f c st q dV pm [x1,x2,x3,x4,x5,x6] [(n1,x1),(n2,x2),(n3,x3),(n4,x4),(n5,x5),(n6,x6)] ((n1,k1)::(n2,k2)::(n3,k3)::(n4,k4)::(n5,k5)::(n6,k6)::vars) gls (some x1::some x2::some x3::some x4::some x5::some x6::List.replicate vars.length none):=
 F.def rfl (by simp) λargs ha=>by
  obtain⟨a1,a2,a3,a4,a5,a6,rfl,rfl,rfl,rfl,rfl,rfl,rfl⟩:=Sd ha
  exact⟨[(n1,a1),(n2,a2),(n3,a3),(n4,a4),(n5,a5),(n6,a6)],λs _=>b _ _ _ _ _ _ _,rfl⟩
end
noncomputable def te (e:DictEntry):Option Str:=match e.key with
 |.str s _=>some s
 |_=>none
noncomputable def lZ:List DictEntry→Str→Option V
 | [],_=>none
 |e::r,x=>match te e with
  |none=>lZ r x
  |some s=>match Nat.beq (hs s) (hs x)with
   |false=>lZ r x
   |true=>match rd (cpsOf s) (cpsOf x)with
    |true=>some (er e.val)
    |false=>lZ r x
theorem z_ (x:Str):∀(es:List DictEntry),(es.find? λe=>e.key.isStr x).map (λe=>er e.val)=lZ es x
 | []=>rfl
 |e::r=>by
  rw[List.find?_cons]
  unfold lZ
  cases hk:e.key with
  |str s t=>
   rw[q9]
   have:te e=some s:=by unfold te;rw[hk]
   simp only[this]
   by_cases h:s=x
   subst h
   rw[i6 rfl,Nat.beq_refl,z5.mpr rfl];rfl
   rw[i5 h]
   have:rd (cpsOf s) (cpsOf x)=false:=by
    cases q:rd (cpsOf s) (cpsOf x)with
    |false=>rfl
    |true=>exact absurd (R5 (z5.mp q)) h
   rw[this]
   cases Nat.beq (hs s) (hs x)<;>exact z_ x r
  |_=>
   have:te e=none:=by unfold te;rw[hk]
   simp only[this]
   exact z_ x r
noncomputable def rh (o:Obj):List DictEntry:=match o.data with
 |.dict es _=>es.toList
 |_=>[]
theorem Fw {h:Heap}{a:Addr}{o:Obj}(ho:h.get? a=some o)(hd:(match o.data with|.dict _ _=>true|_=>false)=true)(x:Str):(h.nsMap a x).map er=lZ (rh o) x:=by
 rw[←z_]
 unfold Heap.nsMap rh
 rw[ho]
 cases hx:o.data with
 |dict es n=>
  dsimp only
  unfold nsFind findBy
  simp[hx,Option.map_map,Function.comp_def]
 |_=>rw[hx]at hd;cases hd
theorem Se (w:World)(x:Str):(i9 w x).map er=(match lZ (rh (oq w.params)) x with|some v=>some v|none=>lZ (rh (boot_o_0 w.params)) x):=by
 rw[←Fw (h:=hF w.params) (a:=mainGlobals) (o:=oq w.params) (by rfl') (by rfl') x,←Fw (h:=hF w.params) (a:=builtinsNs) (o:=boot_o_0 w.params) (by rfl') (by rfl') x]
 unfold i9
 cases(hF w.params).nsMap mainGlobals x<;>rfl
noncomputable def GT:LV:=([("MOST_LENGTH",.int 1000000),("Refusal",.ref 51),("str",.cK (.type "str")),("Vector",.ref 401),("list",.cK (.type "list")),("character",.ref 568),("named",.ref 575),("share",.ref 644),("isinstance",.cK (.builtin "isinstance")),("len",.cK (.builtin "len")),("number_text",.ref 292),("get_attr",.ref 651),("class_attr",.ref 708),("is_atomic",.ref 623),("label_text",.ref 672),("level_at",.ref 679),("sorted",.cK (.builtin "sorted")),("dim_of",.ref 696),("dimnames_of",.ref 701),("max",.cK (.builtin "max")),("kind_order",.ref 715),("as_vector_kind",.ref 811),("with_names",.ref 818),("names_of",.ref 689),("item_as",.ref 785),("condition",.ref 837),("range",.cK (.type "range")),("doubled_text",.ref 919),("Matching",.ref 908),("unused_text",.ref 938)]:LV)++([("match_names",.ref 944),("plain_text",.ref 933),("compare",.ref 209),("is_lacking",.ref 971),("compare_items",.ref 978),("compare_places",.ref 992),("compare_keys",.ref 999),("merge_runs",.ref 1006),("length",.ref 609),("check_sortable",.ref 985),("each_key",.ref 1016),("merge_sort",.ref 1011),("kept_places",.ref 1023),("to_whole",.ref 188),("logical_places",.ref 1045),("whole_places_index",.ref 1050),("whole_subscripts",.ref 1038),("extending_places",.ref 1071),("name_places",.ref 1064),("is_matrix_index",.ref 1099),("named_subscripts",.ref 1113),("row_place",.ref 1106),("lacking_item",.ref 1126),("positions",.ref 1078),("result_kind",.ref 1147),("items_at",.ref 1154),("names_at",.ref 1161),("Null",.ref 351),("is_vector",.ref 616),("refuse_subset",.ref 1140)]:LV)++([("subset_call",.ref 1239),("matrix_index",.ref 1119),("subset_row",.ref 1234),("subset_vector",.ref 1168),("subset_array",.ref 1227),("is_factor_factors",.ref 1267),("label_texts",.ref 684),("level_texts",.ref 1279),("factor_class",.ref 1291),("drop_levels",.ref 1351),("distinct_texts",.ref 1305),("order_by",.ref 1031),("item_texts",.ref 1322),("sorted_levels",.ref 1310),("check_distinct",.ref 1334),("label_list",.ref 1327),("codes_of",.ref 1315),("integer",.ref 561),("with_levels",.ref 1298),("make_factor",.ref 1339),("sum",.cK (.builtin "sum")),("room",.ref 540),("MOST_SIGNS_factors",.int 20000000),("codes_in",.ref 1284),("as_factor",.ref 1346),("interaction",.ref 1356),("subset_factor",.ref 1377),("subset_any",.ref 1260),("list_of",.ref 581),("frame_rows",.ref 1448)]:LV)++([("has_class",.ref 964),("flag",.ref 595),("joined_factors",.ref 1363),("split_places",.ref 1382),("take",.ref 957),("needed",.ref 951),("group_factor",.ref 1610),("one_text",.ref 844),("truth_of",.ref 851),("recycled_places",.ref 1615),("frame_count",.ref 1622),("missing",.ref 554),("split_by",.ref 1387),("part",.ref 1539),("is_ordered",.ref 1274),("is_frame",.ref 1408),("unsplit_frame",.ref 1639),("unsplit_factor",.ref 1646),("assign_places",.ref 1602),("common_kind",.ref 722),("as_kind",.ref 823),("group_values",.ref 1658),("are_single",.ref 1665),("simple_vector",.ref 1670),("Environment",.ref 487),("quoted_call",.ref 2003),("Call",.ref 444),("Symbol",.ref 422),("abs",.cK (.builtin "abs")),("int",.cK (.type "int"))]:LV)++([("_law_said",.ref 2017),("b_split",.ref 1627),("b_unsplit",.ref 1653),("_law_factor",.ref 2034),("Builtin",.ref 465),("b_tapply",.ref 1675),("_law_shells",.ref 2010),("Evaluator",.ref 1985),("_law_split_right",.ref 2022),("_law_combined_right",.ref 2027),("_law_undone_right",.ref 2039),("_law_default_right",.ref 2046)]:LV)
theorem Sg (w:World):GT.map (λp=>(i9 w p.1).map er)=GT.map λp=>some p.2:=by
 have h:(GT.map λp=>(match lZ (rh (oq w.params)) p.1 with|some v=>some v|none=>lZ (rh (boot_o_0 w.params)) p.1))=GT.map λp=>some p.2:=by rfl'
 rewrite [←h]
 exact sm λp _=>Se w p.1
theorem vP (w:World){gls:LV}(is:List Nat)(h:gls.map some=is.map λi=>GT[i]?):gls.map (λp=>(i9 w p.1).map er)=gls.map λp=>some p.2:=by
 refine sm λp hp=>?_
 have:some p∈is.map λi=>GT[i]? :=h▸cB hp
 obtain⟨i,_,hi⟩:=cF.mp this
 exact List.map_inj_left.mp (Sg w) p (cS hi)
noncomputable def Fx (w:World)(f c:Addr)(st:Stmt)(q:Str)(gls:LV):Bool:=
 vA (lk (Fin w) c)==some q&&rf (bz st).names&&gls.map (·.1)==((bz st).names.filter rg).map (·.1)&&((bz st).kind==.function&& !(bz st).isCoroutine&& !(bz st).isGenerator)&&(!(f==2041)&& !(c==2041))
noncomputable def ba:List Nat→LV
 | []=>[]
 |i::l=>GT.getD i ("",.none)::ba l
theorem Fy:∀{is:List Nat},is.all (λi=>decide (i<GT.length))=true→(ba is).map some=is.map λi=>GT[i]?
 | [],_=>rfl
 |i::l,h=>by
  rw[List.all_cons,fN]at h
  show some (GT.getD i _)::(ba l).map some=GT[i]? ::l.map _
  rw[Fy h.2,List.getD_eq_getElem?_getD,bL (mD h.1)]
  rfl
theorem aO.of {w:World}{f c:Addr}{st:Stmt}{q:Str}{dV pm:Value}{vars:KV}{is:List Nat}(h:lk (Fin w) f=some (fo st q dV pm (.ref c)):=by rfl')(hv:(bz st).names.filterMap pR=vars:=by rfl')
  (hc:(Fx w f c st q (ba is)&&is.all λi=>decide (i<GT.length))=true:=by rfl'):aO w f c st q dV pm vars (ba is):=by
 rw[fN]at hc
 obtain⟨hc,hg⟩:=hc
 unfold Fx at hc
 simp only[fN]at hc
 obtain⟨⟨⟨⟨c1,c2⟩,c3⟩,c4⟩,c5⟩:=hc
 exact⟨h,eq_of_beq c1,c2,hv,eq_of_beq c3,by simpa using c4,by simpa using c5,vP w is (Fy hg)⟩
section
variable{w:World}{d:Nat}{σ:Hp}{Q:PQ}{x1 x2 x3 x4 x5 x6:V}{f c:Addr}{st:Stmt}{q:Str}{dV pm:Value}{vars:KV}{gls:LV}{n1 n2 n3 n4 n5 n6:Str}{k1 k2 k3 k4 k5 k6:VK}
noncomputable def Sh (fd:FuncData):Value→Sem (List (Str×Value)):=λa1=>bindArgs fd ⟨[a1],[]⟩
noncomputable def Si (n1:Str):Value→Sem (List (Str×Value)):=λa1=>pure [(n1,a1)]
theorem aO.e1 (F:aO w f c st q dV pm ((n1,k1)::vars) gls)(h:En w d st ((n1,k1)::vars) gls (some x1::List.replicate vars.length none) σ Q)(b:Sh (fdOf st q dV pm (.ref c))=Si n1:=by rfl'):Call w (d+1) (.ref f) [x1] σ Q:=
 (F.d1 λa1 _=>.of_eq (dD b a1)).enter h
noncomputable def Sj (fd:FuncData):Value→Value→Sem (List (Str×Value)):=λa1 a2=>bindArgs fd ⟨[a1,a2],[]⟩
noncomputable def Sl (n1 n2:Str):Value→Value→Sem (List (Str×Value)):=λa1 a2=>pure [(n1,a1),(n2,a2)]
theorem aO.e2 (F:aO w f c st q dV pm ((n1,k1)::(n2,k2)::vars) gls)(h:En w d st ((n1,k1)::(n2,k2)::vars) gls (some x1::some x2::List.replicate vars.length none) σ Q)(b:Sj (fdOf st q dV pm (.ref c))=Sl n1 n2:=by rfl'):Call w (d+1) (.ref f) [x1,x2] σ Q:=
 (F.d2 λa1 a2 _=>.of_eq (dD (dD b a1) a2)).enter h
noncomputable def Sm (fd:FuncData):Value→Value→Value→Sem (List (Str×Value)):=λa1 a2 a3=>bindArgs fd ⟨[a1,a2,a3],[]⟩
noncomputable def Sn (n1 n2 n3:Str):Value→Value→Value→Sem (List (Str×Value)):=λa1 a2 a3=>pure [(n1,a1),(n2,a2),(n3,a3)]
theorem aO.e3 (F:aO w f c st q dV pm ((n1,k1)::(n2,k2)::(n3,k3)::vars) gls)(h:En w d st ((n1,k1)::(n2,k2)::(n3,k3)::vars) gls (some x1::some x2::some x3::List.replicate vars.length none) σ Q)(b:Sm (fdOf st q dV pm (.ref c))=Sn n1 n2 n3:=by rfl'):Call w (d+1) (.ref f) [x1,x2,x3] σ Q:=
 (F.d3 λa1 a2 a3 _=>.of_eq (dD (dD (dD b a1) a2) a3)).enter h
noncomputable def So (fd:FuncData):Value→Value→Value→Value→Sem (List (Str×Value)):=λa1 a2 a3 a4=>bindArgs fd ⟨[a1,a2,a3,a4],[]⟩
noncomputable def Sp (n1 n2 n3 n4:Str):Value→Value→Value→Value→Sem (List (Str×Value)):=λa1 a2 a3 a4=>pure [(n1,a1),(n2,a2),(n3,a3),(n4,a4)]
theorem aO.e4 (F:aO w f c st q dV pm ((n1,k1)::(n2,k2)::(n3,k3)::(n4,k4)::vars) gls)(h:En w d st ((n1,k1)::(n2,k2)::(n3,k3)::(n4,k4)::vars) gls (some x1::some x2::some x3::some x4::List.replicate vars.length none) σ Q)(b:So (fdOf st q dV pm (.ref c))=Sp n1 n2 n3 n4:=by rfl'):Call w (d+1) (.ref f) [x1,x2,x3,x4] σ Q:=
 (F.d4 λa1 a2 a3 a4 _=>.of_eq (dD (dD (dD (dD b a1) a2) a3) a4)).enter h
noncomputable def Sq (fd:FuncData):Value→Value→Value→Value→Value→Sem (List (Str×Value)):=λa1 a2 a3 a4 a5=>bindArgs fd ⟨[a1,a2,a3,a4,a5],[]⟩
noncomputable def Sr (n1 n2 n3 n4 n5:Str):Value→Value→Value→Value→Value→Sem (List (Str×Value)):=λa1 a2 a3 a4 a5=>pure [(n1,a1),(n2,a2),(n3,a3),(n4,a4),(n5,a5)]
theorem aO.e5 (F:aO w f c st q dV pm ((n1,k1)::(n2,k2)::(n3,k3)::(n4,k4)::(n5,k5)::vars) gls)(h:En w d st ((n1,k1)::(n2,k2)::(n3,k3)::(n4,k4)::(n5,k5)::vars) gls (some x1::some x2::some x3::some x4::some x5::List.replicate vars.length none) σ Q)(b:Sq (fdOf st q dV pm (.ref c))=Sr n1 n2 n3 n4 n5:=by rfl'):Call w (d+1) (.ref f) [x1,x2,x3,x4,x5] σ Q:=
 (F.d5 λa1 a2 a3 a4 a5 _=>.of_eq (dD (dD (dD (dD (dD b a1) a2) a3) a4) a5)).enter h
noncomputable def Ss (fd:FuncData):Value→Value→Value→Value→Value→Value→Sem (List (Str×Value)):=λa1 a2 a3 a4 a5 a6=>bindArgs fd ⟨[a1,a2,a3,a4,a5,a6],[]⟩
noncomputable def Su (n1 n2 n3 n4 n5 n6:Str):Value→Value→Value→Value→Value→Value→Sem (List (Str×Value)):=λa1 a2 a3 a4 a5 a6=>pure [(n1,a1),(n2,a2),(n3,a3),(n4,a4),(n5,a5),(n6,a6)]
theorem aO.e6 (F:aO w f c st q dV pm ((n1,k1)::(n2,k2)::(n3,k3)::(n4,k4)::(n5,k5)::(n6,k6)::vars) gls)(h:En w d st ((n1,k1)::(n2,k2)::(n3,k3)::(n4,k4)::(n5,k5)::(n6,k6)::vars) gls (some x1::some x2::some x3::some x4::some x5::some x6::List.replicate vars.length none) σ Q)(b:Ss (fdOf st q dV pm (.ref c))=Su n1 n2 n3 n4 n5 n6:=by rfl'):Call w (d+1) (.ref f) [x1,x2,x3,x4,x5,x6] σ Q:=
 (F.d6 λa1 a2 a3 a4 a5 a6 _=>.of_eq (dD (dD (dD (dD (dD (dD b a1) a2) a3) a4) a5) a6)).enter h
noncomputable def oJ:{K:FuncData→List Value→Option (Array Value)→Sem (List (Str×Value))//∀fd as,bindArgs fd ⟨as,[]⟩=seqItems? fd.defaults>>=K fd as}:=⟨_,λ_ _=>rfl⟩
noncomputable def Sv (fd:FuncData)(is:Array Value):Value→Sem (List (Str×Value)):=λa1=>oJ.1 fd [a1] (some is)
noncomputable def Sw (n1:Str)(ds:List (Str×Value)):Value→Sem (List (Str×Value)):=λa1=>pure ((n1,a1)::ds)
theorem aO.g1 {T:Addr}{cu:LO}(F:aO w f c st q (.ref T) pm vars gls)(n1:Str)(ds:List (Str×Value))(is:Array Value)(h:En w d st vars gls cu σ Q)(hT:lk (Fin w) T=some ⟨.type "tuple",none,.seq is 0,#[]⟩:=by rfl')(hb:Sv (fdOf st q (.ref T) pm (.ref c)) is=Sw n1 ds:=by rfl')(hn:T≠2041:=by decide)(iN:((n1,x1)::ds.map fun p=>(p.1,er p.2)).map (·.1)=(vars.take ((n1,x1)::ds.map fun p=>(p.1,er p.2)).length).map (·.1):=by rfl)(i_:((n1,x1)::ds.map fun p=>(p.1,er p.2)).map (fun p=>some p.2)++List.replicate (vars.length-((n1,x1)::ds.map fun p=>(p.1,er p.2)).length) none=cu:=by rfl):Call w (d+1) (.ref f) [x1] σ Q:=by
 refine(F.def (bs:=(n1,x1)::ds.map λp=>(p.1,er p.2)) iN i_ λargs ha=>?_).enter h
 obtain⟨a1,rfl,rfl⟩:=args_1 ha
 exact⟨(n1,a1)::ds,λs K=>BindsTo.of_defaults rfl (K.at hT hn) rfl (oJ.2 _ _) (dD hb a1),rfl⟩
noncomputable def Sx (fd:FuncData)(is:Array Value):Value→Value→Sem (List (Str×Value)):=λa1 a2=>oJ.1 fd [a1,a2] (some is)
noncomputable def Sy (n1 n2:Str)(ds:List (Str×Value)):Value→Value→Sem (List (Str×Value)):=λa1 a2=>pure ((n1,a1)::(n2,a2)::ds)
theorem aO.g2 {T:Addr}{cu:LO}(F:aO w f c st q (.ref T) pm vars gls)(n1 n2:Str)(ds:List (Str×Value))(is:Array Value)(h:En w d st vars gls cu σ Q)(hT:lk (Fin w) T=some ⟨.type "tuple",none,.seq is 0,#[]⟩:=by rfl')(hb:Sx (fdOf st q (.ref T) pm (.ref c)) is=Sy n1 n2 ds:=by rfl')(hn:T≠2041:=by decide)(iN:((n1,x1)::(n2,x2)::ds.map fun p=>(p.1,er p.2)).map (·.1)=(vars.take ((n1,x1)::(n2,x2)::ds.map fun p=>(p.1,er p.2)).length).map (·.1):=by rfl)(i_:((n1,x1)::(n2,x2)::ds.map fun p=>(p.1,er p.2)).map (fun p=>some p.2)++List.replicate (vars.length-((n1,x1)::(n2,x2)::ds.map fun p=>(p.1,er p.2)).length) none=cu:=by rfl):Call w (d+1) (.ref f) [x1,x2] σ Q:=by
 refine(F.def (bs:=(n1,x1)::(n2,x2)::ds.map λp=>(p.1,er p.2)) iN i_ λargs ha=>?_).enter h
 obtain⟨a1,a2,rfl,rfl,rfl⟩:=args_2 ha
 exact⟨(n1,a1)::(n2,a2)::ds,λs K=>BindsTo.of_defaults rfl (K.at hT hn) rfl (oJ.2 _ _) (dD (dD hb a1) a2),rfl⟩
noncomputable def Sz (fd:FuncData)(is:Array Value):Value→Value→Value→Sem (List (Str×Value)):=λa1 a2 a3=>oJ.1 fd [a1,a2,a3] (some is)
noncomputable def SA (n1 n2 n3:Str)(ds:List (Str×Value)):Value→Value→Value→Sem (List (Str×Value)):=λa1 a2 a3=>pure ((n1,a1)::(n2,a2)::(n3,a3)::ds)
theorem aO.g3 {T:Addr}{cu:LO}(F:aO w f c st q (.ref T) pm vars gls)(n1 n2 n3:Str)(ds:List (Str×Value))(is:Array Value)(h:En w d st vars gls cu σ Q)(hT:lk (Fin w) T=some ⟨.type "tuple",none,.seq is 0,#[]⟩:=by rfl')(hb:Sz (fdOf st q (.ref T) pm (.ref c)) is=SA n1 n2 n3 ds:=by rfl')(hn:T≠2041:=by decide)(iN:((n1,x1)::(n2,x2)::(n3,x3)::ds.map fun p=>(p.1,er p.2)).map (·.1)=(vars.take ((n1,x1)::(n2,x2)::(n3,x3)::ds.map fun p=>(p.1,er p.2)).length).map (·.1):=by rfl)(i_:((n1,x1)::(n2,x2)::(n3,x3)::ds.map fun p=>(p.1,er p.2)).map (fun p=>some p.2)++List.replicate (vars.length-((n1,x1)::(n2,x2)::(n3,x3)::ds.map fun p=>(p.1,er p.2)).length) none=cu:=by rfl):Call w (d+1) (.ref f) [x1,x2,x3] σ Q:=by
 refine(F.def (bs:=(n1,x1)::(n2,x2)::(n3,x3)::ds.map λp=>(p.1,er p.2)) iN i_ λargs ha=>?_).enter h
 obtain⟨a1,a2,a3,rfl,rfl,rfl,rfl⟩:=args_3 ha
 exact⟨(n1,a1)::(n2,a2)::(n3,a3)::ds,λs K=>BindsTo.of_defaults rfl (K.at hT hn) rfl (oJ.2 _ _) (dD (dD (dD hb a1) a2) a3),rfl⟩
noncomputable def SD (fd:FuncData)(is:Array Value):Value→Value→Value→Value→Sem (List (Str×Value)):=λa1 a2 a3 a4=>oJ.1 fd [a1,a2,a3,a4] (some is)
noncomputable def SE (n1 n2 n3 n4:Str)(ds:List (Str×Value)):Value→Value→Value→Value→Sem (List (Str×Value)):=λa1 a2 a3 a4=>pure ((n1,a1)::(n2,a2)::(n3,a3)::(n4,a4)::ds)
theorem aO.g4 {T:Addr}{cu:LO}(F:aO w f c st q (.ref T) pm vars gls)(n1 n2 n3 n4:Str)(ds:List (Str×Value))(is:Array Value)(h:En w d st vars gls cu σ Q)(hT:lk (Fin w) T=some ⟨.type "tuple",none,.seq is 0,#[]⟩:=by rfl')(hb:SD (fdOf st q (.ref T) pm (.ref c)) is=SE n1 n2 n3 n4 ds:=by rfl')(hn:T≠2041:=by decide)(iN:((n1,x1)::(n2,x2)::(n3,x3)::(n4,x4)::ds.map fun p=>(p.1,er p.2)).map (·.1)=(vars.take ((n1,x1)::(n2,x2)::(n3,x3)::(n4,x4)::ds.map fun p=>(p.1,er p.2)).length).map (·.1):=by rfl)(i_:((n1,x1)::(n2,x2)::(n3,x3)::(n4,x4)::ds.map fun p=>(p.1,er p.2)).map (fun p=>some p.2)++List.replicate (vars.length-((n1,x1)::(n2,x2)::(n3,x3)::(n4,x4)::ds.map fun p=>(p.1,er p.2)).length) none=cu:=by rfl):Call w (d+1) (.ref f) [x1,x2,x3,x4] σ Q:=by
 refine(F.def (bs:=(n1,x1)::(n2,x2)::(n3,x3)::(n4,x4)::ds.map λp=>(p.1,er p.2)) iN i_ λargs ha=>?_).enter h
 obtain⟨a1,a2,a3,a4,rfl,rfl,rfl,rfl,rfl⟩:=args_4 ha
 exact⟨(n1,a1)::(n2,a2)::(n3,a3)::(n4,a4)::ds,λs K=>BindsTo.of_defaults rfl (K.at hT hn) rfl (oJ.2 _ _) (dD (dD (dD (dD hb a1) a2) a3) a4),rfl⟩
end
section
variable{w:World}{d:Nat}{σ:Hp}{Q:PQ}{x1 x2 x3 x4 x5 x6 x7:V}
noncomputable abbrev Fz:KV:=[("self",.loc),("message",.loc)]
noncomputable abbrev FA:LV:=ba []
theorem SG (h:En w d (bR 3 0) Fz FA [some x1,some x2] σ Q):Call w (d+1) (.ref 48) [x1,x2] σ Q:=(.of:aO w 48 47 (bR 3 0) "Refusal.__init__" .none mF Fz FA).e2 h
noncomputable abbrev FC:KV:=[("self",.loc),("kind",.loc),("items",.loc),("attrs",.loc)]
noncomputable abbrev FD:LV:=ba []
theorem SH (h:En w d (bR 50 0) FC FD [some x1,some x2,some x3,some (V.none)] σ Q):Call w (d+1) (.ref 391) [x1,x2,x3] σ Q:=(.of:aO w 391 390 (bR 50 0) "Vector.__init__" (.ref 384) cG FC FD).g3 "self" "kind" "items" [("attrs",.none)] #[.none] h
noncomputable abbrev FE:KV:=[("self",.loc),("name",.loc)]
noncomputable abbrev FF:LV:=ba []
theorem SI (h:En w d (bR 51 0) FE FF [some x1,some x2] σ Q):Call w (d+1) (.ref 419) [x1,x2] σ Q:=(.of:aO w 419 418 (bR 51 0) "Symbol.__init__" .none cG FE FF).e2 h
noncomputable abbrev FH:KV:=[("self",.loc),("items",.loc),("tags",.loc),("attrs",.loc)]
noncomputable abbrev FI:LV:=ba []
theorem SJ (h:En w d (bR 52 0) FH FI [some x1,some x2,some x3,some (V.none)] σ Q):Call w (d+1) (.ref 441) [x1,x2,x3] σ Q:=(.of:aO w 441 440 (bR 52 0) "Call.__init__" (.ref 434) cG FH FI).g3 "self" "items" "tags" [("attrs",.none)] #[.none] h
noncomputable abbrev FJ:KV:=[("self",.loc),("name",.loc),("special",.loc),("fn",.loc),("group",.loc)]
noncomputable abbrev FK:LV:=ba []
theorem SK (h:En w d (bR 53 0) FJ FK [some x1,some x2,some x3,some x4,some x5] σ Q):Call w (d+1) (.ref 462) [x1,x2,x3,x4,x5] σ Q:=(.of:aO w 462 461 (bR 53 0) "Builtin.__init__" .none cG FJ FK).e5 h
noncomputable abbrev FN:KV:=[("self",.loc),("number",.loc),("parent",.loc),("attrs",.loc)]
noncomputable abbrev FO:LV:=ba []
theorem SM (h:En w d (bR 54 0) FN FO [some x1,some x2,some x3,some (V.none)] σ Q):Call w (d+1) (.ref 484) [x1,x2,x3] σ Q:=(.of:aO w 484 483 (bR 54 0) "Environment.__init__" (.ref 477) cG FN FO).g3 "self" "number" "parent" [("attrs",.none)] #[.none] h
noncomputable abbrev FP:KV:=[("n",.loc)]
noncomputable abbrev FQ:LV:=ba [0,1,2]
theorem SO (h:En w d (ao 57) FP FQ [some x1] σ Q):Call w (d+1) (.ref 540) [x1] σ Q:=(.of:aO w 540 539 (ao 57) "room" .none cG FP FQ).e1 h
noncomputable abbrev FR:KV:=[("items",.loc)]
noncomputable abbrev FT:LV:=ba [3,4]
theorem SP (h:En w d (ao 60) FR FT [some x1] σ Q):Call w (d+1) (.ref 561) [x1] σ Q:=(.of:aO w 561 560 (ao 60) "integer" .none cG FR FT).e1 h
noncomputable abbrev FU:KV:=[("items",.loc)]
noncomputable abbrev FV:LV:=ba [3,4]
theorem SQ (h:En w d (ao 61) FU FV [some x1] σ Q):Call w (d+1) (.ref 568) [x1] σ Q:=(.of:aO w 568 567 (ao 61) "character" .none cG FU FV).e1 h
noncomputable abbrev FX:KV:=[("v",.loc),("names",.loc)]
noncomputable abbrev FY:LV:=ba [5]
theorem FZ (h:En w d (ao 62) FX FY [some x1,some x2] σ Q):Call w (d+1) (.ref 575) [x1,x2] σ Q:=(.of:aO w 575 574 (ao 62) "named" .none cG FX FY).e2 h
noncomputable abbrev vQ:KV:=[("items",.loc),("names",.loc)]
noncomputable abbrev Aa:LV:=ba [6,3]
theorem F0 (w:World):aO w 581 580 (ao 63) "list_of" (.ref 576) cG vQ Aa:=.of
theorem SR (h:En w d (ao 63) vQ Aa [some x1,some (V.none)] σ Q):Call w (d+1) (.ref 581) [x1] σ Q:=(F0 w).g1 "items" [("names",.none)] #[.none] h
theorem SS (h:En w d (ao 63) vQ Aa [some x1,some x2] σ Q):Call w (d+1) (.ref 581) [x1,x2] σ Q:=(F0 w).g2 "items" "names" [] #[.none] h
noncomputable abbrev F_:KV:=[("n",.loc)]
noncomputable abbrev Ga:LV:=ba [3]
theorem SU (h:En w d (ao 64) F_ Ga [some x1] σ Q):Call w (d+1) (.ref 588) [x1] σ Q:=(.of:aO w 588 587 (ao 64) "whole" .none cG F_ Ga).e1 h
noncomputable abbrev Gb:KV:=[("v",.loc),("kind",.loc)]
noncomputable abbrev Gd:LV:=ba [8,3,9]
theorem SX (h:En w d (ao 67) Gb Gd [some x1,none] σ Q):Call w (d+1) (.ref 609) [x1] σ Q:=(.of:aO w 609 608 (ao 67) "length" .none cG Gb Gd).e1 h
noncomputable abbrev Ge:KV:=[("v",.loc)]
noncomputable abbrev Gf:LV:=ba [8,3]
theorem SY (h:En w d (ao 68) Ge Gf [some x1] σ Q):Call w (d+1) (.ref 616) [x1] σ Q:=(.of:aO w 616 615 (ao 68) "is_vector" .none cG Ge Gf).e1 h
noncomputable abbrev Gg:KV:=[("v",.loc)]
noncomputable abbrev Gh:LV:=ba []
theorem S0 (h:En w d (ao 69) Gg Gh [some x1] σ Q):Call w (d+1) (.ref 623) [x1] σ Q:=(.of:aO w 623 622 (ao 69) "is_atomic" .none cG Gg Gh).e1 h
noncomputable abbrev Gi:KV:=[("v",.loc)]
noncomputable abbrev Gj:LV:=ba [8,3]
theorem S2 (h:En w d (ao 72) Gi Gj [some x1] σ Q):Call w (d+1) (.ref 644) [x1] σ Q:=(.of:aO w 644 643 (ao 72) "share" .none cG Gi Gj).e1 h
noncomputable abbrev Gk:KV:=[("v",.loc),("name",.loc)]
noncomputable abbrev Gl:LV:=ba []
theorem Gm (h:En w d (ao 74) Gk Gl [some x1,some x2] σ Q):Call w (d+1) (.ref 651) [x1,x2] σ Q:=(.of:aO w 651 650 (ao 74) "get_attr" .none gP Gk Gl).e2 h
noncomputable abbrev Gn:KV:=[("kind",.loc),("item",.loc)]
noncomputable abbrev Gp:LV:=ba [2,1,10]
theorem S3 (h:En w d (ao 77) Gn Gp [some x1,some x2] σ Q):Call w (d+1) (.ref 672) [x1,x2] σ Q:=(.of:aO w 672 671 (ao 77) "label_text" .none gP Gn Gp).e2 h
noncomputable abbrev Gq:KV:=[("texts",.loc),("code",.loc)]
noncomputable abbrev Gr:LV:=ba [9]
theorem S4 (h:En w d (ao 78) Gq Gr [some x1,some x2] σ Q):Call w (d+1) (.ref 679) [x1,x2] σ Q:=(.of:aO w 679 678 (ao 78) "level_at" .none gP Gq Gr).e2 h
noncomputable abbrev th:KV:=[("value",.cell),("levels",.cell),("texts",.cell)]
noncomputable abbrev Gs:LV:=ba [11,12,13]
theorem Gu (h:En w d (ao 79) th Gs [some x1,none,none] σ Q):Call w (d+1) (.ref 684) [x1] σ Q:=(.of:aO w 684 683 (ao 79) "label_texts" .none gP th Gs).e1 h
noncomputable abbrev Gv:KV:=[("v",.loc),("tag",.loc),("dims",.loc),("rows",.loc),("names",.loc)]
noncomputable abbrev Gw:LV:=ba [16,17,9,18,11,4]
theorem S5 (h:En w d (ao 80) Gv Gw [some x1,none,none,none,none] σ Q):Call w (d+1) (.ref 689) [x1] σ Q:=(.of:aO w 689 688 (ao 80) "names_of" .none gP Gv Gw).e1 h
noncomputable abbrev Gx:KV:=[("v",.loc),("dims",.loc)]
noncomputable abbrev Gy:LV:=ba [11,4]
theorem S6 (h:En w d (ao 81) Gx Gy [some x1,none] σ Q):Call w (d+1) (.ref 696) [x1] σ Q:=(.of:aO w 696 695 (ao 81) "dim_of" .none gP Gx Gy).e1 h
noncomputable abbrev Gz:KV:=[("v",.loc),("found",.loc)]
noncomputable abbrev GA:LV:=ba [11]
theorem S7 (h:En w d (ao 82) Gz GA [some x1,none] σ Q):Call w (d+1) (.ref 701) [x1] σ Q:=(.of:aO w 701 700 (ao 82) "dimnames_of" .none gP Gz GA).e1 h
noncomputable abbrev GB:KV:=[("v",.loc),("found",.loc)]
noncomputable abbrev GC:LV:=ba [11,4]
theorem GD (h:En w d (ao 83) GB GC [some x1,none] σ Q):Call w (d+1) (.ref 708) [x1] σ Q:=(.of:aO w 708 707 (ao 83) "class_attr" .none gP GB GC).e1 h
noncomputable abbrev GF:KV:=[("kind",.loc),("kinds",.loc)]
noncomputable abbrev GI:LV:=ba []
theorem S8 (h:En w d (ao 86) GF GI [some x1,none] σ Q):Call w (d+1) (.ref 715) [x1] σ Q:=(.of:aO w 715 714 (ao 86) "kind_order" .none mG GF GI).e1 h
noncomputable abbrev GJ:KV:=[("kinds",.loc),("names",.loc),("most",.loc),("kind",.loc)]
noncomputable abbrev GK:LV:=ba [19,20]
theorem S9 (h:En w d (ao 87) GJ GK [some x1,none,none,none] σ Q):Call w (d+1) (.ref 722) [x1] σ Q:=(.of:aO w 722 721 (ao 87) "common_kind" .none mG GJ GK).e1 h
noncomputable abbrev GL:KV:=[("v",.loc),("names",.loc)]
noncomputable abbrev GN:LV:=ba [7,5]
theorem S_ (h:En w d (ao 101) GL GN [some x1,some x2] σ Q):Call w (d+1) (.ref 818) [x1,x2] σ Q:=(.of:aO w 818 817 (ao 101) "with_names" .none mG GL GN).e2 h
noncomputable abbrev GO:KV:=[("v",.cell),("kind",.cell),("notes",.cell),("items",.loc)]
noncomputable abbrev GP:LV:=ba [8,3,21,22,4,23]
theorem Ta (h:En w d (ao 102) GO GP [some x1,some x2,some x3,none] σ Q):Call w (d+1) (.ref 823) [x1,x2,x3] σ Q:=(.of:aO w 823 822 (ao 102) "as_kind" .none mG GO GP).e3 h
noncomputable abbrev GQ:KV:=[("v",.loc),("what",.loc)]
noncomputable abbrev GR:LV:=ba [9,1]
theorem Tb (h:En w d (ao 106) GQ GR [some x1,some x2] σ Q):Call w (d+1) (.ref 844) [x1,x2] σ Q:=(.of:aO w 844 843 (ao 106) "one_text" .none sy GQ GR).e2 h
noncomputable abbrev GU:KV:=[("value",.loc),("default",.loc)]
noncomputable abbrev GX:LV:=ba [25]
theorem Tc (h:En w d (ao 107) GU GX [some x1,some x2] σ Q):Call w (d+1) (.ref 851) [x1,x2] σ Q:=(.of:aO w 851 850 (ao 107) "truth_of" .none sy GU GX).e2 h
noncomputable abbrev GY:KV:=[("self",.loc),("formals",.loc),("tags",.loc)]
noncomputable abbrev GZ:LV:=ba [9]
theorem Td (h:En w d (bR 109 0) GY GZ [some x1,some x2,some x3] σ Q):Call w (d+1) (.ref 865) [x1,x2,x3] σ Q:=(.of:aO w 865 864 (bR 109 0) "Matching.__init__" .none eQ GY GZ).e3 h
noncomputable abbrev G0:KV:=[("self",.loc),("name",.loc),("place",.loc)]
noncomputable abbrev G8:LV:=ba [26,9,1,27]
theorem Te (h:En w d (bR 109 1) G0 G8 [some x1,none,none] σ Q):Call w (d+1) (.ref 872) [x1] σ Q:=(.of:aO w 872 871 (bR 109 1) "Matching.exact" .none eQ G0 G8).e1 h
noncomputable abbrev G9:KV:=[("self",.loc),("name",.loc)]
noncomputable abbrev G_:LV:=ba []
theorem Tf (h:En w d (bR 109 2) G9 G_ [some x1,none] σ Q):Call w (d+1) (.ref 879) [x1] σ Q:=(.of:aO w 879 878 (bR 109 2) "Matching.partial" .none eQ G9 G_).e1 h
noncomputable abbrev Ha:KV:=[("self",.loc),("name",.loc),("place",.loc),("tag",.loc)]
noncomputable abbrev Hb:LV:=ba [26,9,1,27]
theorem Th (h:En w d (bR 109 3) Ha Hb [some x1,some x2,none,none] σ Q):Call w (d+1) (.ref 886) [x1,x2] σ Q:=(.of:aO w 886 885 (bR 109 3) "Matching.partial_of" .none eQ Ha Hb).e2 h
noncomputable abbrev Hc:KV:=[("self",.loc),("place",.loc),("name",.loc)]
noncomputable abbrev Hd:LV:=ba [9]
theorem Ti (h:En w d (bR 109 4) Hc Hd [some x1,none,none] σ Q):Call w (d+1) (.ref 893) [x1] σ Q:=(.of:aO w 893 892 (bR 109 4) "Matching.positional" .none eQ Hc Hd).e1 h
noncomputable abbrev He:KV:=[("self",.loc),("place",.loc)]
noncomputable abbrev Hf:LV:=ba []
theorem Tj (h:En w d (bR 109 5) He Hf [some x1,some x2] σ Q):Call w (d+1) (.ref 900) [x1,x2] σ Q:=(.of:aO w 900 899 (bR 109 5) "Matching.is_free" .none eQ He Hf).e2 h
noncomputable abbrev Ab:KV:=[("self",.cell)]
noncomputable abbrev Hg:LV:=ba [26,9]
theorem Tn (h:En w d (bR 109 6) Ab Hg [some x1] σ Q):Call w (d+1) (.ref 905) [x1] σ Q:=(.of:aO w 905 904 (bR 109 6) "Matching.rest" .none eQ Ab Hg).e1 h
noncomputable abbrev Ac:KV:=[("formals",.loc),("args",.loc),("show",.loc),("matching",.loc),("rest",.loc)]
noncomputable abbrev Hh:LV:=ba [28,9,1,29]
theorem To (h:En w d (ao 114) Ac Hh [some x1,some x2,some x3,none,none] σ Q):Call w (d+1) (.ref 944) [x1,x2,x3] σ Q:=(.of:aO w 944 943 (ao 114) "match_names" (.ref 939) eQ Ac Hh).g3 "formals" "args" "show" [] #[.none] h
noncomputable abbrev Hi:KV:=[("value",.loc),("name",.loc)]
noncomputable abbrev Hj:LV:=ba [1]
theorem Tp (h:En w d (ao 115) Hi Hj [some x1,some x2] σ Q):Call w (d+1) (.ref 951) [x1,x2] σ Q:=(.of:aO w 951 950 (ao 115) "needed" .none eQ Hi Hj).e2 h
noncomputable abbrev Ad:KV:=[("args",.cell),("formals",.loc),("show",.loc),("places",.loc),("rest",.loc),("values",.loc),("name",.loc)]
noncomputable abbrev Hk:LV:=ba [30,4,31]
theorem Tq (h:En w d (ao 116) Ad Hk [some x1,some x2,some (V.none),none,none,none,none] σ Q):Call w (d+1) (.ref 957) [x1,x2] σ Q:=(.of:aO w 957 956 (ao 116) "take" (.ref 952) eQ Ad Hk).g2 "args" "formals" [("show",.none)] #[.none] h
noncomputable abbrev Hl:KV:=[("v",.loc)]
noncomputable abbrev Hm:LV:=ba []
theorem Tr (h:En w d (ao 118) Hl Hm [some x1] σ Q):Call w (d+1) (.ref 964) [x1] σ Q:=(.of:aO w 964 963 (ao 118) "has_class" .none Dm Hl Hm).e1 h
noncomputable abbrev Hn:KV:=[("kind",.loc),("item",.loc)]
noncomputable abbrev Ho:LV:=ba []
theorem Ts (h:En w d (ao 120) Hn Ho [some x1,some x2] σ Q):Call w (d+1) (.ref 971) [x1,x2] σ Q:=(.of:aO w 971 970 (ao 120) "is_lacking" .none fA Hn Ho).e2 h
noncomputable abbrev Hq:KV:=[("kind",.loc),("a",.loc),("b",.loc)]
noncomputable abbrev Hr:LV:=ba [32]
theorem Tt (h:En w d (ao 121) Hq Hr [some x1,some x2,some x3] σ Q):Call w (d+1) (.ref 978) [x1,x2,x3] σ Q:=(.of:aO w 978 977 (ao 121) "compare_items" .none fA Hq Hr).e3 h
noncomputable abbrev Hs:KV:=[("v",.loc)]
noncomputable abbrev Ht:LV:=ba [1]
theorem Tu (h:En w d (ao 122) Hs Ht [some x1] σ Q):Call w (d+1) (.ref 985) [x1] σ Q:=(.of:aO w 985 984 (ao 122) "check_sortable" .none fA Hs Ht).e1 h
noncomputable abbrev Hu:KV:=[("v",.loc),("i",.loc),("j",.loc),("decreasing",.loc),("na_last",.loc),("left",.loc),("right",.loc),("left_lacking",.loc),("right_lacking",.loc),("result",.loc)]
noncomputable abbrev Hv:LV:=ba [33,34]
theorem Tv (h:En w d (ao 123) Hu Hv [some x1,some x2,some x3,some x4,some x5,none,none,none,none,none] σ Q):Call w (d+1) (.ref 992) [x1,x2,x3,x4,x5] σ Q:=(.of:aO w 992 991 (ao 123) "compare_places" .none fA Hu Hv).e5 h
noncomputable abbrev Hw:KV:=[("vs",.loc),("i",.loc),("j",.loc),("decreasing",.loc),("na_last",.loc),("number",.loc),("result",.loc)]
noncomputable abbrev Hx:LV:=ba [26,9,35]
theorem Tw (h:En w d (ao 124) Hw Hx [some x1,some x2,some x3,some x4,some x5,none,none] σ Q):Call w (d+1) (.ref 999) [x1,x2,x3,x4,x5] σ Q:=(.of:aO w 999 998 (ao 124) "compare_keys" .none fA Hw Hx).e5 h
noncomputable abbrev Hy:KV:=[("left",.loc),("right",.loc),("vs",.loc),("decreasing",.loc),("na_last",.loc),("merged",.loc),("i",.loc),("j",.loc)]
noncomputable abbrev Hz:LV:=ba [9,36]
theorem Tx (h:En w d (ao 125) Hy Hz [some x1,some x2,some x3,some x4,some x5,none,none,none] σ Q):Call w (d+1) (.ref 1006) [x1,x2,x3,x4,x5] σ Q:=(.of:aO w 1006 1005 (ao 125) "merge_runs" .none fA Hy Hz).e5 h
noncomputable abbrev Ae:KV:=[("places",.loc),("vs",.loc),("decreasing",.loc),("na_last",.loc),("runs",.loc),("longer",.loc),("at",.loc)]
noncomputable abbrev HA:LV:=ba [9,26,37]
theorem Tz (h:En w d (ao 126) Ae HA [some x1,some x2,some x3,some x4,none,none,none] σ Q):Call w (d+1) (.ref 1011) [x1,x2,x3,x4] σ Q:=(.of:aO w 1011 1010 (ao 126) "merge_sort" .none fA Ae HA).e4 h
noncomputable abbrev HB:KV:=[("decreasing",.cell),("count",.loc)]
noncomputable abbrev HC:LV:=ba [8,4,26]
theorem TA (h:En w d (ao 127) HB HC [some x1,some x2] σ Q):Call w (d+1) (.ref 1016) [x1,x2] σ Q:=(.of:aO w 1016 1015 (ao 127) "each_key" .none fA HB HC).e2 h
noncomputable abbrev HD:KV:=[("vs",.loc),("na_last",.loc),("places",.loc),("place",.loc),("keep",.loc),("v",.loc)]
noncomputable abbrev HE:LV:=ba [26,38,33]
theorem TB (h:En w d (ao 128) HD HE [some x1,some x2,none,none,none,none] σ Q):Call w (d+1) (.ref 1023) [x1,x2] σ Q:=(.of:aO w 1023 1022 (ao 128) "kept_places" .none fA HD HE).e2 h
noncomputable abbrev HF:KV:=[("vs",.loc),("decreasing",.loc),("na_last",.loc),("v",.loc),("flags",.loc)]
noncomputable abbrev HH:LV:=ba [9,39,38,1,40,41,42]
theorem TC (h:En w d (ao 129) HF HH [some x1,some x2,some x3,none,none] σ Q):Call w (d+1) (.ref 1031) [x1,x2,x3] σ Q:=(.of:aO w 1031 1030 (ao 129) "order_by" (.ref 1024) fA HF HH).g3 "vs" "decreasing" "na_last" [] #[.bool false,.bool true] h
noncomputable abbrev HI:KV:=[("ix",.loc),("found",.loc),("item",.loc)]
noncomputable abbrev HJ:LV:=ba [43]
theorem TF (h:En w d (ao 131) HI HJ [some x1,none,none] σ Q):Call w (d+1) (.ref 1038) [x1] σ Q:=(.of:aO w 1038 1037 (ao 131) "whole_subscripts" .none kO HI HJ).e1 h
noncomputable abbrev HK:KV:=[("items",.loc),("n",.loc),("places",.loc),("left_out",.cell),("lacks",.loc),("item",.loc)]
noncomputable abbrev HL:LV:=ba [9,1,26]
theorem TG (h:En w d (ao 133) HK HL [some x1,some x2,none,none,none,none] σ Q):Call w (d+1) (.ref 1050) [x1,x2] σ Q:=(.of:aO w 1050 1049 (ao 133) "whole_places" .none kO HK HL).e2 h
noncomputable abbrev HM:KV:=[("ix",.loc),("n",.loc),("names",.loc),("extend",.loc),("kind",.loc)]
noncomputable abbrev HN:LV:=ba [4,26,44,45,46,47,48,1]
theorem TH (h:En w d (ao 138) HM HN [some x1,some x2,some x3,some x4,none] σ Q):Call w (d+1) (.ref 1078) [x1,x2,x3,x4] σ Q:=(.of:aO w 1078 1077 (ao 138) "positions" .none kO HM HN).e4 h
noncomputable abbrev HO:KV:=[("ix",.loc),("dims",.loc),("shape",.loc)]
noncomputable abbrev HP:LV:=ba [17,9]
theorem TJ (h:En w d (ao 141) HO HP [some x1,some x2,none] σ Q):Call w (d+1) (.ref 1099) [x1,x2] σ Q:=(.of:aO w 1099 1098 (ao 141) "is_matrix_index" .none kO HO HP).e2 h
noncomputable abbrev HQ:KV:=[("ix",.loc),("dims",.loc),("dimnames",.loc),("items",.cell),("rows",.cell),("places",.loc),("i",.cell),("row",.loc),("place",.loc)]
noncomputable abbrev HS:LV:=ba [49,50,46,17,26,9,51]
theorem TL (h:En w d (ao 144) HQ HS [some x1,some x2,some x3,none,none,none,none,none,none] σ Q):Call w (d+1) (.ref 1119) [x1,x2,x3] σ Q:=(.of:aO w 1119 1118 (ao 144) "matrix_index" (.ref 1114) kO HQ HS).g3 "ix" "dims" "dimnames" [] #[.none] h
noncomputable abbrev HT:KV:=[("kind",.loc)]
noncomputable abbrev HU:LV:=ba []
theorem TM (h:En w d (ao 149) HT HU [some x1] σ Q):Call w (d+1) (.ref 1147) [x1] σ Q:=(.of:aO w 1147 1146 (ao 149) "result_kind" .none lN HT HU).e1 h
noncomputable abbrev HV:KV:=[("v",.loc),("places",.loc),("found",.loc),("n",.loc),("place",.loc)]
noncomputable abbrev HW:LV:=ba [9,52]
theorem TN (h:En w d (ao 150) HV HW [some x1,some x2,none,none,none] σ Q):Call w (d+1) (.ref 1154) [x1,x2] σ Q:=(.of:aO w 1154 1153 (ao 150) "items_at" .none lN HV HW).e2 h
noncomputable abbrev HX:KV:=[("v",.loc),("ix",.loc),("names",.loc),("places",.loc),("result",.loc)]
noncomputable abbrev HY:LV:=ba [23,53,9,3,54,55,6,56]
theorem TO (h:En w d (ao 152) HX HY [some x1,some x2,none,none,none] σ Q):Call w (d+1) (.ref 1168) [x1,x2] σ Q:=(.of:aO w 1168 1167 (ao 152) "subset_vector" .none lN HX HY).e2 h
noncomputable abbrev HZ:KV:=[("v",.loc),("indexes",.loc),("drop",.loc),("exact",.loc),("dims",.loc),("places",.loc)]
noncomputable abbrev H0:LV:=ba [57,9,58,59,60,17,61,18,3,54,55,62,63,1,64]
theorem TP (h:En w d (ao 166) HZ H0 [some x1,some x2,some x3,some x4,none,none] σ Q):Call w (d+1) (.ref 1260) [x1,x2,x3,x4] σ Q:=(.of:aO w 1260 1259 (ao 166) "subset_any" .none lN HZ H0).e4 h
noncomputable abbrev H4:KV:=[("v",.loc)]
noncomputable abbrev H5:LV:=ba [12]
theorem Af (h:En w d (ao 169) H4 H5 [some x1] σ Q):Call w (d+1) (.ref 1267) [x1] σ Q:=(.of:aO w 1267 1266 (ao 169) "is_factor" .none de H4 H5).e1 h
noncomputable abbrev H6:KV:=[("v",.loc)]
noncomputable abbrev H7:LV:=ba [65,12]
theorem TQ (h:En w d (ao 171) H6 H7 [some x1] σ Q):Call w (d+1) (.ref 1274) [x1] σ Q:=(.of:aO w 1274 1273 (ao 171) "is_ordered" .none de H6 H7).e1 h
noncomputable abbrev Ah:KV:=[("f",.loc),("found",.loc)]
noncomputable abbrev H8:LV:=ba [11,13,66]
theorem TR (h:En w d (ao 172) Ah H8 [some x1,none] σ Q):Call w (d+1) (.ref 1279) [x1] σ Q:=(.of:aO w 1279 1278 (ao 172) "level_texts" .none de Ah H8).e1 h
noncomputable abbrev Ai:KV:=[("f",.loc),("count",.cell)]
noncomputable abbrev H9:LV:=ba [9,67]
theorem TS (h:En w d (ao 173) Ai H9 [some x1,none] σ Q):Call w (d+1) (.ref 1284) [x1] σ Q:=(.of:aO w 1284 1283 (ao 173) "codes_in" .none de Ai H9).e1 h
noncomputable abbrev H_:KV:=[("ordered",.loc)]
noncomputable abbrev Ia:LV:=ba [5]
theorem TU (h:En w d (ao 174) H_ Ia [some x1] σ Q):Call w (d+1) (.ref 1291) [x1] σ Q:=(.of:aO w 1291 1290 (ao 174) "factor_class" .none de H_ Ia).e1 h
noncomputable abbrev Ib:KV:=[("v",.loc),("texts",.loc),("ordered",.loc)]
noncomputable abbrev Ic:LV:=ba [5,68]
theorem TV (h:En w d (ao 175) Ib Ic [some x1,some x2,some x3] σ Q):Call w (d+1) (.ref 1298) [x1,x2,x3] σ Q:=(.of:aO w 1298 1297 (ao 175) "with_levels" .none de Ib Ic).e3 h
noncomputable abbrev Aj:KV:=[("texts",.loc),("found",.loc),("one",.loc)]
noncomputable abbrev Ig:LV:=ba [4]
theorem TX (h:En w d (ao 176) Aj Ig [some x1,none,none] σ Q):Call w (d+1) (.ref 1305) [x1] σ Q:=(.of:aO w 1305 1304 (ao 176) "distinct_texts" .none de Aj Ig).e1 h
noncomputable abbrev Ak:KV:=[("v",.loc),("texts",.cell)]
noncomputable abbrev Ih:LV:=ba [65,67,69,66,70,71]
theorem TY (h:En w d (ao 177) Ak Ih [some x1,none] σ Q):Call w (d+1) (.ref 1310) [x1] σ Q:=(.of:aO w 1310 1309 (ao 177) "sorted_levels" .none de Ak Ih).e1 h
noncomputable abbrev Al:KV:=[("texts",.loc),("levels",.loc),("places",.cell),("i",.loc)]
noncomputable abbrev Ik:LV:=ba [26,9]
theorem TZ (h:En w d (ao 178) Al Ik [some x1,some x2,none,none] σ Q):Call w (d+1) (.ref 1315) [x1,x2] σ Q:=(.of:aO w 1315 1314 (ao 178) "codes_of" .none de Al Ik).e2 h
noncomputable abbrev Im:KV:=[("v",.loc)]
noncomputable abbrev Io:LV:=ba [13,1,66]
theorem T3 (h:En w d (ao 179) Im Io [some x1] σ Q):Call w (d+1) (.ref 1322) [x1] σ Q:=(.of:aO w 1322 1321 (ao 179) "item_texts" .none de Im Io).e1 h
noncomputable abbrev Ip:KV:=[("labels",.loc),("levels",.loc),("texts",.loc),("first",.cell)]
noncomputable abbrev Iq:LV:=ba [72,9,26,1]
theorem T4 (h:En w d (ao 180) Ip Iq [some x1,some x2,none,none] σ Q):Call w (d+1) (.ref 1327) [x1,x2] σ Q:=(.of:aO w 1327 1326 (ao 180) "label_list" .none de Ip Iq).e2 h
noncomputable abbrev Ir:KV:=[("levels",.loc),("seen",.loc),("i",.loc)]
noncomputable abbrev It:LV:=ba [26,9,1]
theorem T5 (h:En w d (ao 181) Ir It [some x1,none,none] σ Q):Call w (d+1) (.ref 1334) [x1] σ Q:=(.of:aO w 1334 1333 (ao 181) "check_distinct" .none de Ir It).e1 h
noncomputable abbrev tj:KV:=[("v",.loc),("levels",.loc),("labels",.loc),("exclude",.cell),("ordered",.loc),("texts",.loc),("wanted",.loc),("called",.loc),("names",.loc),("joined",.cell),("codes",.loc),("result",.loc)]
noncomputable abbrev Iu:LV:=ba [72,73,74,75,70,76,77,6,23,78]
theorem T6 (h:En w d (ao 182) tj Iu [some x1,some x2,some x3,some x4,some x5,none,none,none,none,none,none,none] σ Q):Call w (d+1) (.ref 1339) [x1,x2,x3,x4,x5] σ Q:=(.of:aO w 1339 1338 (ao 182) "make_factor" .none de tj Iu).e5 h
noncomputable abbrev Iv:KV:=[("v",.loc)]
noncomputable abbrev Iw:LV:=ba [65,79]
theorem Iy (h:En w d (ao 183) Iv Iw [some x1] σ Q):Call w (d+1) (.ref 1346) [x1] σ Q:=(.of:aO w 1346 1345 (ao 183) "as_factor" .none de Iv Iw).e1 h
noncomputable abbrev vR:KV:=[("f",.loc),("g",.loc),("sep",.loc),("rights",.loc),("lefts",.loc),("count",.loc),("signs",.loc),("names",.loc),("right",.loc),("left",.loc),("n",.loc),("first",.loc),("second",.loc),("codes",.loc),("i",.loc)]
noncomputable abbrev Iz:LV:=ba [67,9,80,81,82,1,19,38,83,26,78,77]
theorem T7 (h:En w d (ao 185) vR Iz [some x1,some x2,some x3,none,none,none,none,none,none,none,none,none,none,none,none] σ Q):Call w (d+1) (.ref 1356) [x1,x2,x3] σ Q:=(.of:aO w 1356 1355 (ao 185) "interaction" .none de vR Iz).e3 h
noncomputable abbrev IA:KV:=[("fs",.loc),("sep",.loc),("result",.loc),("f",.loc)]
noncomputable abbrev IB:LV:=ba [84,85]
theorem IC (h:En w d (ao 186) IA IB [some x1,some x2,none,none] σ Q):Call w (d+1) (.ref 1363) [x1,x2] σ Q:=(.of:aO w 1363 1362 (ao 186) "joined_factors" .none de IA IB).e2 h
noncomputable abbrev Am:KV:=[("f",.loc),("groups",.loc),("codes",.loc),("i",.loc)]
noncomputable abbrev ID:LV:=ba [67,83,26,9]
theorem T8 (h:En w d (ao 189) Am ID [some x1,none,none,none] σ Q):Call w (d+1) (.ref 1382) [x1] σ Q:=(.of:aO w 1382 1381 (ao 189) "split_places" .none de Am ID).e1 h
noncomputable abbrev An:KV:=[("v",.loc),("f",.loc),("groups",.loc),("codes",.loc),("count",.loc),("i",.loc),("parts",.loc),("places",.loc)]
noncomputable abbrev IE:LV:=ba [67,83,9,26,38,65,86,77,87,88]
theorem T9 (h:En w d (ao 190) An IE [some x1,some x2,none,none,none,none,none,none] σ Q):Call w (d+1) (.ref 1387) [x1,x2] σ Q:=(.of:aO w 1387 1386 (ao 190) "split_by" .none de An IE).e2 h
noncomputable abbrev IF:KV:=[("v",.loc),("names",.loc),("column",.loc)]
noncomputable abbrev IG:LV:=ba [12,23,9,58,89]
theorem T_ (h:En w d (ao 196) IF IG [some x1,none,none] σ Q):Call w (d+1) (.ref 1408) [x1] σ Q:=(.of:aO w 1408 1407 (ao 196) "is_frame" .none ve IF IG).e1 h
noncomputable abbrev IH:KV:=[("interp",.loc),("v",.loc),("indexes",.loc),("env",.loc),("args",.loc),("ix",.loc)]
noncomputable abbrev II:LV:=ba [90,9,17,91,87]
theorem Ua (h:En w d (ao 220) IH II [some x1,some x2,some x3,some x4,none,none] σ Q):Call w (d+1) (.ref 1539) [x1,x2,x3,x4] σ Q:=(.of:aO w 1539 1538 (ao 220) "part" .none Dn IH II).e4 h
noncomputable abbrev Ao:KV:=[("f",.loc),("sep",.loc)]
noncomputable abbrev Ap:LV:=ba [9,1,92,84]
theorem IJ (w:World):aO w 1610 1609 (ao 232) "group_factor" (.ref 1603) gg Ao Ap:=.of
theorem Ub (h:En w d (ao 232) Ao Ap [some x1,some (V.str ".")] σ Q):Call w (d+1) (.ref 1610) [x1] σ Q:=(IJ w).g1 "f" [("sep",.str "." 2387)] #[.str "." 2387] h
theorem IK (h:En w d (ao 232) Ao Ap [some x1,some x2] σ Q):Call w (d+1) (.ref 1610) [x1,x2] σ Q:=(IJ w).g2 "f" "sep" [] #[.str "." 2387] h
noncomputable abbrev vS:KV:=[("interp",.loc),("groups",.loc),("count",.loc),("size",.loc),("by_group",.loc),("level_at",.loc),("level",.loc),("place",.loc),("found",.loc)]
noncomputable abbrev Aq:LV:=ba [38,1,93,26,9]
theorem IL (w:World):aO w 1615 1614 (ao 233) "recycled_places" .none gg vS Aq:=.of
theorem Uc (h:En w d (ao 233) vS Aq [some x1,some x2,some x3,none,none,none,none,none,none] σ Q):Call w (d+1) (.ref 1615) [x1,x2,x3] σ Q:=(IL w).e3 h
noncomputable abbrev Au:KV:=[("interp",.cell),("args",.loc),("env",.cell),("v",.cell),("f",.loc),("drop",.loc),("sep",.loc),("rest",.loc),("groups",.loc),("pick",.loc),("parts",.loc),("numbers",.loc),("asked",.loc),("places",.loc)]
noncomputable abbrev Av:LV:=ba [94,95,96,97,98,69,12,99,100,77,101,91,88,67,38,90,65,102]
theorem IM (w:World):aO w 1627 1626 (ao 235) "b_split" .none gg Au Av:=.of
theorem Ud (h:En w d (ao 235) Au Av [some x1,some x2,some x3,none,none,none,none,none,none,none,none,none,none,none] σ Q):Call w (d+1) (.ref 1627) [x1,x2,x3] σ Q:=(IM w).e3 h
noncomputable abbrev IP:KV:=[("interp",.loc),("parts",.loc),("groups",.loc),("places",.loc),("levels",.loc),("texts",.loc),("bad",.loc),("level",.loc),("words",.loc),("step",.loc),("word",.loc)]
noncomputable abbrev IQ:LV:=ba [67,38,26,9,13,66,1,79,5,104]
theorem Ue (h:En w d (ao 239) IP IQ [some x1,some x2,some x3,some x4,none,none,none,none,none,none,none] σ Q):Call w (d+1) (.ref 1646) [x1,x2,x3,x4] σ Q:=(.of:aO w 1646 1645 (ao 239) "unsplit_factor" .none gg IP IQ).e4 h
noncomputable abbrev IS:KV:=[("interp",.loc),("args",.loc),("env",.loc),("parts",.loc),("f",.loc),("drop",.loc),("groups",.loc),("result",.loc),("notes",.loc),("places",.loc),("i",.loc)]
noncomputable abbrev IT:LV:=ba [94,95,1,96,98,69,38,105,106,93,65,107,3,26,9,58,108]
theorem Ug (h:En w d (ao 240) IS IT [some x1,some x2,some x3,none,none,none,none,none,none,none,none] σ Q):Call w (d+1) (.ref 1653) [x1,x2,x3] σ Q:=(.of:aO w 1653 1652 (ao 240) "b_unsplit" .none gg IS IT).e3 h
noncomputable abbrev Aw:KV:=[("interp",.loc),("v",.loc),("groups",.loc),("f",.loc),("more",.loc),("env",.loc),("found",.loc),("places",.loc),("rows",.loc)]
noncomputable abbrev IU:LV:=ba [93,9,77,103]
theorem Uh (h:En w d (ao 241) Aw IU [some x1,some x2,some x3,some x4,some x5,some x6,none,none,none] σ Q):Call w (d+1) (.ref 1658) [x1,x2,x3,x4,x5,x6] σ Q:=(.of:aO w 1658 1657 (ao 241) "group_values" .none gg Aw IU).e6 h
noncomputable abbrev IV:KV:=[("values",.loc),("value",.loc)]
noncomputable abbrev IW:LV:=ba [13,38]
theorem Ui (h:En w d (ao 242) IV IW [some x1,none] σ Q):Call w (d+1) (.ref 1665) [x1] σ Q:=(.of:aO w 1665 1664 (ao 242) "are_single" .none gg IV IW).e1 h
noncomputable abbrev tl:KV:=[("values",.loc),("default",.cell),("kinds",.loc),("told",.loc),("kind",.cell)]
noncomputable abbrev IX:LV:=ba [3,109]
theorem Uj (h:En w d (ao 243) tl IX [some x1,some x2,none,none,none] σ Q):Call w (d+1) (.ref 1670) [x1,x2] σ Q:=(.of:aO w 1670 1669 (ao 243) "simple_vector" .none gg tl IX).e2 h
noncomputable abbrev tm:KV:=[("interp",.loc),("args",.loc),("env",.loc),("v",.loc),("f",.loc),("fn",.loc),("more",.loc),("default",.loc),("simplify",.loc),("rows",.loc),("heads",.loc),("row",.loc),("values",.loc),("result",.loc),("texts",.loc),("dimnames",.loc)]
noncomputable abbrev IY:LV:=ba [94,95,97,84,23,38,1,111,92,98,112,13,113,88,6,77]
theorem Uk (h:En w d (ao 244) tm IY [some x1,some x2,some x3,none,none,none,none,none,none,none,none,none,none,none,none,none] σ Q):Call w (d+1) (.ref 1675) [x1,x2,x3] σ Q:=(.of:aO w 1675 1674 (ao 244) "b_tapply" .none gg tm IY).e3 h
noncomputable abbrev IZ:KV:=[("self",.loc),("limit",.loc),("most_frames",.loc)]
noncomputable abbrev I2:LV:=ba []
theorem Ul (h:En w d (bR 261 0) IZ I2 [some x1,some x2,some (V.int 40)] σ Q):Call w (d+1) (.ref 1794) [x1,x2] σ Q:=(.of:aO w 1794 1793 (bR 261 0) "Evaluator.__init__" (.ref 1787) jH IZ I2).g2 "self" "limit" [("most_frames",.int 40 2657)] #[.int 20000 2656,.int 40 2657] h
noncomputable abbrev I3:KV:=[("self",.loc),("parent",.loc),("env",.loc)]
noncomputable abbrev I4:LV:=ba [114]
theorem Um (h:En w d (bR 261 1) I3 I4 [some x1,some x2,none] σ Q):Call w (d+1) (.ref 1801) [x1,x2] σ Q:=(.of:aO w 1801 1800 (bR 261 1) "Evaluator.new_env" .none jH I3 I4).e2 h
noncomputable abbrev I5:KV:=[("self",.loc),("notes",.loc),("call",.loc),("visible",.loc),("note",.loc)]
noncomputable abbrev I6:LV:=ba []
theorem Un (h:En w d (bR 261 5) I5 I6 [some x1,some x2,some (V.none),none,none] σ Q):Call w (d+1) (.ref 1831) [x1,x2] σ Q:=(.of:aO w 1831 1830 (bR 261 5) "Evaluator.warn_all" (.ref 1824) jH I5 I6).g2 "self" "notes" [("call",.none)] #[.none] h
noncomputable abbrev I7:KV:=[("self",.loc),("builtin",.loc),("call",.loc),("args",.loc),("env",.loc),("saved",.loc),("found",.loc),("value",.loc),("refusal",.loc),("message",.loc)]
noncomputable abbrev I8:LV:=ba [1]
theorem Uo (h:En w d (bR 261 20) I7 I8 [some x1,some x2,some x3,some x4,some x5,none,none,none,none,none] σ Q):Call w (d+1) (.ref 1938) [x1,x2,x3,x4,x5] σ Q:=(.of:aO w 1938 1937 (bR 261 20) "Evaluator.call_builtin" .none jH I7 I8).e5 h
noncomputable abbrev I9:KV:=[("self",.loc),("f",.loc),("args",.loc),("env",.loc),("call",.loc)]
noncomputable abbrev I_:LV:=ba [115,116,117]
theorem Up (h:En w d (bR 261 25) I9 I_ [some x1,some x2,some x3,some x4,some (V.none)] σ Q):Call w (d+1) (.ref 1975) [x1,x2,x3,x4] σ Q:=(.of:aO w 1975 1974 (bR 261 25) "Evaluator.call_value" (.ref 1968) jH I9 I_).g4 "self" "f" "args" "env" [("call",.none)] #[.none] h
noncomputable abbrev Ja:KV:=[("script",.loc),("shells",.loc),("cell",.loc),("tide",.loc)]
noncomputable abbrev Jb:LV:=ba [118,119,9]
theorem Uq (h:En w d (ao 265) Ja Jb [some x1,none,none,none] σ Q):Call w (d+1) (.ref 2010) [x1] σ Q:=(.of:aO w 2010 2009 (ao 265) "_law_shells" .none gC Ja Jb).e1 h
noncomputable abbrev Ax:KV:=[("deed",.loc),("interp",.loc),("handed_now",.loc),("error",.loc)]
noncomputable abbrev Ay:LV:=ba [1]
theorem Jc (w:World):aO w 2017 2016 (ao 266) "_law_said" .none gC Ax Ay:=.of
theorem Ur (h:En w d (ao 266) Ax Ay [some x1,some x2,some x3,none] σ Q):Call w (d+1) (.ref 2017) [x1,x2,x3] σ Q:=(Jc w).e3 h
noncomputable abbrev oK:KV:=[("interp",.loc),("shells",.cell),("items",.cell),("words",.cell),("told",.loc),("heads",.loc),("due",.loc),("uneven",.loc),("heard",.loc)]
noncomputable abbrev Jd:LV:=ba [26,120,121,77,5,16,9]
theorem Us (w:World):aO w 2022 2021 (ao 267) "_law_split_right" .none gC oK Jd:=.of
noncomputable abbrev Az:KV:=[("interp",.loc),("shells",.loc),("mark",.loc),("first",.loc),("second",.loc),("two_rows",.loc),("told",.loc)]
noncomputable abbrev Je:LV:=ba [88,5,121,77]
theorem Ut (h:En w d (ao 268) Az Je [some x1,some x2,none,none,none,none,none] σ Q):Call w (d+1) (.ref 2027) [x1,x2] σ Q:=(.of:aO w 2027 2026 (ao 268) "_law_combined_right" .none gC Az Je).e2 h
noncomputable abbrev Jf:KV:=[("codes",.loc),("made",.loc)]
noncomputable abbrev Jg:LV:=ba [3,4,5]
theorem Uu (h:En w d (ao 269) Jf Jg [some x1,none] σ Q):Call w (d+1) (.ref 2034) [x1] σ Q:=(.of:aO w 2034 2033 (ao 269) "_law_factor" .none gC Jf Jg).e1 h
noncomputable abbrev pS:KV:=[("interp",.loc),("shells",.cell),("many",.cell),("codes",.cell),("words",.cell),("heads",.loc),("parts",.loc),("back",.loc),("due",.loc)]
noncomputable abbrev Jh:LV:=ba [26,16,122,88,5]
theorem Uv (h:En w d (ao 270) pS Jh [some x1,some x2,none,none,none,none,none,none,none] σ Q):Call w (d+1) (.ref 2039) [x1,x2] σ Q:=(.of:aO w 2039 2038 (ao 270) "_law_undone_right" .none gC pS Jh).e2 h
noncomputable abbrev Ji:KV:=[("interp",.loc),("shells",.loc),("_law_sum",.loc),("total",.loc),("first",.loc),("figure",.loc),("handed_now",.loc),("told",.loc),("heard",.cell)]
noncomputable abbrev Jj:LV:=ba [124,123,77,125]
theorem Uw (w:World):aO w 2046 2045 (ao 271) "_law_default_right" .none gC Ji Jj:=.of
noncomputable abbrev vT:KV:=[("script",.loc),("shells",.loc),("interp",.loc)]
noncomputable abbrev vU:LV:=ba [126,127,128,129,130,131]
theorem Ux (w:World):aO w 2053 2052 (ao 272) "law" .none gC vT vU:=.of
end
inductive oM:MO→MO→Prop
 |refl {o}:oM o o
 |inst {C fs gs}:br (λ(p q:Str×Option V)=>p.1=q.1∧(q.2=none∨q.2=p.2)) fs gs→oM (.inst C fs) (.inst C gs)
noncomputable def Wk (σ σ':Hp):Prop:=∀a o',σ' a=some o'→∃o,σ a=some o∧oM o o'
noncomputable def Ext (σ σ':Hp):Prop:=∀a o,σ a=some o→σ' a=some o
theorem Ext.refl (σ:Hp):Ext σ σ:=λ_ _ h=>h
theorem Ext.trans {σ τ υ:Hp}(h:Ext σ τ)(k:Ext τ υ):Ext σ υ:=λa o e=>k a o (h a o e)
theorem Ext.new {σ:Hp}{a:Addr}{o:MO}(h:σ a=none):Ext σ (upd σ a o):=λb x e=>QP h e
def af:= @Ext.new
theorem Ext.upd {σ τ:Hp}{a:Addr}{o:MO}(k:Ext σ τ)(h:σ a=none):Ext σ (upd τ a o):=λb x e=>by
 rw[aJ]
 exact k b x e
 rintro rfl;rw[h]at e;cases e
theorem Ext.none {σ τ:Hp}(k:Ext σ τ){a:Addr}(h:τ a=none):σ a=none:=by
 cases e:σ a with
 |none=>rfl
 |some o=>rw[k a o e]at h;cases h
theorem Wk.refl (σ:Hp):Wk σ σ:=λa o h=>⟨o,h,.refl⟩
theorem Wk.upd {σ τ:Hp}{a:Addr}{o o':MO}(k:Wk σ τ)(h:oM o o'):Wk (upd σ a o) (upd τ a o'):=λb x e=>by
 by_cases hb:b=a
 subst hb;rw[ai]at e ⊢;cases e;exact⟨_,rfl,h⟩
 rw[aJ hb]at e ⊢;exact k b x e
theorem Wk.back {σ:Hp}{a:Addr}{o o':MO}(h:σ a=some o)(k:oM o' o):Wk (Mine.upd σ a o') σ:=λb x e=>by
 by_cases hb:b=a
 subst hb;rw[h]at e;cases e;exact⟨_,ai _ _ _,k⟩
 exact⟨x,by rw[aJ hb];exact e,.refl⟩
section
variable{w:World}{Γ:Ctx}{s s':Shared}{σ σ':Hp}{ρ aR:LO}{Q:PQ}{QT:PF}
theorem oM.at {h:Heap}{a:Addr}{o o':MO}(k:oM o o')(x:At w h a o):At w h a o':=by
 cases k with
 |refl=>exact x
 | @inst C fs gs k=>
  obtain⟨d,n,es,sl,e,e2,f,nd⟩:=x
  refine⟨d,n,es,sl,e,e2,?_,?_⟩
  clear nd e e2
  generalize es.toList=l at f
  induction k generalizing l with
  |nil=>cases f;exact .nil
  |cons hp _ ih=>
   cases f with
   |cons hq hr=>
    refine .cons ⟨hp.1▸hq.1,λv hv=>?_⟩ (ih _ hr)
    rcases hp.2 with q|q
    rw[q]at hv;cases hv
    exact hq.2 v (q▸hv)
  have:gs.map (·.1)=fs.map (·.1):=by
   clear f nd e e2
   induction k with
   |nil=>rfl
   |cons hp _ ih=>simp only[bx,ih,hp.1]
  rw[this];exact nd
theorem az.wk (D:az w Γ s σ ρ)(k:Wk σ σ'):az w Γ s σ' ρ:=by
 refine⟨D.fr,⟨λa o h=>?_,λa b oa ob ha hb ne x xa xb=>?_,?_⟩,λa o h=>?_,D.kp,D.cells,D.loc,D.gens,D.os,D.fm⟩
 obtain⟨o',h',z⟩:=k a o h;exact z.at (D.hr.at_ a o' h')
 obtain⟨Uy,vV,_⟩:=k a oa ha
 obtain⟨fO,cg,_⟩:=k b ob hb
 exact D.hr.apart a b Uy fO vV cg ne x xa xb
 obtain⟨l,hl⟩:=D.hr.fin
 exact⟨l,λa o h=>let⟨o',h',_⟩:=k a o h;hl a o' h'⟩
 obtain⟨o',h',_⟩:=k a o h;exact D.free a o' h'
theorem dj.wk {st:List Stmt}(k:Wk σ σ')(h:dj w Γ st σ' ρ QT):dj w Γ st σ ρ QT:=⟨λS s D=>h.run S s (D.wk k)⟩
inductive Jk (Q:PQ)(v:V)(τ:Hp):Prop
 |mk (bf:Hp) (k:Wk τ bf) (q:Q v bf)
theorem Call.wk {d:Nat}{f:V}{vs:List V}(h:Call w d f vs σ (Jk Q)):Call w d f vs σ Q:=
 ⟨fun Γ hd ρ fa args e1 e2 S s D k X hk=>h.run Γ hd ρ fa args e1 e2 S s D k X λa s' τ q D'=>let⟨bf,z,q⟩:=q;hk a s' bf q (D'.wk z)⟩
end
theorem l0 (w:World):bP w 401 "kind"=true:=by rfl'
theorem pT (w:World):bP w 401 "items"=true:=by rfl'
theorem mV (w:World):bP w 401 "attrs"=true:=by rfl'
theorem Jl (w:World):bP w 401 "shared"=true:=by rfl'
theorem Uz (w:World):bP w 401 "loose"=true:=by rfl'
theorem dT (w:World):gE w 401=true:=by rfl'
noncomputable abbrev aV (kind items attrs:V):List (Str×Option V):=[(Str.ofString "kind",some kind),(Str.ofString "items",some items),(Str.ofString "attrs",some attrs),(Str.ofString "shared",none),(Str.ofString "loose",none)]
theorem ne_str {a b:Str}(h:(a==b)=false):a≠b:=by simpa using h
theorem bG {n:Nat}(h:Nat.ble n 1000=true:=by rfl):n≤1000:=j5 h
theorem UA {k i a s l:V}:oM (.inst 401 [(Str.ofString "kind",some k),(Str.ofString "items",some i),(Str.ofString "attrs",some a),(Str.ofString "shared",some s),(Str.ofString "loose",some l)]) (.inst 401 (aV k i a)):=
 .inst (.cons ⟨rfl,.inr rfl⟩ (.cons ⟨rfl,.inr rfl⟩ (.cons ⟨rfl,.inr rfl⟩ (.cons ⟨rfl,.inl rfl⟩ (.cons ⟨rfl,.inl rfl⟩ .nil)))))
theorem dk {σ:Hp}{a:Addr}{o o':MO}:upd (upd σ a o) a o'=upd σ a o':=by
 funext b
 by_cases h:b=a
 subst h;rw[ai,ai]
 rw[aJ h,aJ h,aJ h]
theorem UB {w:World}{d:Nat}{σ:Hp}{Q:PQ}{a:Addr}{kind items:V}(ha:σ a=some (.inst 401 []))(q:Q .none (upd σ a (.inst 401 (aV kind items .none)))):Call w (d+1) (.ref 391) [.ref a,kind,items] σ Q:=by
 refine SH fun Γ hd hv hg=>?_
 refine ae (ic (ah hv aD (ah hv .here ⟨a,401,_,_,rfl,ha,.nil,bG,dT w,l0 w,?_⟩)))
 refine ae (ic (aj hv 2 rfl rfl (ah hv .here ⟨a,401,_,_,rfl,ai _ _ _,.there (ne_str (by rfl')) .nil,bG,dT w,pT w,?_⟩)))
 refine ae (ic (aj hv 3 rfl rfl (ah hv .here ⟨a,401,_,_,rfl,ai _ _ _,.there (ne_str (by rfl')) (oE (by rfl')),bG,dT w,mV w,?_⟩)))
 refine ae (ic (gR (ah hv .here ⟨a,401,_,_,rfl,ai _ _ _,.there (ne_str (by rfl')) (oF (by rfl')),bG,dT w,Jl w,?_⟩)))
 refine ae (ic (gR (ah hv .here ⟨a,401,_,_,rfl,ai _ _ _,.there (ne_str (by rfl')) (q_ (by rfl')),bG,dT w,Uz w,?_⟩)))
 simp only[dk]
 exact dj.wk ((Wk.refl σ).upd UA) (au q)
theorem mW {w:World}{d:Nat}{σ:Hp}{Q:PQ}{kind items:V}(q:∀a,σ a=none→Q (.ref a) (upd σ a (.inst 401 (aV kind items .none)))):Call w (d+2) (.ref 401) [kind,items] σ Q:=
 Call.cls (fI:=391) (by rfl') (by rfl') (by rfl') λa ha=>UB (ai _ _ _) ⟨rfl,by rw[dk];exact q a ha⟩
noncomputable def jk (a c:Int)(n:Nat):List V:=(List.range n).map λ(i:Nat)=>V.int (a+(i:Int)*c)
theorem AA {a c:Int}{n i:Nat}(h:i<n):(jk a c n)[i]? =some (.int (a+i*c)):=by unfold jk;simp[h]
theorem AB {a c:Int}{n:Nat}:(jk a c n).length=n:=by unfold jk;simp
inductive Src
 |list (l:Addr)
 |range (r:Addr) (a b c:Int)
noncomputable def Src.addr:Src→Addr
 |.list l=>l
 |.range r _ _ _=>r
noncomputable def Src.At (h:Heap)(it:Addr)(xs:List V)(i:Nat):Src→Prop
 |.list l=>h.IsListIter it l i
 |.range _ a _ c=>IsRangeIter h it (a+i*c) ((xs.length:Int)-i) c
noncomputable def Src.Ok (σ:Hp)(xs:List V):Src→Prop
 |.list l=>σ l=some (.list xs)
 |.range _ a _ c=>xs=jk a c xs.length
noncomputable def Src.St (σ:Hp)(xs:List V):Src→Prop
 |.list l=>σ l=some (.list xs)
 |.range r a b c=>σ r=some (.range a b c)∧Builtin.Range.small a b c=true∧Builtin.Range.rangeSize a b c=(xs.length:Int)
section
variable{w:World}{Γ:Ctx}{s:Shared}{σ:Hp}{ρ:LO}{it:Addr}{xs:List V}{i:Nat}
theorem Src.start (z:Src)(D:az w Γ s σ ρ)(st:z.St σ xs){k:VP}{X:VP}
  (h:∀oi:Obj,oi.isFreed=false→oi.dict=none→(∀h it,h.get? it=some oi→z.At h it xs 0)→k (.ref s.heap.objs.size) {s with heap:=s.heap.push oi}):wpAny (model aC w) Γ.A (pyIter (.ref z.addr)) k X s:=by
 cases z with
 |list l=>
  obtain⟨vs,ig,mX⟩:=(D.hr.at_ _ _ st).isList
  exact wpAny_pyIter_list ig (h _ rfl rfl λh' it e=>⟨_,e,rfl,rfl⟩)
 |range r a b c=>
  obtain⟨hr,hs,hz⟩:=st
  obtain⟨t,u,v,e⟩:=D.hr.at_ _ _ hr
  refine wpAny_pyIter_range e hs (h _ rfl rfl λh' it e=>?_)
  show IsRangeIter h' it (a+((0:Nat):Int)*c) ((xs.length:Int)-((0:Nat):Int)) c
  have e1:a+((0:Nat):Int)*c=a:=by simp
  have e2:(xs.length:Int)-((0:Nat):Int)=Builtin.Range.rangeSize a b c:=by rw[hz];simp
  rw[e1,e2];exact e
theorem Src.again (z:Src)(at_:z.At s.heap it xs i){k:VP}{X:VP}(h:k (.ref it) s):wpAny (model aC w) Γ.A (pyIter (.ref it)) k X s:=by
 cases z with
 |list l=>exact wpAny_pyIter_listiter at_ h
 |range r a b c=>exact wpAny_pyIter_rangeiter at_ h
theorem Src.next (z:Src)(D:az w Γ s σ ρ)(hh:Γ.A.handled=none)(ok:z.Ok σ xs)(at_:z.At s.heap it xs i)(hi:i≤xs.length){k:Option Value→Shared→Prop}{X:VP}
  (item:∀v h' o tk,xs[i]? =some (er v)→h'.get? it=some o→(∀lg:Heap,lg.get? it=some o→z.At lg it xs (i+1))→Heap.SameBut it s.heap h'→k (some v) {s with heap:=h',toks:=tk})
  (stop:i=xs.length→∀h',Heap.ExtBut it s.heap h'→k none {s with heap:=h'}):wpAny (model aC w) Γ.A (pyNext (.ref it)) k X s:=by
 cases z with
 |list l=>
  obtain⟨vs,ig,mX⟩:=(D.hr.at_ _ _ ok).isList
  cases e:vs[i]? with
  |none=>
   refine wpAny_pyNext_list_end hh at_ ig e λh' ext=>stop ?_ h' ext
   have:=Array.getElem?_eq_none_iff.mp e
   rw[←mX,ay,Array.length_toList]at hi ⊢;lia
  |some y=>
   refine wpAny_pyNext_list_item at_ ig e λh' AD sb=>?_
   obtain⟨o,ho,h1,h2⟩:=AD
   exact item y h' o s.toks (by rw[←mX,dI,r_,e];rfl) ho (λlg e'=>⟨o,e',h1,h2⟩) sb
 |range r a b c=>
  by_cases e:i<xs.length
  refine wpAny_pyNext_range_item at_ (by lia) λh' AD sb=>item _ h' _ _ ?_ AD (λlg e'=>?_) sb
  have:=AA (a:=a) (c:=c) e
  rw[←show xs=jk a c xs.length from ok]at this
  exact this
  show IsRangeIter lg it (a+((i+1:Nat):Int)*c) ((xs.length:Int)-((i+1:Nat):Int)) c
  have e1:a+((i+1:Nat):Int)*c=a+(i:Int)*c+c:=by push_cast;rw[Int.add_mul];lia
  have e2:(xs.length:Int)-((i+1:Nat):Int)=(xs.length:Int)-i-1:=by push_cast;lia
  rw[e1,e2];exact e'
  exact wpAny_pyNext_range_end hh at_ (by lia) λh' ext=>stop (by lia) h' ext
end
section
variable{w:World}{Γ:Ctx}{s s':Shared}{σ σ':Hp}{ρ aR:LO}{Q:PQ}{QT:PF}
theorem az.UC (D:az w Γ s σ ρ)(keep:∀b o,b∈Γ.bM∨(Γ.h₀.get? b).isSome=true→s.heap.get? b=some o→s'.heap.get? b=some o)(hr:HR w s'.heap σ')
  (free:∀a o,σ' a=some o→∀b∈foot s'.heap a,(∃a' x,σ a'=some x∧b∈foot s.heap a')∨s.heap.get? b=none)
  (hg:s'.gens=s.gens)(ho:s'.os=s.os):az w Γ s' σ' ρ:=by
 have d0:∀b o,b∈Γ.bM→s.heap.get? b=some o→s'.heap.get? b=some o:=λb o hb e=>keep b o (.inl hb) e
 obtain⟨m,F⟩:=D.fr
 obtain⟨ml,hl,hh⟩:=D.loc
 have kR:∀b∈Γ.bM,∃o,s.heap.get? b=some o:=by
  intro b hb
  rcases aY.mp hb with rfl|hb
  obtain⟨o,_,_,e,_⟩:=F.ns;exact⟨o,e⟩
  rcases aY.mp hb with rfl|hb
  obtain⟨o,_,_,e,_⟩:=hl;exact⟨o,e⟩
  rcases cq.mp hb with hb|hb
  refine bZ hb λp hp=>?_
  obtain⟨v,o,ho,_⟩:=D.cells p hp
  exact⟨o,ho⟩
  refine bZ hb λp hp=>?_
  exact⟨_,D.kp p hp⟩
 refine⟨⟨m,Ns.at F.ns λo e=>d0 _ _ Γ.dG e,λb o e=>keep b o (.inr (by rw[e];rfl)) (F.keep b o e),F.above⟩,hr,λa o sa b hb=>?_,λp hp=>d0 _ _ (iH hp) (D.kp p hp),
  λp hp=>?_,⟨ml,Ns.at hl λo e=>d0 _ _ Γ.fP e,λx k v hx=>?_⟩,hg.trans D.gens,ho.trans D.os,λf e=>Ns.at (D.fm f e) λo e=>d0 _ _ Γ.dG e⟩
 rcases free a o sa b hb with⟨a',x,sx,cg⟩|q
 exact D.free a' x sx b cg
 constructor
 cases e:Γ.h₀.get? b with
 |none=>rfl
 |some ob=>rw[F.keep b ob e]at q;cases q
 intro hp
 obtain⟨ob,e⟩:=kR b hp
 rw[e]at q;cases q
 obtain⟨v,o,ho,hd⟩:=D.cells p hp
 exact⟨v,o,d0 _ _ (ow hp) ho,hd⟩
 have:=hh x k v hx
 cases k with
 |loc=>exact this
 |cell=>obtain⟨c,val,hc,⟨o,ho,hd⟩,hv⟩:=this;exact⟨c,val,hc,⟨o,d0 _ _ (eS hc) ho,hd⟩,hv⟩
 |free=>obtain⟨c,val,hc,⟨o,ho,hd⟩,hv⟩:=this;exact⟨c,val,hc,⟨o,d0 _ _ (eS hc) ho,hd⟩,hv⟩
theorem az.kR (D:az w Γ s σ ρ):∀b∈Γ.bM,∃o,s.heap.get? b=some o:=by
 obtain⟨m,F⟩:=D.fr
 obtain⟨ml,hl,hh⟩:=D.loc
 intro b hb
 rcases aY.mp hb with rfl|hb
 obtain⟨o,_,_,e,_⟩:=F.ns;exact⟨o,e⟩
 rcases aY.mp hb with rfl|hb
 obtain⟨o,_,_,e,_⟩:=hl;exact⟨o,e⟩
 rcases cq.mp hb with hb|hb
 refine bZ hb λp hp=>?_
 obtain⟨v,o,ho,_⟩:=D.cells p hp
 exact⟨o,ho⟩
 refine bZ hb λp hp=>?_
 exact⟨_,D.kp p hp⟩
noncomputable def Ctx.with (Γ:Ctx)(own:List (Addr×Obj)):Ctx:={Γ with kp:=own++Γ.kp}
theorem vW {own:List (Addr×Obj)}{b:Addr}:b∈(Γ.with own).bM↔b∈own.map (·.1)∨b∈Γ.bM:=by
 unfold Ctx.bM Ctx.with
 simp only[aY,df,cq]
 constructor
 rintro(h|h|h|h|h)
 exact .inr (.inl h)
 exact .inr (.inr (.inl h))
 exact .inr (.inr (.inr (.inl h)))
 exact .inl h
 exact .inr (.inr (.inr (.inr h)))
 rintro(h|h|h|h|h)
 exact .inr (.inr (.inr (.inl h)))
 exact .inl h
 exact .inr (.inl h)
 exact .inr (.inr (.inl h))
 exact .inr (.inr (.inr (.inr h)))
theorem bt.with {own:List (Addr×Obj)}(S:bt w Γ)(h1:∀p∈own,p.1∉Γ.bM∧Γ.h₀.get? p.1=none):bt w (Γ.with own):=by
 obtain⟨a1,a2,a3,a4,a5,a6,a7,a8,a9,d_,eT,gk,gF,ia,ib,kZ,k_,oH,oI,lV,iM,kh,lW,lX⟩:=S
 have off:∀b,b∈Γ.bM→b∉own.map (·.1):=λb hb hm=>by
  obtain⟨p,hp,rfl⟩:=cF.mp hm
  exact(h1 p hp).1 hb
 refine⟨a1,a2,a3,a4,a5,a6,a7,a8,a9,d_,eT,gk,gF,ia,λx c hc=>?_,?_,?_,oH,oI,lV,λb hb=>?_,kh,lW,lX⟩
 obtain⟨u,v,z⟩:=ib x c hc
 refine⟨u,v,λhx=>?_⟩
 show c∉(own++Γ.kp).map (·.1)
 rw[df,cq,not_or]
 exact⟨off c (eS hc),z hx⟩
 show Γ.env.locals∉(own++Γ.kp).map (·.1)
 rw[df,cq,not_or]
 exact⟨off _ Γ.fP,kZ⟩
 show Γ.FL∉(own++Γ.kp).map (·.1)
 rw[df,cq,not_or]
 exact⟨off _ Γ.dG,k_⟩
 rcases vW.mp hb with h|h
 refine bZ h λp hp=>?_;exact(h1 p hp).2
 exact iM b h
theorem az.with {own:List (Addr×Obj)}(D:az w Γ s σ ρ)(h:∀p∈own,s.heap.get? p.1=some p.2∧Off s.heap σ p.1):az w (Γ.with own) s σ ρ:=
 ⟨D.fr,D.hr,λa o sa b hb=>⟨(D.free a o sa b hb).1,λhp=>(vW.mp hp).elim (λhm=>by
   obtain⟨p,hq,rfl⟩:=cF.mp hm
   exact(h p hq).2 a o sa hb) (D.free a o sa b hb).2⟩,λp hp=>(cq.mp hp).elim (λq=>(h p q).1) (D.kp p),D.cells,D.loc,D.gens,D.os,D.fm⟩
theorem az.without {own:List (Addr×Obj)}(D:az w (Γ.with own) s σ ρ):az w Γ s σ ρ∧∀p∈own,s.heap.get? p.1=some p.2∧Off s.heap σ p.1:=
 ⟨⟨D.fr,D.hr,λa o sa b hb=>⟨(D.free a o sa b hb).1,λhp=>(D.free a o sa b hb).2 (vW.mpr (.inr hp))⟩,λp hp=>D.kp p (jy _ hp),D.cells,D.loc,D.gens,D.os,D.fm⟩,
  λp hp=>⟨D.kp p (gO _ hp),λa o sa hb=>(D.free a o sa p.1 hb).2 (vW.mpr (.inl (cB (f:=(·.1)) hp)))⟩⟩
theorem az.tn (D:az w Γ s σ ρ){it:Addr}(hp:it∉Γ.bM)(h0:Γ.h₀.get? it=none)(off:Off s.heap σ it)(e:Heap.ExtBut it s.heap s'.heap)(hg:s'.gens=s.gens)(ho:s'.os=s.os):az w Γ s' σ ρ:=by
 have same:∀a o,σ a=some o→∀b∈foot s.heap a,s'.heap.get? b=s.heap.get? b:=λa o sa b hb=>by
  obtain⟨z,hz⟩:=(D.hr.at_ a o sa).live b hb
  rw[hz];exact e b z (λq=>off a o sa (q▸hb)) hz
 refine D.UC (λb o hb eb=>e b o (λq=>?_) eb) (D.hr.same same) (λa o sa b hb=>.inl ⟨a,o,sa,?_⟩) hg ho
 subst q
 rcases hb with h|h
 exact hp h
 rw[h0]at h;cases h
 rw[←ey (same a o sa a (bD.mpr (.inl rfl)))];exact hb
noncomputable abbrev Jm (J:Hp→LO→Prop)(QT:PF):PF
 |.next,σ,ρ=>J σ ρ
 |.cont,σ,ρ=>J σ ρ
 |.brk,σ,ρ=>QT .next σ ρ
 |.ret v,σ,ρ=>QT (.ret v) σ ρ
inductive vX (w:World)(Γ:Ctx)(vars:KV)(x:Str)(body:List Stmt)(ρ:LO)(J:Hp→LO→Prop)(QT:PF)(y:V)(σ:Hp):Prop
 |mk (bj:LO) (p:Pt vars ρ x y bj) (b:∀own,dj w (Γ.with own) body σ bj (Jm J QT))
inductive UD (w:World)(Γ:Ctx)(vars:KV)(x:Str)(body:List Stmt)(ρ:LO)(QT:PF)(v:V)(aH:Hp):Prop
 |mk (l:Addr) (xs:List V) (I:Nat→Hp→LO→Prop) (e:v=.ref l) (i0:I 0 aH ρ) (k:∀i σ ρ,I i σ ρ→σ l=some (.list xs)) (st:∀i σ ρ y,I i σ ρ→xs[i]? =some y→vX w Γ vars x body ρ (I (i+1)) QT y σ) (q:∀σ ρ,I xs.length σ ρ→QT .next σ ρ)
structure UE (w:World)(Γ:Ctx)(s:Shared)(σ:Hp)(ρ:LO)(oi:Obj)(it:Addr):Prop where
 out:it∉Γ.bM
 h0:Γ.h₀.get? it=none
 none_:s.heap.get? it=none
 dyn:az w Γ {s with heap:=s.heap.push oi} σ ρ
 at_:(s.heap.push oi).get? it=some oi
 off:Off (s.heap.push oi) σ it
theorem az.AE (D:az w Γ s σ ρ){oi:Obj}(hf:oi.isFreed=false):UE w Γ s σ ρ oi s.heap.objs.size:=by
 have oN:s.heap.get? s.heap.objs.size=none:=jz (dp _)
 refine⟨λhp=>?_,?_,oN,D.grow (s':={s with heap:=s.heap.push oi}) (λb o e=>dy _ e) rfl rfl,jA _ hf,λa o sa hb=>?_⟩
 obtain⟨o,e⟩:=D.kR _ hp;rw[e]at oN;cases oN
 cases e:Γ.h₀.get? s.heap.objs.size with
 |none=>rfl
 |some o=>obtain⟨m,F⟩:=D.fr;rw[F.keep _ o e]at oN;cases oN
 obtain⟨z,hz⟩:=(D.hr.at_ a o sa).live a (bD.mpr (.inl rfl))
 rw[ey ((dy _ hz).trans hz.symm)]at hb
 obtain⟨y,hy⟩:=(D.hr.at_ a o sa).live _ hb
 rw[oN]at hy;cases hy
theorem az.Jn {it:Addr}{o o':Obj}{h':Heap}{tk:Nat}(D:az w (Γ.with [(it,o)]) s σ ρ)(hp:it∉Γ.bM)(h0:Γ.h₀.get? it=none)(e:h'.get? it=some o')(sb:Heap.SameBut it s.heap h'):az w (Γ.with [(it,o')]) {s with heap:=h',toks:=tk} σ ρ:=by
 obtain⟨D',fj⟩:=D.without
 have off:Off s.heap σ it:=(fj (it,o) bA).2
 refine(D'.tn (s':={s with heap:=h',toks:=tk}) hp h0 off (λb ob hb eb=>(sb.2 b hb).trans eb) rfl rfl).with λp hp=>?_
 rw[dm.mp hp]
 refine⟨e,λa ob sa hb=>?_⟩
 have ea:a≠it:=λq=>off a ob sa (q▸bD.mpr (.inl rfl))
 rw[ey (sb.2 a ea:h'.get? a=s.heap.get? a)]at hb
 exact off a ob sa hb
inductive UG (w:World)(Γ:Ctx)(vars:KV)(x:Str)(body:List Stmt)(ρ:LO)(QT:PF)(v:V)(aH:Hp):Prop
 |mk (z:Src) (xs:List V) (I:Nat→Hp→LO→Prop) (e:v=.ref z.addr) (b:z.St aH xs) (i0:I 0 aH ρ) (k:∀i σ ρ,I i σ ρ→z.Ok σ xs) (st:∀i σ ρ y,I i σ ρ→xs[i]? =some y→vX w Γ vars x body ρ (I (i+1)) QT y σ) (q:∀σ ρ,I xs.length σ ρ→QT .next σ ρ)
theorem aT.Jo {vars}(hv:Γ.vars=vars) {x px iter body pos}(h:ak w Γ iter σ ρ (UG w Γ vars x body ρ QT))
  (hs:∀env y,foldedSetIterable iter env y=pure y:=by intro _ _;rfl):aT w Γ (.For (.Name x px) iter body [] pos) σ ρ QT:=by
 refine⟨λS s D k X hk=>wpAny_For (h.run S s D _ X λv av aH q aL=>?_) (hs _)⟩
 obtain⟨z,xs,I,ev,hb,I0,ok,step,fin⟩:=q
 refine bJ ev ?_
 refine z.start aL hb λoi hf _ cM=>?_
 have N:=aL.AE hf
 generalize av.heap.objs.size=it at N
 have SW:∀o,bt w (Γ.with [(it,o)]):=λo=>S.with λp hp=>by
  rw[dm.mp hp];exact⟨N.out,N.h0⟩
 refine codeAny_forLoop (I:=λn s=>∃i σ ρ o,n=xs.length-i∧i≤xs.length∧I i σ ρ∧az w (Γ.with [(it,o)]) s σ ρ∧z.At s.heap it xs i) (λn aG hI=>?_) xs.length
  ⟨0,aH,ρ,oi,rfl,j9 _,I0,N.dyn.with λp hp=>by rw[dm.mp hp];exact⟨N.at_,N.off⟩,cM _ _ N.at_⟩
 obtain⟨i,σ,ρ,o,rfl,hi,Ii,aA,hit⟩:=hI
 refine z.next aA S.hh (ok _ _ _ Ii) hit hi (λv h' o' tk mY oO vY sb=>?_) λtu h' ext=>?_
 have jh:=aA.Jn (tk:=tk) N.out N.h0 oO sb
 obtain⟨bj,pt,UH⟩:=step i σ ρ (er v) Ii mY
 refine wpAny_assign_Name (mP (Γ:=Γ.with [(it,o')]) (SW o') jh (by subst hv;exact pt) λbI pU=>?_)
 refine(UH [(it,o')]).run (SW o') bI pU _ _ λfl gi mZ vZ q m6=>?_
 have dQ:i<xs.length:=(cp.mp mY).1
 obtain⟨Jp,UI⟩:=m6.without
 have Jq:=vY _ (UI (it,o') bA).1
 cases fl with
 |next=>exact⟨xs.length-(i+1),sg _ _ (by assumption),i+1,mZ,vZ,o',rfl,dQ,q,m6,Jq⟩
 |cont=>exact⟨xs.length-(i+1),sg _ _ (by assumption),i+1,mZ,vZ,o',rfl,dQ,q,m6,Jq⟩
 |brk=>exact hk .next _ mZ vZ q Jp
 |ret v=>exact hk (.ret v) _ mZ vZ q Jp
 subst tu
 obtain⟨AF,fj⟩:=aA.without
 exact qU (hk .next _ σ ρ (fin _ _ Ii) (AF.tn N.out N.h0 (fj (it,o) bA).2 ext rfl rfl))
theorem aT.UJ {vars}(hv:Γ.vars=vars) {x px iter body pos}(h:ak w Γ iter σ ρ (UD w Γ vars x body ρ QT))
  (hs:∀env y,foldedSetIterable iter env y=pure y:=by intro _ _;rfl):aT w Γ (.For (.Name x px) iter body [] pos) σ ρ QT:=
 aT.Jo hv ⟨λS s D k X hk=>h.run S s D k X λa s' σ' q D'=>hk a s' σ' (by
  obtain⟨l,xs,I,e,i0,kk,st,q⟩:=q
  exact⟨.list l,xs,I,e,kk _ _ _ i0,i0,kk,st,q⟩) D'⟩ hs
def fF:= @aT.UJ
end
section
variable{w:World}{Γ:Ctx}{s s':Shared}{σ σ':Hp}{ρ aR:LO}{Q:PQ}{QT:PF}
theorem Jr {vs:Array Value}{n:Nat}{f:Array Value→Array Value}:∃n',Obj.mapSeq f {cls:=.type "list",data:=.seq vs n}={cls:=.type "list",data:=.seq (f vs) n'}:=⟨_,rfl⟩
theorem UK {M:Model}{prog:Program}{A:Around}{E:VP}{l:Addr}{items:Array Value}{n:Nat}{x:Value}{K:VP}(ho:s.heap.get? l=some {cls:=.type "list",data:=.seq items n})
  (hQ:∀h' n',h'.get? l=some {cls:=.type "list",data:=.seq (items.push x) n'}→Heap.SameBut l s.heap h'→K .none {s with heap:=h'})(l5:items.size≤sizeLine):
  wpAny (model prog w) A (PySem.call (.builtin "list.append") [.ref l,x]) K E s:=by
 obtain⟨n',eN⟩:=Jr (vs:=items) (n:=n) (f:=(·.push x))
 have hl:s.heap.IsList l items:=⟨_,ho,rfl,n,rfl⟩
 refine wpAny_call_entry slot_list_append hl.typeIs entry_list_append ?_ (args_list_append _ _)
 show wpAny _ _ (updateSeq l (·.push x)>>=λ_=>ret .none) _ _ s
 refine aP ?_
 refine wpAny_updateSeq ho rfl (bY ⟨.none,rfl,hQ _ n' ?_ (Heap.SameBut.update ..)⟩)
 rw[kE _ ho rfl,eN]
theorem UL {prog:Program}{A:Around}{E:VP}{l:Addr}{items:Array Value}{n:Nat}{k:Int}{t:Tok}{v:Value}{K:Unit→Shared→Prop}(ho:s.heap.get? l=some {cls:=.type "list",data:=.seq items n})
  (h0:0≤k)(Js:k<2^63)(hn:k<items.size)
  (hQ:∀h' n',h'.get? l=some {cls:=.type "list",data:=.seq (items.setIfInBounds k.toNat v) n'}→Heap.SameBut l s.heap h'→K () {s with heap:=h'}):
  wpAny (model prog w) A (setItem (.ref l) (.int k t) v) K E s:=by
 have hl:s.heap.IsList l items:=⟨_,ho,rfl,n,rfl⟩
 unfold setItem
 try with_reducible refine gA ?_
 first|refine aP (bY ?_)|skip
 refine aP (wpAny_sequenceKey hl.typeIs (by decide) ?_)
 refine aP (wpAny_callSpecial?_slot (name:=Str.ofString "__setitem__") hl.typeIs slot_list_setitem
  (wpAny_call_entry slot_list_setitem hl.typeIs entry_list_setitem ?_ (args_list_setitem _ _ _)))
 show wpAny _ _ (Builtin.List.listSubscript? (.int k t)>>=_) _ _ s
 refine aP (wpAny_listSubscript_int (fitsIndex_of h0 Js) ?_)
 clear Js
 obtain⟨j,rfl⟩:=Int.eq_ofNat_of_zero_le h0
 have hj:j<items.size:=by lia
 have tv:items[j]? =some items[j]:=Array.getElem?_eq_getElem hj
 show wpAny _ _ ((seqItemAt l j>>=λr=>pure (r.map (j,·)))>>=_) _ _ s
 refine aP (aP (wpAny_seqItemAt ho rfl (bY ?_)))
 rw[tv]
 show wpAny _ _ (setSeqItemAt l j v>>=_) _ _ s
 obtain⟨n',eN⟩:=Jr (vs:=items) (n:=n) (f:=(·.setIfInBounds j v))
 have Jt:(s.heap.update l (Obj.mapSeq (·.setIfInBounds j v))).get? l=some {cls:=.type "list",data:=.seq (items.setIfInBounds j v) n'}:=by
  rw[kE _ ho rfl,eN]
 refine aP (wpAny_setSeqItemAt ho rfl ?_)
 first
  |exact aP (bY (bY ⟨.none,rfl,bY (hQ _ _ Jt (Heap.SameBut.update ..))⟩))
  |exact bY ⟨.none,rfl,bY (hQ _ _ Jt (Heap.SameBut.update ..))⟩
theorem az.Ju {l:Addr}{xs ys:List V}{vs:Array Value}{h':Heap}{n' tk:Nat}(D:az w Γ s σ ρ)(hl:σ l=some (.list xs))(e:h'.get? l=some {cls:=.type "list",data:=.seq vs n'})(sb:Heap.SameBut l s.heap h')(ev:vs.toList.map er=ys):
  az w Γ {s with heap:=h',toks:=tk} (upd σ l (.list ys)) ρ:=by
 obtain⟨n,us,e0,_⟩:=D.hr.at_ _ _ hl
 refine D.set (s':={s with heap:=h',toks:=tk}) hl (bD.mpr (.inl rfl)) sb.2 ⟨n',vs,e,ev⟩ ?_ rfl rfl
 unfold foot dictAt
 show l::((h'.get? l).bind _).toList=_
 rw[e,e0];rfl
theorem Op.append {l:Addr}{xs:List V}{x:V}(hl:σ l=some (.list xs))(hz:xs.length≤1000000)(q:Q .none (upd σ l (.list (xs++[x])))):∀as:List Value,as.map er=[.ref l,x]→Op w Γ (PySem.call (.builtin "list.append") as) σ ρ Q:=by
 intro as ea S s D k X hk
 obtain⟨a,b,rfl,e1,e2⟩:=args_2 ea
 refine bJ e1 ?_
 obtain⟨n,vs,e0,ev⟩:=D.hr.at_ _ _ hl
 exact UK (M:=model aC w) e0 (λh' n' e sb=>hk .none _ _ q (D.Ju (tk:=s.toks) hl e sb (by rw[Array.toList_push,df,ev];simp[e2]))) (mR (by rw[fg ev];exact hz))
noncomputable abbrev AG (w:World)(Γ:Ctx)(f:Value)(ρ:LO)(Q:PQ):List V→Hp→Prop:=λvs σ=>∀as,as.map er=vs→Op w Γ (PySem.call f as) σ ρ Q
inductive UM (w:World)(Γ:Ctx)(name:Str)(pos:Pos)(args:List Expr)(ρ:LO)(Q:PQ)(ov:V)(σ:Hp):Prop
 |mk (a:Addr) (mo:MO) (T id:String) (e:ov=.ref a) (h:σ a=some mo) (m:match mo with|.list _=>T="list" |.dict _=>T="dict" |_=>False) (p:PlainAttrs T) (s:Slot T name id) (t:typeOf (.builtin id)=pure (.type "method_descriptor")) (q:eC w Γ pos args σ ρ (zN (AG w Γ (.builtin id) ρ Q) (.ref a)))
inductive UN (w:World)(Γ:Ctx)(pos:Pos)(args:List Expr)(ρ:LO)(Q:PQ)(fv:V)(σ:Hp):Prop
 |mk (id:String) (e:fv=.cK (.builtin id)) (q:eC w Γ pos args σ ρ (AG w Γ (.builtin id) ρ Q))
inductive UO (w:World)(Γ:Ctx)(pos:Pos)(args:List Expr)(ρ:LO)(Q:PQ)(fv:V)(σ:Hp):Prop
 |mk (T:String) (e:fv=.cK (.type T)) (q:eC w Γ pos args σ ρ (AG w Γ (.type T) ρ Q))
theorem ak.AH {o name apos args pos}(h:ak w Γ o σ ρ (UM w Γ name pos args ρ Q))
  (m7:∀env,attributeBase o name env (eval o env)=eval o env:=by intro _;rfl)
  (m8:∀env,((backTo pos (starEach args env)).all (λx=> !x.1)&&(backToKw pos (keywordEach [] env)).all (λx=>x.1.isSome)&&decide (args.length+([]:List Keyword).length+(if([]:List Keyword).isEmpty then 0 else 1)<30))=true:=by intro _;rfl)
  (eG:(apos.endLine==pos.line)=true:=by rfl)(hp:∀env,(backTo pos (starEach args env)).any (·.1)=false:=by intro _;rfl):ak w Γ (.Call (.Attribute o name apos) args [] pos) σ ρ Q:=by
 refine⟨λS s D k X hk=>wpAny_Call_method_late (m7 _) (m8 _) eG rfl (h.run S s D _ X λov av aH q aL=>?_)⟩
 obtain⟨a,mo,T,id,eo,sa,hm,pa,sl,ty,q⟩:=q
 refine bJ eo ?_
 have hT:av.TypeIs (.ref a) T∧∀b,Value.ref a=.ref b→∃ob,av.heap.get? b=some ob∧ob.dict=none:=by
  cases mo with
  |list xs=>obtain⟨n,vs,e,_⟩:=aL.hr.at_ _ _ sa;subst hm;exact⟨⟨_,e,rfl⟩,λb eb=>by cases eb;exact⟨_,e,rfl⟩⟩
  |dict xs=>obtain⟨n,vs,e,_⟩:=aL.hr.at_ _ _ sa;subst hm;exact⟨⟨_,e,rfl⟩,λb eb=>by cases eb;exact⟨_,e,rfl⟩⟩
  |tup xs=>exact hm.elim
  |inst C fs=>exact hm.elim
  |range i j c=>exact hm.elim
  |raw o od=>exact hm.elim
 refine⟨T,id,pa,sl,ty,hT.1,hT.2,callWith_builtin (hp _) (lU (hp _) (q.run S av aL _ X λvs aG aZ b_ aA=>?_))⟩
 exact b_ (.ref a::vs) rfl S aG aA k X hk
theorem ak.UP {x np pos args}(h:ak w Γ (.Name x np) σ ρ (UN w Γ pos args ρ Q))
  (hp:∀env,(backTo pos (starEach args env)).any (·.1)=false:=by intro _;rfl):ak w Γ (.Call (.Name x np) args [] pos) σ ρ Q:=by
 refine⟨λS s D k X hk=>qS (h.run S s D _ X λf av aH q aL=>?_)⟩
 obtain⟨id,e,q⟩:=q
 obtain rfl:=QK e
 exact callWith_builtin (hp _) (lU (hp _) (q.run S av aL _ X λvs aG aZ b_ aA=>b_ vs rfl S aG aA k X hk))
def gG:= @ak.UP
theorem ak.oP {x np pos args}(h:ak w Γ (.Name x np) σ ρ (UO w Γ pos args ρ Q))
  (hp:∀env,(backTo pos (starEach args env)).any (·.1)=false:=by intro _;rfl):ak w Γ (.Call (.Name x np) args [] pos) σ ρ Q:=by
 refine⟨λS s D k X hk=>qS (h.run S s D _ X λf av aH q aL=>?_)⟩
 obtain⟨T,e,q⟩:=q
 obtain rfl:=DM e
 exact PySem.callWith_type (hp _) (lU (hp _) (q.run S av aL _ X λvs aG aZ b_ aA=>b_ vs rfl S aG aA k X hk))
theorem Op.len {l:Addr}{xs:List V}(hl:σ l=some (.list xs))(hz:xs.length≤1000000)(q:Q (.int xs.length) σ):∀as:List Value,as.map er=[.ref l]→Op w Γ (PySem.call (.builtin "len") as) σ ρ Q:=by
 intro as ea S s D k X hk
 obtain⟨a,rfl,e1⟩:=args_1 ea
 refine bJ e1 ?_
 obtain⟨vs,hv,ev⟩:=(D.hr.at_ _ _ hl).isList
 refine call_len_list hv (by rw[fg ev];lia) (hk _ _ σ ?_ (D.toks _))
 show Q (.int _) σ
 rw[fg ev];exact q
theorem Op.UQ {l:Addr}{xs:LV}(hl:σ l=some (.dict xs))(hs:l≠sysModules)(hz:xs.length≤1000000)(q:Q (.int xs.length) σ):∀as:List Value,as.map er=[.ref l]→Op w Γ (PySem.call (.builtin "len") as) σ ρ Q:=by
 intro as ea S s D k X hk
 obtain⟨a,rfl,e1⟩:=args_1 ea
 refine bJ e1 ?_
 obtain⟨n,es,e,kv,k1,k2,k3,k4⟩:=D.hr.at_ _ _ hl
 have hd:s.heap.DictOf (strKind aC w) l kv:=⟨_,es,n,e,⟨rfl,rfl,rfl⟩,rfl,k1,k2,k3⟩
 have hlen:kv.length=xs.length:=by rw[←k4];simp
 refine call_len_dict (by simpa using hs) hd (by lia) (hk _ _ σ ?_ (D.toks _))
 show Q (.int _) σ
 rw[hlen];exact q
theorem Op.listOf {l:Addr}{xs:List V}(hl:σ l=some (.list xs)∨σ l=some (.tup xs))(hz:xs.length≤1000000)(q:∀a,σ a=none→Q (.ref a) (upd σ a (.list xs))):∀as:List Value,as.map er=[.ref l]→Op w Γ (PySem.call (.type "list") as) σ ρ Q:=by
 intro as ea S s D k X hk
 obtain⟨a,rfl,e1⟩:=args_1 ea
 refine bJ e1 ?_
 have fin:∀(T:String) (vs:Array Value) (n:Nat),(T="list"∨T="tuple")→s.heap.get? l=some {cls:=.type T,data:=.seq vs n}→vs.toList.map er=xs→wpAny (model aC w) Γ.A (PySem.call (.type "list") [.ref l]) k X s:=fun T vs n hT e ev=>by
  refine call_list_seq l hT e rfl rfl (λh' c' keep e'=>?_) (mR (by rw[fg ev];exact hz))
  have hn:s.heap.get? s.heap.objs.size=none:=jz (dp _)
  obtain⟨aA,fr⟩:=D.new (s':={s with heap:=h'}) (a:=s.heap.objs.size) (o:=.list xs) keep ⟨c',vs,e',ev⟩ (λb hb=>by
   rcases bD.mp hb with rfl|z
   exact hn
   unfold dictAt at z;rw[(rfl:({s with heap:=h'}:Shared).heap=h'),e']at z;cases z) rfl rfl
  exact hk (.ref _) _ _ (q _ fr) aA
 rcases hl with h|h
 obtain⟨n,vs,e,ev⟩:=D.hr.at_ _ _ h;exact fin "list" vs n (.inl rfl) e ev
 obtain⟨n,vs,e,ev⟩:=D.hr.at_ _ _ h;exact fin "tuple" vs n (.inr rfl) e ev
theorem Op.v5 {a C:Addr}{fs:List (Str×Option V)}(ha:σ a=some (.inst C fs))(hc:isIn (Kc w) (.ref C) C=true)(q:Q (.bool true) σ):∀as:List Value,as.map er=[.ref a,.ref C]→Op w Γ (PySem.call (.builtin "isinstance") as) σ ρ Q:=by
 intro as ea S s D k X hk
 obtain⟨x,y,rfl,e1,e2⟩:=args_2 ea
 refine bJ e1 ?_
 refine bJ e2 ?_
 obtain⟨d,es,n,sl,e,I,e2,f,nd⟩:=(D.hr.at_ _ _ ha).s8
 exact isi_call (K:=Kc w) (ji (D.known S)) (λM=>I.type) hc (by intro h;cases h) (hk _ s σ q D)
theorem az.Jv {m:Str→Option Value}{h':Heap}{vs:List Value}{n:Nat}{xs:List V}{k:VP}(D:az w Γ s σ ρ)(S:bt w Γ)(F:Fr Γ.h₀ Γ.FL s.heap m)(F':Fr Γ.h₀ Γ.FL h' m)(keep:∀b o,b≠Γ.FL→s.heap.get? b=some o→h'.get? b=some o)
  (e:h'.get? s.heap.objs.size=some {cls:=.type "list",data:=.seq vs.toArray n})(ev:vs.map er=xs)(hk:∀a s' σ',Q (er a) σ'→az w Γ s' σ' ρ→k a s')(q:∀a,σ a=none→Q (.ref a) (upd σ a (.list xs))):k (.ref s.heap.objs.size) {s with heap:=h'}:=by
 let a:=s.heap.objs.size
 have hn:s.heap.get? a=none:=jz (dp _)
 have tw:foot h' a=[a]:=by unfold foot dictAt;rw[(e:h'.get? a=_)];rfl
 have fr:σ a=none:=by
  cases z:σ a with
  |none=>rfl
  |some o=>obtain⟨ob,hz⟩:=(D.hr.at_ a o z).live a (bD.mpr (.inl rfl));rw[hn]at hz;cases hz
 have UR:∀b o,σ b=some o→∀c∈foot s.heap b,c≠Γ.FL:=λb o sb c hc z=>(D.free b o sb c hc).2 (z▸Γ.dG)
 have same:∀b o,σ b=some o→∀c∈foot s.heap b,h'.get? c=s.heap.get? c:=λb o sb c hc=>by
  obtain⟨z,hz⟩:=(D.hr.at_ b o sb).live c hc
  exact(keep c z (UR b o sb c hc) hz).trans hz.symm
 have H1:HR w h' σ:=D.hr.same same
 have fR:∀b o,σ b=some o→foot h' b=foot s.heap b:=λb o sb=>ey (same b o sb b (bD.mpr (.inl rfl)))
 have H2:HR w h' (upd σ a (.list xs)):=by
  have old:∀b o,σ b=some o→a∉foot h' b:=λb o sb hm=>by
   rw[fR b o sb]at hm
   obtain⟨z,hz⟩:=(D.hr.at_ b o sb).live a hm
   rw[hn]at hz;cases hz
  refine⟨λb ob sb=>?_,λb c ob oc sb sc ne y yb yc=>?_,?_⟩
  by_cases hb:b=a
  subst hb;rw[ai]at sb;cases sb;exact⟨n,vs.toArray,e,by rw[List.toList_toArray];exact ev⟩
  rw[aJ hb]at sb;exact H1.at_ b ob sb
  by_cases hb:b=a
  subst hb
  rw[aJ (Ne.symm ne)]at sc
  rw[tw,dm]at yb
  exact old c oc sc (yb▸yc)
  rw[aJ hb]at sb
  by_cases hc:c=a
  subst hc
  rw[tw,dm]at yc
  exact old b ob sb (yc▸yb)
  rw[aJ hc]at sc;exact H1.apart b c ob oc sb sc ne y yb yc
  obtain⟨l,hl⟩:=D.hr.fin
  refine⟨a::l,λb ob sb=>?_⟩
  by_cases hb:b=a
  subst hb;exact bA
  rw[aJ hb]at sb;exact bw _ (hl b ob sb)
 refine hk (.ref a) _ _ (q a fr) (D.zj S (λb o hb eb _=>keep b o hb eb) (λm' nm=>?_) H2 (λb ob sb c hc=>?_) rfl rfl)
 rw[nm.eq_nsMap,←F.ns.eq_nsMap];exact F'.ns
 by_cases hb:b=a
 subst hb
 rw[(tw:foot ({s with heap:=h'}:Shared).heap a=[a]),dm]at hc
 exact .inr (hc▸hn)
 rw[aJ hb]at sb;exact .inl ⟨b,ob,sb,fR b ob sb▸hc⟩
theorem Op.v7 {l b:Addr}{xs ys:List V}(hl:σ l=some (.list xs))(hb:σ b=some (.list ys))(hz:xs.length+ys.length≤1000000)(q:∀a,σ a=none→Q (.ref a) (upd σ a (.list (xs++ys)))):
  ∀a' b',er a'=.ref l→er b'=.ref b→Op w Γ (binaryOp .Add a' b') σ ρ Q:=by
 intro a' b' ea eb S s D k X hk
 refine bJ ea ?_
 refine bJ eb ?_
 obtain⟨vs,hv,ev⟩:=(D.hr.at_ _ _ hl).isList
 obtain⟨us,hu,eu⟩:=(D.hr.at_ _ _ hb).isList
 obtain⟨m,F⟩:=D.fr
 refine add_arrays F (vy (but:=λ_=>false)) hv hu (λh' F' N'=>?_) (mR (by rw[fg ev,fg eu];exact hz))
 have nx:=N' _ bA
 have keep:∀b o,b≠Γ.FL→s.heap.get? b=some o→h'.get? b=some o:=λb o hb e=>vz F F' N' (λp hp=>bw _ hp) b o hb rfl e
 exact D.Jv S F F' keep nx.1 (by rw[List.toList_toArray,df,ev,eu]) hk q
end
inductive Sk:LV→Str→V→LV→Prop
 |nil {x v}:Sk [] x v [(x,v)]
 |here {x o r v}:Sk ((x,o)::r) x v ((x,v)::r)
 |there {p r x v r'}:p.1≠x→Sk r x v r'→Sk (p::r) x v (p::r')
noncomputable def oQ (p:Str×Value):Str×V:=(p.1,er p.2)
theorem US {kv:List (Str×Value)}{x:Str}{v':Value}(nd:(kv.map (·.1)).Nodup):∀{oR:LV},Sk (kv.map oQ) x (er v') oR→(stored kv x v').map oQ=oR:=by
 induction kv with
 |nil=>intro oR h;cases h;rfl
 |cons p r ih=>
  intro oR h
  obtain⟨k,u⟩:=p
  rw[bx,fz]at nd
  rw[bx]at h
  cases h with
  |here=>
   unfold stored
   rw[ck (by simp)]
   rw[bx,ck rfl,map_store_of_not_mem r _ v' nd.1]
   rfl
  |there b8 hr=>
   have:=ih nd.2 hr
   rw[←this]
   unfold stored
   have Jw:¬k=x:=b8
   by_cases hm:r.any (λkv=>decide (kv.1=x))=true
   rw[ck hm,ck (by simp[hm]),bx,bK Jw,bx]
   rw[bK hm,bK (by simpa [Jw]using hm)];simp
theorem v8 {kv:List (Str×Value)}{x:Str}:(valueAt kv x).map er=keyOf (kv.map oQ) x:=by
 induction kv with
 |nil=>rfl
 |cons p r ih=>
  obtain⟨k,u⟩:=p
  unfold valueAt at ih ⊢
  rw[List.find?_cons,bx]
  unfold keyOf oQ
  by_cases h:k=x
  subst h;simp
  rw[i5 h]
  simp only[bK h]
  exact ih
section
variable{w:World}{Γ:Ctx}{s s':Shared}{σ σ':Hp}{ρ aR:LO}{Q:PQ}{QT:PF}
theorem At.dictOf {h:Heap}{d:Addr}{kvs:LV}(x:At w h d (.dict kvs)):∃kv:List (Str×Value),h.DictOf (strKind aC w) d kv∧kv.map oQ=kvs∧(kv.map (·.1)).Nodup:=by
 obtain⟨n,es,e,kv,k1,k2,k3,k4⟩:=x
 exact⟨kv,⟨_,es,n,e,⟨rfl,rfl,rfl⟩,rfl,k1,k2,k3⟩,k4,k3⟩
theorem At.Jx {h:Heap}{d:Addr}{kv:List (Str×Value)}(x:h.DictOf (strKind aC w) d kv):At w h d (.dict (kv.map oQ)):=by
 obtain⟨⟨c,dd,dt,sl⟩,es,n,e,⟨h1,h2,h3⟩,h4,k1,k2,k3⟩:=x
 simp only at h1 h2 h3 h4
 subst h1 h2 h3 h4
 exact⟨n,es,e,kv,k1,k2,k3,rfl⟩
theorem At.noDict {h:Heap}{a:Addr}{mo:MO}(x:At w h a mo)(hm:match mo with|.inst _ _=>False|.raw _ _=>False|_=>True):foot h a=[a]:=by
 unfold foot dictAt
 cases mo with
 |list xs=>obtain⟨n,vs,e,_⟩:=x;rw[e];rfl
 |tup xs=>obtain⟨n,vs,e,_⟩:=x;rw[e];rfl
 |dict xs=>obtain⟨n,vs,e,_⟩:=x;rw[e];rfl
 |inst C fs=>exact hm.elim
 |range i j c=>obtain⟨t,u,v,e⟩:=x;rw[e];rfl
 |raw o od=>exact hm.elim
theorem az.noSys (D:az w Γ s σ ρ)(S:bt w Γ){d:Addr}{o:MO}(h:σ d=some o):(d==sysModules)=false:=by
 rw[jB]
 intro q
 have:=(D.free d o h d (bD.mpr (.inl rfl))).1
 rw[q]at this
 rw[show sysModules=1 from rfl,S.K.sys]at this
 cases this
theorem Op.inD {d:Addr}{x:Str}{kvs:LV}(hd:σ d=some (.dict kvs))(q:Q (.bool (keyOf kvs x).isSome) σ):∀a' b',er a'=.str x→er b'=.ref d→Op w Γ (compareOp .In a' b') σ ρ Q:=by
 intro a' b' ea eb S s D k X hk
 refine gh ea λt=>?_
 refine bJ eb ?_
 obtain⟨kv,h1,h2,h3⟩:=(D.hr.at_ _ _ hd).dictOf
 refine wpAny_in_of (strKind_is aC w x t) (D.noSys S hd) h1.mapOf (hk _ _ σ ?_ (D.toks _))
 have:(valueAt kv x).isSome=(keyOf kvs x).isSome:=by rewrite [←h2,←v8,Option.isSome_map];rfl
 show Q (.bool _) σ
 rw[this];exact q
theorem Op.AI {d:Addr}{x:Str}{kvs:LV}(hd:σ d=some (.dict kvs))(q:Q (.bool (!(keyOf kvs x).isSome)) σ):∀a' b',er a'=.str x→er b'=.ref d→Op w Γ (compareOp .NotIn a' b') σ ρ Q:=by
 intro a' b' ea eb S s D k X hk
 refine gh ea λt=>?_
 refine bJ eb ?_
 obtain⟨kv,h1,h2,h3⟩:=(D.hr.at_ _ _ hd).dictOf
 refine wpAny_notIn_of (strKind_is aC w x t) (D.noSys S hd) h1.mapOf (hk _ _ σ ?_ (D.toks _))
 have:(valueAt kv x).isSome=(keyOf kvs x).isSome:=by rewrite [←h2,←v8,Option.isSome_map];rfl
 show Q (.bool _) σ
 rw[this];exact q
theorem Op.UT {d:Addr}{x:Str}{v:V}{kvs:LV}(hd:σ d=some (.dict kvs))(hv:keyOf kvs x=some v)(q:Q v σ):∀a' b',er a'=.ref d→er b'=.str x→Op w Γ (getItem a' b') σ ρ Q:=by
 intro a' b' ea eb S s D k X hk
 refine bJ ea ?_
 refine gh eb λt=>?_
 obtain⟨kv,h1,h2,h3⟩:=(D.hr.at_ _ _ hd).dictOf
 rw[←h2,←v8]at hv
 obtain⟨u,hu,rfl⟩:=eJ.mp hv
 exact wpAny_getItem_of (strKind_is aC w x t) h1.mapOf hu (hk _ _ σ q (D.toks _))
theorem Op.getD {d:Addr}{x:Str}{kvs:LV}(hd:σ d=some (.dict kvs))(q:Q ((keyOf kvs x).getD .none) σ):∀as:List Value,as.map er=[.ref d,.str x]→Op w Γ (PySem.call (.builtin "dict.get") as) σ ρ Q:=by
 intro as ea S s D k X hk
 obtain⟨a,b,rfl,e1,e2⟩:=args_2 ea
 refine bJ e1 ?_
 refine gh e2 λt=>?_
 obtain⟨kv,h1,h2,h3⟩:=(D.hr.at_ _ _ hd).dictOf
 refine call_meetsIn PySem.F.slot_dict_get h1.mapOf.typeIs PySem.F.entry_dict_get (PySem.F.args_dict_get_2 _ _) (meets_dict_get (strKind aC w) d (strKind_is aC w x t) (D.noSys S hd)) ⟨_,h1.mapOf,hk _ _ σ ?_ (D.toks _)⟩
 have:er ((valueAt kv x).getD .none)=(keyOf kvs x).getD .none:=by
  rw[←h2,←v8]
  cases valueAt kv x<;>rfl
 rw[this];exact q
inductive UU (QT:PF)(ρ:LO)(v ov iv:V)(σ:Hp):Prop
 |mk (l:Addr) (xs:List V) (j:Int) (e:ov=.ref l) (e':iv=.int j) (h:σ l=some (.list xs)) (h0:0≤j) (h1:j<xs.length) (z:xs.length≤1000000) (q:QT .next (upd σ l (.list (xs.set j.toNat v))) ρ)
inductive UW (QT:PF)(ρ:LO)(v ov iv:V)(σ:Hp):Prop
 |mk (d:Addr) (kvs:LV) (x:Str) (oR:LV) (e:ov=.ref d) (e':iv=.str x) (h:σ d=some (.dict kvs)) (z:kvs.length≤1000000) (s:Sk kvs x v oR) (q:QT .next (upd σ d (.dict oR)) ρ)
noncomputable abbrev UX (QT:PF)(ρ:LO)(v ov iv:V)(σ:Hp):Prop:=UU QT ρ v ov iv σ∨UW QT ρ v ov iv σ
noncomputable abbrev UY (w:World)(Γ:Ctx)(i:Expr)(ρ:LO)(QT:PF)(v:V):PQ:=λov σ=>ak w Γ i σ ρ (UX QT ρ v ov)
noncomputable abbrev UZ (w:World)(Γ:Ctx)(o i:Expr)(ρ:LO)(QT:PF):PQ:=λv σ=>ak w Γ o σ ρ (UY w Γ i ρ QT v)
theorem aT.U0 {o i Jy value pos}(h:ak w Γ value σ ρ (UZ w Γ o i ρ QT))
  (hs:∀env,swapsWith value (some (.Subscript o i Jy)) pos.line env=pure false:=by intro _;rfl):aT w Γ (.Assign [.Subscript o i Jy] value pos) σ ρ QT:=by
 refine⟨λS s D k X hk=>wpAny_Assign_Subscript (h.run S s D _ X λv av aH q aL=>q.run S av aL _ X λov aG aZ b_ aA=>b_.run S aG aA _ X λiv bI lS kg bN=>?_) (hs _)⟩
 rcases kg with⟨l,xs,j,e1,e2,hl,h0,h1,hz,q⟩|⟨d,kvs,x,oR,e1,e2,hd,hz,pV,q⟩
 refine bJ e1 ?_
 refine cL e2 λt=>?_
 obtain⟨n,vs,e,ev⟩:=bN.hr.at_ _ _ hl
 have sz:=fg ev
 refine UL e h0 (by lia) (by lia) λh' n' e' sb=>hk .next _ _ ρ q (bN.Ju (tk:=bI.toks) hl e' sb ?_)
 rw[Array.toList_setIfInBounds,←ev]
 exact List.map_set
 refine bJ e1 ?_
 refine gh e2 λt=>?_
 obtain⟨kv,h1,h2,h3⟩:=(bN.hr.at_ _ _ hd).dictOf
 refine wpAny_setItem_pairs (strKind_is aC w x t) h1 (λh' eN sb=>hk .next _ _ ρ q ?_) (by
  have:kv.length=kvs.length:=by rw[←h2];simp
  exact mR (by lia))
 have e:=US h3 (h2▸pV)
 have ha:=At.Jx (w:=w) eN
 rw[e]at ha
 refine bN.set (s':={bI with heap:=h',toks:=bI.toks+1}) hd (bD.mpr (.inl rfl)) sb.2 ha ?_ rfl rfl
 rw[At.noDict ha trivial,At.noDict (bN.hr.at_ _ _ hd) trivial]
def lh:= @aT.U0
end
noncomputable def ki (w:World)(C:Addr)(name:Str)(f:Addr):Bool:=(findIn (Kc w) (.ref C) name==some (some (.ref f)))&&isFn (Kc w) (.ref f)&&keepIn (Kc w) (.ref f)
section
variable{w:World}{Γ:Ctx}{s s':Shared}{σ σ':Hp}{ρ aR:LO}{Q:PQ}{QT:PF}
inductive U1 (w:World)(Γ:Ctx)(name:Str)(pos:Pos)(args:List Expr)(ρ:LO)(Q:PQ)(ov:V)(σ:Hp):Prop
 |mk (a C f:Addr) (fs:List (Str×Option V)) (e:ov=.ref a) (h:σ a=some (.inst C fs)) (c:gE w C=true) (m:ki w C name f=true) (n:name∉fs.map (·.1)) (q:eC w Γ pos args σ ρ (zN (z4 w Γ.d (.ref f) Q) (.ref a)))
inductive U2 (Q:PQ)(v:V)(σ:Hp):Prop
 |mk (i:Int) (e:v=.int i) (q:Q (.int (-i)) σ)
theorem ak.own {o name apos args pos}(h:ak w Γ o σ ρ (U1 w Γ name pos args ρ Q))
  (m7:∀env,attributeBase o name env (eval o env)=eval o env:=by intro _;rfl)
  (m8:∀env,((backTo pos (starEach args env)).all (λx=> !x.1)&&(backToKw pos (keywordEach [] env)).all (λx=>x.1.isSome)&&decide (args.length+([]:List Keyword).length+(if([]:List Keyword).isEmpty then 0 else 1)<30))=true:=by intro _;rfl)
  (eG:(apos.endLine==pos.line)=true:=by rfl)(hp:∀env,(backTo pos (starEach args env)).any (·.1)=false:=by intro _;rfl):ak w Γ (.Call (.Attribute o name apos) args [] pos) σ ρ Q:=by
 refine⟨λS s D k X hk=>?_⟩
 rw[arm_eval_Call,m7]
 refine aP (h.run S s D _ X λov av aH q aL=>?_)
 obtain⟨a,C,f,fs,eo,ha,hc,hm,hn,q⟩:=q
 refine bJ eo ?_
 obtain⟨d,es,n,sl,e,I,e2,ff,nd⟩:=(aL.hr.at_ _ _ ha).s8
 obtain⟨m,F⟩:=aL.fr
 unfold gE at hc
 simp only[fN]at hc
 obtain⟨⟨⟨c1,c2⟩,c3⟩,c4⟩:=hc
 unfold ki at hm
 simp only[fN]at hm
 obtain⟨⟨m1,m2⟩,m3⟩:=hm
 refine aP (j8 ?_)
 have AJ:methodCallForm (args.length+([]:List Keyword).length) (backTo pos (starEach args Γ.env)) (backToKw pos (keywordEach [] Γ.env))=true:=m8 _
 have gH:methodCallPos true o Γ.env apos pos=pure pos:=by unfold methodCallPos;simp[eG]
 unfold methodCall
 rw[AJ]
 refine aP (gA (method_inst (K:=Kc w) F (ji S.K) I (name:=name) c1 (beq_iff_eq.mp m1) m2 (fB.RI ff hn) ?_))
 refine aP (wpAny_of_eq gH ?_)
 have gX:(backTo pos (starEach args Γ.env)).any (·.1)=false:=hp _
 refine callWith_of (P:=(Kc w).In) (by rw[gX];rfl) (λh kY=>keeps_K m3 h kY) (lU gX (q.run S av aL _ X λvs aG aZ c aA=>⟨ji (aA.known S),?_⟩))
 exact c.ok (dp _) (args:=.ref a::vs) rfl rfl S aG aA k X hk
theorem ak.neg {x pos}(h:ak w Γ x σ ρ (U2 Q)):ak w Γ (.UnaryOp .USub x pos) σ ρ Q:=by
 refine⟨λS s D k X hk=>?_⟩
 show wpAny _ _ (do let v←eval x Γ.env;standAt pos;holding [v] (unaryOp .USub v)) _ _ _
 refine aP (h.run S s D _ X λv av aH q aL=>aP (j8 (gA ?_)))
 obtain⟨i,e,q⟩:=q
 refine cL e λt=>?_
 exact P.neg_int (hk _ _ aH q (aL.toks _))
theorem foldl_rep {α:Type}(vs:Array α):∀n:Nat,∀acc:Array α,(List.foldl (λx1 x2=>x1++x2) acc (List.replicate n vs)).toList=acc.toList++(List.replicate n vs.toList).flatten
 |0,acc=>by simp
 |n+1,acc=>by
  rw[List.replicate_succ,oh,foldl_rep vs n]
  simp[List.replicate_succ]
theorem Op.mulL {l:Addr}{xs:List V}{n:Nat}(hl:σ l=some (.list xs))(hn:n≤1000000)(hz:xs.length*n≤1000000)(q:∀a,σ a=none→Q (.ref a) (upd σ a (.list (List.replicate n xs).flatten))):
  ∀a' b',er a'=.ref l→er b'=.int (n:Int)→Op w Γ (binaryOp .Mult a' b') σ ρ Q:=by
 intro a' b' ea eb S s D k X hk
 refine bJ ea ?_
 refine cL eb λt=>?_
 obtain⟨c,vs,e,ev⟩:=D.hr.at_ _ _ hl
 obtain⟨m,F⟩:=D.fr
 have sz:=fg ev
 refine mul_list F (vy (but:=λ_=>false)) e (by lia) (by lia) (by rw[Int.toNat_natCast,sz];lia) (λh' F' N'=>?_)
 have nx:=N' _ bA
 have keep:∀b o,b≠Γ.FL→s.heap.get? b=some o→h'.get? b=some o:=λb o hb e=>vz F F' N' (λp hp=>bw _ hp) b o hb rfl e
 refine D.Jv S F F' keep (vs:=(List.foldl (λx1 x2=>x1++x2) #[] (List.replicate (if vs.isEmpty=true then 0 else(n:Int).toNat) vs)).toList) nx.1 ?_ hk q
 rw[foldl_rep,Int.toNat_natCast]
 by_cases hv:vs.isEmpty=true
 rw[ck hv]
 have:xs=[]:=by rw[←ev];simpa using hv
 simp[this]
 rw[bK hv]
 simp[List.map_flatten,ev]
end
section
variable{w:World}{Γ:Ctx}{s s':Shared}{σ σ':Hp}{ρ aR:LO}{Q:PQ}{QT:PF}
theorem Op.tA {n:Int}(q:∀a,σ a=none→Q (.ref a) (upd σ a (.range 0 n 1))):∀as:List Value,as.map er=[.int n]→Op w Γ (PySem.call (.type "range") as) σ ρ Q:=by
 intro as ea S s D k X hk
 obtain⟨a,rfl,e1⟩:=args_1 ea
 refine cL e1 λt=>?_
 refine call_range_1 ?_
 obtain⟨aA,fr⟩:=D.push (o:={cls:=.type "range",data:=.fields #[.int 0 s.toks,.int n t,.int 1 (s.toks+1)]}) (mo:=.range 0 n 1) rfl rfl ⟨_,_,_,oB⟩ (s.toks+1+1)
 exact hk (.ref _) _ _ (q _ fr) aA
theorem Op.U3 {m n c:Int}(hc:c≠0)(hb:c.natAbs<1073741824)(q:∀a,σ a=none→Q (.ref a) (upd σ a (.range m n c))):∀as:List Value,as.map er=[.int m,.int n,.int c]→Op w Γ (PySem.call (.type "range") as) σ ρ Q:=by
 intro as ea S s D k X hk
 obtain⟨a,b,d,rfl,e1,e2,e3⟩:=args_3 ea
 refine cL e1 λt=>?_
 refine cL e2 λu=>?_
 refine cL e3 λv=>?_
 refine call_range_3 hc ?_ (Or.inl (PyProof.noPylong_small hb))
 obtain⟨aA,fr⟩:=D.push (o:={cls:=.type "range",data:=.fields #[.int m t,.int n u,.int c v]}) (mo:=.range m n c) rfl rfl ⟨_,_,_,oB⟩ s.toks
 exact hk (.ref _) _ _ (q _ fr) aA
inductive U4 (w:World)(Γ:Ctx)(vars:KV)(x:Str)(body:List Stmt)(ρ:LO)(QT:PF)(v:V)(aH:Hp):Prop
 |mk (r:Addr) (a b c:Int) (n:Nat) (I:Nat→Hp→LO→Prop) (e:v=.ref r) (h:aH r=some (.range a b c)) (s:Builtin.Range.small a b c=true) (z:Builtin.Range.rangeSize a b c=(n:Int)) (i0:I 0 aH ρ) (st:∀i σ ρ,I i σ ρ→i<n→vX w Γ vars x body ρ (I (i+1)) QT (.int (a+i*c)) σ) (q:∀σ ρ,I n σ ρ→QT .next σ ρ)
theorem aT.Jz {vars}(hv:Γ.vars=vars) {x px iter body pos}
  (h:ak w Γ iter σ ρ (U4 w Γ vars x body ρ QT))
  (hs:∀env y,foldedSetIterable iter env y=pure y:=by intro _ _;rfl):aT w Γ (.For (.Name x px) iter body [] pos) σ ρ QT:=
 aT.Jo hv ⟨λS s D k X hk=>h.run S s D k X λv s' σ' q D'=>hk v s' σ' (by
  obtain⟨r,a,b,c,n,I,e,hr,hs,hz,i0,st,q⟩:=q
  have el:n=(jk a c n).length:=AB.symm
  refine⟨.range r a b c,jk a c n,I,e,⟨hr,hs,hz.trans (gf _ el)⟩,i0,λ_ _ _ _=>gf (jk a c) el,λi σ ρ y hI hy=>?_,by rw[←el];exact q⟩
  have hi:=(cp.mp hy).1
  rw[←el]at hi
  rw[AA hi]at hy;cases hy
  exact st i σ ρ hI hi) D'⟩ hs
end
section
variable{w:World}{Γ:Ctx}{s s':Shared}{σ σ':Hp}{ρ aR:LO}{Q:PQ}{QT:PF}
theorem Op.U5 {d:Addr}{kvs:LV}(hd:σ d=some (.dict kvs))(hz:kvs.length≤1000000)(q:∀a,σ a=none→Q (.ref a) (upd σ a (.list (kvs.map fun p=>.str p.1)))):∀as:List Value,as.map er=[.ref d]→Op w Γ (PySem.call (.type "list") as) σ ρ Q:=by
 intro as ea S s D k X hk
 obtain⟨a,rfl,e1⟩:=args_1 ea
 refine bJ e1 ?_
 obtain⟨n,es,e,kv,k1,k2,k3,k4⟩:=D.hr.at_ _ _ hd
 have hlen:kv.length=kvs.length:=by rw[←k4];simp
 refine kdl_call (kdl_dict (knd:=strKind aC w) (kvs:=kv) (ep:=n) (D.noSys S hd)) S.hh ⟨_,es,e,⟨rfl,rfl,rfl⟩,rfl,k1,k2,k3⟩ (mR (by lia)) λh' tk acc c' keep e' it=>?_
 have hn:s.heap.get? s.heap.objs.size=none:=jz (dp _)
 have hv:acc.toList.map er=kvs.map λp=>V.str p.1:=by
  apply List.ext_getElem?
  intro j
  rw[dI,dI,r_,←k4,dI]
  cases hj:acc[j]? with
  |none=>
   have:kv[j]? =none:=by
    rw[List.getElem?_eq_none_iff]
    have:=Array.getElem?_eq_none_iff.mp hj
    rw[it.1]at this;exact this
   rw[this];rfl
  |some v=>
   obtain⟨y,u,hy,hs⟩:=it.2 j v hj
   rw[hy]
   obtain⟨t,rfl⟩:=Value.isStrOf_shape hs
   rfl
 obtain⟨aA,fr⟩:=D.new (s':={s with heap:=h',toks:=tk}) (a:=s.heap.objs.size) (o:=.list (kvs.map λp=>.str p.1)) keep ⟨c',acc,e',hv⟩ (λb hb=>by
  rcases bD.mp hb with rfl|z
  exact hn
  unfold dictAt at z;rw[(rfl:({s with heap:=h',toks:=tk}:Shared).heap=h'),e']at z;cases z) rfl rfl
 exact hk (.ref _) _ _ (q _ fr) aA
end
theorem pW:VK.loc≠VK.free:=λh=>nomatch h
theorem AK:VK.cell≠VK.free:=λh=>nomatch h
noncomputable def ij (acc:List Str):V→List Str
 |.str s=>if s∈acc then acc else acc++[s]
 |_=>acc
noncomputable def dedup (xs:List V):List Str:=xs.foldl ij []
theorem U6 (acc:List Str)(x:Str):Sk (acc.map λs=>(s,V.bool true)) x (.bool true) ((ij acc (.str x)).map λs=>(s,V.bool true)):=by
 unfold ij
 dsimp only
 induction acc with
 |nil=>exact .nil
 |cons a r ih=>
  by_cases h:a=x
  subst h
  rw[ck bA]
  exact .here
  by_cases hm:x∈r
  rw[ck (bw _ hm)]
  rw[ck hm]at ih
  exact .there h ih
  rw[bK (by simp[hm,Ne.symm h])]
  rw[bK hm]at ih
  exact .there h ih
theorem AL (xs:List V):∀acc:List Str,(xs.foldl ij acc).length≤acc.length+xs.length:=by
 induction xs with
 |nil=>intro acc;simp
 |cons x r ih=>
  intro acc
  rw[oh]
  have h1:(ij acc x).length≤acc.length+1:=by
   unfold ij
   split
   split<;>simp
   lia
  have:=ih (ij acc x)
  simp only[List.length_cons]
  lia
theorem JA {α β:Type}(f:β→α→β)(b:β){xs:List α}{i:Nat}{x:α}(h:xs[i]? =some x):(xs.take (i+1)).foldl f b=f ((xs.take i).foldl f b) x:=by
 rw[eY,h,List.foldl_append];rfl
inductive U7 (σ:Hp)(l:Addr)(xs:List V)(a:Addr)(i:Nat)(τ:Hp)(ρ:LO):Prop
 |mk (o:Option V) (cQ:τ=upd σ a (.dict (((xs.take i).foldl ij []).map λs=>(s,V.bool true)))) (cR:ρ=[some (.ref l),some (.ref a),o])
theorem JB {w:World}{d:Nat}{σ:Hp}{Q:PQ}{l:Addr}{xs:List V}(hl:σ l=some (.list xs))(hx:∀x∈xs,x=.none∨∃s,x=.str s)(hz:xs.length≤1000000)
  (q:∀τ a,Ext σ τ→τ a=none→Q (.ref a) (upd τ a (.list ((dedup xs).map V.str)))):Call w (d+1) (.ref 1305) [.ref l] σ Q:=by
 refine TX fun Γ hd hv hg=>?_
 refine ae (aS hv (ak.oD λa ha=>⟨_,.there (.here pW),?_⟩))
 have vw:a≠l:=λq=>by rw[q,hl]at ha;cases ha
 refine ae (fF hv (ah hv .here ⟨l,xs,U7 σ l xs a,rfl,⟨_,rfl,rfl⟩,?_,?_,?_⟩))
 intro i τ ρ zqA;obtain⟨o,rfl,rfl⟩:=zqA
 rw[aJ vw.symm];exact hl
 intro i τ ρ y zqA;obtain⟨o,rfl,rfl⟩:=zqA;intro hy
 refine⟨_,.there bX,λown=>?_⟩
 have eD:(Γ.with own).vars=Aj:=hv
 have hlen:((xs.take i).foldl ij []).length≤1000000:=by
  have:=AL (xs.take i) []
  simp at this
  lia
 refine ae (aM (aF (aj eD 2 rfl rfl (bg (ax .d7 ⟨_,rfl,λhb=>?_,λhb=>?_⟩)))))
 rcases hx y (cS hy)with rfl|⟨t,rfl⟩
 cases hb
 refine ae (lh (gR (ah eD aD (aj eD 2 rfl rfl (.inr ⟨a,_,t,_,rfl,rfl,ai _ _ _,by simpa using hlen,U6 _ t,?_⟩)))))
 refine au (au ⟨_,?_,rfl⟩)
 rw[dk,JA ij [] hy]
 rcases hx y (cS hy)with rfl|⟨t,rfl⟩
 refine au (au ⟨_,?_,rfl⟩)
 rw[JA ij [] hy];rfl
 cases hb
 intro τ ρ zqA;obtain⟨o,rfl,rfl⟩:=zqA
 rw[fM]
 refine ae (a_ (ak.oP (cm hg (bA) ⟨"list",rfl,ar hv [1] rfl (Op.U5 (ai _ _ _) ?_ fun b hb=>?_)⟩)))
 have:=AL xs []
 simp at this ⊢
 lia
 show Q (.ref b) _
 have:=q _ b (af ha) hb
 rw[kM]
 exact this
theorem v9 (w:World):isIn (Kc w) (.ref 401) 401=true:=by rfl'
section
variable{w:World}{d:Nat}{σ:Hp}{Q:PQ}{a:Addr}{kind items attrs:V}
theorem aN {α:Type}{a:α}{l:List α}:a∈a::l:=bA
theorem aI {α:Type}{a b:α}{l:List α}(h:a∈l):a∈b::l:=bw _ h
theorem aQ {α:Type}{a0 b:α}{l:List α}:b∈a0::b::l:=aI (aN)
theorem cn {α:Type}{a0 a1 b:α}{l:List α}:b∈a0::a1::b::l:=aI (aI (aN))
theorem cY {α:Type}{a0 a1 a2 b:α}{l:List α}:b∈a0::a1::a2::b::l:=aI (aI (aI (aN)))
theorem fG {α:Type}{a0 a1 a2 a3 b:α}{l:List α}:b∈a0::a1::a2::a3::b::l:=aI (aI (aI (aI (aN))))
theorem gm {α:Type}{a0 a1 a2 a3 a4 b:α}{l:List α}:b∈a0::a1::a2::a3::a4::b::l:=aI (aI (aI (aI (aI (aN)))))
theorem kj {α:Type}{a0 a1 a2 a3 a4 a5 b:α}{l:List α}:b∈a0::a1::a2::a3::a4::a5::b::l:=aI (aI (aI (aI (aI (aI (aN))))))
theorem kl {α:Type}{a0 a1 a2 a3 a4 a5 a6 b:α}{l:List α}:b∈a0::a1::a2::a3::a4::a5::a6::b::l:=aI (aI (aI (aI (aI (aI (aI (aN)))))))
theorem iO {α:Type}{a0 a1 a2 a3 a4 a5 a6 a7 b:α}{l:List α}:b∈a0::a1::a2::a3::a4::a5::a6::a7::b::l:=aI (aI (aI (aI (aI (aI (aI (aI (aN))))))))
theorem ri {α:Type}{a0 a1 a2 a3 a4 a5 a6 a7 a8 b:α}{l:List α}:b∈a0::a1::a2::a3::a4::a5::a6::a7::a8::b::l:=aI (aI (aI (aI (aI (aI (aI (aI (aI (aN)))))))))
theorem v_ {α:Type}{a0 a1 a2 a3 a4 a5 a6 a7 a8 a9 b:α}{l:List α}:b∈a0::a1::a2::a3::a4::a5::a6::a7::a8::a9::b::l:=aI (aI (aI (aI (aI (aI (aI (aI (aI (aI (aN))))))))))
theorem AM {α:Type}{a0 a1 a2 a3 a4 a5 a6 a7 a8 a9 d_ b:α}{l:List α}:b∈a0::a1::a2::a3::a4::a5::a6::a7::a8::a9::d_::b::l:=aI (aI (aI (aI (aI (aI (aI (aI (aI (aI (aI (aN)))))))))))
theorem AN {α:Type}{a0 a1 a2 a3 a4 a5 a6 a7 a8 a9 d_ eT b:α}{l:List α}:b∈a0::a1::a2::a3::a4::a5::a6::a7::a8::a9::d_::eT::b::l:=aI (aI (aI (aI (aI (aI (aI (aI (aI (aI (aI (aI (aN))))))))))))
theorem AO {α:Type}{a0 a1 a2 a3 a4 a5 a6 a7 a8 a9 d_ eT gk b:α}{l:List α}:b∈a0::a1::a2::a3::a4::a5::a6::a7::a8::a9::d_::eT::gk::b::l:=aI (aI (aI (aI (aI (aI (aI (aI (aI (aI (aI (aI (aI (aN)))))))))))))
theorem tB {α:Type}{a0 a1 a2 a3 a4 a5 a6 a7 a8 a9 d_ eT gk gF b:α}{l:List α}:b∈a0::a1::a2::a3::a4::a5::a6::a7::a8::a9::d_::eT::gk::gF::b::l:=aI (aI (aI (aI (aI (aI (aI (aI (aI (aI (aI (aI (aI (aI (aN))))))))))))))
theorem JC {α:Type}{a0 a1 a2 a3 a4 a5 a6 a7 a8 a9 d_ eT gk gF ia b:α}{l:List α}:b∈a0::a1::a2::a3::a4::a5::a6::a7::a8::a9::d_::eT::gk::gF::ia::b::l:=aI (aI (aI (aI (aI (aI (aI (aI (aI (aI (aI (aI (aI (aI (aI (aN)))))))))))))))
theorem U8 {α:Type}{a0 a1 a2 a3 a4 a5 a6 a7 a8 a9 d_ eT gk gF ia ib b:α}{l:List α}:b∈a0::a1::a2::a3::a4::a5::a6::a7::a8::a9::d_::eT::gk::gF::ia::ib::b::l:=aI (aI (aI (aI (aI (aI (aI (aI (aI (aI (aI (aI (aI (aI (aI (aI (aN))))))))))))))))
theorem U9 {α:Type}{a0 a1 a2 a3 a4 a5 a6 a7 a8 a9 d_ eT gk gF ia ib kZ b:α}{l:List α}:b∈a0::a1::a2::a3::a4::a5::a6::a7::a8::a9::d_::eT::gk::gF::ia::ib::kZ::b::l:=aI (aI (aI (aI (aI (aI (aI (aI (aI (aI (aI (aI (aI (aI (aI (aI (aI (aN)))))))))))))))))
theorem U_ (ha:σ a=some (.inst 401 (aV kind items attrs)))(q:Q (.bool true) σ):Call w (d+1) (.ref 616) [.ref a] σ Q:=by
 refine SY fun Γ hd hv hg=>?_
 exact ae (a_ (gG (cm hg aN ⟨"isinstance",rfl,aq (ah hv .here (aq (cm hg aQ (aK (Op.v5 ha (v9 w) q)))))⟩)))
theorem JD (ha:σ a=some (.inst 401 (aV kind items attrs)))(q:Q (.ref a) σ):Call w (d+1) (.ref 644) [.ref a] σ Q:=by
 refine S2 fun Γ hd hv hg=>?_
 refine ae (aM (c8 (gG (cm hg aN ⟨"isinstance",rfl,aq (ah hv .here (aq (cm hg aQ (aK (Op.v5 ha (v9 w) ⟨true,.bool,fun _=>?_,tf⟩)))))⟩))))
 refine ae (ic (gR (ah hv .here ⟨a,401,_,_,rfl,ha,.there (ne_str (by rfl')) (EK (by rfl')),bG,dT w,Jl w,?_⟩)))
 refine dj.wk (Wk.back ha (.inst (.cons ⟨rfl,.inr rfl⟩ (.cons ⟨rfl,.inr rfl⟩ (.cons ⟨rfl,.inr rfl⟩ (.cons ⟨rfl,.inl rfl⟩ (.cons ⟨rfl,.inl rfl⟩ .nil))))))) (au ?_)
 exact ae (a_ (ah hv .here q))
theorem Va {name:V}(ha:σ a=some (.inst 401 (aV kind items .none)))(q:Q .none σ):Call w (d+1) (.ref 651) [.ref a,name] σ Q:=by
 refine Gm fun Γ hd hv hg=>?_
 exact ae (aM (aF (aU (ah hv .here (bF ha cn (dT w) (mV w) rfl (bg (ax .bB ⟨_,rfl,λ_=>ae (a_ (bg q)),tf⟩)))))))
theorem Vb {name:Str}{e:Addr}{kvs:LV}(ha:σ a=some (.inst 401 (aV kind items (.ref e))))(he:σ e=some (.dict kvs))(q:Q ((keyOf kvs name).getD .none) σ):Call w (d+1) (.ref 651) [.ref a,.str name] σ Q:=by
 refine Gm fun Γ hd hv hg=>?_
 refine ae (aM (aF (aU (ah hv .here (bF ha cn (dT w) (mV w) rfl (bg (ax .bB ⟨_,rfl,(ft),λ_=>au ?_⟩)))))))
 exact ae (a_ (ak.AH (aU (ah hv .here (bF ha cn (dT w) (mV w) rfl ⟨e,_,"dict","dict.get",rfl,he,rfl,PySem.F.plainAttrs_dict,PySem.F.slot_dict_get,PySem.F.type_dict_get,ar hv [1] rfl (Op.getD he q)⟩)))))
theorem m9 {v:V}{name:V}(hv:bB v=false)(q:Q v σ):Call w (d+1) (.ref 951) [v,name] σ Q:=by
 refine Tp fun Γ hd ik hg=>?_
 exact ae (aM (aF (ah ik .here (bg (ax .bB ⟨_,rfl,(λh=>by rw[hv]at h;cases h),λ_=>au (ae (a_ (ah ik .here q)))⟩)))))
theorem Vc {l:Addr}{xs:List V}(hl:σ l=some (.list xs))(hz:xs.length≤1000000)(q:∀b c,σ b=none→c≠b→σ c=none→Q (.ref c) (upd (upd σ b (.list xs)) c (.inst 401 (aV (.str "integer") (.ref b) .none)))):Call w (d+3) (.ref 561) [.ref l] σ Q:=by
 refine SP fun Γ hd hv hg=>?_
 refine ae (a_ (ak.call (cm hg aN ⟨401,rfl,by rfl',aq (bu (aq (ak.oP (cm hg aQ ⟨"list",rfl,ar hv [0] rfl (Op.listOf (.inl hl) hz fun b hb=>aK ?_)⟩))))⟩)))
 rw[hd]
 refine mW λc hc=>?_
 have jN:c≠b:=λh=>by subst h;rw[ai]at hc;cases hc
 exact q b c hb jN (by rw[aJ jN]at hc;exact hc)
end
section
variable{w:World}{d:Nat}{σ:Hp}{Q:PQ}{a:Addr}{kind items attrs:V}
inductive Attr (σ:Hp):V→Str→V→Prop
 |none {x}:Attr σ .none x .none
 |dict {e kvs x}:σ e=some (.dict kvs)→Attr σ (.ref e) x ((keyOf kvs x).getD .none)
theorem oS {name:Str}{v:V}(ha:σ a=some (.inst 401 (aV kind items attrs)))(h:Attr σ attrs name v)(q:Q v σ):Call w (d+1) (.ref 651) [.ref a,.str name] σ Q:=by
 cases h with
 |none=>exact Va ha q
 |dict he=>exact Vb ha he q
theorem Vd (ha:σ a=some (.inst 401 (aV kind items attrs)))(h:Attr σ attrs (Str.ofString "class") .none)(q:∀b,σ b=none→Q (.ref b) (upd σ b (.list []))):Call w (d+2) (.ref 708) [.ref a] σ Q:=by
 refine GD fun Γ hd hv hg=>?_
 refine ae (aS hv (ak.call (cm hg aN ⟨651,rfl,by rfl',ar hv [0] rfl ?_⟩)))
 rw[hd]
 refine oS ha h ⟨_,.there (.here pW),?_⟩
 refine ae (aM (aF (ah hv aD (bg (ax .bB ⟨_,rfl,λ_=>?_,tf⟩)))))
 exact ae (a_ (bq (aK ⟨j9 _,q⟩)))
theorem AP {c l:Addr}{k2 a2:V}{xs:List V}(ha:σ a=some (.inst 401 (aV kind items attrs)))(h:Attr σ attrs (Str.ofString "class") (.ref c))(hc:σ c=some (.inst 401 (aV k2 (.ref l) a2)))(hl:σ l=some (.list xs))(hz:xs.length≤1000000)
  (q:∀b,σ b=none→Q (.ref b) (upd σ b (.list xs))):Call w (d+2) (.ref 708) [.ref a] σ Q:=by
 refine GD fun Γ hd hv hg=>?_
 refine ae (aS hv (ak.call (cm hg aN ⟨651,rfl,by rfl',ar hv [0] rfl ?_⟩)))
 rw[hd]
 refine oS ha h ⟨_,.there (.here pW),?_⟩
 refine ae (aM (aF (ah hv aD (bg (ax .bB ⟨_,rfl,(ft),λ_=>au ?_⟩)))))
 exact ae (a_ (ak.oP (cm hg aQ ⟨"list",rfl,aq (aU (ah hv aD (bF hc aQ (dT w) (pT w) rfl (aK (Op.listOf (.inl hl) hz q)))))⟩)))
theorem JE (ha:σ a=some (.inst 401 (aV kind items attrs)))(h:Attr σ attrs (Str.ofString "dim") .none)(q:Q .none σ):Call w (d+2) (.ref 696) [.ref a] σ Q:=by
 refine S6 fun Γ hd hv hg=>?_
 refine ae (aS hv (ak.call (cm hg aN ⟨651,rfl,by rfl',ar hv [0] rfl ?_⟩)))
 rw[hd]
 refine oS ha h ⟨_,.there (.here pW),?_⟩
 exact ae (aM (aF (ah hv aD (bg (ax .bB ⟨_,rfl,λ_=>ae (a_ (bg q)),tf⟩)))))
theorem gn {l:Addr}{k:Str}{xs:List V}(hk:(Str.ofString "NULL"==k)=false)(ha:σ a=some (.inst 401 (aV (.str k) (.ref l) attrs)))(hl:σ l=some (.list xs))(hz:xs.length≤1000000)(q:Q (.int xs.length) σ):Call w (d+1) (.ref 609) [.ref a] σ Q:=by
 refine SX fun Γ hd hv hg=>?_
 refine ae (aS hv (aU (ah hv .here (bF ha aN (dT w) (l0 w) rfl ⟨_,.there (.here pW),?_⟩))))
 have pV:(k==Str.ofString "NULL")=false:=by
  rw[jB]at hk ⊢
  exact Ne.symm hk
 refine ae (aM (aF (ah hv aD (bu (ax (.eq .ss) ⟨_,rfl,(λh=>by rw[pV]at h;cases h),λ_=>au ?_⟩)))))
 refine ae (aM (cw (dK (c8 (gG (cm hg aN ⟨"isinstance",rfl,aq (ah hv .here (aq (cm hg aQ (aK (Op.v5 ha (v9 w) ⟨true,.bool,fun _=>⟨fun _=>?_,tf⟩,tf⟩)))))⟩))))))
 exact ae (a_ (gG (cm hg cn ⟨"len",rfl,aq (aU (ah hv .here (bF ha aQ (dT w) (pT w) rfl (aK (Op.len hl hz q)))))⟩)))
end
section
variable{w:World}{d:Nat}{σ:Hp}{Q:PQ}{a:Addr}{kind items attrs:V}
theorem Ve {l:Addr}{xs:List V}(hl:σ l=some (.list xs))(hz:xs.length≤1000000)(q:∀b c,σ b=none→c≠b→σ c=none→Q (.ref c) (upd (upd σ b (.list xs)) c (.inst 401 (aV (.str "character") (.ref b) .none)))):Call w (d+3) (.ref 568) [.ref l] σ Q:=by
 refine SQ fun Γ hd hv hg=>?_
 refine ae (a_ (ak.call (cm hg aN ⟨401,rfl,by rfl',aq (bu (aq (ak.oP (cm hg aQ ⟨"list",rfl,ar hv [0] rfl (Op.listOf (.inl hl) hz fun b hb=>aK ?_)⟩))))⟩)))
 rw[hd]
 refine mW λc hc=>?_
 have jN:c≠b:=λh=>by subst h;rw[ai]at hc;cases hc
 exact q b c hb jN (by rw[aJ jN]at hc;exact hc)
theorem JF {k:Str}(ha:σ a=some (.inst 401 (aV (.str k) items attrs)))(hk:(k==Str.ofString "integer")=false)(q:Q (.bool false) σ):Call w (d+1) (.ref 1267) [.ref a] σ Q:=by
 refine Af fun Γ hd hv hg=>?_
 refine ae (a_ (fQ (h_ (dP (aU (ah hv .here (bF ha aN (dT w) (l0 w) rfl (bu (ax (.eq .ss) ⟨_,.bool,(λh=>by rw[hk]at h;cases h),λ_=>?_⟩)))))))))
 show Q (.bool _) σ
 rw[hk];exact q
theorem AQ {v:V}(q:Q v σ):Call w (d+1) (.ref 575) [v,.none] σ Q:=by
 refine FZ fun Γ hd hv hg=>?_
 exact ae (aM (aF (ah hv aD (bg (ax .d7 ⟨_,rfl,(ft),λ_=>au (ae (a_ (ah hv .here q)))⟩)))))
theorem Vf {k:Str}(ha:σ a=some (.inst 401 (aV (.str k) items attrs)))(hk:k=Str.ofString "character"∨k=Str.ofString "integer"∨k=Str.ofString "logical")(q:∀b,σ b=none→Q (.bool true) (upd σ b (.tup [.str "logical",.str "integer",.str "double",.str "character"]))):
  Call w (d+1) (.ref 623) [.ref a] σ Q:=by
 refine S0 fun Γ hd hv hg=>?_
 refine ae (a_ (dP (aU (ah hv .here (bF ha aN (dT w) (l0 w) rfl (fD (ar rfl [] rfl ⟨j5 rfl,λb hb=>?_⟩)))))))
 refine ax (.vE (λy=>match y with|.str s=>s==k|_=>false) (ai _ _ _) (λy hy=>?_)) ?_
 simp only[aY,f9,gB]at hy
 rcases hy with rfl|rfl|rfl|rfl<;>exact .ss
 have:([V.str "logical",.str "integer",.str "double",.str "character"].any fun y=>match y with|.str s=>s==k|_=>false)=true:=by
  rcases hk with rfl|rfl|rfl<;>simp[List.any]
 show Q (.bool _) _
 rw[this]
 exact q b hb
end
noncomputable def cV (env:Env):SN→List (Str×Addr)→List (Str×Addr)
 | [],acc=>acc
 |(n,k)::r,acc=>match k==.free,env.cells.lookup n with
  |true,some c=>cV env r ((n,c)::acc)
  |_,_=>cV env r acc
theorem Vg {env:Env}{n:Str}{c:Addr}(h:env.cells.lookup n=some c):cellOf env n=pure c:=by unfold cellOf;rw[h]
theorem AR {scope:Scope}{env:Env}(h:∀n,(n,NameKind.free)∈scope.names→∃c,env.cells.lookup n=some c):closureFor scope env=pure (cV env scope.names []):=by
 unfold closureFor
 have key:∀(l:SN) (acc:List (Str×Addr)),(∀n,(n,NameKind.free)∈l→∃c,env.cells.lookup n=some c)→
   (forIn l acc λ(x:Str×NameKind)(r:List (Str×Addr))=>(match x with
    |(name,kind)=>if(kind==NameKind.free)=true then do
      let c←cellOf env name
      pure (ForInStep.yield ((name,c)::r))
     else pure (ForInStep.yield r):Sem (ForInStep (List (Str×Addr)))))=(pure (cV env l acc):Sem (List (Str×Addr))):=by
  intro l
  induction l with
  |nil=>intro acc _;rfl
  |cons p r ih=>
   intro acc hp
   obtain⟨n,k⟩:=p
   rw[List.forIn_cons]
   have hr:∀m,(m,NameKind.free)∈r→∃c,env.cells.lookup m=some c:=λm hm=>hp m (bw _ hm)
   unfold cV
   cases hk:(k==NameKind.free)with
   |true=>
    have:k=.free:=by simpa using hk
    subst this
    obtain⟨c,hc⟩:=hp n bA
    simp only[hk,if_true,Vg hc,hc]
    exact ih _ hr
   |false=>
    simp only[hk,jC,if_false]
    exact ih _ hr
 have:=key scope.names [] h
 simp only[this]
 rfl
theorem jl {env:Env}:∀{l:SN}{acc:List (Str×Addr)}{y:Str}{c:Addr},(y,c)∈cV env l acc→(y,c)∈acc∨((y,NameKind.free)∈l∧env.cells.lookup y=some c)
 | [],_,_,_,h=>.inl h
 |(n,k)::r,acc,y,c,h=>by
  unfold cV at h
  split at h
  ·next hk hc=>
   have:k=.free:=by simpa using hk
   subst this
   rcases jl h with h|h
   ·rcases aY.mp h with e|h
    ·cases e;exact .inr ⟨bA,hc⟩
    ·exact .inl h
   ·exact .inr ⟨bw _ h.1,h.2⟩
  ·rcases jl h with h|h
   ·exact .inl h
   ·exact .inr ⟨bw _ h.1,h.2⟩
theorem AS {env:Env}:∀{l:SN}{acc:List (Str×Addr)}{p:Str×Addr},p∈acc→p∈cV env l acc
 | [],_,_,h=>h
 |(n,k)::r,acc,p,h=>by
  unfold cV
  split
  exact AS (bw _ h)
  exact AS h
theorem m_ {env:Env}:∀{l:SN}{acc:List (Str×Addr)}{y:Str}{c:Addr},(y,NameKind.free)∈l→env.cells.lookup y=some c→(y,c)∈cV env l acc
 |(n,k)::r,acc,y,c,h,hc=>by
  unfold cV
  rcases aY.mp h with e|h
  cases e
  rw[hc]
  exact AS bA
  split
  exact m_ h hc
  exact m_ h hc
theorem rj {env:Env}:∀{l:SN}{acc:List (Str×Addr)},(l.map (·.1)).Nodup→(acc.map (·.1)).Nodup→(∀x∈l.map (·.1),x∉acc.map (·.1))→((cV env l acc).map (·.1)).Nodup
 | [],_,_,h,_=>h
 |(n,k)::r,acc,nd,ha,hd=>by
  rw[bx,fz]at nd
  unfold cV
  split
  refine rj nd.2 ?_ λy hy=>?_
  rw[bx,fz];exact⟨hd n bA,ha⟩
  rw[bx,aY,not_or]
  exact⟨λq=>nd.1 (by rw[←q];exact hy),hd y (bw _ hy)⟩
  exact rj nd.2 ha λy hy=>hd y (bw _ hy)
section
variable{w:World}{Γ:Ctx}{s s':Shared}{σ σ':Hp}{ρ aR:LO}{Q:PQ}
theorem JG {scope:Scope}{env:Env}(x:Str):(relabel scope env).names.lookup x=(scope.names.lookup x).map λk=>if(k==.free&&env.scope.kind==.function&&env.kindOf x==some .cell)then .cell else k:=by
 show(scope.names.map _).lookup x=_
 induction scope.names with
 |nil=>rfl
 |cons p r ih=>
  obtain⟨n,k⟩:=p
  rewrite [bx,kJ]
  have e:(if(k==NameKind.free&&env.scope.kind==.function&&env.kindOf n==some .cell)=true then(n,NameKind.cell)else(n,k))=(n,if(k==NameKind.free&&env.scope.kind==.function&&env.kindOf n==some .cell)=true then NameKind.cell else k):=by split<;>rfl
  dsimp only
  rewrite [e,kJ]
  cases h:(x==n)with
  |true=>
   have:x=n:=by simpa using h
   subst this
   rfl
  |false=>exact ih
noncomputable def Ctx.comp (Γ:Ctx)(scope:Scope)(C:Addr)(own:List (Addr×Obj))(vc:KV)(gc:LV)(m:Str→Option Value):Ctx:=
 {Γ with env:=compEnvC scope (cV Γ.env scope.names []) C Γ.env,kp:=own++Γ.kp,vars:=vc,gls:=gc,fm:=some m}
structure l6 (w:World)(Γ:Ctx)(scope:Scope)(vc:KV)(gc:LV):Prop where
 kind:scope.kind=.function
 nd:(scope.names.map (·.1)).Nodup
 bS:∀n,(n,NameKind.free)∈scope.names→(n,VK.cell)∈Γ.vars
 lY:∀p∈vc,(p.2=.loc∧(p.1,NameKind.local)∈scope.names)∨(p.2=.cell∧(p.1,NameKind.free)∈scope.names)
 mU:(vc.map (·.1)).Nodup
 db:∀x∈scope.names.map (·.1),(x==("__debug__":Str))=false∧(x==("__classdict__":Str))=false
 AU:∀p∈gc,(p.1,NameKind.globalImplicit)∈scope.names∧∃v,i9 w p.1=some v∧er v=p.2
theorem l6.cell {scope:Scope}{vc:KV}{gc:LV}(c:l6 w Γ scope vc gc)(S:bt w Γ){n:Str}(h:(n,NameKind.free)∈scope.names):Γ.env.kindOf n=some .cell∧∃a,Γ.env.cells.lookup n=some a:=S.vk _ (c.bS n h)
theorem l6.oU {scope:Scope}{vc:KV}{gc:LV}(c:l6 w Γ scope vc gc)(S:bt w Γ){n:Str}{k:NameKind}(h:(n,k)∈scope.names):(relabel scope Γ.env).names.lookup n=some (if k=.free then .cell else k):=by
 rw[JG,jM c.nd h]
 by_cases hk:k=.free
 subst hk
 have:=(c.cell S h).1
 simp[this,S.ek]
 simp[hk]
theorem bt.comp {scope:Scope}{C:Addr}{own:List (Addr×Obj)}{vc:KV}{gc:LV}{m:Str→Option Value}(S:bt w Γ)(c:l6 w Γ scope vc gc)
  (hC:C∉Γ.bM)(jm:Γ.h₀.get? C=none)(fj:∀p∈own,Γ.h₀.get? p.1=none∧p.1≠C∧p.1≠Γ.FL∧∀q∈cV Γ.env scope.names [],p.1≠q.2):bt w (Γ.comp scope C own vc gc m):=by
 have nh:∀y a,(cV Γ.env scope.names []).lookup y=some a→(y,NameKind.free)∈scope.names∧Γ.env.cells.lookup y=some a:=λy a h=>by
  rcases jl (mem_of_lookup h)with q|q
  cases q
  exact q
 have AV:((cV Γ.env scope.names []).map (·.1)).Nodup:=rj c.nd kK λx _ h=>nomatch h
 obtain⟨a1,a2,a3,a4,a5,a6,a7,a8,a9,d_,eT,gk,gF,ia,ib,kZ,k_,oH,oI,lV,iM,kh,lW,lX⟩:=id S
 refine⟨a1,λp hp=>?_,λp hp=>?_,a4,a5,a6,a7,c.kind,a9,d_,eT,λp hp=>?_,c.mU,λx y b hx hy=>?_,λx b hx=>?_,λh=>?_,λh=>?_,λp hp=>?_,λp hp=>?_,λh=>?_,λb hb=>?_,kh,lW,lX⟩
 refine c.db _ ?_
 rcases c.lY p hp with⟨_,h⟩|⟨_,h⟩<;>exact cB (f:=(·.1)) h
 obtain⟨h1,h2⟩:=c.AU p hp
 exact⟨c.oU S h1,(c.db _ (cB (f:=(·.1)) h1)).1,h2⟩
 obtain⟨x,k⟩:=p
 rcases c.lY _ hp with⟨e,h⟩|⟨e,h⟩
 have e:k=.loc:=e
 subst e
 exact c.oU S h
 have e:k=.cell:=e
 subst e
 obtain⟨_,a,ha⟩:=c.cell S h
 exact⟨c.oU S h,a,jM AV (m_ h ha)⟩
 exact ia x y b (nh x b hx).2 (nh y b hy).2
 obtain⟨h1,h2⟩:=nh x b hx
 have h3:=ib x b h2
 refine⟨h3.1,λq=>hC (by rw[show C=b from q.symm];exact eS h2),λ_=>?_⟩
 show b∉(own++Γ.kp).map (·.1)
 rw[df,cq,not_or]
 refine⟨λhm=>?_,h3.2.2 (c.bS x h1)⟩
 obtain⟨p,hp,e⟩:=cF.mp hm
 exact(fj p hp).2.2.2 (x,b) (mem_of_lookup hx) e
 rw[show(Γ.comp scope C own vc gc m).kp=own++Γ.kp from rfl,df,cq]at h
 rcases h with h|h
 obtain⟨p,hp,e⟩:=cF.mp h
 exact(fj p hp).2.1 e
 obtain⟨p,hp,e⟩:=cF.mp h
 exact hC (by rw[show C=p.1 from e.symm];exact iH hp)
 rw[show(Γ.comp scope C own vc gc m).kp=own++Γ.kp from rfl,df,cq]at h
 rcases h with h|h
 obtain⟨p,hp,e⟩:=cF.mp h
 exact(fj p hp).2.2.1 e
 exact k_ h
 rcases jl (l:=scope.names) (acc:=[]) (y:=p.1) (c:=p.2) hp with q|q
 cases q
 exact(ib _ _ q.2).1
 exact jM AV (show(p.1,p.2)∈cV Γ.env scope.names []from hp)
 exact absurd (show C=Γ.FL from h) λq=>hC (q▸Γ.dG)
 rcases aY.mp hb with rfl|hb
 exact iM _ Γ.dG
 rcases aY.mp hb with rfl|hb
 exact jm
 rcases cq.mp hb with hb|hb
 refine bZ hb λp hp=>?_
 rcases jl (l:=scope.names) (acc:=[]) (y:=p.1) (c:=p.2) hp with q|q
 cases q
 exact iM _ (eS q.2)
 rw[show(Γ.comp scope C own vc gc m).kp=own++Γ.kp from rfl,df,cq]at hb
 rcases hb with hb|hb
 refine bZ hb λp hp=>?_
 exact(fj p hp).1
 refine bZ hb λp hp=>?_
 exact iM _ (iH hp)
end
inductive ee (vars:KV)(ρ:LO):KV→LO→Prop
 |nil:ee vars ρ [] []
 |loc {x vc aX}:ee vars ρ vc aX→ee vars ρ ((x,.loc)::vc) (none::aX)
 |cell {y v vc aX}:Lk vars ρ y .cell v→ee vars ρ vc aX→ee vars ρ ((y,.cell)::vc) (some v::aX)
theorem ee.lk {vars vc:KV}{ρ aX:LO}(c:ee vars ρ vc aX){y:Str}{k:VK}{v:V}(l:Lk vc aX y k v):k=.cell∧Lk vars ρ y .cell v:=by
 induction c with
 |nil=>cases l
 |loc _ ih=>exact ih (l.inv.resolve_left λe=>nomatch e.2)
 |cell h _ ih=>
  rcases l.inv with⟨e1,e2⟩|l
  exact⟨(jG e1).2.symm,(jG e1).1▸j7 e2▸h⟩
  exact ih l
theorem ee.has {vars vc:KV}{ρ aX:LO}(c:ee vars ρ vc aX){y:Str}(h:(y,VK.cell)∈vc):∃v,Lk vc aX y .cell v:=by
 induction c with
 |nil=>cases h
 |loc _ ih=>
  rcases aY.mp h with e|h
  cases e
  obtain⟨v,l⟩:=ih h;exact⟨v,.there l⟩
 |cell hl _ ih=>
  rcases aY.mp h with e|h
  cases e;exact⟨_,.here⟩
  obtain⟨v,l⟩:=ih h;exact⟨v,.there l⟩
theorem Lk.fun {vars:KV}{ρ:LO}{y:Str}{k j:VK}{u v:V}(nd:(vars.map (·.1)).Nodup)(h1:Lk vars ρ y k u)(h2:Lk vars ρ y j v):k=j∧u=v:=by
 induction h1 with
 |here=>
  rw[bx,fz]at nd
  rcases h2.inv with⟨e1,e2⟩|l
  exact⟨(jG e1).2,j7 e2⟩
  exact absurd (cB (f:=(·.1)) l.mem) nd.1
 |there l1 ih=>
  rw[bx,fz]at nd
  rcases h2.inv with⟨e1,e2⟩|l
  exact absurd (e1▸cB (f:=(·.1)) l1.mem) nd.1
  exact ih nd.2 l
section
variable{w:World}{Γ:Ctx}{s s':Shared}{σ σ':Hp}{ρ aR aX:LO}{Q:PQ}{scope:Scope}{C:Addr}{own:List (Addr×Obj)}{vc:KV}{gc:LV}{m:Str→Option Value}
theorem JH (c:l6 w Γ scope vc gc){y:Str}{a:Addr}(h:(y,NameKind.free)∈scope.names)(ha:Γ.env.cells.lookup y=some a):(cV Γ.env scope.names []).lookup y=some a:=
 jM (rj (acc:=[]) c.nd kK λx _ h=>nomatch h) (m_ h ha)
theorem az.comp (S:bt w Γ)(D:az w Γ s σ ρ)(c:l6 w Γ scope vc gc)(bS:ee Γ.vars ρ vc aX)(keep:∀b o,s.heap.get? b=some o→s'.heap.get? b=some o)(hC:s.heap.get? C=none)(nC:s'.heap.Ns C λ_=>none)
  (fj:∀p∈own,s'.heap.get? p.1=some p.2∧Off s.heap σ p.1)(hm:s.heap.Ns Γ.FL m)(hg:s'.gens=s.gens)(ho:s'.os=s.os):az w (Γ.comp scope C own vc gc m) s' σ aX:=by
 obtain⟨m',F⟩:=D.fr
 obtain⟨ml,hl,hh⟩:=D.loc
 have fR:∀a o,σ a=some o→foot s'.heap a=foot s.heap a:=λa o sa=>by
  obtain⟨z,hz⟩:=(D.hr.at_ a o sa).live a (bD.mpr (.inl rfl))
  exact ey ((keep _ _ hz).trans hz.symm)
 refine⟨⟨m',Ns.at F.ns λo e=>keep _ _ e,λb o e=>keep b o (F.keep b o e),F.above⟩,D.hr.grow keep,λa o sa b hb=>?_,λp hp=>?_,λp hp=>?_,⟨_,nC,λx k v l=>?_⟩,hg.trans D.gens,ho.trans D.os,λf e=>?_⟩
 rw[fR a o sa]at hb
 have f:=D.free a o sa b hb
 refine⟨f.1,λhp=>?_⟩
 rcases aY.mp hp with rfl|hp
 exact f.2 Γ.dG
 rcases aY.mp hp with e|hp
 have e:b=C:=e
 rw[e]at hb
 obtain⟨z,hz⟩:=(D.hr.at_ a o sa).live _ hb
 rw[hC]at hz;cases hz
 rcases cq.mp hp with hp|hp
 obtain⟨p,hq,rfl⟩:=cF.mp hp
 rcases jl (l:=scope.names) (acc:=[]) (y:=p.1) (c:=p.2) hq with q|q
 cases q
 exact f.2 (eS q.2)
 rw[show(Γ.comp scope C own vc gc m).kp=own++Γ.kp from rfl,df,cq]at hp
 rcases hp with hp|hp
 obtain⟨p,hq,rfl⟩:=cF.mp hp
 exact(fj p hq).2 a o sa hb
 obtain⟨p,hq,rfl⟩:=cF.mp hp
 exact f.2 (iH hq)
 rcases cq.mp hp with hp|hp
 exact(fj p hp).1
 exact keep _ _ (D.kp p hp)
 rcases jl (l:=scope.names) (acc:=[]) (y:=p.1) (c:=p.2) hp with q|q
 cases q
 obtain⟨v,o,oO,hd⟩:=D.cells (p.1,p.2) (mem_of_lookup q.2)
 exact⟨v,o,keep _ _ oO,hd⟩
 obtain⟨rfl,lv⟩:=bS.lk l
 obtain⟨a,val,h1,⟨o,h2,h3⟩,h4⟩:=hh x .cell v lv
 have hf:(x,NameKind.free)∈scope.names:=by
  rcases c.lY _ l.mem with⟨e,_⟩|⟨_,h⟩
  cases e
  exact h
 exact⟨a,val,JH c hf h1,⟨o,keep _ _ h2,h3⟩,h4⟩
 cases e
 exact Ns.at hm λo e=>keep _ _ e
theorem az.Vh (S:bt w Γ)(D:az w Γ s σ ρ)(c:l6 w Γ scope vc gc)(bS:ee Γ.vars ρ vc aX)(full:∀y,(y,NameKind.free)∈scope.names→(y,VK.cell)∈vc)(hm:s.heap.Ns Γ.FL m)
  (o1:∀p∈own,p.1∈Γ.bM→s.heap.get? p.1=some p.2)(o2:Γ.env.locals=Γ.FL∨Γ.env.locals∈own.map (·.1))(o3:∀p∈Γ.env.cells,p.2∈own.map (·.1)∨(p.1,NameKind.free)∈scope.names)
  (D':az w (Γ.comp scope C own vc gc m) s' σ' aX):az w Γ s' σ' ρ:=by
 obtain⟨ml,hl,hh⟩:=D.loc
 have pX:∀b,b∈Γ.bM→b∈own.map (·.1)→∀o,s.heap.get? b=some o→s'.heap.get? b=some o:=λb hb hm o e=>by
  obtain⟨p,hp,rfl⟩:=cF.mp hm
  rw[o1 p hp hb]at e;cases e
  exact D'.kp p (gO _ hp)
 have sub:∀b,b∈Γ.bM→b∈(Γ.comp scope C own vc gc m).bM:=λb hb=>by
  have tC:b∈own.map (·.1)→b∈(Γ.comp scope C own vc gc m).bM:=λh=>bw _ (bw _ (jy _ (by
   rw[show(Γ.comp scope C own vc gc m).kp=own++Γ.kp from rfl,df];exact gO _ h)))
  rcases aY.mp hb with rfl|hb
  exact bA
  rcases aY.mp hb with rfl|hb
  rcases o2 with h|h
  rw[h];exact bA
  exact tC h
  rcases cq.mp hb with hb|hb
  obtain⟨p,hp,rfl⟩:=cF.mp hb
  rcases o3 p hp with h|h
  exact tC h
  have:=m_ (env:=Γ.env) (acc:=[]) h (S.cl p hp)
  exact bw _ (bw _ (gO _ (cB (f:=(·.2)) this)))
  exact bw _ (bw _ (jy _ (by
   rw[show(Γ.comp scope C own vc gc m).kp=own++Γ.kp from rfl,df];exact jy _ hb)))
 have tD:∀y a,Γ.env.cells.lookup y=some a→∀v k,Lk Γ.vars ρ y k v→(∃val,s.heap.IsCell a (some val)∧er val=v)→∃val,s'.heap.IsCell a (some val)∧er val=v:=λy a ha v k l h=>by
  rcases o3 (y,a) (mem_of_lookup ha)with hw|hf
  obtain⟨val,⟨o,h1,h2⟩,h3⟩:=h
  exact⟨val,⟨o,pX a (eS ha) hw o h1,h2⟩,h3⟩
  obtain⟨u,lu⟩:=bS.has (full y hf)
  obtain⟨_,AW⟩:=bS.lk lu
  obtain⟨_,rfl⟩:=Lk.fun S.nd l AW
  obtain⟨mc,nc,hc⟩:=D'.loc
  obtain⟨b,val,h1,h2,h3⟩:=hc y .cell _ lu
  have h1:(cV Γ.env scope.names []).lookup y=some b:=h1
  rw[JH c hf ha]at h1
  cases h1
  exact⟨val,h2,h3⟩
 refine⟨D'.fr,D'.hr,λa o sa b hb=>⟨(D'.free a o sa b hb).1,λhp=>(D'.free a o sa b hb).2 (sub b hp)⟩,λp hp=>D'.kp p (jy _ hp),λp hp=>?_,⟨ml,?_,λx k v l=>?_⟩,D'.gens,D'.os,λf e=>?_⟩
 rcases o3 p hp with h|h
 obtain⟨v,o,h1,h2⟩:=D.cells p hp
 exact⟨v,o,pX _ (ow hp) h o h1,h2⟩
 exact D'.cells (p.1,p.2) (m_ h (S.cl p hp))
 rcases o2 with h|h
 rw[h]at hl ⊢
 rw[hl.eq_nsMap,←hm.eq_nsMap]
 exact D'.fm m rfl
 exact Ns.at hl λo e=>pX _ Γ.fP h o e
 have hx:=hh x k v l
 cases k with
 |loc=>exact hx
 |cell=>
  obtain⟨a,val,h1,h2,h3⟩:=hx
  obtain⟨pY,h4,h5⟩:=tD x a h1 v .cell l ⟨val,h2,h3⟩
  exact⟨a,pY,h1,h4,h5⟩
 |free=>
  obtain⟨a,val,h1,h2,h3⟩:=hx
  obtain⟨pY,h4,h5⟩:=tD x a h1 v .free l ⟨val,h2,h3⟩
  exact⟨a,pY,h1,h4,h5⟩
 have:=D.fm f e
 rw[this.eq_nsMap,←hm.eq_nsMap]
 exact D'.fm m rfl
end
theorem Pt.sub {vs:KV}{ρ aR:LO}{x:Str}{v:V}(h:Pt vs ρ x v aR):∀{y k u},Lk vs ρ y k u→y≠x→Lk vs aR y k u:=by
 induction h with
 |here _=>exact λl ne=>.there (l.inv.resolve_left λe=>ne (jG e.1).1.symm)
 |there _ ih=>
  intro y k u l ne
  rcases l.inv with⟨e1,e2⟩|l
  exact e1▸e2▸.here
  exact .there (ih l ne)
section
variable{w:World}{Γ:Ctx}{s s':Shared}{σ σ':Hp}{ρ aR aX:LO}{Q:PQ}{scope:Scope}{C:Addr}{own:List (Addr×Obj)}{vc:KV}{gc:LV}{m:Str→Option Value}
theorem az.forget (D:az w Γ s σ ρ)(h:∀y k v,Lk Γ.vars aR y k v→Lk Γ.vars ρ y k v):az w Γ s σ aR:=
 ⟨D.fr,D.hr,D.free,D.kp,D.cells,let⟨m,n,k⟩:=D.loc;⟨m,n,λx j v l=>k x j v (h x j v l)⟩,D.gens,D.os,D.fm⟩
structure Vi (D:Addr)(ys:List V)(J:List V→Hp→Prop)(v:V)(σ:Hp):Prop where
 h:σ D=some (.list ys)
 le:ys.length≤1000000
 q:J (ys++[v]) (upd σ D (.list (ys++[v])))
noncomputable abbrev rk (w:World)(Γ:Ctx)(e:Expr)(ρ:LO)(D:Addr)(ys:List V)(J:List V→Hp→Prop):Bool→Hp→Prop:=λok σ=>Br ok (ak w Γ e σ ρ (Vi D ys J)) (J ys σ)
structure Vj (τ:Hp)(g:Option V)(v:V)(σ:Hp):Prop where
 e:σ=τ
 g:g=some v
structure Vk (τ:Hp)(g:Option V)(σ:Hp):Prop where
 e:σ=τ
 g:g=none
noncomputable abbrev JI (w:World)(Γ:Ctx)(e:Expr)(ρ:LO)(τ:Hp)(g:Option V):Bool→Hp→Prop:=λok σ=>Br ok (ak w Γ e σ ρ (Vj τ g)) (Vk τ g σ)
structure fp (w:World)(Γ:Ctx)(ifs:List Expr)(σ:Hp)(ρ:LO)(QB:Bool→Hp→Prop):Prop where
 run:Ok w Γ id (forIn ifs true λc r=>if r=true then do let ok←isTrue c Γ.env (eval c Γ.env);pure (ForInStep.yield ok)else pure (ForInStep.yield r)) σ ρ QB
theorem fp.nil {QB:Bool→Hp→Prop}(q:QB true σ):fp w Γ [] σ ρ QB:=⟨λS s D k X hk=>wpAny_tests_nil (hk true s σ q D)⟩
def dE:= @fp.nil
theorem fp.one {c:Expr}{QB:Bool→Hp→Prop}(h:dJ w Γ c σ ρ QB):fp w Γ [c] σ ρ QB:=⟨λS s D k X hk=>wpAny_tests_one (h.run S s D k X hk)⟩
theorem ownOf (S:bt w Γ)(D:az w Γ s σ ρ)(scope:Scope):∃own:List (Addr×Obj),(∀p∈own,p.1∈Γ.bM∧p.1≠Γ.FL∧s.heap.get? p.1=some p.2∧∀q∈cV Γ.env scope.names [],p.1≠q.2)∧(Γ.env.locals=Γ.FL∨Γ.env.locals∈own.map (·.1))∧
  ∀p∈Γ.env.cells,p.2∈own.map (·.1)∨(p.1,NameKind.free)∈scope.names:=by
 have live:=D.kR
 have hc:∀l:List (Str×Addr),(∀p∈l,p∈Γ.env.cells)→∃own:List (Addr×Obj),(∀p∈own,p.1∈Γ.bM∧p.1≠Γ.FL∧s.heap.get? p.1=some p.2∧∀q∈cV Γ.env scope.names [],p.1≠q.2)∧∀p∈l,p.2∈own.map (·.1)∨(p.1,NameKind.free)∈scope.names:=by
  intro l
  induction l with
  |nil=>intro _;exact⟨[],λp hp=>(nomatch hp),λp hp=>(nomatch hp)⟩
  |cons p r ih=>
   intro hl
   obtain⟨own,h1,h2⟩:=ih λq hq=>hl q (bw _ hq)
   have hp:=hl p bA
   by_cases hf:(p.1,NameKind.free)∈scope.names
   exact⟨own,h1,λq hq=>by
    rcases aY.mp hq with rfl|hq
    exact .inr hf
    exact h2 q hq⟩
   obtain⟨o,ho⟩:=live p.2 (ow hp)
   refine⟨(p.2,o)::own,λq hq=>?_,λq hq=>?_⟩
   rcases aY.mp hq with rfl|hq
   refine⟨ow hp,S.fc p hp,ho,λq hq e=>?_⟩
   rcases jl (l:=scope.names) (acc:=[]) (y:=q.1) (c:=q.2) hq with z|z
   cases z
   have e:p.2=q.2:=e
   have:=S.cd p.1 q.1 q.2 (e▸S.cl p hp) z.2
   exact hf (this▸z.1)
   exact h1 q hq
   rcases aY.mp hq with rfl|hq
   exact .inl bA
   rcases h2 q hq with z|z
   exact .inl (bw _ z)
   exact .inr z
 obtain⟨own,h1,h2⟩:=hc Γ.env.cells λp hp=>hp
 by_cases hL:Γ.env.locals=Γ.FL
 exact⟨own,h1,.inl hL,h2⟩
 obtain⟨o,ho⟩:=live _ Γ.fP
 refine⟨(Γ.env.locals,o)::own,λq hq=>?_,.inr bA,λq hq=>(h2 q hq).imp (bw _) id⟩
 rcases aY.mp hq with rfl|hq
 refine⟨Γ.fP,hL,ho,λq hq e=>?_⟩
 rcases jl (l:=scope.names) (acc:=[]) (y:=q.1) (c:=q.2) hq with z|z
 cases z
 exact(S.lc _ _ z.2).2.1 e.symm
 exact h1 q hq
end
section
variable{prog:Program}{w:World}{A:Around}{R:Result→Shared→Prop}
theorem Vl {elt iter:Expr}{tgt:Expr}{ifs:List Expr}{scope:Scope}{pos:Pos}{it acc:Value}{env:Env}(I:Nat→Shared→Prop)
  (turn:∀n s,I n s→wpAny (model prog w) A (pyNext it) (λr av=>match r with
   |none=>R (.ok .next) av
   |some v=>wpAny (model prog w) A (letOwnedTupleGo tgt it v) (λ_ av=>wpAny (model prog w) A (assign tgt env v) (λ_ aG=>
     wpAny (model prog w) A (forIn ifs true λc r=>if r=true then do let ok←isTrue c env (eval c env);pure (ForInStep.yield ok)else pure (ForInStep.yield r)) (λok bI=>
      if ok=true then wpAny (model prog w) A (eval elt env) (λx gi=>
       wpAny (model prog w) A (call (.builtin "list.append") [acc,x]) (fun _ pZ=>∃m,m<n∧I m pZ) (notedBy (model prog w) A env fun e s'=>R (.error e) s') gi) (notedBy (model prog w) A env fun e s'=>R (.error e) s') bI
      else ∃m,m<n∧I m bI) (notedBy (model prog w) A env λe s'=>R (.error e) s') aG) (notedBy (model prog w) A env λe s'=>R (.error e) s') av) (notedBy (model prog w) A env λe s'=>R (.error e) s') av) (notedBy (model prog w) A env λe s'=>R (.error e) s') s)
  (n:Nat)(h:I n s):
  codeAny (model prog w) A (.compLoop (.ListComp elt [⟨tgt,iter,ifs,0⟩] scope pos) 0 it acc env) R s:=by
 refine codeAny_loop rfl I (λn s hI=>?_) n h
 show wpAny _ A ((compTurn (.ListComp elt [⟨tgt,iter,ifs,0⟩] scope pos) 0 it acc env).onRaise (λx=>do noteFrame x env;theTreesLotGoes x)) _ _ s
 refine wpAny_noted ?_
 rw[compTurn_list]
 refine aP (j8 (aP (j_ (turn n s hI) (λr av h₁=>?_) λ_ _ h'=>h')))
 cases r with
 |none=>exact bY h₁
 |some v=>
  refine aP (j_ h₁ (λ_ av h₁=>?_) λ_ _ h'=>h')
  refine aP (j_ h₁ (λ_ aG iJ=>aP (j_ iJ (λok bI mT=>?_) λ_ _ h'=>h')) λ_ _ h'=>h')
  cases ok with
  |false=>exact bY ⟨rfl,mT⟩
  |true=>
   exact aP (aP (j_ mT (λx gi p_=>aP (j_ p_ (λ_ pZ tE=>bY (bY ⟨rfl,tE⟩)) λ_ _ h'=>h')) λ_ _ h'=>h'))
end
section
variable{w:World}{Γ:Ctx}{s s':Shared}{σ σ':Hp}{ρ aR aX:LO}{Q:PQ}{scope:Scope}{vc:KV}{gc:LV}
structure AX (w:World)(e:Expr)(vc:KV)(aX:LO)(y:V)(τ:Hp)(bj:LO):Prop where
 run:∀{Γ:Ctx},Γ.vars=vc→bt w Γ→∀{s:Shared},az w Γ s τ aX→∀{v:Value},er v=y→∀{k:Unit→Shared→Prop}{X:VP},(∀s',az w Γ s' τ bj→k () s')→wpAny (model aC w) Γ.A (assign e Γ.env v) k X s
theorem AX.name {x:Str}{px:Pos}{y:V}{τ:Hp}{bj:LO}(p:Pt vc aX x y bj):AX w (.Name x px) vc aX y τ bj:=
 ⟨λhv S s D v e k X hk=>wpAny_assign_Name (mP S D (by subst hv e;exact p) hk)⟩
structure tF (w:World)(d:Nat)(vc:KV)(gc:LV)(aX:LO)(tgt:Expr)(z:Src)(elt:Expr)(ifs:List Expr)(xs:List V)(D:Addr)(I:Nat→List V→Hp→Prop):Prop where
 lets:∀{A:Around}{s:Shared}{it:Addr}{i:Nat}{v:Value}{k:Unit→Shared→Prop}{X:VP},z.At s.heap it xs i→k () s→wpAny (model aC w) A (letOwnedTupleGo tgt (.ref it) v) k X s
 step:∀i ys τ y,I i ys τ→xs[i]? =some y→∃bj,AX w tgt vc aX y τ bj∧(∀z k u,Lk vc aX z k u→Lk vc bj z k u)∧∀Γc:Ctx,Γc.d=d→Γc.vars=vc→Γc.gls=gc→fp w Γc ifs τ bj (rk w Γc elt bj D ys (I (i+1)))
theorem tF.of {d:Nat}{x:Str}{px:Pos}{z:Src}{elt:Expr}{ifs:List Expr}{xs:List V}{D:Addr}{I:Nat→List V→Hp→Prop}{R:V→LO}(pt:∀y,Pt vc aX x y (R y))(tG:∀y k u bj v,Pt vc aX x v bj→Lk vc aX y k u→y≠x)
  (h:∀i ys τ y,I i ys τ→xs[i]? =some y→∀Γc:Ctx,Γc.d=d→Γc.vars=vc→Γc.gls=gc→fp w Γc ifs τ (R y) (rk w Γc elt (R y) D ys (I (i+1)))):tF w d vc gc aX (.Name x px) z elt ifs xs D I:=
 ⟨λ_ hk=>bY hk,λi ys τ y hI hy=>⟨R y,.name (pt y),λz k u l=>(pt y).sub l (tG z k u _ _ (pt y) l),h i ys τ y hI hy⟩⟩
theorem JJ {elt tgt iter:Expr}{ifs:List Expr}{pos:Pos}{z:Src}{it D:Addr}{xs:List V}{I:Nat→List V→Hp→Prop}{oi:Obj}{Γc:Ctx}(nj:it∉Γc.bM∧Γc.h₀.get? it=none)(Sc:bt w Γc)
  (hv:Γc.vars=vc)(hg:Γc.gls=gc)(B:tF w Γc.d vc gc aX tgt z elt ifs xs D I)(ok:∀i ys τ,I i ys τ→z.Ok τ xs)(I0:I 0 [] σ)(hD:az w (Γc.with [(it,oi)]) s σ aX)(hit:z.At s.heap it xs 0)
  {R:Result→Shared→Prop}(fin:∀s' τ ys,I xs.length ys τ→az w Γc s' τ aX→R (.ok .next) s'):
  codeAny (model aC w) Γc.A (.compLoop (.ListComp elt [⟨tgt,iter,ifs,0⟩] scope pos) 0 (.ref it) (.ref D) Γc.env) R s:=by
 subst hv hg
 have SW:∀o,bt w (Γc.with [(it,o)]):=λo=>Sc.with λp hp=>by rw[dm.mp hp];exact nj
 refine Vl (I:=λn s=>∃i ys τ o,n=xs.length-i∧i≤xs.length∧I i ys τ∧az w (Γc.with [(it,o)]) s τ aX∧z.At s.heap it xs i) (λn aG hI=>?_) xs.length ⟨0,[],σ,oi,rfl,j9 _,I0,hD,hit⟩
 obtain⟨i,ys,τ,o,rfl,hi,Ii,aA,hit⟩:=hI
 refine z.next aA Sc.hh (ok _ _ _ Ii) hit hi (λv h' o' tk mY oO vY sb=>?_) λtu h' ext=>?_
 have jh:=aA.Jn (tk:=tk) nj.1 nj.2 oO sb
 have dQ:i<xs.length:=(cp.mp mY).1
 obtain⟨bj,tg,AY,AZ⟩:=B.step i ys τ (er v) Ii mY
 have back:∀{gi:Shared}{wa:Hp}{A0:List V},I (i+1) A0 wa→az w (Γc.with [(it,o')]) gi wa bj→
   ∃m,m<xs.length-i∧∃i ys τ o,m=xs.length-i∧i≤xs.length∧I i ys τ∧az w (Γc.with [(it,o)]) gi τ aX∧z.At gi.heap it xs i:=λ{gi wa A0} Ij m6=>
  ⟨xs.length-(i+1),sg _ _ (by assumption),i+1,A0,wa,o',rfl,dQ,Ij,m6.forget λz k v lz=>AY z k v lz,vY _ (m6.without.2 (it,o') bA).1⟩
 refine B.lets (vY _ oO) ?_
 refine tg.run (Γ:=Γc.with [(it,o')]) rfl (SW o') jh rfl λbI pU=>?_
 refine(AZ (Γc.with [(it,o')]) rfl rfl rfl).run (SW o') bI pU _ _ λok gi jO q m6=>?_
 have q:Br ok _ _:=q
 cases ok with
 |false=>exact back (q.2 rfl) m6
 |true=>
  rw[ck rfl]
  refine(q.1 rfl).run (SW o') gi m6 _ _ λv pZ l7 b_ Vm=>?_
  obtain⟨A1,hz,Ij⟩:=b_
  exact Op.append A1 hz (Q:=λ_ bf=>bf=upd l7 D (.list (ys++[er v]))) rfl [.ref D,v] rfl (SW o') pZ Vm _ _ λ_ afo afp kg Vn=>by
   subst kg;exact back Ij Vn
 subst tu
 obtain⟨AF,fj⟩:=aA.without
 exact fin _ _ _ Ii (AF.tn nj.1 nj.2 (fj (it,o) bA).2 ext rfl rfl)
end
inductive Vo (w:World)(d:Nat)(vc:KV)(gc:LV)(aX:LO)(tgt:Expr)(z:Src)(elt:Expr)(ifs:List Expr)(QD:Addr→Hp→Prop)(xs:List V)(σ:Hp)(D:Addr):Prop
 |mk (I:Nat→List V→Hp→Prop) (i0:I 0 [] (upd σ D (.list []))) (k:∀i ys τ,I i ys τ→z.Ok τ xs) (st:tF w d vc gc aX tgt z elt ifs xs D I) (q:∀ys τ,I xs.length ys τ→QD D τ)
inductive JK (w:World)(d:Nat)(vc:KV)(gc:LV)(aX:LO)(tgt:Expr)(z:Src)(elt:Expr)(ifs:List Expr)(QD:Addr→Hp→Prop)(σ:Hp):Prop
 |mk (xs:List V) (h:z.St σ xs) (q:∀D,σ D=none→Vo w d vc gc aX tgt z elt ifs QD xs σ D)
structure rl (w:World)(Γ:Ctx)(scope:Scope)(tgt elt iter:Expr)(ifs:List Expr)(pos:Pos)(ρ:LO)(QD:Addr→Hp→Prop)(v:V)(σ:Hp):Prop where
 go:bt w Γ→∀{av:Shared}(aL:az w Γ av σ ρ) {v':Value},er v'=v→∀{X:VP}{RR:Value→Addr→Result→Shared→Prop},
  (∀D C s' τ,QD D τ→az w Γ s' τ ρ→C∉Γ.bM→Γ.h₀.get? C=none→Off s'.heap τ C→(∃mc,s'.heap.Ns C mc)→RR (.ref D) C (.ok .next) s')→
  wpAny (model aC w) Γ.A (pyIter v') (λit aG=>wpAny (model aC w) Γ.A (newList []) (λacc bI=>
   wpAny (model aC w) Γ.A (newFunctionEnv scope Γ.env.globals (cV Γ.env scope.names []) [] Γ.env.qual none .none (some Γ.env)) (λJL gi=>
    codeAny (model aC w) Γ.A (.compStart (.ListComp elt [⟨tgt,iter,ifs,0⟩] scope pos) 0 it acc {JL with scope:=relabel scope Γ.env}) (RR acc JL.locals) gi) X bI) X aG) X av
section
variable{w:World}{Γ:Ctx}{s s':Shared}{σ σ':Hp}{ρ aR aX:LO}{Q:PQ}{scope:Scope}{vc:KV}{gc:LV}
theorem A2 {elt tgt iter ifs pos}(c:l6 w Γ scope vc gc)(bS:ee Γ.vars ρ vc aX)(full:∀y,(y,NameKind.free)∈scope.names→(y,VK.cell)∈vc)(pM:∀y∈scope.names,y.2≠.cell)(z:Src){aH:Hp}{QD:Addr→Hp→Prop}
  (q:JK w Γ.d vc gc aX tgt z elt ifs QD aH):rl w Γ scope tgt elt iter ifs pos ρ QD (.ref z.addr) aH:=by
 refine⟨λS av aL v' ev X RR ends=>?_⟩
 refine bJ ev ?_
 obtain⟨xs,hb,q⟩:=q
 refine z.start aL hb λoi A3 Vp cM=>?_
 have N:=aL.AE A3
 generalize hit:av.heap.objs.size=it at N
 have nk:=N.out
 have nj:=N.h0
 have oN:=N.none_
 have aA:=N.dyn
 have A4:=N.at_
 have A5:=N.off
 refine wpAny_newObj_type ?_
 generalize hL:({cls:=.type "list",dict:=none,data:=.seq ([]:List Value).toArray}:Obj)=oL
 have A6:At w ((av.heap.push oi).push oL) (av.heap.push oi).objs.size (.list []):=by rw[←hL];exact At.newList (vs:=[])
 obtain⟨bN,tH⟩:=aA.push (o:=oL) (by rw[←hL];rfl) (by rw[←hL]) A6 av.toks
 generalize tI:(av.heap.push oi).objs.size=DD at bN tH
 obtain⟨I,I0,Il,B,fin⟩:=q DD tH
 have lp:it<DD:=by rw[←tI,jF,hit];exact Nat.lt_succ_self _
 refine wpAny_newFunctionEnv pM (by intro y hy;simp at hy) (λh₁ hV A7=>?_) c.kind
 generalize hH:(av.heap.push oi).push oL=H at hV A7 bN
 generalize iq:H.objs.size=C at hV A7
 have rm:DD<C:=by rw[←iq,←hH,jF,tI];exact Nat.lt_succ_self _
 have km:∀b o,H.get? b=some o→h₁.get? b=some o:=λb o e=>by
  refine(A7.2 b λq=>?_).trans (dy _ e)
  have:=f_ e
  rw[iq,q]at this;exact Nat.lt_irrefl _ this
 have lq:H.get? C=none:=jz (Nat.le_of_eq iq)
 have jm:Γ.h₀.get? C=none:=by
  cases e:Γ.h₀.get? C with
  |none=>rfl
  |some o=>obtain⟨m,F⟩:=bN.fr;rw[show H.get? C=some o from F.keep C o e]at lq;cases lq
 have ko:C∉Γ.bM:=λhp=>by obtain⟨o,e⟩:=bN.kR C hp;rw[show H.get? C=some o from e]at lq;cases lq
 obtain⟨own,o1,o2,o3⟩:=ownOf S bN scope
 obtain⟨m,F⟩:=bN.fr
 have SC:bt w (Γ.comp scope C own vc gc m):=S.comp c ko jm λp hp=>by
  obtain⟨a1,a2,a3,a4⟩:=o1 p hp
  exact⟨S.new _ a1,λq=>ko (q▸a1),a2,a4⟩
 have DC:az w (Γ.comp scope C own vc gc m) {av with heap:=h₁} (upd aH DD (.list [])) aX:=
  az.comp S bN c bS km lq (by simpa using hV) (λp hp=>⟨km _ _ (o1 p hp).2.2.1,bN.off (.inl (o1 p hp).1)⟩) F.ns rfl rfl
 have tJ:H.get? it=some oi:=by rw[←hH];exact dy _ A4
 have A8:it∉(Γ.comp scope C own vc gc m).bM:=λhp=>by
  rcases aY.mp hp with e|hp
  exact nk (e▸Γ.dG)
  rcases aY.mp hp with e|hp
  have e:it=C:=e
  rw[e]at lp;exact Nat.lt_asymm lp rm
  rcases cq.mp hp with hp|hp
  obtain⟨p,hq,e⟩:=cF.mp hp
  rcases jl (l:=scope.names) (acc:=[]) (y:=p.1) (c:=p.2) hq with z|z
  cases z
  exact nk (e▸eS z.2)
  rw[show(Γ.comp scope C own vc gc m).kp=own++Γ.kp from rfl,df,cq]at hp
  rcases hp with hp|hp
  obtain⟨p,hq,e⟩:=cF.mp hp
  exact nk (e▸(o1 p hq).1)
  obtain⟨p,hq,e⟩:=cF.mp hp
  exact nk (e▸iH hq)
 have A9:Off h₁ (upd aH DD (.list [])) it:=λa o sa hb=>by
  by_cases ha:a=DD
  subst ha
  have:foot h₁ a=[a]:=(DC.hr.at_ _ _ sa).noDict (by rw[ai]at sa;cases sa;trivial)
  rw[this,dm]at hb
  rw[hb]at lp;exact Nat.lt_irrefl _ lp
  rw[aJ ha]at sa
  obtain⟨z,hz⟩:=(aA.hr.at_ a o sa).live a (bD.mpr (.inl rfl))
  have hz:(av.heap.push oi).get? a=some z:=hz
  have:h₁.get? a=some z:=km _ _ (by rw[←hH];exact dy _ hz)
  rw[ey (this.trans hz.symm)]at hb
  exact A5 a o sa hb
 have DW:az w ((Γ.comp scope C own vc gc m).with [(it,oi)]) {av with heap:=h₁} (upd aH DD (.list [])) aX:=DC.with λp hp=>by
  rw[dm.mp hp];exact⟨km _ _ tJ,A9⟩
 have tK:z.At h₁ it xs 0:=cM _ _ (km _ _ tJ)
 have loop:codeAny (model aC w) Γ.A (.compLoop (.ListComp elt [⟨tgt,iter,ifs,0⟩] scope pos) 0 (.ref it) (.ref DD) (compEnvC scope (cV Γ.env scope.names []) C Γ.env)) (RR (.ref DD) C) {av with heap:=h₁}:=by
  refine JJ (Γc:=Γ.comp scope C own vc gc m) ⟨A8,nj⟩ SC rfl rfl B Il I0 DW tK λs' τ ys Ie De=>?_
  obtain⟨mc,nc,_⟩:=De.loc
  have Du:az w Γ s' τ ρ:=az.Vh S bN c bS full F.ns (λp hp _=>(o1 p hp).2.2.1) o2 o3 De
  have qc:Off s'.heap τ C:=λa o sa hb=>(De.free a o sa C hb).2 (bw _ bA)
  exact ends DD C s' τ (fin ys τ Ie) Du ko jm qc ⟨mc,nc⟩
 exact codeAny_compStart_list loop (z.again tK loop)
theorem ak.JM {elt tgt iter ifs pos}(Ba:bt w Γ→∀n,(n,NameKind.free)∈scope.names→∃c,Γ.env.cells.lookup n=some c)(kind:scope.kind=.function)(nd:(scope.names.map (·.1)).Nodup)
  (h:ak w Γ iter σ ρ (rl w Γ scope tgt elt iter ifs pos ρ λD τ=>Q (.ref D) τ))
  (hs:∀env y,foldedSetIterable iter env y=pure y:=by intro _ _;rfl):ak w Γ (.ListComp elt [⟨tgt,iter,ifs,0⟩] scope pos) σ ρ Q:=by
 refine⟨λS s D k X hk=>?_⟩
 rw[eval_ListComp]
 refine wpAny_comprehension_free (use:=none) rfl (hs Γ.env) (AR (Ba S)) kind (λy hy e=>jM nd (by rw[←e];exact hy)) ?_
 refine h.run S s D _ X λv av aH q aL=>?_
 refine q.go S aL rfl (RR:=λacc C=>compPost (model aC w) Γ.A X none k acc C) λDD C s' τ qd Du ko jm qc nC=>?_
 obtain⟨mc,nc⟩:=nC
 exact⟨mc,nc,λlg sb=>hk (.ref DD) _ τ qd (Du.tn (s':={s' with heap:=lg}) ko jm qc (λb o hb e=>(sb.2 b hb).trans e) rfl rfl)⟩
theorem aT.wb {vars}(hv:Γ.vars=vars) {elt tgt iter ifs pos y py gp}(Ba:bt w Γ→∀n,(n,NameKind.free)∈scope.names→∃c,Γ.env.cells.lookup n=some c)(kind:scope.kind=.function)(nd:(scope.names.map (·.1)).Nodup)(hy:(y,VK.loc)∈vars)(iP:∀k,(y,k)∈scope.names→k=.free∨k=.globalImplicit){QT:PF}
  (h:ak w Γ iter σ ρ (rl w Γ scope tgt elt iter ifs pos ρ λD τ=>kf vars y ρ QT (.ref D) τ))
  (eG:(py.line==pos.line)=true:=by rfl)(hs:∀env y,foldedSetIterable iter env y=pure y:=by intro _ _;rfl):aT w Γ (.Assign [.Name y py] (.ListComp elt [⟨tgt,iter,ifs,0⟩] scope pos) gp) σ ρ QT:=by
 subst hv
 refine⟨λS s D k X hk=>?_⟩
 have fH:Γ.env.kindOf y=some .local:=S.vk _ hy
 have Bb:swapsWith (.ListComp elt [⟨tgt,iter,ifs,0⟩] scope pos) (some (.Name y py)) gp.line Γ.env=pure true:=by
  unfold swapsWith
  have h1:Γ.env.blockKind=.function:=by unfold Env.blockKind;rw[S.ek];rfl
  have h2:(scope.names.any λ(n,k)=>n==y&&(k==.local||k==.cell))=false:=by
   rw[List.any_eq_false]
   intro p hp
   obtain⟨n,k⟩:=p
   by_cases e:n=y
   subst e
   rcases iP k hp with rfl|rfl<;>simp
   simp[e]
  show(pure (Γ.env.blockKind==.function&&Γ.env.kindOf y==some .local&&py.line==(Expr.ListComp elt [⟨tgt,iter,ifs,0⟩] scope pos).pos.line&& !(scope.names.any λ(n,k)=>n==y&&(k==.local||k==.cell))):Sem Bool)=pure true
  have h3:(py.line==(Expr.ListComp elt [⟨tgt,iter,ifs,0⟩] scope pos).pos.line)=true:=eG
  rw[h1,fH,h2,h3];rfl
 rw[exec_Assign_Name_used _ _ _ _ Bb]
 refine aP (j8 (aP ?_))
 show wpAny _ Γ.A (do let _←comprehension (.ListComp elt [⟨tgt,iter,ifs,0⟩] scope pos) scope Γ.env _ (newList []) false (eval iter Γ.env) (some (assign (.Name y py) Γ.env))) _ _ s
 refine aP (j_ (wpAny_comprehension_free (use:=some (assign (.Name y py) Γ.env)) (Q:=λ_ s'=>k .next s') rfl (hs Γ.env) (AR (Ba S)) kind (λy hy e=>jM nd (by rw[←e];exact hy)) ?_)
  (λ_ s' hq=>bY (bY hq)) λ_ _ e=>e)
 refine h.run S s D _ X λv av aH q aL=>?_
 refine q.go S aL rfl (RR:=λacc C=>compPost (model aC w) Γ.A X (some (assign (.Name y py) Γ.env)) (λ_ s'=>k .next s') acc C) λDD C s' τ qd Du ko jm qc nC=>?_
 obtain⟨mc,oC,es,ep,Vq,hd,Bc,nu⟩:=nC
 obtain⟨bj,pt,qd⟩:=qd
 have SW:bt w (Γ.with [(C,oC)]):=S.with λp hp=>by rw[dm.mp hp];exact⟨ko,jm⟩
 have DW:az w (Γ.with [(C,oC)]) s' τ ρ:=Du.with λp hp=>by rw[dm.mp hp];exact⟨Vq,qc⟩
 show wpAny _ Γ.A (assign (.Name y py) Γ.env (.ref DD)) _ _ _
 refine wpAny_assign_Name (mP (Γ:=Γ.with [(C,oC)]) SW DW pt λbI bN=>?_)
 obtain⟨Vr,ho⟩:=bN.without
 obtain⟨e3,Vs⟩:=ho (C,oC) bA
 exact⟨mc,⟨oC,es,ep,e3,hd,Bc,nu⟩,λlg sb=>hk .next _ τ bj qd (Vr.tn (s':={bI with heap:=lg}) ko jm Vs (λb o hb e=>(sb.2 b hb).trans e) rfl rfl)⟩
end
noncomputable def tL:Str×NameKind→Option (Str×VK)
 |(x,.local)=>some (x,.loc)
 |(x,.free)=>some (x,.cell)
 |_=>none
noncomputable def wc:Str×NameKind→Option (Str×VK)
 |(x,.free)=>some (x,.cell)
 |_=>none
noncomputable def Vt:Str×NameKind→Bool
 |(_,.cell)=>false
 |_=>true
theorem Vu {l:SN}:((l.filterMap tL).map (·.1)).Sublist (l.map (·.1)):=by
 induction l with
 |nil=>exact List.Sublist.refl _
 |cons p r ih=>
  obtain⟨x,k⟩:=p
  cases k<;>simp only[gz,tL,bx]<;>first|exact ih.cons_cons _|exact ih.cons _
theorem Vv {l:SN}{x:Str}{k:VK}(h:(x,k)∈l.filterMap tL):(k=.loc∧(x,NameKind.local)∈l)∨(k=.cell∧(x,NameKind.free)∈l):=by
 obtain⟨⟨y,j⟩,hm,e⟩:=i4.mp h
 cases j<;>simp only[tL]at e<;>cases e
 exact .inl ⟨rfl,hm⟩
 exact .inr ⟨rfl,hm⟩
structure bT (w:World)(Γ:Ctx)(scope:Scope)(vc:KV)(gc:LV):Prop where
 ok:l6 w Γ scope vc gc
 full:∀y,(y,NameKind.free)∈scope.names→(y,VK.cell)∈vc
 Bd:∀y∈scope.names,y.2≠.cell
theorem bT.of {w:World}{Γ:Ctx}{scope:Scope}{vars vc:KV}{gc:LV}(hv:Γ.vars=vars)(names:SN)(is gs:List Nat)
  (hk:scope.kind=.function)(hn:scope.names=names)(h:(rf names&&names.all Vt)=true∧names.filterMap tL=vc∧(names.filterMap wc).map some=is.map (λi=>vars[i]?)∧gc.map (·.1)=(names.filter rg).map (·.1)∧gc.map some=gs.map λi=>GT[i]?):bT w Γ scope vc gc:=by
 obtain⟨mN,qe,Be,Bf,rn⟩:=h
 rw[fN]at mN
 obtain⟨nd,db⟩:=z7 mN.1
 have n4:=mN.2
 have gv:=vP w gs rn
 refine⟨⟨hk,hn▸nd,λn hm=>?_,λp hp=>?_,?_,λx hx=>db x (hn▸hx),λp hp=>⟨hn▸z9 Bf p hp,eJ.mp (List.map_inj_left.mp gv p hp)⟩⟩,λy hy=>?_,λy hy=>?_⟩
 rw[hv]
 have:some (n,VK.cell)∈(names.filterMap wc).map some:=cB (i4.mpr ⟨(n,.free),hn▸hm,rfl⟩)
 rw[Be]at this
 obtain⟨i,_,e⟩:=cF.mp this
 exact cS e
 obtain⟨x,k⟩:=p
 rw[hn]
 exact Vv (qe▸hp)
 rw[←qe];exact Vu.nodup nd
 rw[←qe];exact i4.mpr ⟨(y,.free),hn▸hy,rfl⟩
 have:=ew.mp n4 y (hn▸hy)
 obtain⟨x,k⟩:=y
 intro q
 have q:k=.cell:=q
 subst q
 cases this
theorem JN {vars vc:KV}{ρ aX:LO}(bS:ee vars ρ vc aX)(nd:(vc.map (·.1)).Nodup){x:Str}(hx:(x,VK.loc)∈vc):∀y k u (bj:LO)(v:V),Pt vc aX x v bj→Lk vc aX y k u→y≠x:=by
 intro y k u bj v _ l e
 subst e
 obtain⟨rfl,_⟩:=bS.lk l
 cases zK nd l.mem hx
section
local macro_rules | `(tactic| trivial) => `(tactic| (and_intros <;> rfl'))
variable{w:World}{Γ:Ctx}{scope:Scope}
noncomputable abbrev Vw:SN:=[(".0",.local),("item",.local),("share",.globalImplicit)]
noncomputable abbrev Vx:KV:=[(".0",.loc),("item",.loc)]
noncomputable abbrev Vy:LV:=[("share",.ref 644)]
theorem JO (hv:Γ.vars=vQ)(hk:scope.kind=.function)(hn:scope.names=Vw):bT w Γ scope Vx Vy:=.of hv _ [] [7] hk hn (by trivial)
noncomputable abbrev Vz:SN:=[(".0",.local),("one",.local),("label_text",.globalImplicit),("levels",.free)]
noncomputable abbrev VA:KV:=[(".0",.loc),("one",.loc),("levels",.cell)]
noncomputable abbrev VB:LV:=[("label_text",.ref 672)]
theorem VC (hv:Γ.vars=th)(hk:scope.kind=.function)(hn:scope.names=Vz):bT w Γ scope VA VB:=.of hv _ [1] [14] hk hn (by trivial)
noncomputable abbrev VD:SN:=[(".0",.local),("item",.local),("level_at",.globalImplicit),("texts",.free)]
noncomputable abbrev VE:KV:=[(".0",.loc),("item",.loc),("texts",.cell)]
noncomputable abbrev VF:LV:=[("level_at",.ref 679)]
theorem VG (hv:Γ.vars=th)(hk:scope.kind=.function)(hn:scope.names=VD):bT w Γ scope VE VF:=.of hv _ [2] [15] hk hn (by trivial)
noncomputable abbrev VH:SN:=[(".0",.local),("item",.local),("label_text",.globalImplicit),("value",.free)]
noncomputable abbrev VI:KV:=[(".0",.loc),("item",.loc),("value",.cell)]
noncomputable abbrev VJ:LV:=[("label_text",.ref 672)]
theorem VL (hv:Γ.vars=th)(hk:scope.kind=.function)(hn:scope.names=VH):bT w Γ scope VI VJ:=.of hv _ [0] [14] hk hn (by trivial)
noncomputable abbrev VM:SN:=[(".0",.local),("place",.local),("self",.free)]
noncomputable abbrev VN:KV:=[(".0",.loc),("place",.loc),("self",.cell)]
noncomputable abbrev VO:LV:=[]
theorem VQ (hv:Γ.vars=Ab)(hk:scope.kind=.function)(hn:scope.names=VM):bT w Γ scope VN VO:=.of hv _ [0] [] hk hn (by trivial)
noncomputable abbrev VR:SN:=[(".0",.local),("arg",.local)]
noncomputable abbrev VS:KV:=[(".0",.loc),("arg",.loc)]
noncomputable abbrev VT:LV:=[]
theorem VU (hv:Γ.vars=Ac)(hk:scope.kind=.function)(hn:scope.names=VR):bT w Γ scope VS VT:=.of hv _ [] [] hk hn (by trivial)
noncomputable abbrev VV:SN:=[(".0",.local),("place",.local),("args",.free)]
noncomputable abbrev VW:KV:=[(".0",.loc),("place",.loc),("args",.cell)]
noncomputable abbrev VX:LV:=[]
theorem VY (hv:Γ.vars=Ad)(hk:scope.kind=.function)(hn:scope.names=VV):bT w Γ scope VW VX:=.of hv _ [0] [] hk hn (by trivial)
noncomputable abbrev VZ:SN:=[(".0",.local),("place",.local)]
noncomputable abbrev V0:KV:=[(".0",.loc),("place",.loc)]
noncomputable abbrev V1:LV:=[]
theorem V2 (hv:Γ.vars=Ae)(hk:scope.kind=.function)(hn:scope.names=VZ):bT w Γ scope V0 V1:=.of hv _ [] [] hk hn (by trivial)
noncomputable abbrev V3:SN:=[(".0",.local),("one",.local)]
noncomputable abbrev V4:KV:=[(".0",.loc),("one",.loc)]
noncomputable abbrev V5:LV:=[]
theorem V6 (hv:Γ.vars=Ah)(hk:scope.kind=.function)(hn:scope.names=V3):bT w Γ scope V4 V5:=.of hv _ [] [] hk hn (by trivial)
noncomputable abbrev V7:SN:=[(".0",.local),("code",.local),("count",.free)]
noncomputable abbrev V8:KV:=[(".0",.loc),("code",.loc),("count",.cell)]
noncomputable abbrev V9:LV:=[]
theorem V_ (hv:Γ.vars=Ai)(hk:scope.kind=.function)(hn:scope.names=V7):bT w Γ scope V8 V9:=.of hv _ [1] [] hk hn (by trivial)
noncomputable abbrev Wa:SN:=[(".0",.local),("place",.local),("texts",.free)]
noncomputable abbrev Wb:KV:=[(".0",.loc),("place",.loc),("texts",.cell)]
noncomputable abbrev Wc:LV:=[]
theorem We (hv:Γ.vars=Ak)(hk:scope.kind=.function)(hn:scope.names=Wa):bT w Γ scope Wb Wc:=.of hv _ [1] [] hk hn (by trivial)
noncomputable abbrev Wf:SN:=[(".0",.local),("one",.local),("places",.free)]
noncomputable abbrev Wg:KV:=[(".0",.loc),("one",.loc),("places",.cell)]
noncomputable abbrev Wh:LV:=[]
theorem Wi (hv:Γ.vars=Al)(hk:scope.kind=.function)(hn:scope.names=Wf):bT w Γ scope Wg Wh:=.of hv _ [2] [] hk hn (by trivial)
noncomputable abbrev Wj:SN:=[(".0",.local),("one",.local)]
noncomputable abbrev Wl:KV:=[(".0",.loc),("one",.loc)]
noncomputable abbrev Wm:LV:=[]
theorem Wo (hv:Γ.vars=tj)(hk:scope.kind=.function)(hn:scope.names=Wj):bT w Γ scope Wl Wm:=.of hv _ [] [] hk hn (by trivial)
noncomputable abbrev Wq:SN:=[(".0",.local),("one",.local),("exclude",.free)]
noncomputable abbrev Wr:KV:=[(".0",.loc),("one",.loc),("exclude",.cell)]
noncomputable abbrev Ws:LV:=[]
theorem Wt (hv:Γ.vars=tj)(hk:scope.kind=.function)(hn:scope.names=Wq):bT w Γ scope Wr Ws:=.of hv _ [3] [] hk hn (by trivial)
noncomputable abbrev Wu:SN:=[(".0",.local),("code",.local),("joined",.free)]
noncomputable abbrev Wv:KV:=[(".0",.loc),("code",.loc),("joined",.cell)]
noncomputable abbrev Ww:LV:=[]
theorem Wx (hv:Γ.vars=tj)(hk:scope.kind=.function)(hn:scope.names=Wu):bT w Γ scope Wv Ww:=.of hv _ [9] [] hk hn (by trivial)
noncomputable abbrev Wy:SN:=[(".0",.local),("one",.local),("len",.globalImplicit)]
noncomputable abbrev Wz:KV:=[(".0",.loc),("one",.loc)]
noncomputable abbrev WA:LV:=[("len",.cK (.builtin "len"))]
theorem WB (hv:Γ.vars=vR)(hk:scope.kind=.function)(hn:scope.names=Wy):bT w Γ scope Wz WA:=.of hv _ [] [9] hk hn (by trivial)
noncomputable abbrev WC:SN:=[(".0",.local),("one",.local),("len",.globalImplicit)]
noncomputable abbrev WD:KV:=[(".0",.loc),("one",.loc)]
noncomputable abbrev WE:LV:=[("len",.cK (.builtin "len"))]
theorem WG (hv:Γ.vars=vR)(hk:scope.kind=.function)(hn:scope.names=WC):bT w Γ scope WD WE:=.of hv _ [] [9] hk hn (by trivial)
noncomputable abbrev WH:SN:=[(".0",.local),("one",.local)]
noncomputable abbrev WI:KV:=[(".0",.loc),("one",.loc)]
noncomputable abbrev WJ:LV:=[]
theorem WK (hv:Γ.vars=Am)(hk:scope.kind=.function)(hn:scope.names=WH):bT w Γ scope WI WJ:=.of hv _ [] [] hk hn (by trivial)
noncomputable abbrev WL:SN:=[(".0",.local),("one",.local)]
noncomputable abbrev WM:KV:=[(".0",.loc),("one",.loc)]
noncomputable abbrev WN:LV:=[]
theorem WO (hv:Γ.vars=An)(hk:scope.kind=.function)(hn:scope.names=WL):bT w Γ scope WM WN:=.of hv _ [] [] hk hn (by trivial)
noncomputable abbrev WQ:SN:=[(".0",.local),("one",.local)]
noncomputable abbrev WR:KV:=[(".0",.loc),("one",.loc)]
noncomputable abbrev WS:LV:=[]
theorem WT (hv:Γ.vars=vS)(hk:scope.kind=.function)(hn:scope.names=WQ):bT w Γ scope WR WS:=.of hv _ [] [] hk hn (by trivial)
noncomputable abbrev WU:SN:=[(".0",.local),("place",.local)]
noncomputable abbrev WV:KV:=[(".0",.loc),("place",.loc)]
noncomputable abbrev WW:LV:=[]
theorem WX (hv:Γ.vars=Aw)(hk:scope.kind=.function)(hn:scope.names=WU):bT w Γ scope WV WW:=.of hv _ [] [] hk hn (by trivial)
noncomputable abbrev WY:SN:=[(".0",.local),("value",.local)]
noncomputable abbrev WZ:KV:=[(".0",.loc),("value",.loc)]
noncomputable abbrev W0:LV:=[]
theorem W5 (hv:Γ.vars=tl)(hk:scope.kind=.function)(hn:scope.names=WY):bT w Γ scope WZ W0:=.of hv _ [] [] hk hn (by trivial)
noncomputable abbrev W6:SN:=[(".0",.local),("value",.local),("default",.free)]
noncomputable abbrev W7:KV:=[(".0",.loc),("value",.loc),("default",.cell)]
noncomputable abbrev W8:LV:=[]
theorem W9 (hv:Γ.vars=tl)(hk:scope.kind=.function)(hn:scope.names=W6):bT w Γ scope W7 W8:=.of hv _ [1] [] hk hn (by trivial)
noncomputable abbrev W_:SN:=[(".0",.local),("value",.local),("as_kind",.globalImplicit),("kind",.free)]
noncomputable abbrev Xa:KV:=[(".0",.loc),("value",.loc),("kind",.cell)]
noncomputable abbrev Xb:LV:=[("as_kind",.ref 823)]
theorem Xc (hv:Γ.vars=tl)(hk:scope.kind=.function)(hn:scope.names=W_):bT w Γ scope Xa Xb:=.of hv _ [4] [110] hk hn (by trivial)
noncomputable abbrev Xd:SN:=[(".0",.local),("row",.local),("level_texts",.globalImplicit)]
noncomputable abbrev Xe:KV:=[(".0",.loc),("row",.loc)]
noncomputable abbrev Xg:LV:=[("level_texts",.ref 1279)]
theorem Xh (hv:Γ.vars=tm)(hk:scope.kind=.function)(hn:scope.names=Xd):bT w Γ scope Xe Xg:=.of hv _ [] [67] hk hn (by trivial)
noncomputable abbrev Xi:SN:=[(".0",.local),("one",.local),("character",.globalImplicit)]
noncomputable abbrev Xj:KV:=[(".0",.loc),("one",.loc)]
noncomputable abbrev Xk:LV:=[("character",.ref 568)]
theorem Xl (hv:Γ.vars=tm)(hk:scope.kind=.function)(hn:scope.names=Xi):bT w Γ scope Xj Xk:=.of hv _ [] [5] hk hn (by trivial)
noncomputable abbrev Xm:SN:=[(".0",.local),("one",.local),("len",.globalImplicit)]
noncomputable abbrev Xn:KV:=[(".0",.loc),("one",.loc)]
noncomputable abbrev Xo:LV:=[("len",.cK (.builtin "len"))]
theorem Xp (hv:Γ.vars=tm)(hk:scope.kind=.function)(hn:scope.names=Xm):bT w Γ scope Xn Xo:=.of hv _ [] [9] hk hn (by trivial)
noncomputable abbrev Xq:SN:=[(".0",.local),("each",.local),("shells",.free)]
noncomputable abbrev Xr:KV:=[(".0",.loc),("each",.loc),("shells",.cell)]
noncomputable abbrev Xs:LV:=[]
theorem Xt (hv:Γ.vars=oK)(hk:scope.kind=.function)(hn:scope.names=Xq):bT w Γ scope Xr Xs:=.of hv _ [1] [] hk hn (by trivial)
noncomputable abbrev Xu:SN:=[(".0",.local),("each",.local),("shells",.free)]
noncomputable abbrev Xv:KV:=[(".0",.loc),("each",.loc),("shells",.cell)]
noncomputable abbrev Xw:LV:=[]
theorem Xx (hv:Γ.vars=oK)(hk:scope.kind=.function)(hn:scope.names=Xu):bT w Γ scope Xv Xw:=.of hv _ [1] [] hk hn (by trivial)
noncomputable abbrev Xy:SN:=[(".0",.local),("word",.local),("words",.free)]
noncomputable abbrev Xz:KV:=[(".0",.loc),("word",.loc),("words",.cell)]
noncomputable abbrev XA:LV:=[]
theorem XB (hv:Γ.vars=oK)(hk:scope.kind=.function)(hn:scope.names=Xy):bT w Γ scope Xz XA:=.of hv _ [3] [] hk hn (by trivial)
noncomputable abbrev JP:SN:=[(".0",.local),("head",.cell),("range",.globalImplicit),("len",.globalImplicit),("items",.free),("words",.free)]
noncomputable abbrev JQ:KV:=[(".0",.loc),("head",.cell),("items",.cell),("words",.cell)]
noncomputable abbrev XC:LV:=[("range",.cK (.type "range")),("len",.cK (.builtin "len"))]
noncomputable abbrev XD:SN:=[(".0",.local),("each",.local),("len",.globalImplicit),("head",.free),("items",.free),("words",.free)]
noncomputable abbrev XE:KV:=[(".0",.loc),("each",.loc),("head",.cell),("items",.cell),("words",.cell)]
noncomputable abbrev XF:LV:=[("len",.cK (.builtin "len"))]
theorem XG (hv:Γ.vars=JQ)(hk:scope.kind=.function)(hn:scope.names=XD):bT w Γ scope XE XF:=.of hv _ [1,2,3] [9] hk hn (by trivial)
noncomputable abbrev XH:SN:=[(".0",.local),("said",.local),("call",.local)]
noncomputable abbrev XI:KV:=[(".0",.loc),("said",.loc),("call",.loc)]
noncomputable abbrev XJ:LV:=[]
theorem JR (hv:Γ.vars=oK)(hk:scope.kind=.function)(hn:scope.names=XH):bT w Γ scope XI XJ:=.of hv _ [] [] hk hn (by trivial)
noncomputable abbrev XK:SN:=[(".0",.local),("one",.local)]
noncomputable abbrev XM:KV:=[(".0",.loc),("one",.loc)]
noncomputable abbrev XN:LV:=[]
theorem XO (hv:Γ.vars=oK)(hk:scope.kind=.function)(hn:scope.names=XK):bT w Γ scope XM XN:=.of hv _ [] [] hk hn (by trivial)
noncomputable abbrev XP:SN:=[(".0",.local),("one",.local)]
noncomputable abbrev XQ:KV:=[(".0",.loc),("one",.loc)]
noncomputable abbrev XR:LV:=[]
theorem XS (hv:Γ.vars=Az)(hk:scope.kind=.function)(hn:scope.names=XP):bT w Γ scope XQ XR:=.of hv _ [] [] hk hn (by trivial)
noncomputable abbrev XT:SN:=[(".0",.local),("each",.local),("shells",.free)]
noncomputable abbrev XU:KV:=[(".0",.loc),("each",.loc),("shells",.cell)]
noncomputable abbrev XW:LV:=[]
theorem XX (hv:Γ.vars=pS)(hk:scope.kind=.function)(hn:scope.names=XT):bT w Γ scope XU XW:=.of hv _ [1] [] hk hn (by trivial)
noncomputable abbrev XY:SN:=[(".0",.local),("each",.local),("shells",.free)]
noncomputable abbrev XZ:KV:=[(".0",.loc),("each",.loc),("shells",.cell)]
noncomputable abbrev X0:LV:=[]
theorem X3 (hv:Γ.vars=pS)(hk:scope.kind=.function)(hn:scope.names=XY):bT w Γ scope XZ X0:=.of hv _ [1] [] hk hn (by trivial)
noncomputable abbrev X4:SN:=[(".0",.local),("word",.local),("words",.free)]
noncomputable abbrev X5:KV:=[(".0",.loc),("word",.loc),("words",.cell)]
noncomputable abbrev X6:LV:=[]
theorem X7 (hv:Γ.vars=pS)(hk:scope.kind=.function)(hn:scope.names=X4):bT w Γ scope X5 X6:=.of hv _ [4] [] hk hn (by trivial)
noncomputable abbrev JS:SN:=[(".0",.local),("head",.cell),("_law_factor",.globalImplicit),("range",.globalImplicit),("codes",.free),("many",.free),("words",.free)]
noncomputable abbrev JT:KV:=[(".0",.loc),("head",.cell),("codes",.cell),("many",.cell),("words",.cell)]
noncomputable abbrev X8:LV:=[("_law_factor",.ref 2034),("range",.cK (.type "range"))]
noncomputable abbrev X9:SN:=[(".0",.local),("each",.local),("codes",.free),("head",.free),("words",.free)]
noncomputable abbrev X_:KV:=[(".0",.loc),("each",.loc),("codes",.cell),("head",.cell),("words",.cell)]
noncomputable abbrev Ya:LV:=[]
theorem Yb (hv:Γ.vars=JT)(hk:scope.kind=.function)(hn:scope.names=X9):bT w Γ scope X_ Ya:=.of hv _ [2,1,4] [] hk hn (by trivial)
noncomputable abbrev Yc:SN:=[(".0",.local),("each",.local),("codes",.free),("words",.free)]
noncomputable abbrev Yd:KV:=[(".0",.loc),("each",.loc),("codes",.cell),("words",.cell)]
noncomputable abbrev Ye:LV:=[]
theorem Yf (hv:Γ.vars=pS)(hk:scope.kind=.function)(hn:scope.names=Yc):bT w Γ scope Yd Ye:=.of hv _ [3,4] [] hk hn (by trivial)
end
section
variable{w:World}{Γ:Ctx}{σ:Hp}{ρ aX:LO}{Q:PQ}{QT:PF}{scope:Scope}{vars vc:KV}{gc:LV}{R:V→LO}
inductive Yg (w:World)(d:Nat)(vc:KV)(gc:LV)(R:V→LO)(ifs:List Expr)(elt:Expr)(Q:PQ)(l:Addr)(xs:List V)(σ:Hp)(D:Addr):Prop
 |mk (I:Nat→List V→Hp→Prop) (i0:I 0 [] (upd σ D (.list []))) (k:∀i ys τ,I i ys τ→τ l=some (.list xs)) (st:∀i ys τ y,I i ys τ→xs[i]? =some y→∀Γc:Ctx,Γc.d=d→Γc.vars=vc→Γc.gls=gc→fp w Γc ifs τ (R y) (rk w Γc elt (R y) D ys (I (i+1)))) (q:∀ys τ,I xs.length ys τ→Q (.ref D) τ)
inductive tM (w:World)(d:Nat)(vc:KV)(gc:LV)(R:V→LO)(ifs:List Expr)(elt:Expr)(Q:PQ)(v:V)(σ:Hp):Prop
 |mk (l:Addr) (xs:List V) (e:v=.ref l) (h:σ l=some (.list xs)) (q:∀D,σ D=none→Yg w d vc gc R ifs elt Q l xs σ D)
inductive Yh (w:World)(d:Nat)(vc:KV)(gc:LV)(R:V→LO)(ifs:List Expr)(elt:Expr)(Q:PQ)(ra rc:Int)(n:Nat)(σ:Hp)(D:Addr):Prop
 |mk (I:Nat→List V→Hp→Prop) (i0:I 0 [] (upd σ D (.list []))) (st:∀i ys τ y,I i ys τ→(jk ra rc n)[i]? =some y→∀Γc:Ctx,Γc.d=d→Γc.vars=vc→Γc.gls=gc→fp w Γc ifs τ (R y) (rk w Γc elt (R y) D ys (I (i+1)))) (q:∀ys τ,I n ys τ→Q (.ref D) τ)
inductive we (w:World)(d:Nat)(vc:KV)(gc:LV)(R:V→LO)(ifs:List Expr)(elt:Expr)(Q:PQ)(v:V)(σ:Hp):Prop
 |mk (r:Addr) (ra rb rc:Int) (n:Nat) (e:v=.ref r) (h:σ r=some (.range ra rb rc)) (s:Builtin.Range.small ra rb rc=true) (z:Builtin.Range.rangeSize ra rb rc=(n:Int)) (q:∀D,σ D=none→Yh w d vc gc R ifs elt Q ra rc n σ D)
theorem tM.core {d:Nat}(hv:Γ.vars=vars)(hd:d=Γ.d) {elt x px iter ifs pos v}(C:bT w Γ scope vc gc)(bS:ee vars ρ vc aX)(hx:(x,VK.loc)∈vc)(pt:∀y,Pt vc aX x y (R y))(h:tM w d vc gc R ifs elt Q v σ):rl w Γ scope (.Name x px) elt iter ifs pos ρ (λD τ=>Q (.ref D) τ) v σ:=by
 obtain⟨l,xs,rfl,h,q⟩:=h
 subst hv hd
 exact A2 C.ok bS C.full C.Bd (.list l) ⟨xs,h,λD hD=>let⟨I,i0,k,st,q⟩:=q D hD;⟨I,i0,k,.of pt (JN bS C.ok.mU hx) st,q⟩⟩
theorem we.core {d:Nat}(hv:Γ.vars=vars)(hd:d=Γ.d) {elt x px iter ifs pos v}(C:bT w Γ scope vc gc)(bS:ee vars ρ vc aX)(hx:(x,VK.loc)∈vc)(pt:∀y,Pt vc aX x y (R y))(h:we w d vc gc R ifs elt Q v σ):rl w Γ scope (.Name x px) elt iter ifs pos ρ (λD τ=>Q (.ref D) τ) v σ:=by
 obtain⟨r,ra,rb,rc,n,rfl,hr,hs,hz,q⟩:=h
 subst hv hd
 have el:n=(jk ra rc n).length:=AB.symm
 exact A2 C.ok bS C.full C.Bd (.range r ra rb rc) ⟨jk ra rc n,⟨hr,hs,hz.trans (gf _ el)⟩,λD hD=>let⟨I,i0,st,q⟩:=q D hD;⟨I,i0,λ_ _ _ _=>gf (jk ra rc) el,.of pt (JN bS C.ok.mU hx) st,by rw[←el];exact q⟩⟩
theorem ak.lc (hv:Γ.vars=vars) {elt x px iter ifs pos}(C:bT w Γ scope vc gc)(bS:ee vars ρ vc aX)(hx:(x,VK.loc)∈vc)(pt:∀y,Pt vc aX x y (R y))
  (h:ak w Γ iter σ ρ (tM w Γ.d vc gc R ifs elt Q))
  (hs:∀env y,foldedSetIterable iter env y=pure y:=by intro _ _;rfl):ak w Γ (.ListComp elt [⟨.Name x px,iter,ifs,0⟩] scope pos) σ ρ Q:=
 ak.JM (λS n hn=>(C.ok.cell S hn).2) C.ok.kind C.ok.nd ⟨λS s D k X hk=>h.run S s D k X λa s' σ' q D'=>hk a s' σ' (q.core hv rfl C bS hx pt) D'⟩ hs
theorem ak.Yi (hv:Γ.vars=vars) {elt x px iter ifs pos}(C:bT w Γ scope vc gc)(bS:ee vars ρ vc aX)(hx:(x,VK.loc)∈vc)(pt:∀y,Pt vc aX x y (R y))
  (h:ak w Γ iter σ ρ (we w Γ.d vc gc R ifs elt Q))
  (hs:∀env y,foldedSetIterable iter env y=pure y:=by intro _ _;rfl):ak w Γ (.ListComp elt [⟨.Name x px,iter,ifs,0⟩] scope pos) σ ρ Q:=
 ak.JM (λS n hn=>(C.ok.cell S hn).2) C.ok.kind C.ok.nd ⟨λS s D k X hk=>h.run S s D k X λa s' σ' q D'=>hk a s' σ' (q.core hv rfl C bS hx pt) D'⟩ hs
end
section
variable{w:World}{Γ:Ctx}{σ:Hp}{ρ aX:LO}{QT:PF}{scope:Scope}{vars vc:KV}{gc:LV}{R:V→LO}
theorem aT.wg (hv:Γ.vars=vars) {y py elt gens pos gp}(hy:(y,VK.cell)∈vars)(h:ak w Γ (.ListComp elt gens scope pos) σ ρ (kf vars y ρ QT)):aT w Γ (.Assign [.Name y py] (.ListComp elt gens scope pos) gp) σ ρ QT:=by
 subst hv
 refine⟨λS s D k X hk=>?_⟩
 have fH:Γ.env.kindOf y=some .cell:=(S.vk _ hy).1
 have Bb:swapsWith (.ListComp elt gens scope pos) (some (.Name y py)) gp.line Γ.env=pure false:=by
  show(pure (Γ.env.blockKind==.function&&Γ.env.kindOf y==some .local&&py.line==(Expr.ListComp elt gens scope pos).pos.line&& !(scope.names.any λ(n,k)=>n==y&&(k==.local||k==.cell))):Sem Bool)=pure false
  rw[fH]
  have:((some NameKind.cell:Option NameKind)==some NameKind.local)=false:=by decide
  rw[this,Bool.and_false,Bool.false_and,Bool.false_and]
 exact wpAny_Assign_Name (h.run S s D _ X λv av aH q aL=>by
  obtain⟨bj,p,q⟩:=q
  exact mP S aL p λaG aA=>hk .next aG aH bj q aA) Bb
theorem aT.ro (hv:Γ.vars=vars) {elt x px iter ifs pos y py gp}(C:bT w Γ scope vc gc)(bS:ee vars ρ vc aX)(hx:(x,VK.loc)∈vc)(pt:∀y,Pt vc aX x y (R y))(hy:(y,VK.loc)∈vars)(iP:(scope.names.all λp=> !(p.1==y))=true)
  (h:ak w Γ iter σ ρ (tM w Γ.d vc gc R ifs elt (kf vars y ρ QT)))
  (eG:(py.line==pos.line)=true:=by rfl)(hs:∀env y,foldedSetIterable iter env y=pure y:=by intro _ _;rfl):aT w Γ (.Assign [.Name y py] (.ListComp elt [⟨.Name x px,iter,ifs,0⟩] scope pos) gp) σ ρ QT:=
 aT.wb hv (λS n hn=>(C.ok.cell S hn).2) C.ok.kind C.ok.nd hy (λk hk=>by
  have:=ew.mp iP _ hk
  simp at this) ⟨λS s D k X hk=>h.run S s D k X λa s' σ' q D'=>hk a s' σ' (q.core hv rfl C bS hx pt) D'⟩ eG hs
theorem aT.Yj (hv:Γ.vars=vars) {elt x px iter ifs pos y py gp}(C:bT w Γ scope vc gc)(bS:ee vars ρ vc aX)(hx:(x,VK.loc)∈vc)(pt:∀y,Pt vc aX x y (R y))(hy:(y,VK.loc)∈vars)(iP:(scope.names.all λp=> !(p.1==y))=true)
  (h:ak w Γ iter σ ρ (we w Γ.d vc gc R ifs elt (kf vars y ρ QT)))
  (eG:(py.line==pos.line)=true:=by rfl)(hs:∀env y,foldedSetIterable iter env y=pure y:=by intro _ _;rfl):aT w Γ (.Assign [.Name y py] (.ListComp elt [⟨.Name x px,iter,ifs,0⟩] scope pos) gp) σ ρ QT:=
 aT.wb hv (λS n hn=>(C.ok.cell S hn).2) C.ok.kind C.ok.nd hy (λk hk=>by
  have:=ew.mp iP _ hk
  simp at this) ⟨λS s D k X hk=>h.run S s D k X λa s' σ' q D'=>hk a s' σ' (q.core hv rfl C bS hx pt) D'⟩ eG hs
end
section
variable{w:World}{d:Nat}{σ:Hp}{Q:PQ}{a:Addr}{kind items attrs:V}
theorem JU {v:V}(hv:v=.none∨∃x,v=.str x)(q:Q v σ):Call w (d+1) (.ref 672) [.str "character",v] σ Q:=by
 refine S3 fun Γ hd ik hg=>?_
 refine ae (aM (cw (dK (aF (ah ik aD (bg (ax .bB ⟨_,rfl,λ_=>⟨λ_=>ae (a_ (ah ik aD q)),tf⟩,λ_=>dK ?_⟩)))))))
 refine aF (ah ik .here (bu (ax (.eq .ss) ⟨_,rfl,λ_=>⟨λ_=>ae (a_ (ah ik aD q)),tf⟩,λh=>?_⟩)))
 simp at h
theorem Bg {l:Addr}{xs:List V}(ha:σ a=some (.inst 401 (aV (.str "character") (.ref l) attrs)))(hl:σ l=some (.list xs))(hx:∀x∈xs,x=.none∨∃s,x=.str s)(hz:xs.length≤1000000)(cM:Attr σ attrs (Str.ofString "levels") .none)
  (q:∀b,σ b=none→Q (.ref b) (upd σ b (.list xs))):Call w (d+3) (.ref 684) [.ref a] σ Q:=by
 refine Gu fun Γ hd hv hg=>?_
 refine ae (aS hv (ak.call (cm hg aN ⟨651,rfl,by rfl',ar hv [0] rfl ?_⟩)))
 rw[hd]
 refine oS ha cM ⟨_,.there (.here AK),?_⟩
 refine ae (aM (cw (bW (aF (ah hv aD (bg (ax .d7 ⟨_,rfl,(ft),λ_=>⟨(ft),λ_=>au ?_⟩⟩)))))))
 refine ae (a_ (ak.lc hv (VL (w:=w) hv (by rfl) (by rfl)) (.loc (.loc (.cell .here .nil))) aQ (pt:=λy=>bX) ?_))
 refine aU (ah hv .here (bF ha aQ (dT w) (pT w) rfl ⟨l,xs,rfl,hl,λD hD=>?_⟩))
 have A1:D≠l:=λh=>by rw[h,hl]at hD;cases hD
 have Yk:D≠a:=λh=>by rw[h,ha]at hD;cases hD
 refine⟨λi ys τ=>τ=upd σ D (.list ys)∧ys=xs.take i,⟨rfl,by simp⟩,λi ys τ h=>by rw[h.1,aJ A1.symm];exact hl,λi ys τ y hI hy Γc e1 e2 e3=>?_,λys τ h=>?_⟩
 obtain⟨rfl,rfl⟩:=hI
 refine dE ⟨λ_=>?_,tf⟩
 have hi:i<xs.length:=(cp.mp hy).1
 refine ak.call (cm e3 aN ⟨672,rfl,by rfl',aq (aU (aj e2 2 rfl rfl (bF (by rw[aJ Yk.symm];exact ha) aN (dT w) (l0 w) rfl (ar e2 [1] rfl ?_))))⟩)
 rw[e1,hd]
 refine JU (hx y (cS hy)) ⟨ai _ _ _,?_,by rw[dk],?_⟩
 rw[eZ];lia
 rw[eY,hy];rfl
 obtain⟨rfl,rfl⟩:=h
 rw[fM]
 exact q D hD
end
section
variable{w:World}{d:Nat}{σ:Hp}{Q:PQ}{a:Addr}{kind items attrs:V}
theorem Bh {k:Str}{v:V}(hk:(k==Str.ofString "double")=false)(q:Q (.bool (bB v)) σ):Call w (d+1) (.ref 971) [.str k,v] σ Q:=by
 refine Ts fun Γ hd hv hg=>?_
 refine ae (a_ (fQ (h8.or (dP (ah hv aD (bg (ax .bB ⟨_,.bool,λh=>?_,λh=>iK ?_⟩)))))))
 show Q (.bool _) σ
 exact q
 refine fQ (h_ (dP (ah hv .here (bu (ax (.eq .ss) ⟨_,.bool,(λh2=>by rw[hk]at h2;cases h2),λh2=>?_⟩)))))
 show Q (.bool _) σ
 rw[h2,←h];exact q
theorem Yl {k:Str}(hk:k=Str.ofString "character")(ha:σ a=some (.inst 401 (aV (.str k) items attrs)))(q:∀b,σ b=none→Q .none (upd σ b (.tup [.str "logical",.str "integer",.str "double",.str "character"]))):Call w (d+1) (.ref 985) [.ref a] σ Q:=by
 refine Tu fun Γ hd hv hg=>?_
 subst hk
 refine ae (aM (aF (aU (ah hv .here (bF ha aN (dT w) (l0 w) rfl (fD (ar rfl [] rfl ⟨j5 rfl,λb hb=>?_⟩)))))))
 refine ax (.Eu (fun y=>match y with|.str s=>s==Str.ofString "character" |_=>false) (ai _ _ _) (fun y hy=>?_)) ⟨_,rfl,fun h=>?_,fun h=>au (au (q b hb))⟩
 simp only[aY,f9,gB]at hy
 rcases hy with rfl|rfl|rfl|rfl<;>exact .ss
 simp[List.any]at h
end
noncomputable def ir (a b:Str):Int:=if a.cps.toList<b.cps.toList then-1 else if b.cps.toList<a.cps.toList then 1 else 0
section
variable{w:World}{d:Nat}{σ:Hp}{Q:PQ}{a:Addr}{kind items attrs:V}
theorem Ym {k x y:Str}(hk:(k==Str.ofString "double")=false)(q:Q (.int (ir x y)) σ):Call w (d+1) (.ref 978) [.str k,.str x,.str y] σ Q:=by
 refine Tt fun Γ hd hv hg=>?_
 refine ae (aM (aF (ah hv .here (bu (ax (.eq .ss) ⟨_,rfl,(λh=>by rw[hk]at h;cases h),λ_=>au ?_⟩)))))
 refine ae (aM (aF (ah hv aD (aj hv 2 rfl rfl (ax .Es ⟨_,rfl,λh=>?_,λh=>au ?_⟩)))))
 refine ae (a_ (ak.neg (aW ⟨1,rfl,?_⟩)))
 have h:=mD h
 unfold ir at q
 rw[ck h]at q;exact q
 have h:=qQ h
 refine ae (aM (aF (ah hv aD (aj hv 2 rfl rfl (ax .Et ⟨_,rfl,λh2=>?_,λh2=>au ?_⟩)))))
 have h2:=mD h2
 unfold ir at q
 rw[bK h,ck h2]at q
 exact ae (a_ (aW q))
 have h2:=qQ h2
 unfold ir at q
 rw[bK h,bK h2]at q
 exact ae (a_ (aW q))
theorem Yn {l:Addr}{k x y:Str}{i j:Nat}{xs:List V}{na:V}(hk:(k==Str.ofString "double")=false)(ha:σ a=some (.inst 401 (aV (.str k) (.ref l) attrs)))(hl:σ l=some (.list xs))(hi:xs[i]? =some (.str x))(hj:xs[j]? =some (.str y))
  (hz:xs.length≤1000000)(q:Q (.int (ir x y)) σ):Call w (d+2) (.ref 992) [.ref a,.int i,.int j,.bool false,na] σ Q:=by
 have li:=(cp.mp hi).1
 have lj:=(cp.mp hj).1
 refine Tv fun Γ hd hv hg=>?_
 refine ae (aS hv (bo (aU (ah hv .here (bF ha aQ (dT w) (pT w) rfl (ah hv aD ⟨l,_,rfl,hl,trivial,Op.item hl (pB i) (by simpa using hi) (by lia) ⟨_,.there dR,?_⟩⟩))))))
 refine ae (aS hv (bo (aU (ah hv .here (bF ha aQ (dT w) (pT w) rfl (aj hv 2 rfl rfl ⟨l,_,rfl,hl,trivial,Op.item hl (pB j) (by simpa using hj) (by lia) ⟨_,.there fh,?_⟩⟩))))))
 refine ae (aS hv (ak.call (cm hg aN ⟨971,rfl,by rfl',aq (aU (ah hv .here (bF ha aN (dT w) (l0 w) rfl (ar hv [5] rfl ?_))))⟩)))
 rw[hd]
 refine Bh hk ⟨_,.there eB,?_⟩
 refine ae (aS hv (ak.call (cm hg aN ⟨971,rfl,by rfl',aq (aU (ah hv .here (bF ha aN (dT w) (l0 w) rfl (ar hv [6] rfl ?_))))⟩)))
 rw[hd]
 refine Bh hk ⟨_,.there gV,?_⟩
 refine ae (aM (cw (bW (c8 (aj hv 7 rfl rfl ⟨_,.bool,(ft),λ_=>⟨(ft),λ_=>au ?_⟩⟩)))))
 refine ae (aM (c8 (aj hv 7 rfl rfl ⟨_,.bool,(ft),λ_=>au ?_⟩)))
 refine ae (aM (c8 (aj hv 8 rfl rfl ⟨_,.bool,(ft),λ_=>au ?_⟩)))
 refine ae (aS hv (ak.call (cm hg aQ ⟨978,rfl,by rfl',aq (aU (ah hv .here (bF ha aN (dT w) (l0 w) rfl (ar hv [5,6] rfl ?_))))⟩)))
 rw[hd]
 refine Ym hk ⟨_,.there je,?_⟩
 exact ae (a_ (gS (c8 (aj hv 3 rfl rfl ⟨_,.bool,(ft),λ_=>aj hv 9 rfl rfl q⟩))))
end
theorem tt {b:Bool}{A B:Prop}(hb:b=true)(h:A):Br b A B:=⟨λ_=>h,λe=>by rw[hb]at e;cases e⟩
theorem ff {b:Bool}{A B:Prop}(hb:b=false)(h:B):Br b A B:=⟨(λe=>by rw[hb]at e;cases e),λ_=>h⟩
theorem Bi {n:Nat}(h:n≤1000000):Builtin.Range.small 0 (n:Int) 1=true:=small_one (by decide) (by decide) (by lia) (by lia)
theorem Bj {n:Nat}:Builtin.Range.rangeSize 0 (n:Int) 1=(n:Int):=by rw[rangeSize_one];split<;>lia
theorem JV {n i:Nat}{y:V}(h:(jk 0 1 n)[i]? =some y):i<n∧y=.int (i:Int):=by
 have hi:=(cp.mp h).1
 rw[AB]at hi
 refine⟨hi,?_⟩
 rw[AA hi]at h
 cases h
 simp
theorem Ext.wk {σ τ:Hp}(h:Ext σ τ):Wk τ σ:=λa o e=>⟨o,h a o e,.refl⟩
theorem Wk.Bk {σ:Hp}{a:Addr}{o:MO}(h:σ a=none):Wk (Mine.upd σ a o) σ:=(af h).wk
inductive kFor {α:Type}(Q:α→Hp→Prop)(v:α)(τ:Hp):Prop
 |mk (bf:Hp) (k:Ext bf τ) (q:Q v bf):kFor Q v τ
inductive Yo (QT:PF)(v:Fl)(τ:Hp)(ρ:LO):Prop
 |mk (bf:Hp) (k:Wk τ bf) (q:QT v bf ρ)
inductive Yp (Q:PQ)(v:V)(σ:Hp):Prop
 |mk (a:Addr) (xs:List V) (e:v=.ref a) (h:σ a=some (.list xs)) (z:xs.length≤1000000) (q:Q (.int xs.length) σ)
inductive Yq (Q:PQ)(v:V)(σ:Hp):Prop
 |mk (a:Addr) (xs:List V) (e:v=.ref a) (h:σ a=some (.list xs)∨σ a=some (.tup xs)) (z:xs.length≤1000000) (q:∀b,σ b=none→Q (.ref b) (upd σ b (.list xs)))
inductive Yr (Q:PQ)(v:V)(σ:Hp):Prop
 |mk (n:Int) (e:v=.int n) (q:∀b,σ b=none→Q (.ref b) (upd σ b (.range 0 n 1)))
inductive Ys (w:World)(Γ:Ctx)(vars:KV)(x:Str)(body:List Stmt)(ρ:LO)(QT:PF)(v:V)(aH:Hp):Prop
 |mk (n:Nat) (I:Nat→Hp→LO→Prop) (e:v=.int n) (z:n≤1000000) (i0:I 0 aH ρ) (st:∀i σ ρ,I i σ ρ→i<n→vX w Γ vars x body ρ (I (i+1)) QT (.int i) σ) (q:∀σ ρ,I n σ ρ→QT .next σ ρ)
theorem Call.forget {w:World}{d:Nat}{f:V}{vs:List V}{σ:Hp}{Q:PQ}(h:Call w d f vs σ (kFor Q)):Call w d f vs σ Q:=
 Call.wk (h.mono λv τ ⟨bf,e,q⟩=>⟨bf,e.wk,q⟩)
def jn:= @Call.forget
section
variable{w:World}{Γ:Ctx}{σ:Hp}{ρ:LO}{Q:PQ}{QB:Bool→Hp→Prop}{QT:PF}{vars:KV}{gls:LV}{a:Addr}{kind items attrs:V}
theorem ak.forget {e:Expr}(h:ak w Γ e σ ρ (kFor Q)):ak w Γ e σ ρ Q:=
 ⟨λS s D k X hk=>h.run S s D k X λa s' τ q D'=>let⟨bf,z,q⟩:=q;hk a s' bf q (D'.wk z.wk)⟩
theorem aT.wh {e:Stmt}(h:aT w Γ e σ ρ (Yo QT)):aT w Γ e σ ρ QT:=
 ⟨λS s D k X hk=>h.run S s D k X λa s' τ aR q D'=>let⟨bf,z,q⟩:=q;hk a s' bf aR q (D'.wk z)⟩
theorem dj.mono {st:List Stmt}{Q Q':PF}(h:dj w Γ st σ ρ Q)(hq:∀fl τ aR,Q fl τ aR→Q' fl τ aR):dj w Γ st σ ρ Q':=
 ⟨λS s D k X hk=>h.run S s D k X λa s' τ aR q D'=>hk a s' τ aR (hq _ _ _ q) D'⟩
theorem ak.mono {e:Expr}{Q Q':PQ}(h:ak w Γ e σ ρ Q)(hq:∀v τ,Q v τ→Q' v τ):ak w Γ e σ ρ Q':=
 ⟨λS s D k X hk=>h.run S s D k X λa s' τ q D'=>hk a s' τ (hq _ _ q) D'⟩
theorem ak.fn {n:Nat}(hd:Γ.d=n)(hg:Γ.gls=gls) {x np pos args}(l:(x,V.ref a)∈gls)(hk:keepIn (Kc w) (.ref a)=true)(h:eC w Γ pos args σ ρ (z4 w n (.ref a) Q))
  (hp:∀env,(backTo pos (starEach args env)).any (·.1)=false:=by intro _;rfl):ak w Γ (.Call (.Name x np) args [] pos) σ ρ Q:=
 ak.call (cm hg l ⟨a,rfl,hk,by subst hd;exact h⟩) hp
def aw:= @ak.fn
theorem ak.Yt (hg:Γ.gls=gls) {x np pos e}(l:(x,V.cK (.builtin "len"))∈gls)(h:ak w Γ e σ ρ (Yp Q))
  (he:∀env,starEach [e] env=(false,eval e env)::starEach [] env:=by intro _;rfl)(hp:∀env,(backTo pos (starEach [e] env)).any (·.1)=false:=by intro _;rfl):ak w Γ (.Call (.Name x np) [e] [] pos) σ ρ Q:=
 gG (cm hg l ⟨"len",rfl,aq (h.mono fun v aH ⟨a,xs,e1,e2,e3,q⟩=>aK (by subst e1;exact Op.len e2 e3 q)) he⟩) hp
def cj:= @ak.Yt
theorem ak.list1 (hg:Γ.gls=gls) {x np pos e}(l:(x,V.cK (.type "list"))∈gls)(h:ak w Γ e σ ρ (Yq Q))
  (he:∀env,starEach [e] env=(false,eval e env)::starEach [] env:=by intro _;rfl)(hp:∀env,(backTo pos (starEach [e] env)).any (·.1)=false:=by intro _;rfl):ak w Γ (.Call (.Name x np) [e] [] pos) σ ρ Q:=
 ak.oP (cm hg l ⟨"list",rfl,aq (h.mono fun v aH ⟨a,xs,e1,e2,e3,q⟩=>aK (by subst e1;exact Op.listOf e2 e3 q)) he⟩) hp
theorem ak.tA (hg:Γ.gls=gls) {x np pos e}(l:(x,V.cK (.type "range"))∈gls)(h:ak w Γ e σ ρ (Yr Q))
  (he:∀env,starEach [e] env=(false,eval e env)::starEach [] env:=by intro _;rfl)(hp:∀env,(backTo pos (starEach [e] env)).any (·.1)=false:=by intro _;rfl):ak w Γ (.Call (.Name x np) [e] [] pos) σ ρ Q:=
 ak.oP (cm hg l ⟨"range",rfl,aq (h.mono fun v aH ⟨n,e1,q⟩=>aK (by subst e1;exact Op.tA q)) he⟩) hp
theorem vk (ha:σ a=some (.inst 401 (aV kind items attrs)))(q:Q kind σ)(hi:gW kind=true:=by rfl):∀o',er o'=.ref a→Op w Γ (getAttr o' "kind" true) σ ρ Q:=bF ha aN (dT w) (l0 w) hi q
theorem vi (ha:σ a=some (.inst 401 (aV kind items attrs)))(q:Q items σ)(hi:gW items=true:=by rfl):∀o',er o'=.ref a→Op w Γ (getAttr o' "items" true) σ ρ Q:=bF ha aQ (dT w) (pT w) hi q
theorem va (ha:σ a=some (.inst 401 (aV kind items attrs)))(q:Q attrs σ)(hi:gW attrs=true:=by rfl):∀o',er o'=.ref a→Op w Γ (getAttr o' "attrs" true) σ ρ Q:=bF ha cn (dT w) (mV w) hi q
theorem bO {l:Addr}{xs:List V}{i:Nat}{x:V}(hl:σ l=some (.list xs))(hx:xs[i]? =some x)(hz:xs.length≤1000000)(q:Q x σ):s7 w Γ ρ Q (.ref l) (.int (i:Int)) σ:=
 ⟨l,_,rfl,hl,trivial,Op.item hl (pB i) (by simpa using hx) (by have:=(cp.mp hx).1;lia) q⟩
theorem eh {l:Addr}{xs:List V}{j:Int}{i:Nat}{x:V}(hl:σ l=some (.list xs))(hj:j=(i:Int))(hx:xs[i]? =some x)(hz:xs.length≤1000000)(q:Q x σ):s7 w Γ ρ Q (.ref l) (.int j) σ:=by
 subst hj;exact bO hl hx hz q
theorem tN {l:Addr}{kvs:LV}{k:Str}{x:V}(hl:σ l=some (.dict kvs))(hx:keyOf kvs k=some x)(q:Q x σ):s7 w Γ ρ Q (.ref l) (.str k) σ:=
 ⟨l,_,rfl,hl,trivial,Op.UT hl hx q⟩
theorem tO {l:Addr}{xs:List V}{i:Nat}{x:V}(hl:σ l=some (.tup xs))(hx:xs[i]? =some x)(hz:xs.length≤1000000)(q:Q x σ):s7 w Γ ρ Q (.ref l) (.int (i:Int)) σ:=
 ⟨l,_,rfl,hl,trivial,Op.RG hl hx (by have:=(cp.mp hx).1;lia) q⟩
theorem aT.Yu (hv:Γ.vars=vars)(hg:Γ.gls=gls) {x px y np e pos body pos'}(l:(y,V.cK (.type "range"))∈gls)
  (h:ak w Γ e σ ρ (Ys w Γ vars x body ρ QT))
  (hs:∀env z,foldedSetIterable (.Call (.Name y np) [e] [] pos) env z=pure z:=by intro _ _;rfl)
  (he:∀env,starEach [e] env=(false,eval e env)::starEach [] env:=by intro _;rfl)(hp:∀env,(backTo pos (starEach [e] env)).any (·.1)=false:=by intro _;rfl):
  aT w Γ (.For (.Name x px) (.Call (.Name y np) [e] [] pos) body [] pos') σ ρ QT:=by
 refine aT.wh (aT.Jz hv (ak.tA hg l (h.mono ?_) he hp) hs)
 intro v aH zqA;obtain⟨n,I,rfl,hn,h0,h1,h2⟩:=zqA
 refine⟨_,rfl,λr hr=>⟨r,0,_,1,n,λi τ aR=>∃bf,Wk τ bf∧I i bf aR,rfl,ai _ _ _,Bi hn,Bj,⟨aH,.Bk hr,h0⟩,?_,?_⟩⟩
 intro i τ aR zqA;obtain⟨bf,k,hI⟩:=zqA;intro hi
 obtain⟨bj,p,q⟩:=h1 i bf aR hI hi
 refine⟨bj,by simpa using p,λown=>dj.wk k ((q own).mono ?_)⟩
 intro fl υ dz q
 cases fl with
 |next=>exact⟨_,.refl _,q⟩
 |cont=>exact⟨_,.refl _,q⟩
 |brk=>exact⟨_,.refl _,q⟩
 |ret v=>exact⟨_,.refl _,q⟩
 intro τ aR zqA;obtain⟨bf,k,hI⟩:=zqA
 exact⟨bf,k,h2 _ _ hI⟩
def jP:= @aT.Yu
end
theorem dF {Γ:Ctx}(own:List (Addr×Obj)){n:Nat}{vars:KV}{gls:LV}(hd:Γ.d=n)(hv:Γ.vars=vars)(hg:Γ.gls=gls):(Γ.with own).d=n∧(Γ.with own).vars=vars∧(Γ.with own).gls=gls:=⟨hd,hv,hg⟩
theorem wi {α β:Type}{xs:List α}{G:α→Option β}{i:Nat}{y:α}(h:xs[i]? =some y):(xs.take (i+1)).filterMap G=(xs.take i).filterMap G++(G y).toList:=by
 rw[eY,h,qO]
 cases hG:G y<;>simp[hG]
theorem JW {α β:Type}{xs:List α}{G:α→Option β}{i:Nat}:((xs.take i).filterMap G).length≤xs.length:=by
 refine dO (uY _ _) ?_
 rw[eZ];lia
inductive Yv (w:World)(d:Nat)(vc:KV)(gc:LV)(R:V→LO)(ifs:List Expr)(elt:Expr)(Q:PQ)(n:Nat)(σ:Hp)(D:Addr):Prop
 |mk (I:Nat→List V→Hp→Prop) (i0:I 0 [] (upd σ D (.list []))) (st:∀(i:Nat) ys τ,I i ys τ→i<n→∀Γc:Ctx,Γc.d=d→Γc.vars=vc→Γc.gls=gc→fp w Γc ifs τ (R (.int (i:Int))) (rk w Γc elt (R (.int (i:Int))) D ys (I (i+1)))) (q:∀ys τ,I n ys τ→Q (.ref D) τ)
inductive JX (w:World)(d:Nat)(vc:KV)(gc:LV)(R:V→LO)(ifs:List Expr)(elt:Expr)(Q:PQ)(v:V)(σ:Hp):Prop
 |mk (n:Nat) (e:v=.int n) (z:n≤1000000) (q:∀D,σ D=none→Yv w d vc gc R ifs elt Q n σ D)
inductive JY (w:World)(d:Nat)(vc:KV)(gc:LV)(R:V→LO)(ifs:List Expr)(elt:Expr)(Q:PQ)(v:V)(σ:Hp):Prop
 |mk (l:Addr) (xs:List V) (G:V→Option V) (e:v=.ref l) (h:σ l=some (.list xs)) (z:xs.length≤1000000) (st:∀y∈xs,∀τ,Ext σ τ→∀Γc:Ctx,Γc.d=d→Γc.vars=vc→Γc.gls=gc→fp w Γc ifs τ (R y) (JI w Γc elt (R y) τ (G y))) (q:∀D,σ D=none→Q (.ref D) (upd σ D (.list (xs.filterMap G))))
inductive JZ (w:World)(d:Nat)(vc:KV)(gc:LV)(R:V→LO)(ifs:List Expr)(elt:Expr)(Q:PQ)(v:V)(σ:Hp):Prop
 |mk (n:Nat) (G:Nat→Option V) (e:v=.int n) (z:n≤1000000) (st:∀i<n,∀τ,Ext σ τ→∀Γc:Ctx,Γc.d=d→Γc.vars=vc→Γc.gls=gc→fp w Γc ifs τ (R (.int (i:Int))) (JI w Γc elt (R (.int (i:Int))) τ (G i))) (q:∀D,σ D=none→Q (.ref D) (upd σ D (.list ((List.range n).filterMap G))))
section
variable{w:World}{Γ:Ctx}{σ:Hp}{ρ aX:LO}{Q:PQ}{QT:PF}{scope:Scope}{vars vc:KV}{gls gc:LV}{R:V→LO}
theorem ak.wh {e:Expr}(h:ak w Γ e σ ρ (Jk Q)):ak w Γ e σ ρ Q:=
 ⟨λS s D k X hk=>h.run S s D k X λa s' τ q D'=>let⟨bf,z,q⟩:=q;hk a s' bf q (D'.wk z)⟩
theorem ak.Yw (hv:Γ.vars=vars) {elt x px y np e iQ ifs pos}(C:bT w Γ scope vc gc)(bS:ee vars ρ vc aX)(hx:(x,VK.loc)∈vc)(pt:∀y,Pt vc aX x y (R y))(hg:Γ.gls=gls)(l:(y,V.cK (.type "range"))∈gls)
  (h:ak w Γ e σ ρ (JX w Γ.d vc gc R ifs elt Q))
  (hs:∀env z,foldedSetIterable (.Call (.Name y np) [e] [] iQ) env z=pure z:=by intro _ _;rfl)
  (he:∀env,starEach [e] env=(false,eval e env)::starEach [] env:=by intro _;rfl)(hp:∀env,(backTo iQ (starEach [e] env)).any (·.1)=false:=by intro _;rfl):
  ak w Γ (.ListComp elt [⟨.Name x px,.Call (.Name y np) [e] [] iQ,ifs,0⟩] scope pos) σ ρ Q:=by
 refine ak.wh (ak.Yi hv C bS hx pt (ak.tA hg l (h.mono ?_) he hp) hs)
 intro v aH zqA;obtain⟨n,rfl,hn,q⟩:=zqA
 refine⟨_,rfl,λr hr=>⟨r,0,_,1,n,rfl,ai _ _ _,Bi hn,Bj,λD hD=>?_⟩⟩
 have dM:aH D=none:=(af (o:=.range 0 (n:Int) 1) hr).none hD
 obtain⟨I,i0,i1,i2⟩:=q D dM
 refine⟨λi ys τ=>∃bf,Wk τ bf∧I i ys bf,⟨_,.upd (.Bk hr) .refl,i0⟩,?_,?_⟩
 intro i ys τ y zqA;obtain⟨bf,k,hI⟩:=zqA;intro hy Γc e1 e2 e3
 obtain⟨hi,rfl⟩:=JV hy
 refine⟨λS s e_ kk X hk=>?_⟩
 refine(i1 i ys bf hI hi Γc e1 e2 e3).run S s (e_.wk k) kk X λa s' jO q D'=>hk a s' jO ⟨λha=>?_,λha=>⟨_,.refl _,q.2 ha⟩⟩ D'
 exact(q.1 ha).mono λv l7 ⟨h1,h2,h3⟩=>⟨h1,h2,_,.refl _,h3⟩
 intro ys τ zqA;obtain⟨bf,k,hI⟩:=zqA
 exact⟨bf,k,i2 _ _ hI⟩
theorem ak.Yx (hv:Γ.vars=vars) {elt x px iter ifs pos}(C:bT w Γ scope vc gc)(bS:ee vars ρ vc aX)(hx:(x,VK.loc)∈vc)(pt:∀y,Pt vc aX x y (R y))
  (h:ak w Γ iter σ ρ (JY w Γ.d vc gc R ifs elt Q))
  (hs:∀env y,foldedSetIterable iter env y=pure y:=by intro _ _;rfl):ak w Γ (.ListComp elt [⟨.Name x px,iter,ifs,0⟩] scope pos) σ ρ Q:=by
 refine ak.lc hv C bS hx pt (h.mono ?_) hs
 intro v aH zqA;obtain⟨l,xs,G,rfl,hl,hz,st,q⟩:=zqA
 refine⟨l,xs,rfl,hl,λD hD=>⟨λi ys τ=>τ=upd aH D (.list ys)∧ys=(xs.take i).filterMap G,⟨rfl,by simp⟩,?_,?_,?_⟩⟩
 (intro i ys τ zqA;obtain⟨rfl,_⟩:=zqA);exact af hD _ _ hl
 intro i ys τ y zqA;obtain⟨rfl,rfl⟩:=zqA;intro hy Γc e1 e2 e3
 refine⟨λS s e_ kk X hk=>(st y (cS hy) _ (af hD) Γc e1 e2 e3).run S s e_ kk X λa s' jO q D'=>hk a s' jO ⟨λha=>(q.1 ha).mono ?_,λha=>?_⟩ D'⟩
 intro v l7 zqA;obtain⟨rfl,hG⟩:=zqA
 exact⟨ai _ _ _,dO JW hz,dk,by rw[wi hy,hG];rfl⟩
 obtain⟨rfl,hG⟩:=q.2 ha
 exact⟨rfl,by rw[wi hy,hG];simp⟩
 intro ys τ zqA;obtain⟨rfl,rfl⟩:=zqA
 rw[fM];exact q D hD
def fT:= @ak.Yx
theorem ak.qf (hv:Γ.vars=vars) {elt x px y np e iQ ifs pos}(C:bT w Γ scope vc gc)(bS:ee vars ρ vc aX)(hx:(x,VK.loc)∈vc)(pt:∀y,Pt vc aX x y (R y))(hg:Γ.gls=gls)(l:(y,V.cK (.type "range"))∈gls)
  (h:ak w Γ e σ ρ (JZ w Γ.d vc gc R ifs elt Q))
  (hs:∀env z,foldedSetIterable (.Call (.Name y np) [e] [] iQ) env z=pure z:=by intro _ _;rfl)
  (he:∀env,starEach [e] env=(false,eval e env)::starEach [] env:=by intro _;rfl)(hp:∀env,(backTo iQ (starEach [e] env)).any (·.1)=false:=by intro _;rfl):
  ak w Γ (.ListComp elt [⟨.Name x px,.Call (.Name y np) [e] [] iQ,ifs,0⟩] scope pos) σ ρ Q:=by
 refine ak.Yw hv C bS hx pt hg l (h.mono ?_) hs he hp
 intro v aH zqA;obtain⟨n,G,rfl,hn,st,q⟩:=zqA
 refine⟨n,rfl,hn,λD hD=>⟨λi ys τ=>τ=upd aH D (.list ys)∧i≤n∧ys=(List.range i).filterMap G,⟨rfl,j9 _,by simp⟩,?_,?_⟩⟩
 intro i ys τ zqA;obtain⟨rfl,_,rfl⟩:=zqA;intro hi Γc e1 e2 e3
 refine⟨λS s e_ kk X hk=>(st i hi _ (af hD) Γc e1 e2 e3).run S s e_ kk X λa s' jO q D'=>hk a s' jO ⟨λha=>(q.1 ha).mono ?_,λha=>?_⟩ D'⟩
 intro v l7 zqA;obtain⟨rfl,hG⟩:=zqA
 refine⟨ai _ _ _,?_,dk,hi,by rw[lM,qO];simp[hG]⟩
 refine dO (uY _ _) ?_
 rw[kG];lia
 obtain⟨rfl,hG⟩:=q.2 ha
 exact⟨rfl,hi,by rw[lM,qO];simp[hG]⟩
 intro ys τ zqA;obtain⟨rfl,_,rfl⟩:=zqA
 exact q D hD
theorem aT.wj (hv:Γ.vars=vars) {elt x px iter ifs pos y py gp}(C:bT w Γ scope vc gc)(bS:ee vars ρ vc aX)(hx:(x,VK.loc)∈vc)(pt:∀y,Pt vc aX x y (R y))(hy:(y,VK.loc)∈vars)(iP:(scope.names.all λp=> !(p.1==y))=true)
  (h:ak w Γ iter σ ρ (JY w Γ.d vc gc R ifs elt (kf vars y ρ QT)))
  (eG:(py.line==pos.line)=true:=by rfl)(hs:∀env y,foldedSetIterable iter env y=pure y:=by intro _ _;rfl):aT w Γ (.Assign [.Name y py] (.ListComp elt [⟨.Name x px,iter,ifs,0⟩] scope pos) gp) σ ρ QT:=by
 refine aT.ro hv C bS hx pt hy iP (h.mono ?_) eG hs
 intro v aH zqA;obtain⟨l,xs,G,rfl,hl,hz,st,q⟩:=zqA
 refine⟨l,xs,rfl,hl,λD hD=>⟨λi ys τ=>τ=upd aH D (.list ys)∧ys=(xs.take i).filterMap G,⟨rfl,by simp⟩,?_,?_,?_⟩⟩
 (intro i ys τ zqA;obtain⟨rfl,_⟩:=zqA);exact af hD _ _ hl
 intro i ys τ y zqA;obtain⟨rfl,rfl⟩:=zqA;intro hy Γc e1 e2 e3
 refine⟨λS s e_ kk X hk=>(st y (cS hy) _ (af hD) Γc e1 e2 e3).run S s e_ kk X λa s' jO q D'=>hk a s' jO ⟨λha=>(q.1 ha).mono ?_,λha=>?_⟩ D'⟩
 intro v l7 zqA;obtain⟨rfl,hG⟩:=zqA
 exact⟨ai _ _ _,dO JW hz,dk,by rw[wi hy,hG];rfl⟩
 obtain⟨rfl,hG⟩:=q.2 ha
 exact⟨rfl,by rw[wi hy,hG];simp⟩
 intro ys τ zqA;obtain⟨rfl,rfl⟩:=zqA
 rw[fM];exact q D hD
theorem aT.Yy (hv:Γ.vars=vars) {elt x px y np e iQ ifs pos z pz gp}(C:bT w Γ scope vc gc)(bS:ee vars ρ vc aX)(hx:(x,VK.loc)∈vc)(pt:∀y,Pt vc aX x y (R y))(hy:(z,VK.loc)∈vars)(iP:(scope.names.all fun p=> !(p.1==z))=true)(hg:Γ.gls=gls)(l:(y,V.cK (.type "range"))∈gls)
  (h:ak w Γ e σ ρ (JX w Γ.d vc gc R ifs elt (kf vars z ρ QT)))
  (eG:(pz.line==pos.line)=true:=by rfl)(hs:∀env z,foldedSetIterable (.Call (.Name y np) [e] [] iQ) env z=pure z:=by intro _ _;rfl)
  (he:∀env,starEach [e] env=(false,eval e env)::starEach [] env:=by intro _;rfl)(hp:∀env,(backTo iQ (starEach [e] env)).any (·.1)=false:=by intro _;rfl):
  aT w Γ (.Assign [.Name z pz] (.ListComp elt [⟨.Name x px,.Call (.Name y np) [e] [] iQ,ifs,0⟩] scope pos) gp) σ ρ QT:=by
 refine aT.wh (aT.Yj hv C bS hx pt hy iP (ak.tA hg l (h.mono ?_) he hp) eG hs)
 intro v aH zqA;obtain⟨n,rfl,hn,q⟩:=zqA
 refine⟨_,rfl,λr hr=>⟨r,0,_,1,n,rfl,ai _ _ _,Bi hn,Bj,λD hD=>?_⟩⟩
 have dM:aH D=none:=(af (o:=.range 0 (n:Int) 1) hr).none hD
 obtain⟨I,i0,i1,i2⟩:=q D dM
 refine⟨λi ys τ=>∃bf,Wk τ bf∧I i ys bf,⟨_,.upd (.Bk hr) .refl,i0⟩,?_,?_⟩
 intro i ys τ y zqA;obtain⟨bf,k,hI⟩:=zqA;intro hy Γc e1 e2 e3
 obtain⟨hi,rfl⟩:=JV hy
 refine⟨λS s e_ kk X hk=>?_⟩
 refine(i1 i ys bf hI hi Γc e1 e2 e3).run S s (e_.wk k) kk X λa s' jO q D'=>hk a s' jO ⟨λha=>?_,λha=>⟨_,.refl _,q.2 ha⟩⟩ D'
 exact(q.1 ha).mono λv l7 ⟨h1,h2,h3⟩=>⟨h1,h2,_,.refl _,h3⟩
 intro ys τ zqA;obtain⟨bf,k,hI⟩:=zqA
 obtain⟨bj,p,q⟩:=i2 _ _ hI
 exact⟨bj,p,bf,k,q⟩
theorem aT.Yz (hv:Γ.vars=vars) {elt x px y np e iQ ifs pos z pz gp}(C:bT w Γ scope vc gc)(bS:ee vars ρ vc aX)(hx:(x,VK.loc)∈vc)(pt:∀y,Pt vc aX x y (R y))(hy:(z,VK.loc)∈vars)(iP:(scope.names.all fun p=> !(p.1==z))=true)(hg:Γ.gls=gls)(l:(y,V.cK (.type "range"))∈gls)
  (h:ak w Γ e σ ρ (JZ w Γ.d vc gc R ifs elt (kf vars z ρ QT)))
  (eG:(pz.line==pos.line)=true:=by rfl)(hs:∀env z,foldedSetIterable (.Call (.Name y np) [e] [] iQ) env z=pure z:=by intro _ _;rfl)
  (he:∀env,starEach [e] env=(false,eval e env)::starEach [] env:=by intro _;rfl)(hp:∀env,(backTo iQ (starEach [e] env)).any (·.1)=false:=by intro _;rfl):
  aT w Γ (.Assign [.Name z pz] (.ListComp elt [⟨.Name x px,.Call (.Name y np) [e] [] iQ,ifs,0⟩] scope pos) gp) σ ρ QT:=by
 refine aT.Yy hv C bS hx pt hy iP hg l (h.mono ?_) eG hs he hp
 intro v aH zqA;obtain⟨n,G,rfl,hn,st,q⟩:=zqA
 refine⟨n,rfl,hn,λD hD=>⟨λi ys τ=>τ=upd aH D (.list ys)∧i≤n∧ys=(List.range i).filterMap G,⟨rfl,j9 _,by simp⟩,?_,?_⟩⟩
 intro i ys τ zqA;obtain⟨rfl,_,rfl⟩:=zqA;intro hi Γc e1 e2 e3
 refine⟨λS s e_ kk X hk=>(st i hi _ (af hD) Γc e1 e2 e3).run S s e_ kk X λa s' jO q D'=>hk a s' jO ⟨λha=>(q.1 ha).mono ?_,λha=>?_⟩ D'⟩
 intro v l7 zqA;obtain⟨rfl,hG⟩:=zqA
 refine⟨ai _ _ _,?_,dk,hi,by rw[lM,qO];simp[hG]⟩
 refine dO (uY _ _) ?_
 rw[kG];lia
 obtain⟨rfl,hG⟩:=q.2 ha
 exact⟨rfl,hi,by rw[lM,qO];simp[hG]⟩
 intro ys τ zqA;obtain⟨rfl,_,rfl⟩:=zqA
 exact q D hD
end
inductive YA (I:Nat→Hp→LO→Prop)(n:Nat)(σ:Hp)(ρ:LO):Prop
 |mk (m:Nat) (l:m<n) (q:I m σ ρ)
noncomputable abbrev YB (w:World)(Γ:Ctx)(body:List Stmt)(I:Nat→Hp→LO→Prop)(n:Nat)(ρ:LO)(QT:PF):Bool→Hp→Prop:=λb σ=>Br b (dj w Γ body σ ρ (Jm (YA I n) QT)) (QT .next σ ρ)
inductive YC (Q:PQ)(o i:V)(σ:Hp):Prop
 |mk (l:Addr) (xs:List V) (a:Nat) (e:o=.ref l) (e':i=.int a) (h:σ l=some (.list xs)) (z:xs.length≤1000000) (le:a≤xs.length) (q:∀b,σ b=none→Q (.ref b) (upd σ b (.list (xs.drop a))))
noncomputable abbrev J0 (w:World)(Γ:Ctx)(r:Expr)(ρ:LO)(K:V→PQ):PQ:=λo σ=>ak w Γ r σ ρ (K o)
inductive YD (QT:PF)(ρ:LO)(a:Addr)(v:V)(σ:Hp):Prop
 |mk (xs:List V) (h:σ a=some (.list xs)) (z:xs.length≤1000000) (q:QT .next (upd σ a (.list (xs++[v]))) ρ)
inductive YE (w:World)(Γ:Ctx)(e:Expr)(QT:PF)(ρ:LO)(ov:V)(σ:Hp):Prop
 |mk (a:Addr) (eq:ov=.ref a) (h:∃ys,σ a=some (.list ys)) (q:ak w Γ e σ ρ (YD QT ρ a))
section
variable{w:World}{Γ:Ctx}{σ:Hp}{ρ aX:LO}{Q:PQ}{QT:PF}{vars:KV}{gls:LV}
theorem aT.wo {test body pos}(I:Nat→Hp→LO→Prop)(n:Nat)(h0:I n σ ρ)
  (turn:∀n τ bj,I n τ bj→dJ w Γ test τ bj (YB w Γ body I n bj QT)):aT w Γ (.While test body [] pos) σ ρ QT:=by
 refine⟨λS s D k X hk=>wpAny_While (codeAny_whileLoop (λn s'=>∃τ bj,I n τ bj∧az w Γ s' τ bj) (λn s' hI=>?_) n ⟨σ,ρ,h0,D⟩)⟩
 obtain⟨τ,bj,hI,aL⟩:=hI
 refine(turn n τ bj hI).run S s' aL _ _ λb aG jO q aA=>?_
 cases b with
 |false=>
  simp only[jC,if_false]
  exact qU (hk .next _ _ _ (q.2 rfl) aA)
 |true=>
  simp only[if_true]
  refine(q.1 rfl).run S aG aA _ _ λfl bI l7 dz kg bN=>?_
  cases fl with
  |next=>obtain⟨m,hm,hI⟩:=kg;exact⟨m,hm,l7,dz,hI,bN⟩
  |cont=>obtain⟨m,hm,hI⟩:=kg;exact⟨m,hm,l7,dz,hI,bN⟩
  |brk=>exact hk .next _ _ _ kg bN
  |ret v=>exact hk (.ret v) _ _ _ kg bN
theorem YF {s:Shared}{l:Addr}{xs:List V}{vl vu:Value}{lo hi:Option Int}{ys:List V}{k:VP}(D:az w Γ s σ ρ)(hl:σ l=some (.list xs))
  (hp:∀vs:Array Value,vs.toList.map er=xs→(slicePick vs lo hi none).toList.map er=ys)(hk:∀b s',σ b=none→az w Γ s' (upd σ b (.list ys)) ρ→k (.ref b) s'):
  k (.ref (s.heap.objs.size+1)) {s with heap:=(s.heap.push {cls:=.type "slice",data:=.fields #[vl,vu,.none]}).push {cls:=.type "list",data:=.seq (slicePick ((D.hr.at_ _ _ hl).isList.choose) lo hi none)}}:=by
 have hv:=(D.hr.at_ _ _ hl).isList.choose_spec
 generalize (D.hr.at_ _ _ hl).isList.choose=vs at hv
 have aL:az w Γ {s with heap:=s.heap.push {cls:=.type "slice",data:=.fields #[vl,vu,.none]}} σ ρ:=D.grow (fun b o e=>dy _ e) rfl rfl
 have cM:At w ((s.heap.push {cls:=.type "slice",data:=.fields #[vl,vu,.none]}).push {cls:=.type "list",data:=.seq (slicePick vs lo hi none)}) (s.heap.push {cls:=.type "slice",data:=.fields #[vl,vu,.none]}).objs.size (.list ys):=
  ⟨0,slicePick vs lo hi none,oB,hp vs hv.2⟩
 obtain⟨aA,fr⟩:=aL.push rfl rfl cM s.toks
 have:=hk _ _ fr aA
 rw[jF]at this
 exact this
theorem ak.sliceFrom {value lo p pos}(h:ak w Γ value σ ρ (J0 w Γ lo ρ (YC Q)))
  (ht:∀o r,letTemporaryGo value o r=pure ():=by intro _ _;rfl):ak w Γ (.Subscript value (.Slice (some lo) none none p) pos) σ ρ Q:=by
 refine⟨λS s D k X hk=>wpAny_Subscript_list_slice (h.run S s D _ X λo av aH q aL=>?_) ht⟩
 rw[evalPart_some]
 refine q.run S av aL _ X λi aG aZ b_ aA=>?_
 obtain⟨l,xs,a,eo,ei,hl,hz,ha,qq⟩:=b_
 refine bJ eo ?_
 refine cL ei λt=>?_
 rw[evalPart_none]
 refine bY ?_
 have hv:=(aA.hr.at_ _ _ hl).isList.choose_spec
 refine⟨l,_,some (a:Int),none,rfl,hv.1,?_,.int _ _,.none,?_⟩
 rw[fg hv.2];exact mR hz
 refine YF aA hl (λvs ig=>?_) λb s' hb D'=>hk _ _ _ (qq b hb) D'
 rw[slicePick_from vs a (by rw[fg ig];exact ha)]
 subst ig
 simp[List.map_drop]
theorem YG (items:Array Value)(b:Nat):slicePick items none (some (b:Int)) none=(items.toList.take b).toArray:=by
 by_cases hb:b≤items.size
 exact slicePick_upto items b hb
 have e:sliceBounds none (some (b:Int)) none items.size=sliceBounds none (some ((items.size:Nat):Int)) none items.size:=by
  simp only[sliceBounds,Option.getD_none]
  have h2:¬((b:Int)<0):=by lia
  have h3:¬(((items.size:Nat):Int)<0):=by lia
  simp only[h2,h3,if_false]
  have:min (b:Int) (items.size:Int)=min ((items.size:Nat):Int) (items.size:Int):=by lia
  simp[this]
 unfold slicePick
 rw[e]
 have:=slicePick_upto items items.size (dp _)
 unfold slicePick at this
 rw[this,uZ (by simp),uZ (by simp;lia)]
theorem aT.append {o apos e pos J1}(h:ak w Γ o σ ρ (YE w Γ e QT ρ))
  (he:∀env,starEach [e] env=(false,eval e env)::starEach [] env:=by intro _;rfl)
  (m7:∀env,attributeBase o "append" env (eval o env)=eval o env:=by intro _;rfl)
  (m8:∀env,((backTo pos (starEach [e] env)).all (λx=> !x.1)&&(backToKw pos (keywordEach [] env)).all (λx=>x.1.isSome)&&decide ([e].length+([]:List Keyword).length+(if([]:List Keyword).isEmpty then 0 else 1)<30))=true:=by intro _;rfl)
  (eG:(apos.endLine==pos.line)=true:=by rfl)(hp:∀env,(backTo pos (starEach [e] env)).any (·.1)=false:=by intro _;rfl)
  (hs:∀env,swapsWith (.Call (.Attribute o "append" apos) [e] [] pos) none J1.line env=pure false:=by intro _;rfl):aT w Γ (.Expr (.Call (.Attribute o "append" apos) [e] [] pos) J1) σ ρ QT:=by
 refine jg (ak.AH (h.mono ?_) m7 m8 eG hp) hs
 intro ov aH zqA;obtain⟨a,rfl,⟨ys,hy⟩,q⟩:=zqA
 exact⟨a,_,"list","list.append",rfl,hy,rfl,PySem.F.plainAttrs_list,PySem.F.slot_list_append,PySem.F.type_list_append,aq (q.mono fun v aZ ⟨xs,h1,h2,h3⟩=>aK (Op.append h1 h2 h3)) he⟩
def eH:= @aT.append
end
theorem aB {n:Nat}(h:Nat.ble n 1000000=true:=by rfl):n≤1000000:=j5 h
section
variable{w:World}{d:Nat}{σ:Hp}{Q:PQ}{a:Addr}{kind items attrs:V}
theorem rp {k:Str}(ha:σ a=some (.inst 401 (aV (.str k) items attrs)))(hk:k=Str.ofString "character"∨k=Str.ofString "integer"∨k=Str.ofString "logical")(q:Q (.bool true) σ):Call w (d+1) (.ref 623) [.ref a] σ Q:=
 jn (Vf ha hk λb hb=>⟨σ,af hb,q⟩)
theorem YH (ha:σ a=some (.inst 401 (aV (.str "character") items attrs)))(q:Q .none σ):Call w (d+1) (.ref 985) [.ref a] σ Q:=
 jn (Yl rfl ha λb hb=>⟨σ,af hb,q⟩)
theorem YI {L l f:Addr}{x y:Str}{i j:Nat}{xs:List V}{na:V}(hL:σ L=some (.list [.ref a]))(hf:σ f=some (.list [.bool false]))(ha:σ a=some (.inst 401 (aV (.str "character") (.ref l) attrs)))
  (hl:σ l=some (.list xs))(hi:xs[i]? =some (.str x))(hj:xs[j]? =some (.str y))(hz:xs.length≤1000000)(q:Q (.int (ir x y)) σ):Call w (d+3) (.ref 999) [.ref L,.int i,.int j,.ref f,na] σ Q:=by
 refine Tw fun Γ hd hv hg=>?_
 refine ae (jP hv hg aN (cj hg aQ (ah hv .here ⟨L,_,rfl,hL,aB,1,λn τ ρ=>τ=σ∧(ρ[1]? =some (some (.int i))∧(n=0∧ρ=[some (.ref L),some (.int i),some (.int j),some (.ref f),some na,none,none]∨n=1∧ir x y=0)),rfl,aB,⟨rfl,rfl,.inl ⟨rfl,rfl⟩⟩,?_,?_⟩)))
 intro n τ ρ I hn
 obtain⟨rfl,_,⟨rfl,rfl⟩|⟨rfl,_⟩⟩:=I
 refine⟨_,fh,λown=>?_⟩
 obtain⟨hd,hv,hg⟩:=dF own hd hv hg
 refine ae (aS hv (aw hd hg cn (by rfl') (aq (bo (ah hv .here (aj hv 5 rfl rfl (bO (i:=0) hL rfl aB ?_)))))))
 refine aq (ah hv aD (aq (aj hv 2 rfl rfl (aq (bo (aj hv 3 rfl rfl (aj hv 5 rfl rfl (bO (i:=0) hf rfl aB (ar hv [4] rfl ?_)))))))))
 refine Yn rfl ha hl hi hj hz ⟨_,eB,?_⟩
 refine ae (aM (aF (aj hv 6 rfl rfl (aW (ax (.ne .ii) ⟨_,rfl,λh=>?_,λh=>?_⟩)))))
 exact ae (a_ (aj hv 6 rfl rfl q))
 exact au (au ⟨rfl,rfl,.inr ⟨rfl,by simpa using h⟩⟩)
 exact absurd hn (by decide)
 rintro τ ρ ⟨rfl,_,⟨h,_⟩|⟨_,h⟩⟩
 cases h
 refine ae (a_ (aW ?_))
 rw[h]at q
 exact q
end
noncomputable abbrev kI (P:Hp→LO→Prop)(Q:PF):PF
 |.next,σ,ρ=>P σ ρ
 |f,σ,ρ=>Q f σ ρ
theorem dj.Bl {w:World}{Γ:Ctx}{σ:Hp}{ρ:LO}{Q:PF} {st rest}(P:Hp→LO→Prop)(h:aT w Γ st σ ρ (kI P Q))(h2:∀τ aR,P τ aR→dj w Γ rest τ aR Q):dj w Γ (st::rest) σ ρ Q:=
 ae ⟨λS s D k X hk=>h.run S s D k X λfl s' τ aR q D'=>hk fl s' τ aR (by
  cases fl with
  |next=>exact h2 _ _ q
  |brk=>exact q
  |cont=>exact q
  |ret v=>exact q) D'⟩
def fU:= @dj.Bl
theorem Op.wq {w:World}{Γ:Ctx}{σ:Hp}{ρ:LO}{Q:PQ}{x y:Int}(q:Q (.int (x+y)) σ):∀a' b',er a'=.int x→er b'=.int y→Op w Γ (inplaceOp .Add a' b') σ ρ Q:=by
 intro a' b' ea eb S s D k X hk
 refine cL ea λt=>?_;refine cL eb λu=>?_
 exact wpAny_iadd_int (hk _ _ σ q (D.toks _))
noncomputable def tx (xs:List V)(p:Nat):Str:=match xs[p]? with
 |some (.str s)=>s
 |_=>default
noncomputable def jo (xs:List V)(p q:Nat):Bool:=decide (ir (tx xs p) (tx xs q)≤0)
noncomputable abbrev vI (n:Nat):V:=.int (n:Int)
noncomputable def rq (xs:List V)(p:Nat):Prop:=xs[p]? =some (.str (tx xs p))
section
variable{w:World}{d:Nat}{σ:Hp}{Q:PQ}{a:Addr}{kind items attrs:V}
theorem wt {ps:List Nat}{i:Nat}(h:i<ps.length):(ps.map vI)[i]? =some (vI ps[i]):=by simp[h]
theorem YJ {α:Type}{le:α→α→Bool}{a b:α}{as bs:List α}(h:le a b=true):List.merge (a::as) (b::bs) le=a::List.merge as (b::bs) le:=by simp[h]
theorem YK {α:Type}{le:α→α→Bool}{a b:α}{as bs:List α}(h:le a b=false):List.merge (a::as) (b::bs) le=b::List.merge (a::as) bs le:=by simp[h]
theorem wu {α:Type}{le:α→α→Bool}(as bs:List α):(List.merge as bs le).length=as.length+bs.length:=by simp
inductive YL (σ:Hp)(L1 L2 L f:Addr)(ps qs:List Nat)(xs:List V)(na:V)(D:Addr)(n:Nat)(τ:Hp)(ρ:LO):Prop
 |mk (i:Nat) (j:Nat) (ms:List Nat) (cQ:n=(ps.length-i)+(qs.length-j)) (cR:i≤ps.length) (eO:j≤qs.length) (fV:τ=upd σ D (.list (ms.map vI))) (lr:ms++List.merge (ps.drop i) (qs.drop j) (jo xs)=List.merge ps qs (jo xs)∧
   ρ=[some (.ref L1),some (.ref L2),some (.ref L),some (.ref f),some na,some (.ref D),some (.int i),some (.int j)])
inductive YM (σ:Hp)(L1 L2 L f:Addr)(ps qs:List Nat)(xs:List V)(na:V)(D:Addr)(τ:Hp)(ρ:LO):Prop
 |mk (i:Nat) (j:Nat) (ms:List Nat) (cQ:(i=ps.length∨j=qs.length)) (cR:i≤ps.length) (eO:j≤qs.length) (fV:τ=upd σ D (.list (ms.map vI))) (lr:ms++List.merge (ps.drop i) (qs.drop j) (jo xs)=List.merge ps qs (jo xs)∧
  ρ=[some (.ref L1),some (.ref L2),some (.ref L),some (.ref f),some na,some (.ref D),some (.int i),some (.int j)])
theorem YN {L1 L2 L l f:Addr}{ps qs:List Nat}{xs:List V}{na:V}(h1:σ L1=some (.list (ps.map vI)))(h2:σ L2=some (.list (qs.map vI)))(hL:σ L=some (.list [.ref a]))(hf:σ f=some (.list [.bool false]))
  (ha:σ a=some (.inst 401 (aV (.str "character") (.ref l) attrs)))(hl:σ l=some (.list xs))(hz:xs.length≤1000000)(hn:ps.length+qs.length≤1000000)(hp:∀p∈ps,rq xs p)(hq:∀p∈qs,rq xs p)
  (q:∀τ b,Ext σ τ→σ b=none→τ b=some (.list ((List.merge ps qs (jo xs)).map vI))→Q (.ref b) τ):Call w (d+4) (.ref 1006) [.ref L1,.ref L2,.ref L,.ref f,na] σ Q:=by
 have z1:(ps.map vI).length≤1000000:=by rw[ay];exact dO (Nat.le_add_right _ _) hn
 have z2:(qs.map vI).length≤1000000:=by rw[ay];exact dO (Nat.le_add_left _ _) hn
 refine Tx fun Γ hd hv hg=>?_
 refine ae (aS hv (bq (aK ⟨aB,λD hD=>⟨_,fh,ae (aS hv (aW ⟨_,eB,ae (aS hv (aW ⟨_,gV,?_⟩))⟩))⟩⟩)))
 refine fU (YM σ L1 L2 L f ps qs xs na D) ?_ ?_
 refine aT.wo (YL σ L1 L2 L f ps qs xs na D) _ ⟨0,0,[],rfl,j9 _,j9 _,rfl,by simp,rfl⟩ ?_
 intro n τ ρ zqA;obtain⟨i,j,ms,rfl,hi,hj,rfl,hm,rfl⟩:=zqA
 have E:Ext σ (upd σ D (.list (ms.map vI))):=af hD
 have lx:(ms.map vI).length≤1000000:=by
  have:=gf List.length hm
  rw[j6,wu,wu]at this
  rw[ay];lia
 refine cw (bW (aF (aj hv 6 rfl rfl (cj hg aN (ah hv .here ⟨_,_,rfl,E _ _ h1,z1,ax .ltI ⟨_,rfl,λc1=>bW (aF (aj hv 7 rfl rfl (cj hg aN (ah hv aD ⟨_,_,rfl,E _ _ h2,z2,ax .ltI ⟨_,rfl,λc2=>jL (tt rfl ?_),λc2=>ff rfl ?_⟩⟩)))),λc1=>ff rfl ?_⟩⟩)))))
 have c1:i<ps.length:=by simpa using c1
 have c2:j<qs.length:=by simpa using c2
 have wx:=hp _ (hO c1)
 have YO:=hq _ (hO c2)
 refine ae (aM (aF (aw hd hg aQ (by rfl') (aq (aj hv 2 rfl rfl (aq (bo (ah hv .here (aj hv 6 rfl rfl (bO (E _ _ h1) (wt c1) z1 (aq (bo (ah hv aD (aj hv 7 rfl rfl (bO (E _ _ h2) (wt c2) z2 ?_)))))))))))))))
 refine ar hv [3,4] rfl ?_
 refine YI (E _ _ hL) (E _ _ hf) (E _ _ ha) (E _ _ hl) wx YO hz (aW (ax .vD ⟨_,rfl,λc3=>?_,λc3=>?_⟩))
 refine ae (eH (aj hv 5 rfl rfl ⟨D,rfl,⟨_,ai _ _ _⟩,bo (ah hv .here (aj hv 6 rfl rfl (bO (E _ _ h1) (wt c1) z1 ⟨_,ai _ _ _,lx,ae ?_⟩)))⟩))
 refine aT.aug hv QQ (aW (Op.wq ⟨_,eB,au ?_⟩))
 refine au ⟨_,?_,i+1,j,ms++[ps[i]],rfl,c1,hj,by rw[dk,df];rfl,?_,rfl⟩
 exact Nat.add_lt_add_right (sg _ _ c1) _
 rw[←hm,lL c1,lL c2,YJ (le:=jo xs) c3];simp
 refine ae (eH (aj hv 5 rfl rfl ⟨D,rfl,⟨_,ai _ _ _⟩,bo (ah hv aD (aj hv 7 rfl rfl (bO (E _ _ h2) (wt c2) z2 ⟨_,ai _ _ _,lx,ae ?_⟩)))⟩))
 refine aT.aug hv QR (aW (Op.wq ⟨_,gV,au ?_⟩))
 refine au ⟨_,?_,i,j+1,ms++[qs[j]],rfl,hi,c2,by rw[dk,df];rfl,?_,rfl⟩
 exact Nat.add_lt_add_left (sg _ _ c2) _
 rw[←hm,lL c1,lL c2,YK (le:=jo xs) c3];simp
 exact⟨i,j,ms,.inr (by have:¬j<qs.length:=(by simpa using c2);lia),hi,hj,rfl,hm,rfl⟩
 exact⟨i,j,ms,.inl (by have:¬i<ps.length:=(by simpa using c1);lia),hi,hj,rfl,hm,rfl⟩
 intro τ ρ zqA;obtain⟨i,j,ms,YP,hi,hj,rfl,hm,rfl⟩:=zqA
 have E:Ext σ (upd σ D (.list (ms.map vI))):=af hD
 have lx:=gf List.length hm
 rw[j6,wu,wu]at lx
 rw[List.length_drop,List.length_drop]at lx
 refine ae (a_ (bC (bC (aj hv 5 rfl rfl (ak.sliceFrom (ah hv .here (aj hv 6 rfl rfl ⟨_,_,i,rfl,rfl,E _ _ h1,z1,by rw[ay];exact hi,λb hb a' b' ea eb=>Op.v7 (af hb _ _ (ai _ _ _)) (ai _ _ _) ?_ (λc hc=>ak.sliceFrom (ah hv aD (aj hv 7 rfl rfl ⟨_,_,j,rfl,rfl,af hc _ _ (af hb _ _ (E _ _ h2)),z2,by rw[ay];exact hj,λe he a' b' ea eb=>Op.v7 (af he _ _ (ai _ _ _)) (ai _ _ _) ?_ (λg hg=>?_) a' b' ea eb⟩))) a' b' ea eb⟩)))))))
 simp only[ay,List.length_drop];lia
 simp only[j6,ay,List.length_drop];lia
 have E2:=((E.trans (af hb (o:=.list ((ps.map vI).drop i)))).trans (af hc (o:=.list (ms.map vI++(ps.map vI).drop i)))).trans (af he (o:=.list ((qs.map vI).drop j)))
 refine q _ g (E2.trans (af hg)) (E2.none hg) ?_
 rw[ai,←hm]
 rcases YP with rfl|rfl
 simp
 simp
end
theorem fq (a b:Nat):(a:Int).fmod b=((a % b:Nat):Int):=by rw[Int.fmod_eq_emod_of_nonneg _ (pB b)];rfl
section
variable{α β:Type}{R S:α→β→Prop}
theorem br.mono {l:List α}{m:List β}(h:br R l m)(k:∀a b,R a b→S a b):br S l m:=by induction h with|nil=>exact .nil|cons h _ ih=>exact .cons (k _ _ h) ih
def fW:= @br.mono
theorem br.app {l l':List α}{m m':List β}(h:br R l m)(k:br R l' m'):br R (l++l') (m++m'):=by induction h with|nil=>exact k|cons h _ ih=>exact .cons h ih
theorem br.get {l:List α}{m:List β}(h:br R l m){i:Nat}{b:β}(hb:m[i]? =some b):∃a,l[i]? =some a∧R a b:=by
 induction h generalizing i with
 |nil=>cases hb
 |cons h _ ih=>
  cases i with
  |zero=>cases hb;exact⟨_,rfl,h⟩
  |succ i=>exact ih hb
theorem br.len {l:List α}{m:List β}(h:br R l m):l.length=m.length:=by induction h with|nil=>rfl|cons _ _ ih=>simp[ih]
end
noncomputable def off (σ:Hp)(D:Addr):Hp:=λa=>if a=D then none else σ a
theorem dA {σ:Hp}{D:Addr}:off σ D D=none:=by simp[off]
theorem off_ne {σ:Hp}{D b:Addr}{o:MO}(h:b≠D)(e:σ b=some o):off σ D b=some o:=by simp[off,h,e]
theorem c_ {σ:Hp}{D:Addr}:Ext (off σ D) σ:=λa o e=>by
 unfold off at e
 split at e
 cases e
 exact e
theorem hole {υ τ:Hp}{D:Addr}{x:MO}(hD:υ D=none)(E:Ext (upd υ D x) τ):Ext υ (off τ D)∧τ=upd (off τ D) D x:=by
 refine⟨λa o e=>?_,?_⟩
 have:a≠D:=λh=>by rw[h,hD]at e;cases e
 exact off_ne this (E _ _ (by rw[aJ this];exact e))
 funext a
 by_cases h:a=D
 subst h;rw[ai];exact E _ _ (ai _ _ _)
 rw[aJ h];simp[off,h]
noncomputable def LL (τ:Hp)(bs:List Addr)(pss:List (List Nat)):Prop:=br (λb ps=>τ b=some (.list (ps.map vI))) bs pss
theorem LL.ext {σ τ:Hp}{bs:List Addr}{pss:List (List Nat)}(h:LL σ bs pss)(E:Ext σ τ):LL τ bs pss:=fW h λ_ _ e=>E _ _ e
theorem YQ (a b:Str):ir a b≤0∨ir b a≤0:=by
 unfold ir
 by_cases h1:a.cps.toList<b.cps.toList
 simp[h1]
 by_cases h2:b.cps.toList<a.cps.toList<;>simp[h1,h2]
theorem J2 {a b:Str}:ir a b≤0↔¬b.cps.toList<a.cps.toList:=by
 unfold ir
 by_cases h1:a.cps.toList<b.cps.toList
 simp[h1];exact List.not_lt.mp (λh=>List.lt_irrefl _ (List.lt_trans h h1))
 by_cases h2:b.cps.toList<a.cps.toList<;>simp[h1,h2]
theorem YR {a b c:Str}(h1:ir a b≤0)(h2:ir b c≤0):ir a c≤0:=by
 rw[J2]at*
 exact List.not_lt.mpr (List.le_trans (List.not_lt.mp h1) (List.not_lt.mp h2))
noncomputable def kq (xs:List V)(ps:List Nat):Prop:=ps.Pairwise λp q=>jo xs p q=true
theorem kq.merge {xs:List V}{ps qs:List Nat}(h1:kq xs ps)(h2:kq xs qs):kq xs (List.merge ps qs (jo xs)):=
 List.pairwise_merge (λa b c h k=>by
  unfold jo at*
  simp only[decide_eq_true_eq]at*
  exact YR h k) (λa b=>by
  unfold jo
  rcases YQ (tx xs a) (tx xs b)with h|h<;>simp[h]) _ _ h1 h2
section
variable{w:World}{d:Nat}{σ:Hp}{Q:PQ}{a:Addr}{kind items attrs:V}
theorem J3 {n:Nat}(h:2≤n):Builtin.Range.rangeSize 0 ((n:Int)-1) 2=((n/2:Nat):Int):=by
 have h1:(0:Int)<(n:Int)-1:=by lia
 show(if(0:Int)<(n:Int)-1 then((n:Int)-1-0-1)/2+1 else 0)=_
 rw[ck h1,show(n:Int)-1-0-1=(n:Int)+(-1)*2 by lia,Int.add_mul_ediv_right _ _ (by decide)]
 show(n:Int)/2+ -1+1=_
 rw[Int.add_assoc]
 exact Int.add_zero _
theorem tP {i:Int}(h:0≤i)(h':i≤1000001):Builtin.Range.rangeFitsLong i=true:=by
 unfold Builtin.Range.rangeFitsLong
 rw[fN]
 exact⟨i6 (Int.le_trans (by decide) h),i6 (Int.lt_of_le_of_lt h' (by decide))⟩
theorem YS {n:Nat}(h:2≤n)(h':n≤1000000):Builtin.Range.small 0 ((n:Int)-1) 2=true:=by
 unfold Builtin.Range.small
 simp only[fN,Bool.or_eq_true]
 refine⟨⟨⟨⟨tP (by decide) (by decide),tP (by lia) (by lia)⟩,tP (by decide) (by decide)⟩,?_⟩,.inr ?_⟩
 exact J3 h▸tP (by lia) (by lia)
 rewrite [ck (by decide)];exact tP (by lia) (by lia)
noncomputable def jQ (xs:List V)(pss:List (List Nat)):Nat→List (List Nat)
 |0=>[]
 |k+1=>jQ xs pss k++[List.merge (pss[2*k]?.getD []) (pss[2*k+1]?.getD []) (jo xs)]
theorem oV {xs:List V}{pss:List (List Nat)}:∀k,(jQ xs pss k).length=k
 |0=>rfl
 |k+1=>by unfold jQ;rw[j6,oV k];rfl
theorem J4 {xs:List V}{pss:List (List Nat)}:∀k,2*k≤pss.length→(jQ xs pss k).flatten.Perm (pss.take (2*k)).flatten
 |0,_=>by simp[jQ]
 |k+1,h=>by
  unfold jQ
  have e1:pss[2*k]? =some pss[2*k]:=bL (by lia)
  have e2:pss[2*k+1]? =some pss[2*k+1]:=bL (by lia)
  have e:pss.take (2*(k+1))=pss.take (2*k)++[pss[2*k],pss[2*k+1]]:=by
   rw[(by lia:2*(k+1)=(2*k+1)+1),eY (i:=2*k+1),eY (i:=2*k),e1,e2]
   simp only[Option.toList,List.append_assoc,sr,List.nil_append]
  rw[e,sk,sk,e1,e2]
  refine List.Perm.append (J4 k (by lia)) ?_
  simpa using List.merge_perm_append (jo xs)
theorem J5 {xs:List V}{pss:List (List Nat)}(hs:∀ps∈pss,kq xs ps):∀k,2*k≤pss.length→∀ps∈jQ xs pss k,kq xs ps
 |0,_=>by simp[jQ]
 |k+1,h=>λps hp=>by
  unfold jQ at hp
  have e1:pss[2*k]? =some pss[2*k]:=bL (by lia)
  have e2:pss[2*k+1]? =some pss[2*k+1]:=bL (by lia)
  rcases cq.mp hp with hp|hp
  exact J5 hs k (by lia) ps hp
  rw[dm.mp hp,e1,e2]
  exact kq.merge (hs _ (hO _)) (hs _ (hO _))
end
section
variable{w:World}{d:Nat}{σ:Hp}{Q:PQ}{a:Addr}{kind items attrs:V}
theorem tQ {k n:Nat}(h:k<n/2):2*k<n∧2*k+1<n:=by lia
theorem YT {n:Nat}(h:2≤n)(o:n % 2=1):2*(n/2)=n-1∧n/2+1<n∧n-1<n∧n≤n-1+1:=by lia
theorem YU {n:Nat}(h:n≠0)(o:n % 2=0):2*(n/2)=n∧n/2<n∧n/2≠0:=by lia
theorem J6 {n m:Nat}(h:n≤m):n/2≤m:=dO (Nat.div_le_self _ _) h
theorem J7 {n:Nat}:2*(n/2)≤n:=by lia
theorem YV {n:Nat}(h:(((n % 2:Nat):Int)==1)=true):n % 2=1:=by have:=eq_of_beq h;lia
theorem YW {n:Nat}(h:(((n % 2:Nat):Int)==1)=false):n % 2=0:=by have:=ne_of_beq_false h;lia
theorem bp {σ:Hp}{a b:Addr}{o:MO}(h:σ a=some o)(k:σ b=none):a≠b:=λe=>by rw[e,k]at h;cases h
theorem J8 {ps qs:List Nat}{P:Nat→Prop}(h:ps.Perm qs)(k:∀x∈qs,P x):∀x∈ps,P x:=λx hx=>k x (h.subset hx)
theorem J9 {pss:List (List Nat)}{P:Nat→Prop}(k:∀x∈pss.flatten,P x){i:Nat}{qs:List Nat}(h:pss[i]? =some qs):∀x∈qs,P x:=λx hx=>k x (List.mem_flatten.mpr ⟨qs,cS h,hx⟩)
theorem YX {pss:List (List Nat)}{i:Nat}(h:i+1<pss.length):pss[i].length+pss[i+1].length≤pss.flatten.length:=by
 have e:pss=pss.take i++pss[i]::pss[i+1]::pss.drop (i+2):=by
  rw[←lL,←lL,n_]
 have:=gf (λl=>l.flatten.length) e
 simp only[sk,j6,List.flatten_cons]at this
 lia
inductive YY (σ:Hp)(P L f:Addr)(ps:List Nat)(xs:List V)(na:V)(n:Nat)(τ:Hp)(ρ:LO):Prop
 |mk (R:Addr) (bs:List Addr) (pss:List (List Nat)) (o1:Option V) (o2:Option V) (cQ:n=pss.length) (cR:pss.length≠0) (eO:pss.length≤1000000) (fV:Ext σ τ) (lr:τ R=some (.list (bs.map .ref))) (tR:LL τ bs pss) (J_:pss.flatten.Perm ps) (h8_:(∀x∈pss,kq xs x)) (h9_:ρ=[some (.ref P),some (.ref L),some (.ref f),some na,some (.ref R),o1,o2])
inductive YZ (σ:Hp)(P L f:Addr)(ps:List Nat)(xs:List V)(na:V)(τ:Hp)(ρ:LO):Prop
 |mk (R:Addr) (b:Addr) (ms:List Nat) (o1:Option V) (o2:Option V) (cQ:Ext σ τ) (cR:τ R=some (.list [.ref b])) (eO:τ b=some (.list (ms.map vI))) (fV:ms.Perm ps) (lr:kq xs ms) (tR:ρ=[some (.ref P),some (.ref L),some (.ref f),some na,some (.ref R),o1,o2])
inductive Y0 (σ:Hp)(ps:List Nat)(D:Addr)(i:Nat)(ys:List V)(τ:Hp):Prop
 |mk (υ:Hp) (bs:List Addr) (cQ:υ D=none) (cR:Ext σ υ) (eO:τ=upd υ D (.list ys)) (fV:ys=bs.map .ref) (lr:LL υ bs ((ps.take i).map λp=>[p]))
theorem Y6 {P L l f:Addr}{ps:List Nat}{xs:List V}{na:V}(h1:σ P=some (.list (ps.map vI)))(hL:σ L=some (.list [.ref a]))(hf:σ f=some (.list [.bool false]))
  (ha:σ a=some (.inst 401 (aV (.str "character") (.ref l) attrs)))(hl:σ l=some (.list xs))(hz:xs.length≤1000000)(hn:ps.length≤1000000)(hp:∀p∈ps,rq xs p)
  (q:∀τ b ms,Ext σ τ→τ b=some (.list (ms.map vI))→ms.Perm ps→kq xs ms→Q (.ref b) τ):Call w (d+5) (.ref 1011) [.ref P,.ref L,.ref f,na] σ Q:=by
 have z1:(ps.map vI).length≤1000000:=by rw[ay];lia
 refine Tz fun Γ hd hv hg=>?_
 refine ae (aT.ro hv (V2 (w:=w) hv (by rfl) (by rfl)) (.loc (.loc .nil)) aQ (pt:=λy=>bX) fG (by rfl') (ah hv .here ⟨P,_,rfl,h1,λD hD=>⟨Y0 σ ps D,?_,?_,?_,?_⟩⟩))
 exact⟨σ,[],hD,.refl _,rfl,rfl,by simp[LL];exact .nil⟩
 intro i ys τ zqA;obtain⟨υ,bs,dM,E,rfl,_,_⟩:=zqA
 exact af dM _ _ (E _ _ h1)
 intro i ys τ y zqA;obtain⟨υ,bs,dM,E,rfl,rfl,hb⟩:=zqA;intro hy Γc e1 e2 e3
 obtain⟨p,wx,rfl⟩:∃p,ps[i]? =some p∧vI p=y:=by simpa using hy
 have hi:=(cp.mp wx).1
 refine dE ⟨λ_=>bq (ar e2 [1] rfl ⟨aB,λb cg=>?_⟩),tf⟩
 obtain⟨h2,h3⟩:=hole dM (af (o:=.list [vI p]) cg)
 have iu:b≠D:=Ne.symm (bp (ai _ _ _) cg)
 refine⟨af cg _ _ (ai _ _ _),?_,off (upd (upd υ D (.list (bs.map V.ref))) b (.list [vI p])) D,bs++[b],dA,E.trans h2,?_,by simp,?_⟩
 rw[ay,hb.len,ay,eZ];lia
 rw[h3,dk];congr 1;rw[←h3]
 have:(ps.take (i+1)).map (λp=>[p])=(ps.take i).map (λp=>[p])++[[p]]:=by rw[eY,wx];simp
 rw[this]
 exact br.app (LL.ext hb h2) (.cons (off_ne iu (ai _ _ _)) .nil)
 intro ys τ zqA;obtain⟨υ,R,dM,E,rfl,rfl,hb⟩:=zqA
 rw[ay,fM]at hb
 have E':Ext υ (upd υ D (.list (R.map V.ref))):=af dM
 refine⟨_,dR,ae (aM (aF (cj hg aN (aj hv 4 rfl rfl ⟨D,_,rfl,ai _ _ _,?_,aW (ax (.eq .ii) ⟨_,rfl,λc=>?_,λc=>au ?_⟩)⟩))))⟩
 rw[ay,hb.len,ay];exact hn
 have:R=[]:=by simpa using c
 subst this
 have:ps=[]:=by have:=hb.len;simpa using this.symm
 subst this
 exact ae (a_ (bq (aK ⟨aB,λb hb=>q _ b [] ((E.trans E').trans (af hb)) (ai _ _ _) (List.Perm.refl _) .nil⟩)))
 have c:R.length≠0:=by simpa using c
 refine fU (YZ σ P L f ps xs na) ?_ ?_
 refine aT.wo (YY σ P L f ps xs na)
  _ ⟨D,R,ps.map λp=>[p],_,_,rfl,by rw[←hb.len];exact c,by rw[ay];exact hn,E.trans E',ai _ _ _,LL.ext hb E',by simp[←List.flatMap_def],λx hx=>?_,rfl⟩ ?_
 refine bZ hx λp _=>?_;exact r9 _ _
 intro n τ ρ zqA;obtain⟨R,bs,pss,o1,o2,rfl,b8,hle,E,hR,hb,tS,hs,rfl⟩:=zqA
 have zR:(bs.map V.ref).length≤1000000:=by rw[ay,hb.len];exact hle
 have hlen:(bs.map V.ref).length=pss.length:=by rw[ay,hb.len]
 refine aF (cj hg aN (aj hv 4 rfl rfl ⟨R,_,rfl,hR,zR,aW (ax .jc ⟨_,rfl,λc=>?_,λc=>?_⟩)⟩))
 have c:2≤pss.length:=by rw[hlen]at c;have:=mD c;lia
 refine ae (aS hv (bq (aK ⟨aB,λD hD=>⟨_,fh,?_⟩⟩)))
 have hRD:R≠D:=bp hR hD
 refine fU (λbf aR=>∃(υ:Hp) (gI:List Addr) (o:Option V),υ D=none∧Ext τ υ∧bf=upd υ D (.list (gI.map .ref))∧LL υ gI (jQ xs pss (pss.length/2))∧aR=[some (.ref P),some (.ref L),some (.ref f),some na,some (.ref R),some (.ref D),o]) ?_ ?_
 refine aT.Jz hv (ak.oP (cm hg aQ ⟨"range",rfl,aq (aW (aq (bC (cj hg aN (aj hv 4 rfl rfl ⟨R,_,rfl,af hD _ _ hR,zR,aW (Op.pK (ar rfl [] rfl ?_))⟩)))))⟩))
 rw[hlen]
 refine Op.U3 (by decide) (by decide) λr hr=>?_
 obtain⟨h2,h3⟩:=hole hD (af (o:=.range 0 ((pss.length:Int)-1) 2) hr)
 refine⟨r,_,_,_,pss.length/2,λk bf aR=>∃(υ:Hp) (gI:List Addr) (o:Option V),υ D=none∧Ext τ υ∧bf=upd υ D (.list (gI.map .ref))∧LL υ gI (jQ xs pss k)∧aR=[some (.ref P),some (.ref L),some (.ref f),some na,some (.ref R),some (.ref D),o],
  rfl,ai _ _ _,YS c (by assumption),J3 c,⟨_,[],_,dA,h2,h3,.nil,rfl⟩,?_,?_⟩
 intro k bf aR zqA;obtain⟨υ,gI,o,dM,E2,rfl,cg,rfl⟩:=zqA;intro hk
 refine⟨_,eB,λown=>?_⟩
 obtain⟨hd,hv,hg⟩:=dF own hd hv hg
 have E3:Ext υ (upd υ D (.list (gI.map V.ref))):=af dM
 have E4:=E2.trans E3
 have E5:=E.trans E4
 have k1:pss[2*k]? =some (pss[2*k]'(tQ hk).1):=bL (tQ hk).1
 have k2:pss[2*k+1]? =some (pss[2*k+1]'(tQ hk).2):=bL (tQ hk).2
 obtain⟨b1,g1,l1⟩:=hb.get k1
 obtain⟨b2,g2,l2⟩:=hb.get k2
 refine ae (eH (aj hv 5 rfl rfl ⟨D,rfl,⟨_,ai _ _ _⟩,aw hd hg cn (by rfl') (aq (bo (aj hv 4 rfl rfl (aj hv 6 rfl rfl (eh (i:=2*k) (x:=.ref b1) (E4 _ _ hR) (by lia) (by simp[g1]) zR ?_)))))⟩))
 refine aq (bo (aj hv 4 rfl rfl (bC (aj hv 6 rfl rfl (aW (Op.jd (eh (i:=2*k+1) (x:=.ref b2) (E4 _ _ hR) (by lia) (by simp[g2]) zR ?_)))))))
 refine ar hv [1,2,3] rfl ?_
 have kr:=J8 tS hp
 have iw:=tS.length_eq
 have ej:=YX (pss:=pss) (i:=2*k) (tQ hk).2
 refine YN (E4 _ _ l1) (E4 _ _ l2) (E5 _ _ hL) (E5 _ _ hf) (E5 _ _ ha) (E5 _ _ hl) hz ?_ (J9 kr k1) (J9 kr k2) λbU b F Y7 ly=>?_
 lia
 obtain⟨h4,h5⟩:=hole dM F
 have iu:b≠D:=Ne.symm (bp (ai _ _ _) Y7)
 refine⟨_,F _ _ (ai _ _ _),?_,au ⟨off bU D,gI++[b],_,dA,E2.trans h4,?_,?_,rfl⟩⟩
 rw[ay,cg.len,oV];lia
 rw[h5,dk,←h5];simp
 show br _ _ (_++[_])
 rw[k1,k2]
 exact br.app (LL.ext cg h4) (.cons (off_ne iu ly) .nil)
 intro bf aR zqA;obtain⟨υ,gI,o,h⟩:=zqA
 exact⟨υ,gI,o,h⟩
 intro bf aR zqA;obtain⟨υ,gI,o,dM,E2,rfl,cg,rfl⟩:=zqA
 have E3:Ext υ (upd υ D (.list (gI.map V.ref))):=af dM
 have E4:=E2.trans E3
 have E5:=E.trans E4
 have jq:=J4 (xs:=xs) (pss:=pss) (pss.length/2) J7
 have dS:=J5 hs (pss.length/2) J7
 have jR:gI.length=pss.length/2:=by rw[cg.len,oV]
 refine ae (aM (aF (bC (cj hg aN (aj hv 4 rfl rfl ⟨R,_,rfl,E4 _ _ hR,zR,aW (fC (by decide) (aW (ax (.eq .ii) ⟨_,rfl,λco=>?_,λco=>au ?_⟩)))⟩)))))
 have co:pss.length % 2=1:=by
  rw[hlen,show(2:Int)=((2:Nat):Int)from rfl,fq]at co
  exact YV co
 obtain⟨q1,q2,q3,q4⟩:=YT c co
 have k1:pss[pss.length-1]? =some (pss[pss.length-1]'q3):=bL q3
 obtain⟨b1,g1,l1⟩:=hb.get k1
 refine ae (eH (aj hv 5 rfl rfl ⟨D,rfl,⟨_,ai _ _ _⟩,bo (aj hv 4 rfl rfl (ak.neg (aW ⟨1,rfl,R,_,rfl,E4 _ _ hR,trivial,Op.RF (x:=.ref b1) (E4 _ _ hR) ?_ ⟨_,ai _ _ _,?_,au (ae (aS hv (aj hv 5 rfl rfl ⟨_,dR,au ?_⟩)))⟩⟩)))⟩))
 rw[List.getLast?_eq_getElem?,ay,hb.len];simp[g1]
 rw[ay,jR];exact J6 hle
 rw[dk]
 have E6:Ext υ (upd υ D (.list (gI.map V.ref++[V.ref b1]))):=af dM
 refine⟨_,?_,D,gI++[b1],jQ xs pss (pss.length/2)++[pss[pss.length-1]'q3],_,_,rfl,?_,?_,E.trans (E2.trans E6),by rw[ai];simp,?_,?_,?_,rfl⟩
 rw[j6,oV];exact q2
 simp
 rw[j6,oV];exact dO (Nat.le_of_lt q2) hle
 exact br.app (LL.ext cg E6) (.cons (E6 _ _ (E2 _ _ l1)) .nil)
 refine List.Perm.trans ?_ tS
 rw[sk]
 refine(List.Perm.append_right _ jq).trans ?_
 have:pss=pss.take (2*(pss.length/2))++[pss[pss.length-1]'q3]:=by
  rw[q1]
  have:=n_ (pss.length-1) pss
  rw[lL q3,List.drop_eq_nil_of_le q4]at this
  exact this.symm
 rw[←sk,←this]
 intro x hx
 rcases cq.mp hx with hx|hx
 exact dS x hx
 rw[dm.mp hx];exact hs _ (hO _)
 have co:pss.length % 2=0:=by
  rw[hlen,show(2:Int)=((2:Nat):Int)from rfl,fq]at co
  exact YW co
 have a3:=YU b8 co
 refine ae (aS hv (aj hv 5 rfl rfl ⟨_,dR,au ⟨_,?_,D,gI,jQ xs pss (pss.length/2),_,_,rfl,?_,?_,E5,ai _ _ _,LL.ext cg E3,?_,dS,rfl⟩⟩))
 rw[oV];exact a3.2.1
 rw[oV];exact a3.2.2
 rw[oV];exact J6 hle
 refine jq.trans ?_
 rw[a3.1,fM]
 exact tS
 have c:pss.length=1:=by rw[hlen]at c;have:=qQ c;lia
 obtain⟨ms,rfl⟩:=List.length_eq_one_iff.mp c
 cases hb with|cons h h'=>cases h';exact⟨R,_,ms,o1,o2,E,hR,h,by simpa using tS,hs _ bA,rfl⟩
 intro τ ρ zqA;obtain⟨R,b,ms,o1,o2,E,hR,hb,hp,hs,rfl⟩:=zqA
 exact ae (a_ (bo (aj hv 4 rfl rfl (aW (bO (i:=0) hR rfl aB (q τ b ms E hb hp hs))))))
end
theorem Str.ext' {a b:Str}(h:a.cps.toList=b.cps.toList):a=b:=by
 obtain⟨a⟩:=a;obtain⟨b⟩:=b
 congr 1
 exact Array.toList_inj.mp h
theorem Y8 {a b:Str}(h:¬b.cps.toList<a.cps.toList)(n:a≠b):a.cps.toList<b.cps.toList:=by
 refine Classical.byContradiction λh2=>n (Str.ext' ?_)
 exact List.le_antisymm (List.not_lt.mp h) (List.not_lt.mp h2)
noncomputable def Lv (xs:List V)(ts:List Str):Prop:=(ts.Pairwise λa b=>a.cps.toList<b.cps.toList)∧∀s,s∈ts↔V.str s∈xs
theorem Bm:∀(l:List Str)(acc:List Str),(l.Pairwise λa b=>¬b.cps.toList<a.cps.toList)→(acc.Pairwise λa b=>a.cps.toList<b.cps.toList)→(∀a∈acc,∀b∈l,¬b.cps.toList<a.cps.toList)→
  (((l.map V.str).foldl ij acc).Pairwise λa b=>a.cps.toList<b.cps.toList)∧∀s,s∈(l.map V.str).foldl ij acc↔s∈acc∨s∈l
 | [],acc,_,h2,_=>⟨h2,by simp⟩
 |x::l,acc,h1,h2,h3=>by
  rw[List.pairwise_cons]at h1
  rw[bx,oh]
  have hs:ij acc (V.str x)=if x∈acc then acc else acc++[x]:=rfl
  rw[hs]
  by_cases h:x∈acc
  rw[ck h]
  obtain⟨g1,g2⟩:=Bm l acc h1.2 h2 λa ha b hb=>h3 a ha b (bw _ hb)
  refine⟨g1,λs=>(g2 s).trans ?_⟩
  rw[aY]
  constructor
  rintro(h|h);exact .inl h;exact .inr (.inr h)
  rintro(h'|h'|h');exact .inl h';exact .inl (h'▸h);exact .inr h'
  rw[bK h]
  obtain⟨g1,g2⟩:=Bm l (acc++[x]) h1.2 (by
   rw[List.pairwise_append]
   refine⟨h2,r9 _ _,λa ha b hb=>?_⟩
   rw[dm.mp hb]
   exact Y8 (h3 a ha x bA) λe=>h (e▸ha)) λa ha b hb=>by
    rcases cq.mp ha with ha|ha
    exact h3 a ha b (bw _ hb)
    rw[dm.mp ha];exact h1.1 b hb
  refine⟨g1,λs=>(g2 s).trans ?_⟩
  rw[cq,dm,aY,or_assoc]
section
variable{w:World}{Γ:Ctx}{ρ:LO}{d:Nat}{σ:Hp}{Q:PQ}{a:Addr}{kind items attrs:V}
theorem Op.Y9 {b:Bool}(q:Q (.bool false) σ):∀as:List Value,as.map er=[.bool b,.cK (.type "list")]→Op w Γ (PySem.call (.builtin "isinstance") as) σ ρ Q:=by
 intro as ea S s D k X hk
 obtain⟨x,y,rfl,e1,e2⟩:=args_2 ea
 obtain rfl:=mK e1
 obtain rfl:=DM e2
 exact IsiPair.bool_list (hk _ _ σ q (D.toks _))
theorem Y_ {n:Nat}{b:Bool}(hn:n≤1000000)(q:∀b',σ b'=none→Q (.ref b') (upd σ b' (.list (List.replicate n (.bool b))))):Call w (d+1) (.ref 1016) [.bool b,.int n] σ Q:=by
 refine jn ?_
 refine TA fun Γ hd hv hg=>?_
 refine ae (aM (c8 (gG (cm hg aN ⟨_,rfl,aq (ah hv .here (aq (cm hg aQ (aK (Op.Y9 ⟨_,.bool,ff rfl (au ?_)⟩)))))⟩))))
 refine ae (a_ (bC (bq (ar hv [0] rfl ⟨aB,λc hc=>ah hv aD (Op.mulL (ai _ _ _) hn (by simpa using hn) λb' cg=>?_)⟩))))
 have:((List.replicate n [V.bool b]).flatten)=List.replicate n (.bool b):=by simp
 rw[this]
 have jN:b'≠c:=Ne.symm (bp (ai _ _ _) cg)
 refine⟨upd σ b' (.list (List.replicate n (.bool b))),λx o e=>?_,q b' ((af hc).none cg)⟩
 by_cases h:x=b'
 subst h;rw[ai]at e ⊢;exact e
 rw[aJ h]at e ⊢
 exact af hc _ _ e
inductive Za (σ:Hp)(L:Addr)(xs:List V)(D:Addr)(i:Nat)(hi:i<xs.length)(k:Nat)(τ:Hp)(ρ:LO):Prop
 |mk (cQ:τ=upd σ D (.list (((List.range i).filter λp=> !bB (xs[p]?.getD .none)).map vI))) (o:Option V) (cR:ρ=[some (.ref L),some .none,some (.ref D),some (.int i),some (.bool (k==0|| !bB xs[i])),o])
inductive Zb (σ:Hp)(L:Addr)(xs:List V)(D:Addr)(i:Nat)(τ:Hp)(ρ:LO):Prop
 |mk (cQ:i≤xs.length) (cR:τ=upd σ D (.list (((List.range i).filter λp=> !bB (xs[p]?.getD .none)).map vI))) (o1:Option V) (o2:Option V) (o3:Option V) (eO:ρ=[some (.ref L),some .none,some (.ref D),o1,o2,o3])
theorem Zc {L l:Addr}{xs:List V}(hL:σ L=some (.list [.ref a]))(ha:σ a=some (.inst 401 (aV (.str "character") (.ref l) attrs)))(hl:σ l=some (.list xs))(hz:xs.length≤1000000)
  (q:∀b,σ b=none→Q (.ref b) (upd σ b (.list (((List.range xs.length).filter λp=> !bB (xs[p]?.getD .none)).map vI)))):Call w (d+2) (.ref 1023) [.ref L,.none] σ Q:=by
 refine TB fun Γ hd hv hg=>?_
 refine ae (aS hv (bq (aK ⟨aB,λD hD=>⟨_,eL,ae ?_⟩⟩)))
 have hle:∀i,i≤xs.length→(((List.range i).filter λp=> !bB (xs[p]?.getD .none)).map vI).length≤1000000:=λi hi=>by
  rw[ay]
  refine dO (og _ _) ?_
  rw[kG];lia
 refine jP hv hg aN (aw hd hg aQ (by rfl') (aq (bo (ah hv .here (aW (bO (i:=0) (af hD _ _ hL) rfl aB (aK ?_)))))))
 refine gn rfl (af hD _ _ ha) (af hD _ _ hl) hz ⟨xs.length,Zb σ L xs D,rfl,hz,⟨j9 _,rfl,_,_,_,rfl⟩,?_,?_⟩
 intro i τ ρ zqA;obtain⟨_,rfl,o1,o2,o3,rfl⟩:=zqA;intro hi
 refine⟨_,eM,λown=>?_⟩
 obtain⟨hd,hv,hg⟩:=dF own hd hv hg
 have E:Ext σ (upd σ D (.list (((List.range i).filter λp=> !bB (xs[p]?.getD .none)).map vI))):=af hD
 have mY:xs[i]? =some xs[i]:=bL hi
 refine ae (aS hv (gR ⟨_,dR,ae (aM (aF (ah hv aD (bg (ax .bB ⟨_,rfl,tt rfl (ae ?_)⟩)))))⟩))
 refine fF hv (ah hv .here ⟨L,[.ref a],Za σ L xs D i hi,rfl,⟨rfl,_,rfl⟩,?_,?_,?_⟩)
 (intro k τ ρ zqA;obtain⟨rfl,_⟩:=zqA);exact E _ _ hL
 intro k τ ρ y zqA;obtain⟨rfl,o,rfl⟩:=zqA;intro hy
 obtain⟨rfl,rfl⟩:k=0∧y=.ref a:=by
  cases k with
  |zero=>exact⟨rfl,by cases hy;rfl⟩
  |succ k=>cases hy
 refine⟨_,fh,λown=>?_⟩
 obtain⟨hd,hv,hg⟩:=dF own hd hv hg
 refine ae (aM (c8 (aw hd hg cn (by rfl') (aq (aU (aj hv 5 rfl rfl (vk (E _ _ ha) (aq (bo (aU (aj hv 5 rfl rfl (vi (E _ _ ha) (aj hv 3 rfl rfl (bO (E _ _ hl) mY hz (aK ?_)))))))))))))))
 refine Bh rfl ⟨_,.bool,λh=>?_,λh=>?_⟩
 exact ae (aS hv (gR ⟨_,dR,au (au ⟨rfl,_,by rw[h];rfl⟩)⟩))
 exact au (au ⟨rfl,_,by rw[h];rfl⟩)
 intro τ ρ zqA;obtain⟨rfl,o,rfl⟩:=zqA
 refine au (ae (aM (c8 (aj hv 4 rfl rfl ⟨_,.bool,λh=>?_,λh=>au ?_⟩))))
 have h:bB xs[i]=false:=by simpa using h
 refine ae (eH (aj hv 2 rfl rfl ⟨D,rfl,⟨_,ai _ _ _⟩,aj hv 3 rfl rfl ⟨_,ai _ _ _,hle i (by lia),au (au ⟨hi,?_,_,_,_,rfl⟩)⟩⟩))
 rw[dk,lM,qR]
 simp[mY,h]
 have h:bB xs[i]=true:=by simpa using h
 refine au ⟨hi,?_,_,_,_,rfl⟩
 rw[lM,qR]
 simp[mY,h]
 intro τ ρ zqA;obtain⟨_,rfl,o1,o2,o3,rfl⟩:=zqA
 exact ae (a_ (aj hv 2 rfl rfl (q D hD)))
end
noncomputable def ny (xs:List V):List Nat:=(List.range xs.length).filter λp=> !bB (xs[p]?.getD .none)
noncomputable def gJ (xs:List V):Prop:=∀x∈xs,x=.none∨∃s,x=.str s
theorem wy {xs:List V}(hx:gJ xs):∀p∈ny xs,rq xs p:=λp hp=>by
 unfold ny at hp
 rw[jE,iD]at hp
 have e:xs[p]? =some xs[p]:=bL hp.1
 rw[e]at hp
 unfold rq tx
 rw[e]
 rcases hx _ (hO hp.1)with h|⟨s,h⟩
 rw[h]at hp;simp[bB]at hp
 rw[h]
theorem Ka {xs:List V}:(ny xs).length≤xs.length:=by
 unfold ny
 refine dO (og _ _) ?_
 rw[kG];exact dp _
theorem Zd {xs:List V}{s:Str}:V.str s∈xs↔∃p∈ny xs,xs[p]? =some (.str s):=by
 constructor
 intro h
 obtain⟨p,hp⟩:=gN.mp h
 refine⟨p,?_,hp⟩
 unfold ny
 rw[jE,iD]
 exact⟨(cp.mp hp).1,by rw[hp];rfl⟩
 (intro zqA;obtain⟨p,_,hp⟩:=zqA);exact cS hp
theorem Ze {xs:List V}{ms:List Nat}(hx:gJ xs)(hp:ms.Perm (ny xs))(hs:kq xs ms):Lv xs (dedup (ms.map λp=>.str (tx xs p))):=by
 have e:(ms.map λp=>V.str (tx xs p))=(ms.map (tx xs)).map V.str:=by rw[kM];rfl
 unfold dedup
 rw[e]
 obtain⟨g1,g2⟩:=Bm (ms.map (tx xs)) [] (by
  rw[List.pairwise_map]
  exact hs.imp λ{p q} h=>by
   unfold jo at h
   exact J2.mp (mD h)) .nil (by simp)
 refine⟨g1,λs=>(g2 s).trans ?_⟩
 rw[Zd]
 simp only[f9,false_or,cF]
 constructor
 (intro zqA;obtain⟨p,hm,rfl⟩:=zqA);exact⟨p,hp.subset hm,wy hx p (hp.subset hm)⟩
 intro zqA;obtain⟨p,hm,h⟩:=zqA
 refine⟨p,hp.symm.subset hm,?_⟩
 have:=wy hx p hm
 unfold rq at this
 rw[h]at this
 cases this;rfl
section
variable{w:World}{d:Nat}{σ:Hp}{Q:PQ}{a:Addr}{kind items attrs:V}
inductive Zf (σ:Hp)(L:Addr)(k:Nat)(τ:Hp)(ρ:LO):Prop
 |mk (cQ:τ=σ) (o:Option V) (cR:ρ=[some (.ref L),some (.bool false),some .none,o,none])
theorem Zg {L l:Addr}{xs:List V}(hL:σ L=some (.list [.ref a]))(ha:σ a=some (.inst 401 (aV (.str "character") (.ref l) attrs)))(hl:σ l=some (.list xs))(hx:gJ xs)(hz:xs.length≤1000000)
  (q:∀τ b ms,Ext σ τ→τ b=some (.list (ms.map vI))→ms.Perm (ny xs)→kq xs ms→Q (.ref b) τ):Call w (d+6) (.ref 1031) [.ref L,.bool false,.none] σ Q:=by
 refine TC fun Γ hd hv hg=>?_
 refine ae (aM (aF (cj hg aN (ah hv .here ⟨L,_,rfl,hL,aB,aW (ax (.eq .ii) ⟨_,rfl,ff rfl (au (ae ?_))⟩)⟩))))
 refine fF hv (ah hv .here ⟨L,[.ref a],Zf σ L,rfl,⟨rfl,_,rfl⟩,?_,?_,?_⟩)
 (intro k τ ρ zqA;obtain⟨rfl,_⟩:=zqA);exact hL
 intro k τ ρ y zqA;obtain⟨rfl,o,rfl⟩:=zqA;intro hy
 obtain⟨rfl,rfl⟩:k=0∧y=.ref a:=by
  cases k with
  |zero=>exact⟨rfl,by cases hy;rfl⟩
  |succ k=>cases hy
 refine⟨_,eM,λown=>?_⟩
 obtain⟨hd,hv,hg⟩:=dF own hd hv hg
 refine ae (jg (aw hd hg aQ (by rfl') (ar hv [3] rfl ?_)))
 refine YH ha (ae (aM (aF (aw hd hg cn (by rfl') (ar hv [3] rfl ?_)))))
 refine gn rfl ha hl hz (aw hd hg cn (by rfl') (aq (bo (ah hv .here (aW (bO (i:=0) hL rfl aB (aK ?_)))))))
 exact gn rfl ha hl hz (ax (.ne .ii) ⟨_,rfl,ff (by simp) (au (au ⟨rfl,_,rfl⟩))⟩)
 intro τ ρ zqA;obtain⟨rfl,o,rfl⟩:=zqA
 refine ae (aS hv (aw hd hg fG (by rfl') (aq (ah hv aD (aq (cj hg aN (ah hv .here ⟨L,_,rfl,hL,aB,aK ?_⟩)))))))
 refine Y_ (n:=1) aB λf hf=>⟨_,dR,?_⟩
 have E:=af (o:=.list [.bool false]) hf
 refine ae (a_ (aw hd hg gm (by rfl') (aq (aw hd hg kj (by rfl') (ar hv [0,2] rfl ?_)))))
 refine Zc (E _ _ hL) (E _ _ ha) (E _ _ hl) hz λP hP=>aq (ah hv .here (aq (aj hv 4 rfl rfl (aq (fQ (h8.or (dP (aj hv 2 rfl rfl (bg (ax .bB ⟨_,.bool,λ_=>aK ?_,tf⟩))))))))))
 have E2:=E.trans (af (o:=.list ((ny xs).map vI)) hP)
 exact Y6 (ai _ _ _) (E2 _ _ hL) (af hP _ _ (ai _ _ _)) (E2 _ _ ha) (E2 _ _ hl) hz (dO Ka hz) (wy hx) λτ b ms E3 h1 h2 h3=>q τ b ms (E2.trans E3) h1 h2 h3
theorem Zh {l:Addr}{xs:List V}(ha:σ a=some (.inst 401 (aV (.str "character") (.ref l) attrs)))(hl:σ l=some (.list xs))(hx:gJ xs)(hz:xs.length≤1000000)(cM:Attr σ attrs (Str.ofString "levels") .none)
  (q:∀τ b ts,Ext σ τ→σ b=none→τ b=some (.list (ts.map .str))→Lv xs ts→ts.length≤1000000→Q (.ref b) τ):Call w (d+7) (.ref 1310) [.ref a] σ Q:=by
 refine TY fun Γ hd hv hg=>?_
 refine ae (aM (c8 (aw hd hg aN (by rfl') (ar hv [0] rfl ?_))))
 refine JF ha rfl ⟨_,.bool,ff rfl (au (ae (aS hv (aw hd hg cY (by rfl') (ar hv [0] rfl ?_)))))⟩
 refine Bg ha hl hx hz cM λt ht=>⟨_,zJ,?_⟩
 have E:=af (o:=.list xs) ht
 refine ae (a_ (aw hd hg fG (by rfl') (aq (fT hv (We (w:=w) hv (by rfl) (by rfl)) (.loc (.loc (.cell aD .nil))) aQ (pt:=λy=>bX) (aw hd hg gm (by rfl') (aq (bq (ar hv [0] rfl ⟨aB,λL hL=>ar rfl [] rfl ?_⟩))))))))
 have E2:=E.trans (af (o:=.list [.ref a]) hL)
 refine Zg (ai _ _ _) (E2 _ _ ha) (E2 _ _ hl) hx hz λτ b ms E3 h1 h2 h3=>?_
 have E4:=E2.trans E3
 have Zi:τ t=some (.list xs):=E3 _ _ (af hL _ _ (ai _ _ _))
 have lx:ms.length≤1000000:=by rw[h2.length_eq];exact dO Ka hz
 have kr:=J8 h2 (wy hx)
 refine⟨b,ms.map vI,λv=>match v with|.int i=>some (.str (tx xs i.toNat))|_=>none,rfl,h1,by rw[ay];exact lx,?_,λD hD=>aK ?_⟩
 intro y hy υ F Γc e1 e2 e3
 refine bZ hy λp hp=>?_
 exact dE ⟨λ_=>bo (aj e2 2 rfl rfl (ah e2 aD (bO (F _ _ Zi) (kr p hp) hz ⟨rfl,by simp⟩))),tf⟩
 have e:(ms.map vI).filterMap (λv=>match v with|.int i=>some (.str (tx xs i.toNat))|_=>none)=ms.map λp=>V.str (tx xs p):=by
  rw[List.filterMap_map,←vb]
  congr 1
 rw[e]
 have E5:=E4.trans (af (o:=.list (ms.map λp=>V.str (tx xs p))) hD)
 refine JB (ai _ _ _) (λx hx=>?_) (by rw[ay];exact lx) λbf b' F hb=>?_
 refine bZ hx λp _=>?_;exact .inr ⟨_,rfl⟩
 refine q _ b' _ (E5.trans (F.trans (af hb))) ((E5.trans F).none hb) (ai _ _ _) (Ze hx h2 h3) ?_
 refine dO (AL _ []) ?_
 simpa using lx
end
noncomputable def eU:Nat→List Str→LV
 |_,[]=>[]
 |k,s::r=>(s,.int ((k+1:Nat):Int))::eU (k+1) r
theorem Kb:∀(k:Nat)(l:List Str),(eU k l).length=l.length
 |_,[]=>rfl
 |k,s::r=>by unfold eU;simp[Kb (k+1) r]
theorem Kd {x:Str}:∀(k:Nat)(l:List Str),x∉l→Sk (eU k l) x (.int ((k+l.length+1:Nat):Int)) (eU k (l++[x]))
 |k,[],_=>.nil
 |k,s::r,h=>by
  rw[sr]
  unfold eU
  rw[aY,not_or]at h
  have:=Kd (k+1) r h.2
  rw[(by simp;lia:k+1+r.length+1=k+(s::r).length+1)]at this
  exact .there (λe=>h.1 e.symm) this
theorem wz {x:Str}:∀(k:Nat)(l:List Str),x∉l→keyOf (eU k l) x=none
 |k,[],_=>rfl
 |k,s::r,h=>by
  unfold eU keyOf
  rw[aY,not_or]at h
  rw[bK (λe=>h.1 e.symm)]
  exact wz (k+1) r h.2
theorem rr {x:Str}:∀(k:Nat)(l:List Str)(j:Nat),l.Nodup→l[j]? =some x→keyOf (eU k l) x=some (.int ((k+j+1:Nat):Int))
 |k,[],_,_,h=>by cases h
 |k,s::r,0,_,h=>by cases h;unfold eU keyOf;rw[ck rfl]
 |k,s::r,j+1,nd,h=>by
  unfold eU keyOf
  rw[fz]at nd
  have hm:x∈r:=cS h
  rw[bK (λe:s=x=>nd.1 (e▸hm)),rr (k+1) r j nd.2 h,show k+1+j+1=k+(j+1)+1 by lia]
noncomputable def b9 (ts:List Str):V→V
 |.str s=>(keyOf (eU 0 ts) s).getD .none
 |_=>.none
theorem Bn {ts:List Str}(nd:ts.Nodup)(v:V):b9 ts v=.none∨∃j,j<ts.length∧b9 ts v=.int ((j+1:Nat):Int):=by
 cases v with
 |str s=>
  by_cases h:s∈ts
  obtain⟨j,hj⟩:=gN.mp h
  refine .inr ⟨j,(cp.mp hj).1,?_⟩
  show(keyOf (eU 0 ts) s).getD .none=_
  rw[rr 0 ts j nd hj];simp
  exact .inl (by show(keyOf (eU 0 ts) s).getD .none=_;rw[wz 0 ts h];rfl)
 |_=>exact .inl rfl
theorem wA {k i a v:V}:Sf (aV k i a) "attrs" v (aV k i v):=.there (ne_str (by rfl')) (EJ (by rfl'))
theorem Ext.rt {nz σ:Hp}{a:Addr}(E:Ext nz σ)(h:nz a=Option.none):Ext nz (off σ a):=λx o e=>off_ne (bp e h) (E _ _ e)
section
variable{w:World}{d:Nat}{σ:Hp}{Q:PQ}{a:Addr}{kind items attrs:V}
inductive Zj (σ:Hp)(T L:Addr)(ts:List Str)(D:Addr)(i:Nat)(τ:Hp)(ρ:LO):Prop
 |mk (cQ:τ=upd σ D (.dict (eU 0 (ts.take i)))) (o:Option V) (cR:ρ=[some (.ref T),some (.ref L),some (.ref D),o])
theorem Ke {T L:Addr}{xs:List V}{ts:List Str}(hT:σ T=some (.list xs))(hL:σ L=some (.list (ts.map .str)))(nd:ts.Nodup)(hx:gJ xs)(hz:xs.length≤1000000)(hn:ts.length≤1000000)
  (q:∀b,σ b=none→Q (.ref b) (upd σ b (.list (xs.map (b9 ts))))):Call w (d+1) (.ref 1315) [.ref T,.ref L] σ Q:=by
 refine jn ?_
 have zL:(ts.map V.str).length≤1000000:=by rw[ay];exact hn
 refine TZ fun Γ hd hv hg=>?_
 refine ae (aS hv (ak.oD λD hD=>⟨_,vJ,ae ?_⟩))
 refine jP hv hg aN (cj hg aQ (ah hv aD ⟨L,_,rfl,af hD _ _ hL,zL,ts.length,Zj σ T L ts D,by simp,hn,⟨rfl,_,rfl⟩,?_,?_⟩))
 intro i τ ρ zqA;obtain⟨rfl,o,rfl⟩:=zqA;intro hi
 have E:Ext σ (upd σ D (.dict (eU 0 (ts.take i)))):=af hD
 have ru:(ts.map V.str)[i]? =some (.str ts[i]):=by simp[hi]
 have fE:ts[i]∉ts.take i:=by
  intro h
  obtain⟨j,hj⟩:=gN.mp h
  have l8:=(cp.mp hj).1
  rw[eZ]at l8
  rw[List.getElem?_take]at hj
  split at hj
  have h1:=(cp.mp hj)
  have:=(List.getElem_inj (h₀:=h1.1) (h₁:=hi) nd).mp h1.2
  lia
  cases hj
 refine⟨_,eM,λown=>?_⟩
 obtain⟨hd,hv,hg⟩:=dF own hd hv hg
 refine ae (aM (cw (bW (aF (bo (ah hv aD (aj hv 3 rfl rfl (bO (E _ _ hL) ru zL (bg (ax .d7 ⟨_,rfl,tt rfl ?_⟩))))))))))
 refine bW (aF (bo (ah hv aD (aj hv 3 rfl rfl (bO (E _ _ hL) ru zL (aj hv 2 rfl rfl (Op.AI (ai _ _ _) ⟨_,rfl,tt (by rw[wz _ _ fE];rfl) (jL (tt rfl ?_))⟩)))))))
 refine ae (lh (bC (aj hv 3 rfl rfl (aW (Op.jd (aj hv 2 rfl rfl (bo (ah hv aD (aj hv 3 rfl rfl (bO (E _ _ hL) ru zL (.inr ⟨D,_,_,eU 0 (ts.take (i+1)),rfl,rfl,ai _ _ _,?_,?_,au (au ⟨?_,_,rfl⟩)⟩)))))))))))
 rw[Kb,eZ];lia
 have:=Kd (x:=ts[i]) 0 (ts.take i) fE
 rw[eZ,Nat.min_eq_left (by lia)]at this
 rw[eY,bL hi]
 simpa using this
 rw[dk]
 intro τ ρ zqA;obtain⟨rfl,o,rfl⟩:=zqA
 rw[fM]
 have E:Ext σ (upd σ D (.dict (eU 0 ts))):=af hD
 refine ae (a_ (fT hv (Wi (w:=w) hv (by rfl) (by rfl)) (.loc (.loc (.cell qX .nil))) aQ (pt:=λy=>bX) (ah hv .here ⟨T,xs,λv=>some (b9 ts v),rfl,E _ _ hT,hz,?_,λb hb=>?_⟩)))
 intro y hy υ F Γc e1 e2 e3
 refine dE ⟨λ_=>gS (aF (ah e2 aD (bg (ax .bB ⟨_,rfl,λh=>?_,λh=>?_⟩)))),tf⟩
 rcases hx y hy with rfl|⟨s,rfl⟩
 exact bg ⟨rfl,rfl⟩
 cases h
 rcases hx y hy with rfl|⟨s,rfl⟩
 cases h
 exact ak.AH (aj e2 2 rfl rfl ⟨D,_,"dict","dict.get",rfl,F _ _ (ai _ _ _),rfl,PySem.F.plainAttrs_dict,PySem.F.slot_dict_get,PySem.F.type_dict_get,ar e2 [1] rfl (Op.getD (F _ _ (ai _ _ _)) ⟨rfl,rfl⟩)⟩)
 have e:xs.filterMap (λv=>some (b9 ts v))=xs.map (b9 ts):=by rw[←vb];rfl
 refine⟨upd σ b (.list (xs.map (b9 ts))),λx o h=>?_,q b (E.none hb)⟩
 show upd _ b (.list (xs.filterMap λv=>some (b9 ts v))) x=_
 rw[e]
 by_cases Kf:x=b
 subst Kf;rw[ai]at h ⊢;exact h
 rw[aJ Kf]at h ⊢;exact E _ _ h
theorem Kg {l:Addr}{xs:List V}(ha:σ a=some (.inst 401 (aV (.str "character") (.ref l) attrs)))(hl:σ l=some (.list xs))(hx:gJ xs)(hz:xs.length≤1000000)(cM:Attr σ attrs (Str.ofString "levels") .none)
  (q:∀b,σ b=none→Q (.ref b) (upd σ b (.list xs))):Call w (d+4) (.ref 1322) [.ref a] σ Q:=by
 refine T3 fun Γ hd hv hg=>?_
 refine ae (aM (aF (aU (ah hv .here (vk ha (bu (ax (.eq .ss) ⟨_,rfl,ff rfl (au (ae (aM (dJ.not (c8 (aw hd hg aN (by rfl') (ar hv [0] rfl ?_)))))))⟩)))))))
 refine rp ha (.inl rfl) ⟨_,.bool,ff rfl (au (ae (a_ (aw hd hg cn (by rfl') (ar hv [0] rfl ?_)))))⟩
 exact Bg ha hl hx hz cM q
theorem Zk {v:V}(q:Q v σ):Call w (d+1) (.ref 1327) [.none,v] σ Q:=by
 refine T4 fun Γ hd hv hg=>?_
 exact ae (aM (aF (ah hv .here (bg (ax .bB ⟨_,rfl,tt rfl (ae (a_ (ah hv aD q)))⟩)))))
end
inductive cX (σ:Hp)(a:Addr)(codes:List V)(ts:List Str):Prop
 |mk (c:Addr) (e:Addr) (lv:Addr) (lt:Addr) (cl:Addr) (ct:Addr) (h1:σ a=some (.inst 401 (aV (.str "integer") (.ref c) (.ref e)))) (h2:σ c=some (.list codes)) (h3:σ e=some (.dict [(Str.ofString "levels",.ref lv),(Str.ofString "class",.ref cl)])) (h4:σ lv=some (.inst 401 (aV (.str "character") (.ref lt) .none))) (h5:σ lt=some (.list (ts.map .str))) (h6:σ cl=some (.inst 401 (aV (.str "character") (.ref ct) .none))) (h7:σ ct=some (.list [.str "factor"]))
theorem cX.ext {σ τ:Hp}{a:Addr}{codes:List V}{ts:List Str}(h:cX σ a codes ts)(E:Ext σ τ):cX τ a codes ts:=
 let⟨c,e,lv,lt,cl,ct,h1,h2,h3,h4,h5,h6,h7⟩:=h;⟨c,e,lv,lt,cl,ct,E _ _ h1,E _ _ h2,E _ _ h3,E _ _ h4,E _ _ h5,E _ _ h6,E _ _ h7⟩
noncomputable def new (σ τ:Hp):Hp:=λa=>match σ a with
 |none=>τ a
 |some _=>none
theorem iR {σ τ:Hp}{a:Addr}{o:MO}(h:σ a=none)(e:τ a=some o):new σ τ a=some o:=by unfold new;rw[h];exact e
theorem oW {σ τ:Hp}:Ext (new σ τ) τ:=λa o e=>by
 unfold new at e
 split at e
 exact e
 cases e
theorem Bo {σ τ:Hp}{a:Addr}{o:MO}(h:σ a=some o):Ext (new σ τ) (off τ a):=λb x e=>by
 have hb:b≠a:=λe2=>by subst e2;unfold new at e;rw[h]at e;cases e
 exact off_ne hb (oW _ _ e)
theorem Kh {σ σ' τ bf:Hp}(h:Ext σ' σ)(k:Ext τ bf):Ext (new σ τ) (new σ' bf):=λb x e=>by
 have hb:σ b=none:=by
  unfold new at e
  split at e
  assumption
  cases e
 exact iR (h.none hb) (k _ _ (oW _ _ e))
theorem Ki:∀(l acc:List Str),(acc++l).Nodup→(l.map V.str).foldl ij acc=acc++l
 | [],acc,_=>by simp
 |x::l,acc,h=>by
  have hx:x∉acc:=by
   rw[List.nodup_append]at h
   exact λhm=>h.2.2 x hm x bA rfl
  have hs:ij acc (V.str x)=if x∈acc then acc else acc++[x]:=rfl
  rw[bx,oh,hs,bK hx,Ki l (acc++[x]) (by simpa using h)]
  simp
theorem wB (ts:List Str):gJ (ts.map V.str):=λx hx=>by refine bZ hx λs _=>?_;exact .inr ⟨s,rfl⟩
theorem Lv.nodup {xs:List V}{ts:List Str}(h:Lv xs ts):ts.Nodup:=h.1.imp λ{a b} hl e=>by subst e;exact List.lt_irrefl _ hl
section
variable{w:World}{d:Nat}{σ:Hp}{Q:PQ}{a:Addr}{kind items attrs:V}
theorem jS {l:Addr}{xs:List V}(hl:σ l=some (.list xs))(hz:xs.length≤1000000)(q:∀τ c b,Ext σ τ→σ c=none→σ b=none→τ c=some (.inst 401 (aV (.str "character") (.ref b) .none))→τ b=some (.list xs)→Q (.ref c) τ):Call w (d+3) (.ref 568) [.ref l] σ Q:=
 Ve hl hz λb c hb jN hc=>q _ c b ((af hb).trans (af (by rw[aJ jN];exact hc))) hc hb (ai _ _ _) (by rw[aJ jN.symm];exact ai _ _ _)
theorem nA {l:Addr}{xs:List V}(hl:σ l=some (.list xs))(hz:xs.length≤1000000)(q:∀τ c b,Ext σ τ→σ c=none→σ b=none→τ c=some (.inst 401 (aV (.str "integer") (.ref b) .none))→τ b=some (.list xs)→Q (.ref c) τ):Call w (d+3) (.ref 561) [.ref l] σ Q:=
 Vc hl hz λb c hb jN hc=>q _ c b ((af hb).trans (af (by rw[aJ jN];exact hc))) hc hb (ai _ _ _) (by rw[aJ jN.symm];exact ai _ _ _)
inductive Zl (σ:Hp)(L:Addr)(ts:List Str)(D:Addr)(i:Nat)(τ:Hp)(ρ:LO):Prop
 |mk (cQ:τ=upd σ D (.dict ((ts.take i).map λs=>(s,.bool true)))) (o:Option V) (cR:ρ=[some (.ref L),some (.ref D),o])
theorem Zm {L:Addr}{ts:List Str}(hL:σ L=some (.list (ts.map .str)))(nd:ts.Nodup)(hn:ts.length≤1000000)(q:Q .none σ):Call w (d+1) (.ref 1334) [.ref L] σ Q:=by
 refine jn ?_
 have zL:(ts.map V.str).length≤1000000:=by rw[ay];exact hn
 refine T5 fun Γ hd hv hg=>?_
 refine ae (aS hv (ak.oD λD hD=>⟨_,bX,ae ?_⟩))
 refine jP hv hg aN (cj hg aQ (ah hv .here ⟨L,_,rfl,af hD _ _ hL,zL,ts.length,Zl σ L ts D,by simp,hn,⟨rfl,_,rfl⟩,?_,?_⟩))
 intro i τ ρ zqA;obtain⟨rfl,o,rfl⟩:=zqA;intro hi
 have E:Ext σ (upd σ D (.dict ((ts.take i).map λs=>(s,.bool true)))):=af hD
 have ru:(ts.map V.str)[i]? =some (.str ts[i]):=by simp[hi]
 have fE:ts[i]∉ts.take i:=by
  intro h
  obtain⟨j,hj⟩:=gN.mp h
  have l8:=(cp.mp hj).1
  rw[eZ]at l8
  rw[List.getElem?_take]at hj
  split at hj
  have h1:=(cp.mp hj)
  have:=(List.getElem_inj (h₀:=h1.1) (h₁:=hi) nd).mp h1.2
  lia
  cases hj
 have hk:∀l:List Str,ts[i]∉l→keyOf (l.map λs=>(s,V.bool true)) ts[i]=none∧Sk (l.map λs=>(s,V.bool true)) ts[i] (.bool true) ((l++[ts[i]]).map λs=>(s,V.bool true)):=by
  intro l
  induction l with
  |nil=>intro _;exact⟨rfl,.nil⟩
  |cons x r ih=>
   intro h
   rw[aY,not_or]at h
   obtain⟨g1,g2⟩:=ih h.2
   refine⟨?_,.there (λe=>h.1 e.symm) g2⟩
   show(if x=ts[i]then _ else _)=_
   rw[bK (λe=>h.1 e.symm)];exact g1
 refine⟨_,eL,λown=>?_⟩
 obtain⟨hd,hv,hg⟩:=dF own hd hv hg
 refine ae (aM (aF (bo (ah hv .here (aj hv 2 rfl rfl (bO (E _ _ hL) ru zL (ah hv aD (Op.inD (ai _ _ _) ⟨_,rfl,ff (by rw[(hk _ fE).1];rfl) (au (ae ?_))⟩))))))))
 refine lh (gR (ah hv aD (bo (ah hv .here (aj hv 2 rfl rfl (bO (E _ _ hL) ru zL (.inr ⟨D,_,_,_,rfl,rfl,ai _ _ _,?_,(hk _ fE).2,au ⟨?_,_,rfl⟩⟩)))))))
 rw[ay,eZ];lia
 rw[dk,eY,bL hi];rfl
 intro τ ρ zqA;obtain⟨rfl,o,rfl⟩:=zqA
 exact au ⟨σ,af hD,q⟩
theorem Zn (q:∀τ c b,Ext σ τ→σ c=none→σ b=none→τ c=some (.inst 401 (aV (.str "character") (.ref b) .none))→τ b=some (.list [.str "factor"])→Q (.ref c) τ):Call w (d+4) (.ref 1291) [.bool false] σ Q:=by
 refine TU fun Γ hd hv hg=>?_
 refine ae (aM (c8 (ah hv .here ⟨_,.bool,ff rfl (au (ae (a_ (aw hd hg aN (by rfl') (aq (bq (ar rfl [] rfl ⟨aB,λb hb=>aK ?_⟩)))))))⟩)))
 exact jS (ai _ _ _) aB λτ c b' E h1 rx h2 h3=>q τ c b' ((af hb).trans E) ((af hb).none h1) ((af hb).none rx) h2 h3
theorem Bp {k:Str}(ha:σ a=some (.inst 401 (aV (.str k) items attrs)))(k1:(k==Str.ofString "language")=false)(k2:(k==Str.ofString "environment")=false)(h1:Attr σ attrs (Str.ofString "dim") .none)(h2:Attr σ attrs (Str.ofString "names") .none)(q:Q .none σ):Call w (d+3) (.ref 689) [.ref a] σ Q:=by
 refine S5 fun Γ hd hv hg=>?_
 refine ae (aM (aF (aU (ah hv .here (vk ha (bu (ax (.eq .ss) ⟨_,rfl,ff k1 (au ?_)⟩)))))))
 refine ae (aM (aF (aU (ah hv .here (vk ha (bu (ax (.eq .ss) ⟨_,rfl,ff k2 (au ?_)⟩)))))))
 refine ae (aS hv (aw hd hg aQ (by rfl') (ar hv [0] rfl ?_)))
 refine JE ha h1 ⟨_,eL,?_⟩
 refine ae (aM (cw (bW (aF (aj hv 2 rfl rfl (bg (ax .d7 ⟨_,rfl,ff rfl (ff rfl (au ?_))⟩)))))))
 refine ae (aS hv (aw hd hg fG (by rfl') (ar hv [0] rfl ?_)))
 refine oS ha h2 ⟨_,dR,?_⟩
 exact ae (aM (aF (aj hv 4 rfl rfl (bg (ax .bB ⟨_,rfl,tt rfl (ae (a_ (bg q)))⟩)))))
theorem Kj {c t:Addr}{xs:List V}{ts:List Str}(ha:σ a=some (.inst 401 (aV (.str "integer") (.ref c) .none)))(hc:σ c=some (.list xs))(ht:σ t=some (.list (ts.map .str)))(hn:ts.length≤1000000)
  (q:∀τ,Ext (off σ a) τ→(∀nz,Ext nz σ→nz a=none→nz c=none→cX (new nz τ) a xs ts)→Q (.ref a) τ):Call w (d+5) (.ref 1298) [.ref a,.ref t,.bool false] σ Q:=by
 have zt:(ts.map V.str).length≤1000000:=by rw[ay];exact hn
 have sH:c≠a:=λe=>by rw[e,ha]at hc;cases hc
 have cM:t≠a:=λe=>by rw[e,ha]at ht;cases ht
 refine TV fun Γ hd hv hg=>?_
 refine ae (aM (aF (aU (ah hv .here (va ha (bg (ax .bB ⟨_,rfl,tt rfl ?_⟩)))))))
 refine ae (ic (ak.oD λe he=>ah hv .here ⟨a,401,_,_,rfl,af he _ _ ha,wA,bG,dT w,mV w,au ?_⟩))
 have jT:a≠e:=bp ha he
 have E0:Ext (off σ a) (upd (upd σ e (.dict [])) a (.inst 401 (aV (.str "integer") (.ref c) (.ref e)))):=((c_).trans (af he)).upd dA
 have wC:off σ a e=none:=c_.none he
 refine ae (lh (aw hd hg aN (by rfl') (ar hv [1] rfl ?_)))
 refine jS (E0 _ _ (off_ne cM ht)) zt λτ lv lt E1 h1 rx h2 h3=>?_
 have gY:τ a=some (.inst 401 (aV (.str "integer") (.ref c) (.ref e))):=E1 _ _ (ai _ _ _)
 have nE:τ e=some (.dict []):=E1 _ _ (by rw[aJ jT.symm];exact ai _ _ _)
 have Kk:lv≠e:=λh=>by rw[h,nE]at h2;cases h2
 have Kl:lt≠e:=λh=>by rw[h,nE]at h3;cases h3
 refine aU (ah hv .here (va gY (bu (.inr ⟨e,_,_,_,rfl,rfl,nE,aB,.nil,?_⟩))))
 have E2:Ext (off σ a) (upd τ e (.dict [(Str.ofString "levels",.ref lv)])):=(E0.trans E1).upd wC
 have l9:=(aJ (o:=.dict [(Str.ofString "levels",V.ref lv)]) jT).trans gY
 refine ae (lh (aw hd hg aQ (by rfl') (ar hv [2] rfl ?_)))
 refine Zn λbU cl ct E3 g1 Km g2 g3=>?_
 have tT:bU e=some (.dict [(Str.ofString "levels",.ref lv)]):=E3 _ _ (ai _ _ _)
 have Zo:cl≠e:=λh=>by rw[h,tT]at g2;cases g2
 have Zp:ct≠e:=λh=>by rw[h,tT]at g3;cases g3
 have Zq:c≠e:=bp hc he
 refine aU (ah hv .here (va (E3 _ _ l9) (bu (.inr ⟨e,_,_,_,rfl,rfl,tT,aB,.there (ne_str (by rfl')) .nil,?_⟩))))
 have fr:∀{x:Addr}{o:MO}{υ:Hp},υ a=some o→Ext (off σ a) υ→υ x=none→σ x=none:=λ{x o υ} h E hx=>by
  have qg:x≠a:=Ne.symm (bp h hx)
  have:=E.none hx
  unfold off at this
  rwa[bK qg]at this
 refine ae (a_ (ah hv .here (q _ ((E2.trans E3).upd wC) λnz F fa fc=>⟨c,e,lv,lt,cl,ct,iR fa ?_,iR fc ?_,iR (F.none he) (ai _ _ _),iR (F.none (fr (ai _ _ _) E0 h1)) ?_,iR (F.none (fr (ai _ _ _) E0 rx)) ?_,iR (F.none (fr l9 E2 g1)) ?_,iR (F.none (fr l9 E2 Km)) ?_⟩)))
 rw[aJ jT];exact E3 _ _ l9
 rw[aJ Zq];exact E3 _ _ (E2 _ _ (off_ne sH hc))
 rw[aJ Kk];exact E3 _ _ ((aJ Kk).trans h2)
 rw[aJ Kl];exact E3 _ _ ((aJ Kl).trans h3)
 rw[aJ Zo];exact g2
 rw[aJ Zp];exact g3
end
theorem oX {xs:List V}{G:V→Option V}(h:∀x∈xs,G x=some x):xs.filterMap G=xs:=by
 induction xs with
 |nil=>rfl
 |cons x r ih=>
  rw[gz,h x bA]
  exact gf (x::·) (ih λy hy=>h y (bw _ hy))
theorem Zr {ts:List Str}(nd:ts.Nodup){j:Nat}(hj:j<ts.length):((ts.map V.str).map (b9 ts))[j]? =some (.int ((j+1:Nat):Int)):=by
 rw[kM,dI,bL hj]
 show some ((keyOf (eU 0 ts) ts[j]).getD .none)=_
 rw[rr 0 ts j nd (bL hj)]
 simp
section
variable{w:World}{d:Nat}{σ:Hp}{Q:PQ}{a:Addr}{kind items attrs:V}
inductive Zs (σ:Hp)(a ex:Addr)(xs:List V)(ry:V)(W:List Str→Prop)(t:Addr)(τ:Hp)(ρ:LO):Prop
 |mk (wd:Addr) (ts:List Str) (cQ:Ext σ τ) (cR:τ t=some (.list xs)) (eO:τ wd=some (.list (ts.map .str))) (fV:ts.Nodup) (lr:ts.length≤1000000) (tR:W ts) (J_:ρ=[some (.ref a),some ry,some .none,some (.ref ex),some (.bool false),some (.ref t),some (.ref wd),none,none,none,none,none])
theorem Ko {l ex:Addr}{xs:List V}{ry:V}{W:List Str→Prop}(ha:σ a=some (.inst 401 (aV (.str "character") (.ref l) .none)))(hl:σ l=some (.list xs))(hx:gJ xs)(hz:xs.length≤1000000)(hex:σ ex=some (.list []))
  (Kp:(ry=.none∧∀ts,Lv xs ts→W ts)∨(∃lv lt ts,ry=.ref lv∧σ lv=some (.inst 401 (aV (.str "character") (.ref lt) .none))∧σ lt=some (.list (ts.map .str))∧ts.Nodup∧ts.length≤1000000∧W ts))
  (q:∀τ g ts,Ext σ τ→W ts→cX (new σ τ) g (xs.map (b9 ts)) ts→Q (.ref g) τ):Call w (d+8) (.ref 1339) [.ref a,ry,.none,.ref ex,.bool false] σ Q:=by
 refine T6 fun Γ hd hv hg=>?_
 refine ae (aS hv (aw hd hg aN (by rfl') (ar hv [0] rfl ?_)))
 refine Kg ha hl hx hz .none λt ht=>⟨_,fh,?_⟩
 have E1:=af (o:=.list xs) ht
 refine fU (Zs σ a ex xs ry W t) ?_ ?_
 refine aM (aF (ah hv aD (bg (ax .d7 ⟨_,rfl,λh=>?_,λh=>?_⟩))))
 rcases Kp with⟨rfl,_⟩|⟨lv,lt,ts,rfl,g1,g2,nd,hn,hW⟩
 cases h
 refine ae (aT.wj hv (Wo (w:=w) hv (by rfl) (by rfl)) (.loc (.loc .nil)) aQ (pt:=λy=>bX) kj (by rfl') (aw hd hg aN (by rfl') (ar hv [1] rfl ?_)))
 refine Kg (E1 _ _ g1) (E1 _ _ g2) (wB ts) (by rw[ay];exact hn) .none λb hb=>⟨b,ts.map .str,λv=>some v,rfl,ai _ _ _,by rw[ay];exact hn,?_,λD hD=>⟨_,eB,au ?_⟩⟩
 intro y hy τ F Γc e1 e2 e3
 obtain⟨s,rfl⟩:∃s,y=.str s:=by refine bZ hy λs _=>?_;exact⟨s,rfl⟩
 exact fp.one (aF (ah e2 aD (bg (ax .d7 ⟨_,rfl,tt rfl (ah e2 aD ⟨rfl,rfl⟩)⟩))))
 rw[oX λ_ _=>rfl]
 exact⟨D,ts,(E1.trans (af hb)).trans (af hD),af hD _ _ (af hb _ _ (ai _ _ _)),ai _ _ _,nd,hn,hW,rfl⟩
 rcases Kp with⟨rfl,hW⟩|⟨lv,lt,ts,rfl,g1,g2,nd,hn,hW⟩
 refine ae (aM (aF (aU (ah hv .here (vk (E1 _ _ ha) (bu (ax (.eq .ss) ⟨_,rfl,ff rfl (ae (aS hv (aw hd hg aQ (by rfl') (ar hv [0] rfl ?_))))⟩)))))))
 refine Zh (E1 _ _ ha) (E1 _ _ hl) hx hz .none λτ b ts F hb ly ku hn=>⟨_,eB,au (au ⟨b,ts,E1.trans F,F _ _ (ai _ _ _),ly,ku.nodup,hn,hW _ ku,rfl⟩)⟩
 cases h
 intro τ ρ zqA;obtain⟨wd,ts,E,ht,Zt,nd,hn,hW,rfl⟩:=zqA
 have zt:(ts.map V.str).length≤1000000:=by rw[ay];exact hn
 refine ae (aT.wj hv (Wt (w:=w) hv (by rfl) (by rfl)) (.loc (.loc (.cell qY .nil))) aQ (pt:=λy=>bX) kj (by rfl') (aj hv 6 rfl rfl ⟨wd,ts.map .str,λv=>some v,rfl,Zt,zt,?_,λD hD=>⟨_,eB,?_⟩⟩))
 intro y hy υ F Γc e1 e2 e3
 exact fp.one (aF (ah e2 aD (aj e2 2 rfl rfl (ax (.zD (λ_=>false) (F _ _ (E _ _ hex)) (λ_ h=>by cases h)) ⟨_,rfl,tt rfl (ah e2 aD ⟨rfl,rfl⟩)⟩))))
 rw[oX λ_ _=>rfl]
 have F:=af (o:=.list (ts.map V.str)) hD
 refine ae (jg (aw hd hg cn (by rfl') (ar hv [6] rfl ?_)))
 refine Zm (ai _ _ _) nd hn (ae (aS hv (aw hd hg cY (by rfl') (ar hv [2,6] rfl ?_))))
 refine Zk ⟨_,gV,ae (aS hv (aw hd hg fG (by rfl') (ar hv [7] rfl ?_)))⟩
 refine JB (ai _ _ _) (wB ts) zt λbU n F2 Zu=>?_
 have e:dedup (ts.map V.str)=ts:=by unfold dedup;rw[Ki ts [] (by simpa using nd)];rfl
 rw[e]
 have F3:=F2.trans (af (o:=.list (ts.map V.str)) Zu)
 refine⟨_,je,ae (aS hv (aw hd hg gm (by rfl') (ar hv [7,8] rfl ?_)))⟩
 refine Ke (F3 _ _ (ai _ _ _)) (ai _ _ _) nd (wB ts) zt hn λj hj=>⟨_,Rv,?_⟩
 have F4:=F3.trans (af (o:=.list ((ts.map V.str).map (b9 ts))) hj)
 refine ae (aT.wj hv (Wx (w:=w) hv (by rfl) (by rfl)) (.loc (.loc (.cell QS .nil))) aQ (pt:=λy=>bX) v_ (by rfl') (aw hd hg gm (by rfl') (ar hv [5,6] rfl ?_)))
 refine Ke (F4 _ _ (F _ _ ht)) (F4 _ _ (ai _ _ _)) nd hx hz hn λk hk=>?_
 have F5:=F4.trans (af (o:=.list (xs.map (b9 ts))) hk)
 refine⟨k,xs.map (b9 ts),λv=>some v,rfl,ai _ _ _,by rw[ay];exact hz,?_,λD2 jU=>⟨_,vH,?_⟩⟩
 intro y hy υ G Γc e1 e2 e3
 have Zv:=G _ _ (af hk _ _ (ai _ _ _))
 refine bZ hy λx tv=>?_
 refine dE ⟨λ_=>gS (aF (ah e2 aD (bg (ax .bB ⟨_,rfl,λh=>?_,λh=>?_⟩)))),tf⟩
 rcases Bn nd x with h1|⟨i,hi,h1⟩
 rw[h1];exact bg ⟨rfl,rfl⟩
 rw[h1]at h;cases h
 rcases Bn nd x with h1|⟨i,hi,h1⟩
 rw[h1]at h;cases h
 rw[h1]
 exact bo (aj e2 2 rfl rfl (bC (ah e2 aD (aW (Op.pK (eh (i:=i) Zv (by lia) (Zr nd hi) (by rw[ay,ay];exact hn) ⟨rfl,rfl⟩))))))
 rw[oX λ_ _=>rfl]
 have F6:=F5.trans (af (o:=.list (xs.map (b9 ts))) jU)
 refine ae (aS hv (aw hd hg kj (by rfl') (ar hv [10] rfl ?_)))
 refine nA (ai _ _ _) (by rw[ay];exact hz) λcH r rb F7 hr Bq r1 r2=>⟨_,zE,?_⟩
 have G:=E.trans (F.trans (F6.trans F7))
 refine ae (aM (aF (aU (ah hv .here (vk (G _ _ ha) (bu (ax (.ne .ss) ⟨_,rfl,tt rfl (ae (jg (aw hd hg kl (by rfl') (aq (aj hv 11 rfl rfl (aq (aw hd hg iO (by rfl') (ar hv [0] rfl ?_))))))))⟩)))))))
 refine Bp (G _ _ ha) rfl rfl .none .none (aK (AQ (au (ae (a_ (aw hd hg ri (by rfl') (ar hv [11,8,4] rfl ?_)))))))
 have fE:cH n=some (.list (ts.map V.str)):=F7 _ _ (af jU _ _ (af hk _ _ (af hj _ _ (ai _ _ _))))
 have jV:σ r=none:=(E.trans (F.trans F6)).none hr
 exact Kj r1 r2 fE hn λeP F8 hf=>q eP r ts ((Ext.rt G jV).trans F8) hW (hf σ G jV ((E.trans (F.trans F6)).none Bq))
theorem wD {l:Addr}{xs:List V}(ha:σ a=some (.inst 401 (aV (.str "character") (.ref l) .none)))(hl:σ l=some (.list xs))(hx:gJ xs)(hz:xs.length≤1000000)
  (q:∀τ g ts,Ext σ τ→Lv xs ts→cX (new σ τ) g (xs.map (b9 ts)) ts→Q (.ref g) τ):Call w (d+9) (.ref 1346) [.ref a] σ Q:=by
 refine Iy fun Γ hd hv hg=>?_
 refine ae (aM (c8 (aw hd hg aN (by rfl') (ar hv [0] rfl ?_))))
 refine JF ha rfl ⟨_,.bool,ff rfl (au (ae (a_ (aw hd hg aQ (by rfl') (aq (ah hv .here (aq (bg (aq (bg (aq (bq (aK ⟨aB,λb hb=>ar rfl [] rfl ?_⟩)))))))))))))⟩
 have E:=af (o:=.list []) hb
 exact Ko (E _ _ ha) (E _ _ hl) hx hz (ai _ _ _) (.inl ⟨rfl,λ_ h=>h⟩) λτ g ts F h2 h3=>q τ g ts (E.trans F) h2 (h3.ext (Kh E (.refl _)))
end
section
variable{w:World}{Γ:Ctx}{σ:Hp}{ρ:LO}{QB:Bool→Hp→Prop}
noncomputable abbrev Zw (w:World)(Γ:Ctx)(nG:CmpOp)(nH:Expr)(ρ:LO)(QB:Bool→Hp→Prop)(b:V):Bool→Hp→Prop:=λt σ=>Br t (ak w Γ nH σ ρ (sV w Γ (compareOp nG) ρ (kB QB) b)) (QB false σ)
noncomputable abbrev Zx (w:World)(Γ:Ctx)(qh nG:CmpOp)(nH:Expr)(ρ:LO)(QB:Bool→Hp→Prop)(a b:V):Hp→Prop:=sV w Γ (compareOp qh) ρ (kB (Zw w Γ nG nH ρ QB b)) a b
noncomputable abbrev Zy (w:World)(Γ:Ctx)(qh nG:CmpOp)(tU nH:Expr)(ρ:LO)(QB:Bool→Hp→Prop):PQ:=λa σ=>ak w Γ tU σ ρ (Zx w Γ qh nG nH ρ QB a)
theorem dJ.chain {l qh nG tU nH pos}(h:ak w Γ l σ ρ (Zy w Γ qh nG tU nH ρ QB))
  (hm:lastMarks [qh,nG] [tU,nH]=false:=by with_unfolding_all rfl):dJ w Γ (.Compare l [qh,nG] [tU,nH] pos) σ ρ QB:=
 ⟨λS s D k X hk=>isTrue_chain (h.run S s D _ X λa' av aH h₁ aL=>test_link (h₁.run S av aL _ X λb' aG aZ iJ aA=>iJ a' b' rfl rfl S aG aA _ X λc bI lS q bN=>by
  obtain⟨t,e,q⟩:=q
  obtain rfl:=mK e
  refine wpAny_truthy_bool ?_
  cases t with
  |false=>exact hk _ _ _ (q.2 rfl) bN
  |true=>
   refine test_last ((q.1 rfl).run S bI bN _ X λe' gi mZ p_ jh=>p_ b' e' rfl rfl S gi jh _ X λc pZ afq q pU=>?_)
   obtain⟨t,e,q⟩:=q
   obtain rfl:=mK e
   exact wpAny_truthy_bool (hk _ _ _ q pU))) hm⟩
end
noncomputable def dw (n:Nat)(f:Nat→Option Nat)(g:Nat→Nat)(k:Nat):List (List Nat):=(List.range n).map λj=>((List.range k).filter λi=>f i==some j).map g
theorem jW {n f g k}:(dw n f g k).length=n:=by simp[dw]
theorem lA {n f g k j}(h:j<n):(dw n f g k)[j]? =some (((List.range k).filter λi=>f i==some j).map g):=by simp[dw,h]
theorem Bs {n f g k}(h:f k=none):dw n f g (k+1)=dw n f g k:=by
 unfold dw
 congr 1;funext j
 rw[lM,qR]
 simp[h]
theorem Kq {n f g k j}(h:f k=some j)(hj:j<n):dw n f g (k+1)=(dw n f g k).set j (((List.range k).filter λi=>f i==some j).map g++[g k]):=by
 refine List.ext_getElem? λi=>?_
 by_cases hi:i<n
 rw[lA hi,List.getElem?_set,jW]
 by_cases e:j=i
 subst e
 rw[ck rfl,ck hj,lM,qR]
 simp[h]
 rw[bK e,lA hi,lM,qR]
 simp[h,e]
 rw[qP (by rw[jW];lia),qP (by rw[List.length_set,jW];lia)]
theorem tV {f:Nat→Option Nat}{g:Nat→Nat}{k j:Nat}:(((List.range k).filter λi=>f i==some j).map g).length≤k:=by
 rw[ay]
 refine dO (og _ _) ?_
 rw[kG];exact dp _
theorem Kr {n f g}:dw n f g 0=List.replicate n []:=by
 refine List.ext_getElem? λi=>?_
 by_cases hi:i<n
 rw[lA hi];simp[hi]
 rw[qP (by rw[jW];lia),qP (by simp;lia)]
theorem LL.set {τ:Hp}{bs:List Addr}{pss:List (List Nat)}(h:LL τ bs pss)(nd:bs.Nodup){j:Nat}{b:Addr}{qs:List Nat}(hb:bs[j]? =some b):LL (upd τ b (.list (qs.map vI))) bs (pss.set j qs):=by
 unfold LL at*
 induction h generalizing j with
 |nil=>cases hb
 | @cons x ps bs pss hx h ih=>
  rw[fz]at nd
  cases j with
  |zero=>
   cases hb
   refine .cons (ai _ _ _) ?_
   clear ih
   induction h with
   |nil=>exact .nil
   | @cons y ps bs pss hy h ih=>
    rw[fz]at nd
    have hn:=nd.1
    rw[aY,not_or]at hn
    exact .cons ((aJ (Ne.symm hn.1)).trans hy) (ih ⟨hn.2,nd.2.2⟩)
  |succ j=>
   have hb:bs[j]? =some b:=by simpa using hb
   have:x≠b:=λe=>nd.1 (e▸cS hb)
   exact .cons ((aJ this).trans hx) (ih nd.2 hb)
noncomputable def cf (codes:List V)(i:Nat):Option Nat:=match codes[i]? with
 |some (.int c)=>some (c-1).toNat
 |_=>none
noncomputable def fX (codes:List V)(n:Nat):Prop:=∀c∈codes,c=.none∨∃j,j<n∧c=.int ((j+1:Nat):Int)
theorem wF {ts:List Str}(nd:ts.Nodup)(xs:List V):fX (xs.map (b9 ts)) ts.length:=λc hc=>by
 refine bZ hc λx _=>?_
 exact Bn nd x
section
variable{w:World}{d:Nat}{σ:Hp}{Q:PQ}{a:Addr}{kind items attrs:V}
theorem Ks {x y:V}:(keyOf [(Str.ofString "levels",x),(Str.ofString "class",y)] (Str.ofString "levels")).getD .none=x:=by simp[keyOf]
theorem Bt {x y:V}:(keyOf [(Str.ofString "levels",x),(Str.ofString "class",y)] (Str.ofString "class")).getD .none=y:=by
 unfold keyOf keyOf
 rw[bK (ne_str (by rfl')),ck rfl];rfl
theorem Attr.to {σ:Hp}{a:V}{x:Str}{v v':V}(h:Attr σ a x v)(e:v=v'):Attr σ a x v':=e▸h
theorem oY {codes:List V}{ts:List Str}(h:cX σ a codes ts)(hn:ts.length≤1000000)(q:∀b,σ b=none→Q (.ref b) (upd σ b (.list (ts.map .str)))):Call w (d+4) (.ref 1279) [.ref a] σ Q:=by
 obtain⟨c,e,lv,lt,cl,ct,h1,h2,h3,h4,h5,h6,h7⟩:=h
 have zt:(ts.map V.str).length≤1000000:=by rw[ay];exact hn
 refine jn ?_
 refine TR fun Γ hd hv hg=>?_
 refine ae (aS hv (aw hd hg aN (by rfl') (ar hv [0] rfl ?_)))
 refine oS h1 ((Attr.dict h3).to Ks) ⟨_,bX,?_⟩
 refine ae (aM (cw (dK (aF (ah hv aD (bg (ax .bB ⟨_,rfl,ff rfl (dK (dJ.not (c8 (aw hd hg aQ (by rfl') (ar hv [1] rfl ?_)))))⟩)))))))
 refine rp h4 (.inl rfl) ⟨_,.bool,ff rfl (kU (ff rfl (au (ae (a_ (fT hv (V6 (w:=w) hv (by rfl) (by rfl)) (.loc (.loc .nil)) aQ (pt:=λy=>bX) (aw hd hg cn (by rfl') (ar hv [1] rfl ?_))))))))⟩
 refine Bg h4 h5 (wB ts) zt .none λb hb=>⟨b,_,λv=>some v,rfl,ai _ _ _,zt,?_,λD hD=>?_⟩
 intro y hy τ F Γc e1 e2 e3
 obtain⟨s,rfl⟩:∃s,y=.str s:=by refine bZ hy λs _=>?_;exact⟨s,rfl⟩
 exact dE ⟨λ_=>gS (aF (ah e2 aD (bg (ax .bB ⟨_,rfl,ff rfl (ah e2 aD ⟨rfl,rfl⟩)⟩)))),tf⟩
 rw[oX λ_ _=>rfl]
 have iu:σ D=none:=(af hb).none hD
 refine⟨_,λx o h=>?_,q D iu⟩
 by_cases hx:x=D
 subst hx;rw[ai]at h ⊢;exact h
 rw[aJ hx]at h ⊢;exact af hb _ _ h
theorem wG {codes:List V}{ts:List Str}(h:cX σ a codes ts)(hn:ts.length≤1000000)(hz:codes.length≤1000000)(ok:fX codes ts.length)(q:∀b,σ b=none→Q (.ref b) (upd σ b (.list codes))):Call w (d+5) (.ref 1284) [.ref a] σ Q:=by
 refine jn ?_
 refine TS fun Γ hd hv hg=>?_
 refine ae (aS hv (cj hg aN (aw hd hg aQ (by rfl') (ar hv [0] rfl ?_))))
 refine oY h hn λb hb=>⟨b,_,rfl,ai _ _ _,by rw[ay];exact hn,_,zJ,?_⟩
 have E:=af (o:=.list (ts.map V.str)) hb
 obtain⟨c,e,lv,lt,cl,ct,h1,h2,h3,h4,h5,h6,h7⟩:=h
 refine ae (a_ (fT hv (V_ (w:=w) hv (by rfl) (by rfl)) (.loc (.loc (.cell aD .nil))) aQ (pt:=λy=>bX) (aU (ah hv .here (vi (E _ _ h1) ⟨c,_,λv=>some v,rfl,E _ _ h2,hz,?_,λD hD=>?_⟩)))))
 intro y hy τ F Γc e1 e2 e3
 refine dE ⟨λ_=>gS (cw (bW (aF (ah e2 aD (bg (ax .d7 ⟨_,rfl,λh=>?_,λh=>?_⟩)))))),tf⟩
 rcases ok y hy with rfl|⟨j,hj,rfl⟩
 cases h
 refine bW (dJ.chain (aW (ah e2 aD (ax .vD ⟨_,rfl,tt (i6 (by lia)) (aj e2 2 rfl rfl (ax .vD ⟨_,rfl,tt (i6 (by rw[ay];lia)) (jL (tt rfl (ah e2 aD ⟨rfl,rfl⟩)))⟩))⟩))))
 rcases ok y hy with rfl|⟨j,hj,rfl⟩
 exact ff rfl (bg ⟨rfl,rfl⟩)
 cases h
 rw[oX λ_ _=>rfl]
 have iu:σ D=none:=E.none hD
 refine⟨_,λx o h=>?_,q D iu⟩
 by_cases hx:x=D
 subst hx;rw[ai]at h ⊢;exact h
 rw[aJ hx]at h ⊢;exact E _ _ h
end
inductive EL (σ:Hp)(D:Addr)(i:Nat)(ys:List V)(τ:Hp):Prop
 |mk (υ:Hp) (bs:List Addr) (h1:υ D=none) (h2:Ext σ υ) (h3:τ=upd υ D (.list ys)) (h4:ys=bs.map .ref) (h5:LL υ bs (List.replicate i [])) (h6:bs.Nodup) (h7:∀b∈bs,σ b=none)
theorem EL.zero {σ:Hp}{D:Addr}(h:σ D=none):EL σ D 0 [] (upd σ D (.list [])):=⟨σ,[],h,.refl _,rfl,rfl,.nil,.nil,λb hb=>by cases hb⟩
theorem EL.step {σ:Hp}{D:Addr}{i:Nat}{ys:List V}{τ:Hp}{b:Addr}(h:EL σ D i ys τ)(hb:τ b=none):(upd τ b (.list [])) D=some (.list ys)∧EL σ D (i+1) (ys++[.ref b]) (upd (upd τ b (.list [])) D (.list (ys++[.ref b]))):=by
 obtain⟨υ,bs,hD,E,rfl,rfl,hl,nd,hf⟩:=h
 have E1:Ext (upd υ D (.list (bs.map V.ref))) _:=af (o:=.list []) hb
 obtain⟨h2,h3⟩:=hole hD E1
 have iu:b≠D:=Ne.symm (bp (ai _ _ _) hb)
 have Kt:υ b=none:=by rw[aJ iu]at hb;exact hb
 refine⟨E1 _ _ (ai _ _ _),off (upd (upd υ D (.list (bs.map V.ref))) b (.list [])) D,bs++[b],dA,E.trans h2,?_,by simp,?_,?_,?_⟩
 rw[h3,dk,←h3]
 rw[List.replicate_succ']
 exact br.app (LL.ext hl h2) (.cons (off_ne iu (ai _ _ _)) .nil)
 rw[List.nodup_append]
 refine⟨nd,by simp,λx hx y hy e=>?_⟩
 rw[dm.mp hy]at e
 obtain⟨k,hk⟩:=gN.mp hx
 have fH:k<i:=by have:=(cp.mp hk).1;rw[hl.len]at this;simpa using this
 obtain⟨x',e1,e2⟩:=hl.get (i:=k) (b:=[]) (by simp[fH])
 rw[hk]at e1;cases e1
 rw[e,Kt]at e2;cases e2
 intro x hx
 rcases cq.mp hx with hx|hx
 exact hf x hx
 rw[dm.mp hx];exact E.none Kt
noncomputable def GS (σ τ:Hp)(G:Addr)(bs:List Addr)(pss:List (List Nat)):Prop:=Ext σ τ∧τ G=some (.list (bs.map .ref))∧LL τ bs pss∧bs.Nodup∧(∀b∈bs,σ b=none)∧G∉bs
theorem EL.gs {σ:Hp}{D:Addr}{i:Nat}{ys:List V}{τ:Hp}(h:EL σ D i ys τ):∃bs,GS σ τ D bs (List.replicate i [])∧bs.length=i:=by
 obtain⟨υ,bs,hD,E,rfl,rfl,hl,nd,hf⟩:=h
 have hlen:bs.length=i:=by rw[hl.len];simp
 refine⟨bs,⟨E.trans (af hD),ai _ _ _,LL.ext hl (af hD),nd,hf,λhm=>?_⟩,hlen⟩
 obtain⟨k,hk⟩:=gN.mp hm
 have fH:k<i:=by have:=(cp.mp hk).1;lia
 obtain⟨x',e1,e2⟩:=hl.get (i:=k) (b:=[]) (by simp[fH])
 rw[hk]at e1;cases e1
 rw[hD]at e2;cases e2
theorem GS.ext {σ τ bf:Hp}{G:Addr}{bs:List Addr}{pss:List (List Nat)}(h:GS σ τ G bs pss)(E:Ext τ bf):GS σ bf G bs pss:=
 ⟨h.1.trans E,E _ _ h.2.1,LL.ext h.2.2.1 E,h.2.2.2⟩
theorem GS.app {σ τ:Hp}{G b:Addr}{bs:List Addr}{pss:List (List Nat)}{j:Nat}{qs:List Nat}(h:GS σ τ G bs pss)(hb:bs[j]? =some b):GS σ (upd τ b (.list (qs.map vI))) G bs (pss.set j qs):=by
 obtain⟨h1,h2,h3,h4,h5,h6⟩:=h
 have hm:=cS hb
 exact⟨h1.upd (h5 b hm),(aJ λe:G=b=>h6 (e▸hm)).trans h2,h3.set h4 hb,h4,h5,h6⟩
theorem GS.len {σ τ:Hp}{G:Addr}{bs:List Addr}{pss:List (List Nat)}(h:GS σ τ G bs pss):bs.length=pss.length:=h.2.2.1.len
theorem GS.at {σ τ:Hp}{G:Addr}{bs:List Addr}{pss:List (List Nat)}(h:GS σ τ G bs pss){j:Nat}{ps:List Nat}(e:pss[j]? =some ps):∃b,bs[j]? =some b∧(bs.map V.ref)[j]? =some (.ref b)∧τ b=some (.list (ps.map vI)):=by
 obtain⟨b,h1,h2⟩:=h.2.2.1.get e
 exact⟨b,h1,by rw[dI,h1];rfl,h2⟩
theorem Bu {τ:Hp}{bs:List Addr}{pss:List (List Nat)}(h:LL τ bs pss){C:Addr}(hC:τ C=none):∀b∈bs,C≠b:=λb hb e=>by
 obtain⟨k,hk⟩:=gN.mp hb
 have fH:k<pss.length:=by rw[←h.len];exact(cp.mp hk).1
 obtain⟨x',e1,e2⟩:=h.get (i:=k) (bL fH)
 rw[hk]at e1;cases e1
 rw[←e,hC]at e2;cases e2
section
variable{w:World}{d:Nat}{σ:Hp}{Q:PQ}{a:Addr}{kind items attrs:V}
inductive Zz (σ:Hp)(a:Addr)(codes:List V)(ts:List Str)(G:Addr)(bs:List Addr)(C:Addr)(k:Nat)(τ:Hp)(ρ:LO):Prop
 |mk (cQ:k≤codes.length) (cR:GS σ τ G bs (dw ts.length (cf codes) id k)) (eO:τ C=some (.list codes)) (o:Option V) (fV:ρ=[some (.ref a),some (.ref G),some (.ref C),o])
theorem Bv {codes:List V}{ts:List Str}(h:cX σ a codes ts)(hn:ts.length≤1000000)(hz:codes.length≤1000000)(ok:fX codes ts.length)
  (q:∀τ G bs,GS σ τ G bs (dw ts.length (cf codes) id codes.length)→Q (.ref G) τ):Call w (d+6) (.ref 1382) [.ref a] σ Q:=by
 have zt:(ts.map V.str).length≤1000000:=by rw[ay];exact hn
 refine T8 fun Γ hd hv hg=>?_
 refine ae (aT.ro hv (WK (w:=w) hv (by rfl) (by rfl)) (.loc (.loc .nil)) aQ (pt:=λy=>bX) aQ (by rfl') (aw hd hg aN (by rfl') (ar hv [0] rfl ?_)))
 refine oY h hn λb hb=>⟨b,_,rfl,ai _ _ _,λG hG=>⟨EL (upd σ b (.list (ts.map .str))) G,.zero hG,?_,?_,?_⟩⟩
 intro i ys τ zqA;obtain⟨υ,bs,hD,E,rfl,_⟩:=zqA
 exact af hD _ _ (E _ _ (ai _ _ _))
 intro i ys τ y hI hy Γc e1 e2 e3
 have hi:=(cp.mp hy).1
 refine dE ⟨λ_=>bq (aK ⟨aB,λc hc=>⟨(hI.step hc).1,?_,(hI.step hc).2⟩⟩),tf⟩
 obtain⟨υ,bs,hD,E,rfl,rfl,hl,_⟩:=hI
 rw[ay,hl.len,u_];lia
 intro ys τ hI
 obtain⟨bs,hG,hlen⟩:=hI.gs
 rw[ay]at hG hlen
 have E0:=(af (o:=.list (ts.map V.str)) hb).trans hG.1
 have l_:GS σ τ G bs (List.replicate ts.length []):=⟨E0,hG.2.1,hG.2.2.1,hG.2.2.2.1,λx hx=>(af hb).none (hG.2.2.2.2.1 x hx),hG.2.2.2.2.2⟩
 refine⟨_,bX,ae (aS hv (aw hd hg aQ (by rfl') (ar hv [0] rfl ?_)))⟩
 refine wG (h.ext E0) hn hz ok λC hC=>⟨_,eL,ae ?_⟩
 have Bw:=Bu l_.2.2.1 hC
 refine jP hv hg cn (cj hg cY (aj hv 2 rfl rfl ⟨C,_,rfl,ai _ _ _,hz,codes.length,Zz σ a codes ts G bs C,rfl,hz,⟨j9 _,?_,ai _ _ _,_,rfl⟩,?_,?_⟩))
 rw[Kr];exact l_.ext (af hC)
 intro k τ ρ zqA;obtain⟨_,dX,gZ,o,rfl⟩:=zqA;intro hk
 refine⟨_,eM,λown=>?_⟩
 obtain⟨hd,hv,hg⟩:=dF own hd hv hg
 have eV:codes[k]? =some codes[k]:=bL hk
 refine ae (aM (aF (bo (aj hv 2 rfl rfl (aj hv 3 rfl rfl (bO gZ eV hz (bg (ax .d7 ⟨_,rfl,λhc=>?_,λhc=>?_⟩))))))))
 rcases ok _ (hO hk)with e|⟨j,hj,e⟩
 rw[e]at hc;cases hc
 have nI:cf codes k=some j:=by unfold cf;rw[eV,e];simp
 obtain⟨b',gq,jr,g8⟩:=dX.at (lA hj)
 rw[e]at eV
 refine ae (eH (bo (ah hv aD (bC (bo (aj hv 2 rfl rfl (aj hv 3 rfl rfl (bO gZ eV hz (aW (Op.pK (eh (i:=j) dX.2.1 (by lia) jr ?_ ⟨b',rfl,⟨_,g8⟩,aj hv 3 rfl rfl ⟨_,g8,?_,au (au ⟨hk,?_,?_,_,rfl⟩)⟩⟩)))))))))))
 rw[ay,hlen];exact hn
 rw[ay];exact dO tV (by lia)
 rw[Kq nI hj]
 have:=dX.app (qs:=(List.filter (λi=>cf codes i==some j) (List.range k)).map id++[id k]) gq
 rw[df]at this
 exact this
 rw[aJ (Bw b' (cS gq))];exact gZ
 rcases ok _ (hO hk)with e|⟨j,hj,e⟩
 have nI:cf codes k=none:=by unfold cf;rw[eV,e]
 exact au (au ⟨hk,by rw[Bs nI];exact dX,gZ,_,rfl⟩)
 rw[e]at hc;cases hc
 intro τ ρ zqA;obtain⟨_,dX,gZ,o,rfl⟩:=zqA
 exact ae (a_ (ah hv aD (q _ G bs dX)))
end
noncomputable abbrev gu (gl W cD:V):List (Str×Option V):=[(Str.ofString "limit",none),(Str.ofString "most_frames",none),(Str.ofString "steps",none),(Str.ofString "next_number",none),(Str.ofString "base",none),(Str.ofString "globals",some gl),(Str.ofString "frames",none),(Str.ofString "out",none),(Str.ofString "warnings",some W),(Str.ofString "handlers",none),(Str.ofString "restarts",none),(Str.ofString "targets",none),(Str.ofString "visible",some cD),(Str.ofString "current",some .none),(Str.ofString "dispatcher",some .none),(Str.ofString "signaller",none),(Str.ofString "warner",some .none),(Str.ofString "deparser",none),(Str.ofString "s4",none)]
theorem cz (w:World):gE w 1985=true:=by rfl'
theorem rz (w:World):bP w 1985 "globals"=true:=by rfl'
theorem tW (w:World):bP w 1985 "warnings"=true:=by rfl'
theorem tX (w:World):bP w 1985 "visible"=true:=by rfl'
theorem tY (w:World):bP w 1985 "current"=true:=by rfl'
theorem Ku (w:World):bP w 1985 "dispatcher"=true:=by rfl'
theorem Kw (w:World):bP w 1985 "warner"=true:=by rfl'
theorem ZA (w:World):ki w 1985 "warn_all" 1831=true:=by rfl'
theorem lB {x:Str}{l:List Str}(h:(l.any λy=>x==y)=false):x∉l:=λhm=>by
 rw[List.any_eq_false]at h
 exact h x hm (by simp)
theorem Bx {σ:Hp}{a:Addr}{o:MO}(h:σ a=some o):upd σ a o=σ:=by
 funext b
 by_cases e:b=a
 subst e;rw[ai,h]
 rw[aJ e]
section
variable{w:World}{d:Nat}{σ:Hp}{Q:PQ}{a:Addr}{kind items attrs gl cD:V}
theorem ZC {N W:Addr}{ws:List V}{s:Str}(ha:σ a=some (.inst 1985 (gu gl (.ref W) cD)))(hi:gW cD=true)(hN:σ N=some (.list [.str s]))(hW:σ W=some (.list ws))(ZD:N≠W)(hz:ws.length≤1000000)
  (q:∀τ t,Ext (off σ W) τ→τ W=some (.list (ws++[.ref t]))→τ t=some (.tup [.str s,.none])→Q .none τ):Call w (d+1) (.ref 1831) [.ref a,.ref N] σ Q:=by
 have By:a≠W:=λe=>by rw[e,hW]at ha;cases ha
 refine Un fun Γ hd hv hg=>?_
 refine ae (aM (aF (aj hv 2 rfl rfl (bg (ax .bB ⟨_,rfl,tt rfl (ae (aS hv (aU (ah hv .here (bF ha AO (cz w) (tY w) rfl ⟨_,eL,au ?_⟩)))))⟩)))))
 refine ae (aS hv (aU (ah hv .here (bF ha AN (cz w) (tX w) hi ⟨_,eM,ae ?_⟩))))
 refine fF hv (ah hv aD ⟨N,[.str s],λk τ ρ=>(k=0∧τ=σ∧ρ=[some (.ref a),some (.ref N),some .none,some cD,none])∨(k=1∧∃t o,τ=upd (upd σ t (.tup [.str s,.none])) W (.list (ws++[.ref t]))∧t≠W∧σ t=none∧ρ=[some (.ref a),some (.ref N),some .none,some cD,o]),rfl,.inl ⟨rfl,rfl,rfl⟩,?_,?_,?_⟩)
 rintro k τ ρ (⟨rfl,rfl,rfl⟩|⟨rfl,t,o,rfl,Kx,ht,rfl⟩)
 exact hN
 rw[aJ ZD];exact af ht _ _ hN
 rintro k τ ρ y (⟨rfl,rfl,rfl⟩|⟨rfl,_⟩) hy
 cases hy
 refine⟨_,dR,λown=>?_⟩
 obtain⟨hd,hv,hg⟩:=dF own hd hv hg
 refine ae (aM (aF (aU (ah hv .here (bF ha U8 (cz w) (Kw w) rfl (bg (ax .bB ⟨_,rfl,tt rfl (ae ?_)⟩)))))))
 refine eH (aU (ah hv .here (bF ha iO (cz w) (tW w) rfl ⟨W,rfl,⟨_,hW⟩,fD (ar hv [4,2] rfl ⟨aB,λt ht=>⟨ws,af ht _ _ hW,hz,au (au (.inr ⟨rfl,t,_,rfl,Ne.symm (bp hW ht),ht,rfl⟩))⟩⟩)⟩)))
 cases hy
 rintro τ ρ (⟨h,_⟩|⟨_,t,o,rfl,Kx,ht,rfl⟩)
 cases h
 have vV:(upd (upd σ t (.tup [.str s,.none])) W (.list (ws++[.ref t]))) a=some (.inst 1985 (gu gl (.ref W) cD)):=by rw[aJ By];exact af ht _ _ ha
 refine ae (ic (aj hv 3 rfl rfl (ah hv .here ⟨a,1985,_,_,rfl,vV,(vL (by rfl')),bG,cz w,tX w,?_⟩)))
 rw[Bx vV]
 exact au (q _ t (((c_).trans (af ht)).upd dA) (ai _ _ _) (by rw[aJ Kx];exact ai _ _ _))
end
noncomputable def oZ:Str:=Str.ofString "data length is not a multiple of split variable"
noncomputable def Wn (τ:Hp)(W:Addr)(ws:List V)(b:Bool):Prop:=(b=false→τ W=some (.list ws))∧(b=true→∃t,τ W=some (.list (ws++[.ref t]))∧τ t=some (.tup [.str oZ,.none]))
theorem Wn.ext {τ bf:Hp}{W:Addr}{ws:List V}{b:Bool}(h:Wn τ W ws b)(E:Ext τ bf):Wn bf W ws b:=⟨λe=>E _ _ (h.1 e),λe=>let⟨t,h1,h2⟩:=h.2 e;⟨t,E _ _ h1,E _ _ h2⟩⟩
noncomputable def Bz (xs:List V)(n:Nat):Prop:=∀x∈xs,x=.none∨∃j,j<n∧x=vI j
theorem mem_set {α:Type}{xs:List α}{i:Nat}{y x:α}(h:x∈xs.set i y):x∈xs∨x=y:=by
 rcases List.mem_or_eq_of_mem_set h with h|h
 exact .inl h
 exact .inr h
section
variable{w:World}{d:Nat}{σ:Hp}{Q:PQ}{a:Addr}{kind items attrs gl cD:V}
inductive ZE (a g:Addr)(codes:List V)(ts:List Str)(n:Nat)(G L:Addr)(bU:Hp)(lv:List V)(D:Addr)(fs:List Addr)(k:Nat)(υ:Hp)(ρ:LO):Prop
 |mk (o1:Option V) (o2:Option V) (pss:List (List Nat)) (cQ:GS (upd bU L (.list lv)) υ D fs pss) (cR:pss.length=ts.length) (eO:(∀ps∈pss,ps.length≤k)) (fV:ρ=[some (.ref a),some (.ref g),some (.int n),some (.int codes.length),some (.ref G),some (.ref L),o1,o2,some (.ref D)])
inductive ZF (a g:Addr)(codes:List V)(n:Nat)(G L:Addr)(bU:Hp)(lv:List V)(D:Addr)(fs:List Addr)(υ:Hp)(ρ:LO):Prop
 |mk (o1:Option V) (o2:Option V) (pss:List (List Nat)) (cQ:GS (upd bU L (.list lv)) υ D fs pss) (cR:ρ=[some (.ref a),some (.ref g),some (.int n),some (.int codes.length),some (.ref G),some (.ref L),o1,o2,some (.ref D)])
inductive ZG (a g:Addr)(codes:List V)(ts:List Str)(n:Nat)(G L:Addr)(bU:Hp)(k m:Nat)(υ:Hp)(ρ:LO):Prop
 |mk (lv:List V) (o2:Option V) (cQ:lv.length=codes.length) (cR:Bz lv ts.length) (eO:υ=upd bU L (.list lv)) (fV:ρ=[some (.ref a),some (.ref g),some (.int n),some (.int codes.length),some (.ref G),some (.ref L),some (.int k),o2,none])
inductive ZH (a g:Addr)(codes:List V)(ts:List Str)(n:Nat)(G L:Addr)(bU:Hp)(k:Nat)(υ:Hp)(ρ:LO):Prop
 |mk (lv:List V) (o1:Option V) (o2:Option V) (cQ:lv.length=codes.length) (cR:Bz lv ts.length) (eO:υ=upd bU L (.list lv)) (fV:ρ=[some (.ref a),some (.ref g),some (.int n),some (.int codes.length),some (.ref G),some (.ref L),o1,o2,none])
inductive ZI (a g:Addr)(codes:List V)(ts:List Str)(n:Nat)(G L:Addr)(bU υ:Hp)(ρ:LO):Prop
 |mk (lv:List V) (o1:Option V) (o2:Option V) (cQ:lv.length=codes.length) (cR:Bz lv ts.length) (eO:υ=upd bU L (.list lv)) (fV:ρ=[some (.ref a),some (.ref g),some (.int n),some (.int codes.length),some (.ref G),some (.ref L),o1,o2,none])
theorem ZJ {W g:Addr}{ws codes:List V}{ts:List Str}{n:Nat}(ha:σ a=some (.inst 1985 (gu gl (.ref W) cD)))(hi:gW cD=true)(hW:σ W=some (.list ws))(BA:ws.length≤1000000)(hF:cX (off σ W) g codes ts)(hn:ts.length≤1000000)(hz:codes.length≤1000)(ok:fX codes ts.length)(hc:n≤1000)
  (l5:codes.length=0→n=0)(q:∀τ v,Ext (off σ W) τ→Wn τ W ws (decide (0<codes.length∧n % codes.length≠0))→Q v τ):Call w (d+7) (.ref 1615) [.ref a,.ref g,.int n] σ Q:=by
 obtain⟨c,_,_,_,_,_,h1,h2,_⟩:=hF.ext c_
 refine Uc fun Γ hd hv hg=>?_
 refine ae (aS hv (aw hd hg aN (by rfl') (ar hv [1] rfl ?_)))
 refine gn rfl h1 h2 (by lia) ⟨_,eM,?_⟩
 refine fU (λτ ρ=>τ=σ∧ρ=[some (.ref a),some (.ref g),some (.int n),some (.int codes.length),none,none,none,none,none]) ?_ ?_
 refine aM (cw (bW (aF (aj hv 3 rfl rfl (aW (ax (.eq .ii) ⟨_,rfl,λe=>bW ?_,λ_=>ff rfl (au ⟨rfl,rfl⟩)⟩))))))
 have e:codes.length=0:=by simpa using e
 have:=l5 e
 subst this
 exact aF (aj hv 2 rfl rfl (aW (ax .jc ⟨_,rfl,ff rfl (ff rfl (au ⟨rfl,rfl⟩))⟩)))
 intro τ ρ zqA;obtain⟨rfl,rfl⟩:=zqA
 refine fU (λbf ρ=>Ext (off τ W) bf∧Wn bf W ws (decide (0<codes.length∧n % codes.length≠0))∧ρ=[some (.ref a),some (.ref g),some (.int n),some (.int codes.length),none,none,none,none,none]) ?_ ?_
 have no:decide (0<codes.length∧n % codes.length≠0)=false→Wn τ W ws (decide (0<codes.length∧n % codes.length≠0)):=λe=>by rw[e];exact⟨λ_=>hW,ft⟩
 refine aM (cw (bW (aF (aj hv 3 rfl rfl (aW (ax .jc ⟨_,rfl,λe=>bW ?_,λe=>ff rfl (au ⟨c_,no ?_,rfl⟩)⟩))))))
 have e:0<codes.length:=by simpa using e
 refine aF (bC (aj hv 2 rfl rfl (aj hv 3 rfl rfl (fC (by lia) (aW (ax (.ne .ii) ⟨_,rfl,λe2=>jL (tt rfl ?_),λe2=>ff rfl (au ⟨c_,no ?_,rfl⟩)⟩))))))
 have e2:n % codes.length≠0:=by rw[fq]at e2;simp at e2;lia
 refine ae (jg (ak.own (ah hv .here ⟨a,1985,1831,_,rfl,ha,cz w,ZA w,lB (by rfl'),aq (bq (ar rfl [] rfl ⟨aB,λN hN=>aK ?_⟩))⟩)))
 rw[hd]
 have E:=af (o:=.list [.str oZ]) hN
 refine ZC (s:=oZ) (E _ _ ha) hi (ai _ _ _) (E _ _ hW) (Ne.symm (bp hW hN)) BA λbf t F g1 g2=>au ⟨?_,?_,rfl⟩
 exact(Ext.rt (c_.trans E) dA).trans F
 rw[(i6 ⟨e,e2⟩:decide (0<codes.length∧n % codes.length≠0)=true)]
 exact⟨(tf),λ_=>⟨t,g1,g2⟩⟩
 have e2:n % codes.length=0:=by rw[fq]at e2;simp at e2;lia
 exact i5 λh=>h.2 e2
 have e:¬0<codes.length:=by simpa using e
 exact i5 λh=>e h.1
 intro bf ρ zqA;obtain⟨E,hw,rfl⟩:=zqA
 have tZ:=hF.ext E
 refine ae (aS hv (aw hd hg cn (by rfl') (ar hv [1] rfl ?_)))
 refine Bv tZ hn (by lia) ok λcA G bs hG=>⟨_,dR,?_⟩
 have ly:bs.length=ts.length:=by rw[hG.len,jW]
 refine ae (aS hv (bC (bq (ar rfl [] rfl ⟨aB,λT hT=>aj hv 3 rfl rfl (Op.mulL (ai _ _ _) (by lia) (by simp;lia) λL hL=>⟨_,fh,?_⟩)⟩))))
 have BB:(List.replicate codes.length [V.none]).flatten=List.replicate codes.length .none:=by simp
 rw[BB]
 have E2:=af (o:=.list [.none]) hT
 have nJ:=hG.ext E2
 have ZK:=Bu nJ.2.2.1 hL
 have BC:G≠L:=bp nJ.2.1 hL
 revert hL E2 nJ;refine gen (upd cA T (.list [.none])) ?_;intro bU hL E2 nJ
 refine fU (ZI a g codes ts n G L bU) ?_ ?_
 refine jP hv hg cY (cj hg fG (aj hv 4 rfl rfl ⟨G,_,rfl,af hL _ _ nJ.2.1,by rw[ay,ly];exact hn,ts.length,ZH a g codes ts n G L bU,
  by rw[ay,ly],hn,⟨_,_,_,by simp,λx hx=>.inl (List.eq_of_mem_replicate hx),rfl,rfl⟩,?_,λυ ρ ⟨lv,o1,o2,a,b,c,d⟩=>⟨lv,o1,o2,a,b,c,d⟩⟩))
 intro k υ ρ zqA;obtain⟨lv,o1,o2,hl,gQ,rfl,rfl⟩:=zqA;intro hk
 refine⟨_,eB,λown=>?_⟩
 obtain⟨hd,hv,hg⟩:=dF own hd hv hg
 obtain⟨b,gq,jr,g8⟩:=nJ.at (lA hk)
 have BD:b≠L:=Ne.symm (ZK b (cS gq))
 refine ae (fF hv (bo (aj hv 4 rfl rfl (aj hv 6 rfl rfl (bO ((aJ BC).trans nJ.2.1) jr (by rw[ay,ly];exact hn) ⟨b,(((List.range codes.length).filter λi=>cf codes i==some k).map id).map vI,ZG a g codes ts n G L bU k,
  rfl,⟨lv,_,hl,gQ,rfl,rfl⟩,?_,?_,?_⟩)))))
 (intro m υ ρ zqA;obtain⟨lv,o2,hl,gQ,rfl,rfl⟩:=zqA);exact(aJ BD).trans g8
 intro m υ ρ y zqA;obtain⟨lv,o2,hl,gQ,rfl,rfl⟩:=zqA;intro hy
 obtain⟨p,hp,rfl⟩:∃p,p<codes.length∧y=vI p:=by
  have:=cS hy
  simp only[List.map_id,cF,jE,iD]at this
  obtain⟨p,hp,rfl⟩:=this
  exact⟨p,hp.1,rfl⟩
 refine⟨_,gV,λown=>?_⟩
 obtain⟨hd,hv,hg⟩:=dF own hd hv hg
 refine ae (lh (aj hv 6 rfl rfl (aj hv 5 rfl rfl (aj hv 7 rfl rfl (.inl ⟨L,lv,_,rfl,rfl,ai _ _ _,by lia,by lia,by lia,au ⟨lv.set p (vI k),_,by simpa using hl,?_,?_,rfl⟩⟩)))))
 intro x hx
 rcases mem_set hx with hx|rfl
 exact gQ x hx
 exact .inr ⟨k,hk,rfl⟩
 rw[dk];rfl
 intro υ ρ zqA;obtain⟨lv,o2,hl,gQ,rfl,rfl⟩:=zqA
 exact au ⟨lv,_,_,hl,gQ,rfl,rfl⟩
 intro υ ρ zqA;obtain⟨lv,o1,o2,hl,gQ,rfl,rfl⟩:=zqA
 have E3:=af (o:=.list lv) hL
 refine ae (aT.ro hv (WT (w:=w) hv (by rfl) (by rfl)) (.loc (.loc .nil)) aQ (pt:=λy=>bX) iO (by rfl') (aj hv 4 rfl rfl ⟨G,_,rfl,E3 _ _ nJ.2.1,λD hD=>⟨EL (upd bU L (.list lv)) D,.zero hD,?_,?_,?_⟩⟩))
 intro i ys τ zqA;obtain⟨υ,gI,hD,E,rfl,_⟩:=zqA
 exact af hD _ _ (E _ _ (E3 _ _ nJ.2.1))
 intro i ys τ y hI hy Γc e1 e2 e3
 have hi:=(cp.mp hy).1
 refine dE ⟨λ_=>bq (aK ⟨aB,λc hc=>⟨(hI.step hc).1,?_,(hI.step hc).2⟩⟩),tf⟩
 obtain⟨υ,gI,hD,E,rfl,rfl,BE,_⟩:=hI
 rw[ay,BE.len,u_]
 rw[ay,ly]at hi;lia
 intro ys cH hI
 obtain⟨fs,Ky,hlen⟩:=hI.gs
 rw[ay,ly]at Ky hlen
 refine⟨_,je,fU (ZF a g codes n G L bU lv D fs) ?_ ?_⟩
 refine jP hv hg cY (aj hv 2 rfl rfl ⟨n,ZE a g codes ts n G L bU lv D fs,
  rfl,by lia,⟨_,_,_,Ky,by simp,λps hp=>by rw[List.eq_of_mem_replicate hp];exact dp _,rfl⟩,?_,?_⟩)
 intro k υ ρ zqA;obtain⟨o1,o2,pss,dX,ej,js,rfl⟩:=zqA;intro hk
 refine⟨_,gV,λown=>?_⟩
 obtain⟨hd,hv,hg⟩:=dF own hd hv hg
 have gH:0<codes.length:=by
  rcases Nat.eq_zero_or_pos codes.length with h|h
  have:=l5 h;lia
  exact h
 have nK:k % codes.length<lv.length:=by rw[hl];exact i7 _ gH
 have pE:lv[k % codes.length]? =some lv[k % codes.length]:=bL nK
 have iS:=dX.1 _ _ (ai bU L (.list lv))
 refine ae (aS hv (bo (aj hv 5 rfl rfl (bC (aj hv 7 rfl rfl (aj hv 3 rfl rfl (fC (by lia) (eh iS (fq _ _) pE (by lia) ⟨_,eB,?_⟩))))))))
 refine ae (aM (aF (aj hv 6 rfl rfl (bg (ax .d7 ⟨_,rfl,λe=>?_,λe=>au (au ⟨_,_,pss,dX,ej,λps hp=>Nat.le_succ_of_le (js ps hp),rfl⟩)⟩)))))
 rcases gQ _ (hO nK)with e'|⟨j,hj,e'⟩
 rw[e']at e;cases e
 rw[e']
 have ZL:pss[j]? =some pss[j]:=bL (by lia)
 obtain⟨b,gq,jr,g8⟩:=dX.at ZL
 refine ae (eH (bo (aj hv 8 rfl rfl (aj hv 6 rfl rfl (bO dX.2.1 jr ?_ ⟨b,rfl,⟨_,g8⟩,bC (aj hv 7 rfl rfl (aW (Op.jd ⟨_,g8,?_,au (au ⟨_,_,pss.set j (pss[j]++[k+1]),?_,by simpa using ej,?_,rfl⟩)⟩)))⟩)))))
 rw[ay,hlen];exact hn
 rw[ay];have:=js _ (hO (by lia:j<pss.length));lia
 have:=dX.app (qs:=pss[j]++[k+1]) gq
 rw[df]at this
 exact this
 intro ps hp
 rcases mem_set hp with hp|rfl
 exact Nat.le_succ_of_le (js ps hp)
 rw[j6];have:=js _ (hO (by lia:j<pss.length));simp;lia
 intro υ ρ zqA;obtain⟨o1,o2,pss,dX,_,_,rfl⟩:=zqA
 exact⟨_,_,pss,dX,rfl⟩
 intro υ ρ zqA;obtain⟨o1,o2,pss,dX,rfl⟩:=zqA
 have Ef:=E2.trans (E3.trans dX.1)
 exact ae (a_ (aj hv 8 rfl rfl (q υ _ (E.trans (hG.1.trans Ef)) (hw.ext (hG.1.trans Ef)))))
end
noncomputable def pick (xs:List V)(qs:List Nat):List V:=qs.map λq=>xs[q-1]?.getD .none
inductive ZM (Q:PQ)(v:V)(σ:Hp):Prop
 |mk (a:Addr) (xs:LV) (e:v=.ref a) (h:σ a=some (.dict xs)) (z:xs.length≤1000000) (q:Q (.int xs.length) σ)
section
variable{w:World}{Γ:Ctx}{ρ:LO}{d:Nat}{σ:Hp}{Q:PQ}{a:Addr}{kind items attrs gl cD:V}{gls:LV}
theorem Op.ZN {l:Addr}{xs:LV}(hl:σ l=some (.dict xs))(hz:xs.length≤1000000)(q:Q (.int xs.length) σ):∀as:List Value,as.map er=[.ref l]→Op w Γ (PySem.call (.builtin "len") as) σ ρ Q:=by
 intro as ea S s D k X hk
 refine Op.UQ hl (λe=>?_) hz q as ea S s D k X hk
 have:=(D.free l _ hl l (bD.mpr (.inl rfl))).1
 rw[show l=1 from e,S.K.sys]at this
 cases this
theorem ak.ZO (hg:Γ.gls=gls) {x np pos e}(l:(x,V.cK (.builtin "len"))∈gls)(h:ak w Γ e σ ρ (ZM Q))
  (he:∀env,starEach [e] env=(false,eval e env)::starEach [] env:=by intro _;rfl)(hp:∀env,(backTo pos (starEach [e] env)).any (·.1)=false:=by intro _;rfl):ak w Γ (.Call (.Name x np) [e] [] pos) σ ρ Q:=
 gG (cm hg l ⟨"len",rfl,aq (h.mono fun v aH ⟨a,xs,e1,e2,e3,q⟩=>aK (by subst e1;exact Op.ZN e2 e3 q)) he⟩) hp
theorem ZP {k v:V}(ha:σ a=some (.inst 401 (aV (.str "integer") v attrs)))(hi:gW v=true)(q:Q v σ):Call w (d+1) (.ref 1038) [.ref a] σ Q:=by
 refine TF fun Γ hd hv hg=>?_
 exact ae (aM (aF (aU (ah hv .here (vk ha (bu (ax (.eq .ss) ⟨_,rfl,tt rfl (ae (a_ (aU (ah hv .here (vi ha q hi)))))⟩)))))))
inductive ZQ (σ:Hp)(I:Addr)(qs:List Nat)(n:V)(P K:Addr)(i:Nat)(τ:Hp)(ρ:LO):Prop
 |mk (cQ:τ=upd (upd σ K (.dict [])) P (.list (((qs.take i).map (·-1)).map vI))) (o:Option V) (cR:ρ=[some (.ref I),some n,some (.ref P),some (.ref K),some (.bool false),o])
theorem ZR {I:Addr}{qs:List Nat}{n:V}(hI:σ I=some (.list (qs.map vI)))(hz:qs.length≤1000000)(hq:∀p∈qs,1≤p)(q:∀τ b,Ext σ τ→σ b=none→τ b=some (.list ((qs.map (·-1)).map vI))→Q (.ref b) τ):Call w (d+1) (.ref 1050) [.ref I,n] σ Q:=by
 refine TG fun Γ hd hv hg=>?_
 refine ae (aS hv (bq (aK ⟨aB,λP hP=>⟨_,eL,ae (aS hv (ak.oD λK hK=>⟨_,s6,ae (aS hv (gR ⟨_,dR,ae ?_⟩))⟩))⟩⟩)))
 have Kz:P≠K:=bp (ai _ _ _) hK
 have ZS:=(af hP).none hK
 have hIP:I≠P:=bp hI hP
 have E:∀ys,Ext σ (upd (upd σ K (.dict [])) P (.list ys)):=λys=>(af ZS).upd hP
 refine fF hv (ah hv .here ⟨I,qs.map vI,ZQ σ I qs n P K,rfl,⟨?_,_,rfl⟩,?_,?_,?_⟩)
 funext x
 by_cases h1:x=P
 subst h1;rw[aJ Kz,ai,ai];rfl
 rw[aJ h1]
 by_cases h2:x=K
 subst h2;rw[ai,ai]
 rw[aJ h2,aJ h2,aJ h1]
 (intro i τ ρ zqA;obtain⟨rfl,_⟩:=zqA);exact E _ _ _ hI
 intro i τ ρ y zqA;obtain⟨rfl,o,rfl⟩:=zqA;intro hy
 obtain⟨p,hp,rfl⟩:∃p,qs[i]? =some p∧vI p=y:=by simpa using hy
 have qi:=hq p (cS hp)
 have hi:=(cp.mp hp).1
 refine⟨_,fh,λown=>?_⟩
 obtain⟨hd,hv,hg⟩:=dF own hd hv hg
 refine ae (aM (aF (aj hv 5 rfl rfl (bg (ax .bB ⟨_,rfl,ff rfl (ae (aM (aF (aj hv 5 rfl rfl (aW (ax .jc ⟨_,rfl,tt (i6 (by lia)) (ae ?_)⟩))))))⟩)))))
 refine eH (aj hv 2 rfl rfl ⟨P,rfl,⟨_,ai _ _ _⟩,bC (aj hv 5 rfl rfl (aW (Op.pK ⟨_,ai _ _ _,?_,au (au (au ⟨?_,_,rfl⟩))⟩)))⟩)
 rw[ay,ay,eZ];lia
 rw[dk,eY,hp]
 simp only[Option.toList,df,bx,List.map_nil]
 rw[show((p:Int)-1)=((p-1:Nat):Int) by lia]
 intro τ ρ zqA;obtain⟨rfl,o,rfl⟩:=zqA
 rw[ay,fM]
 refine ae (aM (aF (ak.ZO hg aN (aj hv 3 rfl rfl ⟨K,_,rfl,by rw[aJ Kz.symm];exact ai _ _ _,aB,aW (ax (.eq .ii) ⟨_,rfl,tt rfl (ae (a_ (aj hv 2 rfl rfl (q _ P (E _) hP (ai _ _ _)))))⟩)⟩))))
theorem ZT {l:Addr}{qs:List Nat}{n:V}(ha:σ a=some (.inst 401 (aV (.str "integer") (.ref l) attrs)))(hl:σ l=some (.list (qs.map vI)))(hz:qs.length≤1000000)(hq:∀p∈qs,1≤p)
  (q:∀τ t b,Ext σ τ→τ t=some (.tup [.ref b,.none])→τ b=some (.list ((qs.map (·-1)).map vI))→Q (.ref t) τ):Call w (d+2) (.ref 1078) [.ref a,n,.none,.bool false] σ Q:=by
 refine TH fun Γ hd hv hg=>?_
 refine ae (aS hv (aU (ah hv .here (vk ha ⟨_,dR,?_⟩))))
 refine ae (aM (aF (aj hv 4 rfl rfl (bu (ax (.eq .ss) ⟨_,rfl,ff rfl (au ?_)⟩)))))
 refine ae (aM (aF (aj hv 4 rfl rfl (bu (ax (.eq .ss) ⟨_,rfl,ff rfl (au ?_)⟩)))))
 refine ae (aM (aF (aj hv 4 rfl rfl (bu (ax (.eq .ss) ⟨_,rfl,ff rfl (au ?_)⟩)))))
 refine ae (aM (cw (dK (aF (aj hv 4 rfl rfl (bu (ax (.eq .ss) ⟨_,rfl,tt rfl (tt rfl ?_)⟩)))))))
 refine ae (a_ (fD (aq (aw hd hg cY (by rfl') (aq (aw hd hg fG (by rfl') (ar hv [0] rfl ?_)))))))
 refine ZP (k:=.none) ha rfl (ar hv [1] rfl ?_)
 exact ZR hl hz hq λτ b E hb ly=>ar rfl [] rfl ⟨aB,λt ht=>q _ t b (E.trans (af ht)) (ai _ _ _) (af ht _ _ ly)⟩
inductive ZU (σ:Hp)(a P:Addr)(xs:List V)(qs:List Nat)(D:Addr)(i:Nat)(τ:Hp)(ρ:LO):Prop
 |mk (cQ:τ=upd σ D (.list (pick xs (qs.take i)))) (o:Option V) (cR:ρ=[some (.ref a),some (.ref P),some (.ref D),some (.int xs.length),o])
theorem ZV {l P:Addr}{xs:List V}{qs:List Nat}{kd:V}(ha:σ a=some (.inst 401 (aV kd (.ref l) attrs)))(hl:σ l=some (.list xs))(hP:σ P=some (.list ((qs.map (·-1)).map vI)))(hz:qs.length≤1000000)(hx:xs.length≤1000000)(hq:∀p∈qs,1≤p∧p≤xs.length)
  (q:∀b,σ b=none→Q (.ref b) (upd σ b (.list (pick xs qs)))):Call w (d+1) (.ref 1154) [.ref a,.ref P] σ Q:=by
 refine TN fun Γ hd hv hg=>?_
 refine ae (aS hv (bq (aK ⟨aB,λD hD=>⟨_,eL,ae (aS hv (cj hg aN (aU (ah hv .here (vi (af hD _ _ ha) ⟨l,xs,rfl,af hD _ _ hl,hx,_,eM,ae ?_⟩)))))⟩⟩)))
 refine fF hv (ah hv aD ⟨P,(qs.map (·-1)).map vI,ZU σ a P xs qs D,rfl,⟨rfl,_,rfl⟩,?_,?_,?_⟩)
 (intro i τ ρ zqA;obtain⟨rfl,_⟩:=zqA);exact af hD _ _ hP
 intro i τ ρ y zqA;obtain⟨rfl,o,rfl⟩:=zqA;intro hy
 obtain⟨p,hp,rfl⟩:∃p,qs[i]? =some p∧vI (p-1)=y:=by simpa using hy
 have qi:=hq p (cS hp)
 have hi:=(cp.mp hp).1
 have KA:xs[p-1]? =some xs[p-1]:=bL (by lia)
 have E:Ext σ (upd σ D (.list (pick xs (qs.take i)))):=af hD
 refine⟨_,dR,λown=>?_⟩
 obtain⟨hd,hv,hg⟩:=dF own hd hv hg
 refine ae (aM (cw (dK (aF (aj hv 4 rfl rfl (bg (ax .bB ⟨_,rfl,ff rfl (dK (aF (aj hv 4 rfl rfl (aj hv 3 rfl rfl (ax .Er ⟨_,rfl,ff (i5 (by lia)) (kU (ff rfl (ae ?_)))⟩)))))⟩)))))))
 refine eH (aj hv 2 rfl rfl ⟨D,rfl,⟨_,ai _ _ _⟩,bo (aU (ah hv .here (vi (E _ _ ha) (aj hv 4 rfl rfl (bO (E _ _ hl) KA hx ⟨_,ai _ _ _,?_,au (au ⟨?_,_,rfl⟩)⟩)))))⟩)
 unfold pick;rw[ay,eZ];lia
 rw[dk,eY,hp]
 unfold pick
 simp[KA]
 intro τ ρ zqA;obtain⟨rfl,o,rfl⟩:=zqA
 rw[ay,ay,fM]
 exact ae (a_ (aj hv 2 rfl rfl (q D hD)))
theorem ZW {k:Str}(hk:(k==Str.ofString "pairlist")=false)(q:Q (.str k) σ):Call w (d+1) (.ref 1147) [.str k] σ Q:=by
 refine TM fun Γ hd hv hg=>?_
 exact ae (aM (aF (ah hv .here (bu (ax (.eq .ss) ⟨_,rfl,ff hk (au (ae (a_ (ah hv .here q))))⟩)))))
theorem ZX {l ix j:Addr}{xs:List V}{qs:List Nat}(ha:σ a=some (.inst 401 (aV (.str "integer") (.ref l) attrs)))(hl:σ l=some (.list xs))(hx:xs.length≤1000000)(a1:Attr σ attrs (Str.ofString "dim") .none)(a2:Attr σ attrs (Str.ofString "names") .none)
  (rA:σ ix=some (.inst 401 (aV (.str "integer") (.ref j) .none)))(hj:σ j=some (.list (qs.map vI)))(hz:qs.length≤1000000)(hq:∀p∈qs,1≤p∧p≤xs.length)
  (q:∀τ r b,Ext σ τ→σ r=none→σ b=none→τ r=some (.inst 401 (aV (.str "integer") (.ref b) .none))→τ b=some (.list (pick xs qs))→Q (.ref r) τ):Call w (d+4) (.ref 1168) [.ref a,.ref ix] σ Q:=by
 refine TO fun Γ hd hv hg=>?_
 refine ae (aS hv (aw hd hg aN (by rfl') (ar hv [0] rfl ?_)))
 refine Bp ha rfl rfl a1 a2 ⟨_,eL,?_⟩
 refine ae (aS hv (bo (aw hd hg aQ (by rfl') (aq (ah hv aD (aq (cj hg cn (aU (ah hv .here (vi ha ⟨l,xs,rfl,hl,hx,ar hv [2] rfl ?_⟩))))))))))
 refine ZT rA hj hz (λp hp=>(hq p hp).1) λτ t p E h1 h2=>aW (tO (i:=0) h1 rfl aB ⟨_,eM,?_⟩)
 refine ae (aS hv (aw hd hg cY (by rfl') (aq (aw hd hg fG (by rfl') (aq (aU (ah hv .here (vk (E _ _ ha) (aK ?_)))))))))
 refine ZW rfl (aq (aw hd hg gm (by rfl') (ar hv [0,3] rfl ?_)))
 refine ZV (E _ _ ha) (E _ _ hl) h2 hz hx hq λb hb=>aK ?_
 have E2:=E.trans (af (o:=.list (pick xs qs)) hb)
 refine mW λr hr=>⟨_,dR,?_⟩
 have t5:b≠r:=bp (ai _ _ _) hr
 refine ae (aM (aF (aj hv 2 rfl rfl (bg (ax .d7 ⟨_,rfl,ff rfl (au (ae (a_ (aj hv 4 rfl rfl (q _ r b (E2.trans (af hr)) (E2.none hr) (E.none hb) (ai _ _ _) ?_)))))⟩)))))
 rw[aJ t5];exact ai _ _ _
theorem ZY (ha:σ a=some (.inst 401 (aV kind items attrs)))(h:Attr σ attrs (Str.ofString "dimnames") .none)(q:Q .none σ):Call w (d+2) (.ref 701) [.ref a] σ Q:=by
 refine S7 fun Γ hd hv hg=>?_
 refine ae (aS hv (aw hd hg aN (by rfl') (ar hv [0] rfl ?_)))
 exact oS ha h ⟨_,bX,ae (aM (aF (ah hv aD (bg (ax .bB ⟨_,rfl,tt rfl (ae (a_ (bg q)))⟩)))))⟩
theorem ZZ {ix v:V}(q:Q .none σ):Call w (d+2) (.ref 1119) [ix,.none,v] σ Q:=by
 refine TL fun Γ hd hv hg=>?_
 refine ae (aM (dJ.not (c8 (aw hd hg aN (by rfl') (ar hv [0,1] rfl ?_)))))
 refine TJ fun Γ hd hv hg=>?_
 exact ae (aM (cw (dK (aF (ah hv aD (bg (ax .bB ⟨_,rfl,tt rfl (tt rfl (ae (a_ (gR ⟨_,.bool,tt rfl (ae (a_ (bg q)))⟩))))⟩)))))))
theorem KC {l ix j I:Addr}{xs:List V}{qs:List Nat}{dr ex:V}(ha:σ a=some (.inst 401 (aV (.str "integer") (.ref l) attrs)))(hl:σ l=some (.list xs))(hx:xs.length≤1000000)(a1:Attr σ attrs (Str.ofString "dim") .none)(a2:Attr σ attrs (Str.ofString "names") .none)(a3:Attr σ attrs (Str.ofString "dimnames") .none)
  (hI:σ I=some (.list [.ref ix]))(rA:σ ix=some (.inst 401 (aV (.str "integer") (.ref j) .none)))(hj:σ j=some (.list (qs.map vI)))(hz:qs.length≤1000000)(hq:∀p∈qs,1≤p∧p≤xs.length)
  (q:∀τ r b,Ext σ τ→σ r=none→σ b=none→τ r=some (.inst 401 (aV (.str "integer") (.ref b) .none))→τ b=some (.list (pick xs qs))→Q (.ref r) τ):Call w (d+5) (.ref 1260) [.ref a,.ref I,dr,ex] σ Q:=by
 refine TP fun Γ hd hv hg=>?_
 refine ae (aM (aF (aU (ah hv .here (vk ha (bu (ax (.eq .ss) ⟨_,rfl,ff rfl (au ?_)⟩)))))))
 refine ae (aM (cw (dK (aF (cj hg aQ (ah hv aD ⟨I,_,rfl,hI,aB,aW (ax (.eq .ii) ⟨_,rfl,ff rfl (dK (cw (bW ?_)))⟩)⟩))))))
 refine aF (cj hg aQ (ah hv aD ⟨I,_,rfl,hI,aB,aW (ax (.eq .ii) ⟨_,rfl,tt rfl (bW (aF (aU (bo (ah hv aD (aW (bO (i:=0) hI rfl aB (vk rA (bu (ax (.eq .ss) ⟨_,rfl,ff rfl (ff rfl (kU (ff rfl (au ?_))))⟩))))))))))⟩)⟩))
 refine ae (aM (aF (aU (ah hv .here (vk ha (bu (ax (.eq .ss) ⟨_,rfl,ff rfl (au ?_)⟩)))))))
 refine ae (aM (dJ.not (c8 (aw hd hg cn (by rfl') (ar hv [0] rfl ?_)))))
 refine U_ ha ⟨_,.bool,ff rfl (au (ae (aS hv (aw hd hg gm (by rfl') (ar hv [0] rfl ?_)))))⟩
 refine JE ha a1 ⟨_,dR,?_⟩
 refine ae (aM (aF (cj hg aQ (ah hv aD ⟨I,_,rfl,hI,aB,aW (ax (.eq .ii) ⟨_,rfl,tt rfl ?_⟩)⟩))))
 refine ae (aS hv (aw hd hg kj (by rfl') (aq (bo (ah hv aD (aW (bO (i:=0) hI rfl aB (aq (aj hv 4 rfl rfl (aq (aw hd hg kl (by rfl') (ar hv [0] rfl ?_))))))))))))
 refine ZY ha a3 (aK (ZZ ⟨_,fh,?_⟩))
 refine ae (aM (aF (aj hv 5 rfl rfl (bg (ax .d7 ⟨_,rfl,ff rfl (au ?_)⟩)))))
 refine ae (aM (cw (bW (aF (aj hv 4 rfl rfl (bg (ax .d7 ⟨_,rfl,ff rfl (ff rfl (au ?_))⟩)))))))
 refine ae (a_ (aw hd hg AN (by rfl') (aq (ah hv .here (aq (bo (ah hv aD (aW (bO (i:=0) hI rfl aB (aK ?_))))))))))
 exact ZX ha hl hx a1 a2 rA hj hz hq q
end
section
variable{w:World}{Γ:Ctx}{σ:Hp}{ρ:LO}{Q:PQ}
theorem KH {s:Shared}{D:Addr}{kvs:List (Str×Value)}{n:Nat}{k:VP}{X:VP}(S:bt w Γ)(Dy:az w Γ s σ ρ)(h:σ D=some (.dict [])){ys:LV}(hy:(merged [] kvs).map oQ=ys)
  (hk:∀s',az w Γ s' (upd σ D (.dict ys)) ρ→k (.ref D) s'):s.heap.DictOf (strKind aC w) D []∧∀h',h'.DictOf (strKind aC w) D (merged [] kvs)→Heap.SameBut D s.heap h'→k (.ref D) {s with heap:=h',toks:=s.toks+n}:=by
 obtain⟨kv,h1,h2,h3⟩:=(Dy.hr.at_ _ _ h).dictOf
 obtain rfl:kv=[]:=by simpa using h2
 refine⟨h1,λh' eN sb=>hk _ ?_⟩
 have ha:=At.Jx (w:=w) eN
 rw[hy]at ha
 refine Dy.set (s':={s with heap:=h',toks:=s.toks+n}) h (bD.mpr (.inl rfl)) sb.2 ha ?_ rfl rfl
 rw[At.noDict ha trivial,At.noDict (Dy.hr.at_ _ _ h) trivial]
theorem KI {s:Shared}(D:az w Γ s σ ρ):az w Γ {s with heap:=s.heap.push {cls:=.type "dict",data:=.dict #[]}} (upd σ s.heap.objs.size (.dict [])) ρ∧σ s.heap.objs.size=none:=by
 have ha:At w (s.heap.push {cls:=.type "dict",data:=.dict #[]}) s.heap.objs.size (.dict []):=⟨0,#[],oB,[],(fun _ he=>by simp at he),.nil,kK,rfl⟩
 exact D.push rfl rfl ha s.toks
theorem ak.Z0 {x kk kp e pos}(h:∀D,σ D=none→ak w Γ e (upd σ D (.dict [])) ρ λv τ=>τ D=some (.dict [])∧Q (.ref D) (upd τ D (.dict [(x,v)]))):ak w Γ (.Dict [some (.Constant (.str x) kk kp)] [e] pos) σ ρ Q:=by
 refine⟨λS s D k X hk=>wpAny_Dict_walk (knd:=strKind aC w) rfl rfl (by simp) (j5 rfl) ?_⟩
 obtain⟨aL,hn⟩:=KI D
 refine pairTrees_cons_walk (wpAny_Constant_str ?_)
 refine(h _ hn).run S _ (aL.toks _) _ X λv av τ q aA=>pairTrees_nil_walk ?_
 refine⟨[(x,v)],⟨strKind_is aC w x _,rfl,trivial⟩,?_⟩
 exact KH (X:=X) S aA q.1 (ys:=[(x,er v)]) rfl λs' D'=>hk _ _ _ q.2 D'
theorem ak.KJ {x kk kp e y Z1 Z5 f pos}(Z6:(x==y)=false)(h:∀D,σ D=none→ak w Γ e (upd σ D (.dict [])) ρ λv τ=>ak w Γ f τ ρ λu υ=>υ D=some (.dict [])∧Q (.ref D) (upd υ D (.dict [(x,v),(y,u)]))):ak w Γ (.Dict [some (.Constant (.str x) kk kp),some (.Constant (.str y) Z1 Z5)] [e,f] pos) σ ρ Q:=by
 refine⟨λS s D k X hk=>wpAny_Dict_walk (knd:=strKind aC w) rfl rfl (by simp) (j5 rfl) ?_⟩
 obtain⟨aL,hn⟩:=KI D
 refine pairTrees_cons_walk (wpAny_Constant_str ?_)
 refine(h _ hn).run S _ (aL.toks _) _ X λv av τ q aA=>pairTrees_cons_walk (wpAny_Constant_str ?_)
 refine q.run S _ (aA.toks _) _ X λu aG υ q bN=>pairTrees_nil_walk ?_
 refine⟨[(x,v),(y,u)],⟨strKind_is aC w x _,rfl,strKind_is aC w y _,rfl,trivial⟩,?_⟩
 refine KH (X:=X) S bN q.1 (ys:=[(x,er v),(y,er u)]) ?_ λs' D'=>hk _ _ _ q.2 D'
 have b8:x≠y:=ne_str Z6
 simp[merged,stored,oQ,b8]
end
inductive qj (σ:Hp)(e:Addr)(ns:List V):Prop
 |mk (nv:Addr) (nl:Addr) (h1:σ e=some (.dict [(Str.ofString "names",.ref nv)])) (h2:σ nv=some (.inst 401 (aV (.str "character") (.ref nl) .none))) (h3:σ nl=some (.list ns))
theorem qj.ext {σ τ:Hp}{e:Addr}{ns:List V}(h:qj σ e ns)(E:Ext σ τ):qj τ e ns:=let⟨nv,nl,h1,h2,h3⟩:=h;⟨nv,nl,E _ _ h1,E _ _ h2,E _ _ h3⟩
inductive iT (σ:Hp)(r:Addr)(ys:List V):Prop
 |mk (l:Addr) (h1:σ r=some (.inst 401 (aV (.str "integer") (.ref l) .none))) (h2:σ l=some (.list ys))
theorem iT.ext {σ τ:Hp}{r:Addr}{ys:List V}(h:iT σ r ys)(E:Ext σ τ):iT τ r ys:=let⟨l,h1,h2⟩:=h;⟨l,E _ _ h1,E _ _ h2⟩
section
variable{w:World}{Γ:Ctx}{ρ:LO}{d:Nat}{σ:Hp}{Q:PQ}{a:Addr}{kind items attrs gl cD:V}{gls:LV}
theorem Z7 {N:Addr}{ns:List V}(ha:σ a=some (.inst 401 (aV kind items .none)))(hN:σ N=some (.list ns))(hz:ns.length≤1000000)
  (q:∀τ e,Ext (off σ a) τ→τ a=some (.inst 401 (aV kind items (.ref e)))→qj τ e ns→Q (.ref a) τ):Call w (d+4) (.ref 575) [.ref a,.ref N] σ Q:=by
 refine FZ fun Γ hd hv hg=>?_
 refine ae (aM (aF (ah hv aD (bg (ax .d7 ⟨_,rfl,tt rfl (ae ?_)⟩)))))
 refine ic (ak.Z0 λe he=>aw hd hg aN (by rfl') (ar hv [1] rfl ?_))
 have E:=af (o:=.dict []) he
 refine jS (E _ _ hN) hz λτ c b F h1 rx h2 h3=>⟨F _ _ (ai _ _ _),?_⟩
 have nE:τ e=some (.dict []):=F _ _ (ai _ _ _)
 have ce:c≠e:=λh=>by rw[h,nE]at h2;cases h2
 have be:b≠e:=λh=>by rw[h,nE]at h3;cases h3
 have jT:a≠e:=bp ha he
 have gY:upd τ e (.dict [(Str.ofString "names",.ref c)]) a=some (.inst 401 (aV kind items .none)):=(aJ jT).trans (F _ _ (E _ _ ha))
 have G:Ext (off σ a) (upd τ e (.dict [(Str.ofString "names",.ref c)])):=(c_.trans (E.trans F)).upd (c_.none he)
 have aa:c≠a:=λh=>by rw[h,F _ _ (E _ _ ha)]at h2;exact bp (E _ _ ha) h1 h.symm
 have ab:b≠a:=λh=>by rw[h]at rx;exact bp (E _ _ ha) rx rfl
 refine ah hv .here ⟨a,401,_,_,rfl,gY,wA,bG,dT w,mV w,au (ae (a_ (ah hv .here (q _ e (G.upd dA) (ai _ _ _) ⟨c,b,?_,?_,?_⟩))))⟩
 rw[aJ jT.symm];exact ai _ _ _
 rw[aJ aa,aJ ce];exact h2
 rw[aJ ab,aJ be];exact h3
theorem Z8 {I:Addr}{xs:List V}(hI:σ I=some (.list xs))(hz:xs.length≤1000000)(hx:∀x∈xs,∃a k i u,x=.ref a∧σ a=some (.inst 401 (aV k i u))){names:V}
  (q:∀τ r b,Ext σ τ→σ r=none→σ b=none→τ r=some (.inst 401 (aV (.str "list") (.ref b) .none))→τ b=some (.list xs)→Call w (d+4) (.ref 575) [.ref r,names] τ Q):Call w (d+5) (.ref 581) [.ref I,names] σ Q:=by
 refine SS fun Γ hd hv hg=>?_
 refine ae (a_ (aw hd hg aN (by rfl') (aq (aw hd hg aQ (by rfl') (aq (bu (aq (fT hv (JO (w:=w) hv (by rfl) (by rfl)) (.loc (.loc .nil)) aQ (pt:=λy=>bX) (ah hv .here ⟨I,xs,λv=>some v,rfl,hI,hz,?_,λD hD=>aK ?_⟩)))))))))
 intro y hy τ F Γc e1 e2 e3
 obtain⟨a,k,i,u,rfl,ha⟩:=hx y hy
 exact dE ⟨λ_=>aw (e1.trans hd) e3 aN (by rfl') (ar e2 [1] rfl (JD (F _ _ ha) ⟨rfl,rfl⟩)),tf⟩
 rw[oX λ_ _=>rfl]
 refine mW λr hr=>ar hv [1] rfl ?_
 have E:=af (o:=.list xs) hD
 have t5:D≠r:=bp (ai _ _ _) hr
 exact q _ r D (E.trans (af hr)) (E.none hr) hD (ai _ _ _) ((aJ t5).trans (ai _ _ _))
theorem KL {I N:Addr}{xs ns:List V}(hI:σ I=some (.list xs))(hz:xs.length≤1000000)(hx:∀x∈xs,∃a k i u,x=.ref a∧σ a=some (.inst 401 (aV k i u)))(hN:σ N=some (.list ns))(Z9:ns.length≤1000000)
  (q:∀τ r b e,Ext σ τ→σ r=none→τ r=some (.inst 401 (aV (.str "list") (.ref b) (.ref e)))→τ b=some (.list xs)→qj τ e ns→Q (.ref r) τ):Call w (d+5) (.ref 581) [.ref I,.ref N] σ Q:=
 Z8 hI hz hx λτ r b E hr hb h1 h2=>Z7 h1 (E _ _ hN) Z9 λbf e F g1 g2=>q bf r b e ((Ext.rt E hr).trans F) hr g1 (F _ _ (off_ne (λh=>by rw[h,h1]at h2;cases h2) h2)) g2
theorem Z_ (ha:σ a=some (.inst 401 (aV (.str "integer") items attrs)))(h:Attr σ attrs (Str.ofString "class") .none)(q:Q (.bool false) σ):Call w (d+3) (.ref 1267) [.ref a] σ Q:=by
 refine jn ?_
 refine Af fun Γ hd hv hg=>?_
 refine ae (a_ (fQ (h_ (dP (aU (ah hv .here (vk ha (bu (ax (.eq .ss) ⟨_,.bool,tt rfl (iK (dP (bu (aw hd hg aN (by rfl') (ar hv [0] rfl ?_)))))⟩)))))))))
 exact Vd ha h λb hb=>ax (.pJ (λ_=>false) (ai _ _ _) λ_ h=>by cases h) ⟨σ,af hb,q⟩
end
noncomputable def sf (codes:List V)(i:Nat):Option Nat:=if 0<codes.length then cf codes (i % codes.length)else none
theorem aaa {n:Nat}{f:Nat→Option Nat}{k j:Nat}{ps:List Nat}(h:(dw n f (·+1) k)[j]? =some ps):∀p∈ps,1≤p∧p≤k:=by
 unfold dw at h
 rw[dI]at h
 obtain⟨x,_,rfl⟩:=eJ.mp h
 intro p hp
 refine bZ hp λi hi=>?_
 have:=iD.mp (jE.mp hi).1
 lia
theorem aab {n:Nat}{f:Nat→Option Nat}{g:Nat→Nat}{k j:Nat}{ps:List Nat}(h:(dw n f g k)[j]? =some ps):ps.length≤k:=by
 unfold dw at h
 rw[dI]at h
 obtain⟨x,_,rfl⟩:=eJ.mp h
 exact tV
section
variable{w:World}{Γ:Ctx}{ρ:LO}{d:Nat}{σ:Hp}{Q:PQ}{a:Addr}{kind items attrs gl cD:V}{gls:LV}
inductive aac (σ:Hp)(a g:Addr)(xs codes:List V)(ts:List Str)(G:Addr)(bs:List Addr)(C:Addr)(k:Nat)(τ:Hp)(ρ:LO):Prop
 |mk (cQ:k≤xs.length) (cR:GS σ τ G bs (dw ts.length (sf codes) (·+1) k)) (eO:τ C=some (.list codes)) (o:Option V) (fV:ρ=[some (.ref a),some (.ref g),some (.ref G),some (.ref C),some (.int codes.length),o,none,none])
theorem aad {g l:Addr}{xs codes:List V}{ts:List Str}(ha:σ a=some (.inst 401 (aV (.str "integer") (.ref l) .none)))(hl:σ l=some (.list xs))(hx:xs.length≤1000)(hF:cX σ g codes ts)(hn:ts.length≤1000)(hz:codes.length≤1000)(ok:fX codes ts.length)
  (q:∀τ r b e rs,Ext σ τ→σ r=none→τ r=some (.inst 401 (aV (.str "list") (.ref b) (.ref e)))→τ b=some (.list (rs.map .ref))→qj τ e (ts.map .str)→br (fun r qs=>iT τ r (pick xs qs)) rs (dw ts.length (sf codes) (·+1) xs.length)→Q (.ref r) τ):
  Call w (d+6) (.ref 1387) [.ref a,.ref g] σ Q:=by
 have zt:(ts.map V.str).length≤1000000:=by rw[ay];lia
 refine T9 fun Γ hd hv hg=>?_
 refine ae (aT.ro hv (WO (w:=w) hv (by rfl) (by rfl)) (.loc (.loc .nil)) aQ (pt:=λy=>bX) cn (by rfl') (aw hd hg aN (by rfl') (ar hv [1] rfl ?_)))
 refine oY hF (by lia) λb hb=>⟨b,_,rfl,ai _ _ _,λG hG=>⟨EL (upd σ b (.list (ts.map .str))) G,.zero hG,?_,?_,?_⟩⟩
 intro i ys τ zqA;obtain⟨υ,bs,hD,E,rfl,_⟩:=zqA
 exact af hD _ _ (E _ _ (ai _ _ _))
 intro i ys τ y hI hy Γc e1 e2 e3
 have hi:=(cp.mp hy).1
 refine dE ⟨λ_=>bq (aK ⟨aB,λc hc=>⟨(hI.step hc).1,?_,(hI.step hc).2⟩⟩),tf⟩
 obtain⟨υ,bs,hD,E,rfl,rfl,hl,_⟩:=hI
 rw[ay,hl.len,u_];lia
 intro ys τ hI
 obtain⟨bs,hG,hlen⟩:=hI.gs
 rw[ay]at hG hlen
 have E0:=(af (o:=.list (ts.map V.str)) hb).trans hG.1
 have l_:GS σ τ G bs (List.replicate ts.length []):=⟨E0,hG.2.1,hG.2.2.1,hG.2.2.2.1,λx hx=>(af hb).none (hG.2.2.2.2.1 x hx),hG.2.2.2.2.2⟩
 refine⟨_,eL,ae (aS hv (aw hd hg aQ (by rfl') (ar hv [1] rfl ?_)))⟩
 refine wG (hF.ext E0) (by lia) (by lia) ok λC hC=>⟨_,eM,ae (aS hv (cj hg cn (aj hv 3 rfl rfl ⟨C,_,rfl,ai _ _ _,by lia,_,dR,ae ?_⟩)))⟩
 have Bw:=Bu l_.2.2.1 hC
 have E1:=E0.trans (af (o:=.list codes) hC)
 refine jP hv hg cY (aw hd hg fG (by rfl') (ar hv [0] rfl ?_))
 refine gn rfl (E1 _ _ ha) (E1 _ _ hl) (by lia) ⟨xs.length,aac σ a g xs codes ts G bs C,rfl,by lia,⟨j9 _,?_,ai _ _ _,_,rfl⟩,?_,?_⟩
 rw[Kr];exact l_.ext (af hC)
 intro k τ ρ zqA;obtain⟨_,dX,gZ,o,rfl⟩:=zqA;intro hk
 refine⟨_,fh,λown=>?_⟩
 obtain⟨hd,hv,hg⟩:=dF own hd hv hg
 refine ae (aM (cw (bW (aF (aj hv 4 rfl rfl (aW (ax .jc ⟨_,rfl,λh0=>bW ?_,λh0=>ff rfl (au (au ⟨hk,?_,gZ,_,rfl⟩))⟩)))))))
 have h0:0<codes.length:=by simpa using h0
 have nK:k % codes.length<codes.length:=i7 _ h0
 have eV:codes[k % codes.length]? =some codes[k % codes.length]:=bL nK
 have KO:(codes.length:Int)≠0:=by lia
 refine aF (bo (aj hv 3 rfl rfl (bC (aj hv 5 rfl rfl (aj hv 4 rfl rfl (fC KO (eh gZ (fq _ _) eV (by lia) (bg (ax .d7 ⟨_,rfl,λhc=>jL (tt rfl ?_),λhc=>ff rfl (au (au ?_))⟩)))))))))
 rcases ok _ (hO nK)with e|⟨j,hj,e⟩
 rw[e]at hc;cases hc
 have nI:sf codes k=some j:=by unfold sf cf;rw[ck h0,eV,e];simp
 obtain⟨b',gq,jr,g8⟩:=dX.at (lA hj)
 rw[e]at eV
 refine ae (eH (bo (aj hv 2 rfl rfl (bC (bo (aj hv 3 rfl rfl (bC (aj hv 5 rfl rfl (aj hv 4 rfl rfl (fC KO (eh gZ (fq _ _) eV (by lia) (aW (Op.pK (eh (i:=j) dX.2.1 (by lia) jr ?_ ⟨b',rfl,⟨_,g8⟩,bC (aj hv 5 rfl rfl (aW (Op.jd ⟨_,g8,?_,au (au ⟨hk,?_,?_,_,rfl⟩)⟩)))⟩))))))))))))))
 rw[ay,hlen];lia
 rw[ay];exact dO tV (by lia)
 rw[Kq nI hj]
 have:=dX.app (qs:=(List.filter (λi=>sf codes i==some j) (List.range k)).map (·+1)++[k+1]) gq
 rw[df]at this
 exact this
 rw[aJ (Bw b' (cS gq))];exact gZ
 rcases ok _ (hO nK)with e|⟨j,hj,e⟩
 have nI:sf codes k=none:=by unfold sf cf;rw[ck h0,eV,e]
 exact⟨hk,by rw[Bs nI];exact dX,gZ,_,rfl⟩
 rw[e]at hc;cases hc
 have h0:¬0<codes.length:=by simpa using h0
 have nI:sf codes k=none:=by unfold sf;rw[bK h0]
 rw[Bs nI];exact dX
 intro τ ρ zqA;obtain⟨_,dX,gZ,o,rfl⟩:=zqA
 refine ae (aS hv (bq (aK ⟨aB,λP hP=>⟨_,eB,?_⟩⟩)))
 have hg2:=dX
 have zG:(bs.map V.ref).length≤1000000:=by rw[ay,hlen];lia
 refine ae (fF hv (aj hv 2 rfl rfl ⟨G,bs.map .ref,λk bf ρ=>∃υ rs o,υ P=none∧Ext τ υ∧bf=upd υ P (.list (rs.map .ref))∧br (λr qs=>iT υ r (pick xs qs)) rs ((dw ts.length (sf codes) (·+1) xs.length).take k)∧ρ=[some (.ref a),some (.ref g),some (.ref G),some (.ref C),some (.int codes.length),o.1,some (.ref P),o.2],
  rfl,⟨τ,[],(_,_),hP,.refl _,rfl,by rw[List.take_zero];exact .nil,rfl⟩,?_,?_,?_⟩))
 (intro k bf ρ zqA;obtain⟨υ,rs,o,dM,E,rfl,_,_⟩:=zqA);exact af dM _ _ (E _ _ dX.2.1)
 intro k bf ρ y zqA;obtain⟨υ,rs,o,dM,E,rfl,hA,rfl⟩:=zqA;intro hy
 obtain⟨b',cg,rfl⟩:∃b',bs[k]? =some b'∧V.ref b'=y:=by simpa using hy
 have fH:k<ts.length:=by rw[←hlen];exact(cp.mp cg).1
 have KP:k<(dw ts.length (sf codes) (·+1) xs.length).length:=by rw[jW];exact fH
 have ky:=bL KP
 obtain⟨b2,gq,_,g8⟩:=dX.at ky
 rw[cg]at gq;cases gq
 have gH:=aaa ky
 have hle:=aab ky
 generalize (dw ts.length (sf codes) (·+1) xs.length)[k]'KP=qs at ky g8 gH hle
 refine⟨_,gV,λown=>?_⟩
 obtain⟨hd,hv,hg⟩:=dF own hd hv hg
 have E2:Ext τ (upd υ P (.list (rs.map .ref))):=E.trans (af dM)
 have E3:=dX.1.trans E2
 refine ae (aM (c8 (aw hd hg gm (by rfl') (ar hv [0] rfl ?_))))
 refine Z_ (E3 _ _ ha) .none ⟨_,.bool,ff rfl (ae ?_)⟩
 refine eH (aj hv 6 rfl rfl ⟨P,rfl,⟨_,ai _ _ _⟩,aw hd hg iO (by rfl') (aq (ah hv .here (aq (bq (aq (aw hd hg kl (by rfl') (ar hv [7] rfl ?_)))))))⟩)
 refine nA (E2 _ _ g8) (by rw[ay];lia) λbU c b3 F wH _ gZ jX=>aK ⟨aB,λI hI=>ar rfl [] rfl ?_⟩
 have F2:=F.trans (af (o:=.list [.ref c]) hI)
 have F3:=E3.trans F2
 refine KC (F3 _ _ ha) (F3 _ _ hl) (by lia) .none .none .none (ai _ _ _) (af hI _ _ gZ) (af hI _ _ jX) (by lia) gH λcH r b4 F4 jV KQ qk jY=>?_
 have F5:=F2.trans F4
 obtain⟨h4,h5⟩:=hole dM F5
 have hrP:r≠P:=Ne.symm (bp (F2 _ _ (ai _ _ _)) jV)
 have hbP:b4≠P:=Ne.symm (bp (F2 _ _ (ai _ _ _)) KQ)
 refine⟨_,F5 _ _ (ai _ _ _),?_,au (au ⟨off cH P,rs++[r],(o.1,some (.ref b')),dA,E.trans h4,?_,?_,rfl⟩)⟩
 rw[ay,hA.len,eZ];lia
 rw[h5,dk,←h5];simp
 rw[eY,ky]
 exact br.app (fW hA λ_ _ h=>h.ext h4) (.cons ⟨b4,off_ne hrP qk,off_ne hbP jY⟩ .nil)
 intro bf ρ zqA;obtain⟨υ,rs,o,dM,E,rfl,hA,rfl⟩:=zqA
 rw[ay,hlen,uZ (by rw[jW];exact dp _)]at hA
 have E2:Ext υ (upd υ P (.list (rs.map .ref))):=af dM
 have E3:=dX.1.trans (E.trans E2)
 have wI:rs.length=ts.length:=by rw[hA.len,jW]
 refine ae (a_ (aw hd hg ri (by rfl') (aq (aj hv 6 rfl rfl (aq (aw hd hg aN (by rfl') (ar hv [1] rfl ?_)))))))
 refine oY (hF.ext E3) (by lia) λN hN=>aK ?_
 have E4:=af (o:=.list (ts.map V.str)) hN
 refine KL (E4 _ _ (ai _ _ _)) (by rw[ay];lia) ?_ (ai _ _ _) zt λdU r b e E5 jV h1 h2 h3=>q dU r b e rs (E3.trans (E4.trans E5)) ((E3.trans E4).none jV) h1 h2 h3 (fW hA λ_ _ h=>h.ext (E2.trans (E4.trans E5)))
 intro x hx
 refine bZ hx λr hr=>?_
 obtain⟨k,hk⟩:=gN.mp hr
 have fH:k<(dw ts.length (sf codes) (·+1) xs.length).length:=by rw[←hA.len];exact(cp.mp hk).1
 obtain⟨r',qk,l',jY,_⟩:=hA.get (bL fH)
 rw[hk]at qk;cases qk
 exact⟨r,_,_,_,rfl,E4 _ _ (E2 _ _ jY)⟩
end
section
variable{prog:Program}{w:World}{A:Around}{E:VP}
theorem KR {it t:Addr}{items:Array Value}(b8:t≠it):∀(n i:Nat)(s:Shared)(Q:List Value→Shared→Prop),s.heap.IsListIter it t i→s.heap.IsList t items→i+n≤items.size→
  (∀h',h'.IsListIter it t (i+n)→Heap.SameBut it s.heap h'→Q ((items.toList.drop i).take n) {s with heap:=h'})→wpAny (model prog w) A (draw (.ref it) n) Q E s
 |0,i,s,Q,hit,_,_,hQ=>by
  show wpAny _ _ (pure []) Q E s
  exact bY (by simpa using hQ s.heap hit (Heap.SameBut.refl ..))
 |n+1,i,s,Q,hit,ht,hle,hQ=>by
  have dQ:i<items.size:=by lia
  show wpAny _ _ (pyNext (.ref it)>>=_) Q E s
  refine aP (wpAny_pyNext_list_item hit ht (x:=items[i]) (by simp[dQ]) λh₁ BF iU=>?_)
  refine aP (gA (KR b8 n (i+1) _ _ BF (ht.extBut iU.extBut b8) (by lia) λiJ aae aaf=>bY ?_))
  have hd:items.toList.drop i=items[i]::items.toList.drop (i+1):=by simp[lL,dQ]
  have:=hQ iJ (by rw[(by lia:i+(n+1)=i+1+n)];exact aae) (iU.trans aaf)
  rw[hd,List.take_succ_cons]at this
  exact this
variable{s:Shared}
theorem aag {t:Addr}{items:Array Value}{Q:List Value→Shared→Prop}(hh:A.handled=none)(ht:s.heap.IsList t items)
  (hQ:∀h',Heap.ExtBut s.heap.objs.size s.heap h'→Q items.toList {s with heap:=h'}):wpAny (model prog w) A (unpackItems (.ref t) items.size none) Q E s:=by
 have dQ:t≠s.heap.objs.size:=by obtain⟨o,ho,_⟩:=ht;exact oj (f_ ho)
 unfold unpackItems
 refine aP ?_
 unfold notIterableAtAll
 refine aP (wpAny_specialOf ht.typeIs slot_list_iter.lookup ?_)
 refine bY ?_
 simp only[jC,if_false]
 refine aP (gA (wpAny_pyIter_list ht ?_))
 refine aP (gA (KR dQ items.size 0 _ _ ⟨_,jA _ rfl,rfl,rfl⟩ (ht.push _) (by lia) λh₁ BF iU=>?_))
 have kr:List.take items.size (List.drop 0 items.toList)=items.toList:=by
  rw[List.drop_zero];exact uZ (by simp)
 rw[kr]
 rw[bK (by simp)]
 have aah:h₁.IsList t items:=(ht.push _).extBut iU.extBut dQ
 refine aP (gA (wpAny_pyNext_list_end hh BF aah (by simp) λiJ wJ=>?_))
 simp only[Option.isSome_none,jC,if_false]
 refine bY (hQ iJ λb o hb e=>wJ b o hb (iU.extBut b o hb (dy _ e)))
theorem aai {env:Env}{elts:List Expr} {x1}{pos:Pos}{t:Addr}{items:Array Value}{Q:Unit→Shared→Prop}(hh:A.handled=none)(ht:s.heap.IsList t items)
  (hn:(assignEach elts env).length=items.size)(aaj:(assignEach elts env).findIdx? (·.1)=none)
  (h:∀h',Heap.ExtBut s.heap.objs.size s.heap h'→wpAny (model prog w) A (assignInOrder ((assignEach elts env).map (·.2)) items.toList) Q E {s with heap:=h'}):
  wpAny (model prog w) A (assign (.Tuple elts x1 pos) env (.ref t)) Q E s:=by
 rw[arm_assign_Tuple]
 refine aP (j8 ?_)
 unfold unpack
 rw[hn,aaj]
 exact aP (gA (aag hh ht h))
end
inductive ma (vars:KV):LO→List Expr→List V→LO→Prop
 |nil {ρ}:ma vars ρ [] [] ρ
 |cons {ρ x p v bj es vs aR}:Pt vars ρ x v bj→ma vars bj es vs aR→ma vars ρ (.Name x p::es) (v::vs) aR
theorem ma.each {vars:KV}{ρ aR:LO}{es:List Expr}{vs:List V}(h:ma vars ρ es vs aR)(env:Env):assignEach es env=es.map (λe=>(false,assign e env))∧es.length=vs.length:=by
 induction h with
 |nil=>exact⟨rfl,rfl⟩
 |cons _ _ ih=>exact⟨by rw[bx,←ih.1];rfl,by simp[ih.2]⟩
section
variable{w:World}{Γ:Ctx}{σ:Hp}{QT:PF}{vars:KV}
theorem ma.run (hv:Γ.vars=vars)(S:bt w Γ){es:List Expr}{k:Unit→Shared→Prop}{X:VP}:∀{ρ aR:LO}{vs:List Value}{s:Shared},ma vars ρ es (vs.map er) aR→az w Γ s σ ρ→(∀s',az w Γ s' σ aR→k () s')→
  wpAny (model aC w) Γ.A (assignInOrder ((assignEach es Γ.env).map (·.2)) vs) k X s:=by
 subst hv
 induction es with
 |nil=>
  intro ρ aR vs s h D hk
  cases vs with
  |nil=>cases h;exact wpAny_assignInOrder_none (hk s D)
  |cons v vs=>cases h
 |cons e es ih=>
  intro ρ aR vs s h D hk
  cases vs with
  |nil=>cases h
  |cons v vs=>
   cases h with
   |cons p r=>
    refine wpAny_assignInOrder_more (wpAny_assign_Name (mP S D p λaG aA=>?_))
    exact ih r aA hk
inductive aak (vars:KV)(ρ:LO)(elts:List Expr)(QT:PF)(v:V)(σ:Hp):Prop
 |mk (t:Addr) (xs:List V) (aR:LO) (e:v=.ref t) (h:σ t=some (.tup xs)∨σ t=some (.list xs)) (p:ma vars ρ elts xs aR) (q:QT .next σ aR)
theorem aT.t6 (hv:Γ.vars=vars){ρ:LO} {elts k BH value pos}(h:ak w Γ value σ ρ (aak vars ρ elts QT))
  (hs:∀env,swapsWithSole [.Tuple elts k BH] value pos.line env=pure false:=by intro _;rfl)(hw:∀env,swappedStores [.Tuple elts k BH] value env=pure none:=by intro _;rfl):aT w Γ (.Assign [.Tuple elts k BH] value pos) σ ρ QT:=by
 refine⟨λS s D kk X hk=>PyProof.Rows.Assign_Tuple (h.run S s D _ X λv av aH q aL=>?_) (hs _) (hw _)⟩
 obtain⟨t,xs,aR,ev,ht,p,q⟩:=q
 refine bJ ev ?_
 have grow:∀h',Heap.ExtBut av.heap.objs.size av.heap h'→az w Γ {av with heap:=h'} aH ρ:=λh' e=>aL.grow (λb o eb=>e b o (oj (f_ eb)) eb) rfl rfl
 have fs:(assignEach elts Γ.env).findIdx? (·.1)=none:=by
  rw[(p.each Γ.env).1,List.findIdx?_map]
  exact List.findIdx?_eq_none_iff.mpr λx _=>rfl
 rcases ht with ht|ht
 obtain⟨vs,ig,mX⟩:=(aL.hr.at_ _ _ ht).isTup
 refine wpAny_assign_Tuple S.hh ig (by rw[(p.each Γ.env).1,ay,(p.each Γ.env).2,fg mX]) fs λh' e=>?_
 subst mX
 exact p.run hv S (grow h' e) λs' D'=>hk .next _ _ _ q D'
 obtain⟨vs,ig,mX⟩:=(aL.hr.at_ _ _ ht).isList
 refine aai S.hh ig (by rw[(p.each Γ.env).1,ay,(p.each Γ.env).2,fg mX]) fs λh' e=>?_
 subst mX
 exact p.run hv S (grow h' e) λs' D'=>hk .next _ _ _ q D'
end
noncomputable def fu:Str:=Str.ofString "..."
noncomputable def dN:Option Str→V
 |some s=>.str s
 |none=>.none
noncomputable abbrev MS:=List Nat×List (Str×Nat)
noncomputable def wK (T:List (Option Str))(name:Str)(st:MS)(p:Nat):Option MS:=
 if st.1.length=T.length∧st.2.length≤1000 then(if T[p]? =some (some name)∧st.1[p]? =some 0 then(if name∈st.2.map (·.1)then none else some (st.1.set p 2,st.2++[(name,p)]))else some st)else none
noncomputable def t7 (T:List (Option Str))(st:MS)(name:Str):Option MS:=if name=fu then some st else(List.range T.length).foldlM (wK T name) st
noncomputable def wL (T:List (Option Str))(st:MS):Prop:=st.1.length=T.length∧∀p,p<T.length→T[p]? =some none∨st.1[p]? =some 2
noncomputable def t8 (T:List (Option Str))(st:MS)(p:Nat):Bool:=st.1[p]? ==some 0&&(T[p]? ==some none||T[p]? ==some (some (Str.ofString "")))
noncomputable def iy (T:List (Option Str))(st:MS):Nat→Nat→Nat
 |0,p=>p
 |n+1,p=>if t8 T st p then p else iy T st n (p+1)
noncomputable def ql (T:List (Option Str)):List Str→Nat→MS→Option MS
 | [],_,st=>some st
 |n::r,p,st=>if n=fu then some st else if st.1.length=T.length∧st.2.length≤1000 then(if n∈st.2.map (·.1)then ql T r p st else
   if iy T st (T.length-p) p<T.length then ql T r (iy T st (T.length-p) p) (st.1.set (iy T st (T.length-p) p) 2,st.2++[(n,iy T st (T.length-p) p)])else ql T r (iy T st (T.length-p) p) st)else none
noncomputable def KS (T:List (Option Str))(st:MS):List Nat:=(List.range T.length).filter λp=>st.1[p]? ==some 0
noncomputable def nN (st:MS):LV:=st.2.map λp=>(p.1,vI p.2)
theorem wM {l:List (Str×Nat)}{x:Str}(h:x∉l.map (·.1)):keyOf (l.map λp=>(p.1,vI p.2)) x=none∧∀n,Sk (l.map λp=>(p.1,vI p.2)) x (vI n) ((l++[(x,n)]).map λp=>(p.1,vI p.2)):=by
 induction l with
 |nil=>exact⟨rfl,λn=>.nil⟩
 |cons p r ih=>
  rw[bx,aY,not_or]at h
  obtain⟨h1,h2⟩:=ih h.2
  refine⟨?_,λn=>.there (λe=>h.1 e.symm) (h2 n)⟩
  show(if p.1=x then _ else _)=_
  rw[bK (λe=>h.1 e.symm)];exact h1
theorem aal {l:List (Str×Nat)}{x:Str}(h:x∈l.map (·.1)):(keyOf (l.map λp=>(p.1,vI p.2)) x).isSome=true:=by
 induction l with
 |nil=>cases h
 |cons p r ih=>
  show(if p.1=x then _ else _:Option V).isSome=_
  by_cases e:p.1=x
  rw[ck e];rfl
  rw[bK e]
  rw[bx,aY]at h
  exact ih (h.resolve_left λq=>e q.symm)
theorem t_ {st:MS}{x:Str}:(keyOf (nN st) x).isSome=decide (x∈st.2.map (·.1)):=by
 by_cases h:x∈st.2.map (·.1)
 rw[i6 h];exact aal h
 rw[i5 h];unfold nN;rw[(wM h).1];rfl
noncomputable abbrev mtF (F T U P:Addr):List (Str×Option V):=[(Str.ofString "formals",some (.ref F)),(Str.ofString "tags",some (.ref T)),(Str.ofString "used",some (.ref U)),(Str.ofString "places",some (.ref P))]
theorem dB (w:World):gE w 908=true:=by rfl'
theorem wN (w:World):bP w 908 "formals"=true:=by rfl'
theorem mb (w:World):bP w 908 "tags"=true:=by rfl'
theorem qm (w:World):bP w 908 "used"=true:=by rfl'
theorem qn (w:World):bP w 908 "places"=true:=by rfl'
theorem aam (w:World):ki w 908 "exact" 872=true:=by rfl'
theorem aan (w:World):ki w 908 "partial" 879=true:=by rfl'
theorem aao (w:World):ki w 908 "partial_of" 886=true:=by rfl'
theorem aap (w:World):ki w 908 "positional" 893=true:=by rfl'
theorem aaq (w:World):ki w 908 "is_free" 900=true:=by rfl'
theorem aar (w:World):ki w 908 "rest" 905=true:=by rfl'
noncomputable def MR (cI τ:Hp)(m F Tg U P:Addr)(st:MS):Prop:=Ext cI τ∧τ m=some (.inst 908 (mtF F Tg U P))∧τ U=some (.list (st.1.map vI))∧τ P=some (.dict (nN st))
theorem MR.KU {cI τ:Hp}{m F Tg U P:Addr}{st:MS}(h:MR cI τ m F Tg U P st)(hU:cI U=none)(us:List Nat):MR cI (upd τ U (.list (us.map vI))) m F Tg U P (us,st.2):=by
 obtain⟨h1,h2,h3,h4⟩:=h
 exact⟨h1.upd hU,(aJ λe=>by rw[e,h3]at h2;cases h2).trans h2,ai _ _ _,(aJ λe=>by rw[e,h3]at h4;cases h4).trans h4⟩
theorem MR.KW {cI τ:Hp}{m F Tg U P:Addr}{st:MS}(h:MR cI τ m F Tg U P st)(hP:cI P=none)(ps:List (Str×Nat)):MR cI (upd τ P (.dict (ps.map λp=>(p.1,vI p.2)))) m F Tg U P (st.1,ps):=by
 obtain⟨h1,h2,h3,h4⟩:=h
 exact⟨h1.upd hP,(aJ λe=>by rw[e,h4]at h2;cases h2).trans h2,(aJ λe=>by rw[e,h4]at h3;cases h3).trans h3,ai _ _ _⟩
section
variable{w:World}{Γ:Ctx}{ρ:LO}{d:Nat}{σ cI:Hp}{Q:PQ}{m F Tg U P:Addr}{st stF:MS}{fs:List Str}{T:List (Option Str)}
theorem KX {α β:Type}{f:β→α→Option β}{l:List α}{i:Nat}{st r:β}(hi:i<l.length)(h:(l.drop i).foldlM f st=some r):∃iI,f st l[i]=some iI∧(l.drop (i+1)).foldlM f iI=some r:=by
 rw[lL hi,List.foldlM_cons]at h
 cases e:f st l[i]with
 |none=>rw[e]at h;cases h
 |some iI=>rw[e]at h;exact⟨iI,rfl,h⟩
theorem wO {p:Nat}(h:p<T.length):(T.map dN)[p]? =some (dN T[p]):=by simp[h]
inductive KY (cI:Hp)(m F Tg U P:Addr)(T:List (Option Str))(iI:MS)(name:Str)(j:Nat)(τ:Hp)(ρ:LO):Prop
 |mk (st:MS) (o:Option V) (cQ:MR cI τ m F Tg U P st) (cR:((List.range T.length).drop j).foldlM (wK T name) st=some iI) (eO:ρ=[some (.ref m),some (.str name),o])
inductive aas (cI:Hp)(m F Tg U P:Addr)(stF:MS)(fs:List Str)(T:List (Option Str))(i:Nat)(τ:Hp)(ρ:LO):Prop
 |mk (st:MS) (o1:Option V) (o2:Option V) (cQ:MR cI τ m F Tg U P st) (cR:(fs.drop i).foldlM (t7 T) st=some stF) (eO:ρ=[some (.ref m),o1,o2])
theorem aat (h:MR cI σ m F Tg U P st)(hF:cI F=some (.list (fs.map .str)))(hT:cI Tg=some (.list (T.map dN)))(hU:cI U=none)(hP:cI P=none)(hn:T.length≤1000)(hf:fs.length≤1000)
  (hA:fs.foldlM (t7 T) st=some stF)(q:∀τ,MR cI τ m F Tg U P stF→Q .none τ):Call w (d+1) (.ref 872) [.ref m] σ Q:=by
 refine Te fun Γ hd hv hg=>?_
 refine ae (fF hv (aU (ah hv .here (bF h.2.1 aN (dB w) (wN w) rfl ⟨F,fs.map .str,aas cI m F Tg U P stF fs T,rfl,⟨st,_,_,h,by simpa using hA,rfl⟩,?_,?_,?_⟩))))
 ·(intro i τ ρ zqA;obtain⟨st,o1,o2,h,_,_⟩:=zqA);exact h.1 _ _ hF
 ·intro i τ ρ y zqA;obtain⟨st,o1,o2,h,hA,rfl⟩:=zqA;intro hy
  obtain⟨name,fE,rfl⟩:∃s,fs[i]? =some s∧V.str s=y:=by simpa using hy
  obtain⟨hi,rfl⟩:=cp.mp fE
  obtain⟨iI,mJ,KZ⟩:=KX hi hA
  generalize fs[i]=name at*
  refine⟨_,bX,λown=>?_⟩
  obtain⟨hd,hv,hg⟩:=dF own hd hv hg
  refine ae (aM (aF (ah hv aD (bu (ax (.ne .ss) ⟨_,rfl,λe=>?_,λe=>au (au ⟨st,_,_,h,?_,rfl⟩)⟩)))))
  ·have e:name≠fu:=by simpa [fu]using e
   have mJ:(List.range T.length).foldlM (wK T name) st=some iI:=by unfold t7 at mJ;rwa[bK e]at mJ
   refine ae (jP hv hg aN (cj hg aQ (aU (ah hv .here (bF h.2.1 aQ (dB w) (mb w) rfl ⟨Tg,_,rfl,h.1 _ _ hT,by rw[ay];lia,T.length,KY cI m F Tg U P T iI name,
    by rw[ay],by lia,⟨st,_,h,by simpa using mJ,rfl⟩,?_,?_⟩)))))
   ·intro j τ ρ zqA;obtain⟨st,o,h,hB,rfl⟩:=zqA;intro hj
    obtain⟨st2,dS,K3⟩:=KX (by rw[kG];exact hj) hB
    rw[List.getElem_range]at dS
    refine⟨_,eL,λown=>?_⟩
    obtain⟨hd,hv,hg⟩:=dF own hd hv hg
    have zT:(T.map dN).length≤1000000:=by rw[ay];lia
    unfold wK at dS
    split at dS
    ·next vt=>
     have BI:st.1[j]? =some (st.1[j]'(by lia)):=bL (by lia)
     have aau:(st.1.map vI)[j]? =some (vI (st.1[j]'(by lia))):=by rw[dI,BI];rfl
     have zU:(st.1.map vI).length≤1000000:=by rw[ay];lia
     have K4:T[j]? =some T[j]:=bL hj
     have he:∃c,cU τ 3 (dN T[j]) (.str name) c∧(c=true↔T[j]=some name):=by
      cases T[j]with
      |none=>exact⟨false,.ns,by simp⟩
      |some s=>exact⟨s==name,.ss,by simp⟩
     obtain⟨c,he,hc⟩:=he
     have K5:¬(T[j]? =some (some name)∧st.1[j]? =some 0)→KY cI m F Tg U P T iI name (j+1) τ [some (V.ref m),some (V.str name),some (V.int (j:Int))]:=λhn=>by
      rw[bK hn]at dS;cases dS
      exact⟨st,_,h,K3,rfl⟩
     refine ae (aM (cw (bW (aF (bo (aU (ah hv .here (bF h.2.1 aQ (dB w) (mb w) rfl (aj hv 2 rfl rfl (bO (h.1 _ _ hT) (wO hj) zT (ah hv aD (ax (.eq he) ⟨_,rfl,λc1=>bW ?_,λc1=>ff rfl (au (au (K5 ?_)))⟩))))))))))))
     ·refine aF (bo (aU (ah hv .here (bF h.2.1 cn (dB w) (qm w) rfl (aj hv 2 rfl rfl (bO h.2.2.1 aau zU (aW (ax (.eq .ii) ⟨_,rfl,λc2=>jL (tt rfl ?_),λc2=>ff rfl (au (au (K5 ?_)))⟩))))))))
      ·have c2:st.1[j]'(by lia)=0:=by simpa using c2
       rw[ck ⟨by rw[K4,hc.mp c1],by rw[BI,c2]⟩]at dS
       split at dS
       ·cases dS
       ·next qo=>
        cases dS
        have hk:=wM qo
        refine ae (aM (aF (ah hv aD (aU (ah hv .here (bF h.2.1 cY (dB w) (qn w) rfl (Op.inD h.2.2.2 ⟨_,rfl,ff (by rw[t_];exact i5 qo) (au ?_)⟩)))))))
        refine ae (lh (aj hv 2 rfl rfl (aU (ah hv .here (bF h.2.1 cY (dB w) (qn w) rfl (ah hv aD (.inr ⟨P,_,_,_,rfl,rfl,h.2.2.2,?_,hk.2 j,?_⟩)))))))
        ·unfold nN;rw[ay];lia
        have h2:=h.KW hP (st.2++[(name,j)])
        refine ae (lh (aW (aU (ah hv .here (bF h2.2.1 cn (dB w) (qm w) rfl (aj hv 2 rfl rfl (.inl ⟨U,_,_,rfl,rfl,h2.2.2.1,pB j,?_,zU,au (au ⟨_,_,?_,K3,rfl⟩)⟩)))))))
        ·show(j:Int)<((st.1.map vI).length:Int)
         rw[ay];lia
        ·have:=h2.KU hU (st.1.set j 2)
         rw[List.map_set]at this
         exact this
      ·have c2:st.1[j]'(by lia)≠0:=by simpa using c2
       rw[BI]
       exact λe=>c2 (by simpa using e.2)
     ·rw[K4]
      intro e
      have:T[j]=some name:=by simpa using e.1
      rw[hc.mpr this]at c1;cases c1
    ·cases dS
   ·intro τ ρ zqA;obtain⟨st,o,h,hB,rfl⟩:=zqA
    rw[List.drop_of_length_le (by rw[kG];exact dp _)]at hB
    cases hB
    exact au (au ⟨_,_,_,h,KZ,rfl⟩)
  ·have e:name=fu:=by simpa [fu]using e
   unfold t7 at mJ
   rw[ck e]at mJ
   cases mJ
   exact KZ
 ·intro τ ρ zqA;obtain⟨st,o1,o2,h,hB,rfl⟩:=zqA
  rw[List.drop_of_length_le (by rw[ay];exact dp _)]at hB
  cases hB
  exact au (q _ h)
end
section
variable{w:World}{Γ:Ctx}{ρ:LO}{d:Nat}{σ cI:Hp}{Q:PQ}{m F Tg U P:Addr}{st stF:MS}{fs:List Str}{T:List (Option Str)}
theorem BJ {p:Nat}(h:st.1.length=T.length)(hp:p<T.length):∃u,st.1[p]? =some u∧(st.1.map vI)[p]? =some (vI u):=by
 have:st.1[p]? =some (st.1[p]'(by lia)):=bL (by lia)
 exact⟨_,this,by rw[dI,this];rfl⟩
inductive aav (σ:Hp)(m:Addr)(nm:V)(j:Nat)(τ:Hp)(ρ:LO):Prop
 |mk (cQ:τ=σ) (o1:Option V) (o2:Option V) (cR:ρ=[some (.ref m),some nm,o1,o2])
theorem aaw {nm:V}(h:MR cI σ m F Tg U P st)(hT:cI Tg=some (.list (T.map dN)))(hn:T.length≤1000)(nO:wL T st)(q:Q .none σ):Call w (d+1) (.ref 886) [.ref m,nm] σ Q:=by
 have zT:(T.map dN).length≤1000000:=by rw[ay];lia
 have zU:(st.1.map vI).length≤1000000:=by rw[ay,nO.1];lia
 refine Th fun Γ hd hv hg=>?_
 refine ae (jP hv hg aN (cj hg aQ (aU (ah hv .here (bF h.2.1 aQ (dB w) (mb w) rfl ⟨Tg,_,rfl,h.1 _ _ hT,zT,T.length,aav σ m nm,by rw[ay],by lia,⟨rfl,_,_,rfl⟩,?_,?_⟩)))))
 intro j τ ρ zqA;obtain⟨rfl,o1,o2,rfl⟩:=zqA;intro hj
 refine⟨_,eL,λown=>?_⟩
 obtain⟨hd,hv,hg⟩:=dF own hd hv hg
 obtain⟨u,rB,qp⟩:=BJ nO.1 hj
 refine ae (aS hv (bo (aU (ah hv .here (bF h.2.1 aQ (dB w) (mb w) rfl (aj hv 2 rfl rfl (bO (h.1 _ _ hT) (wO hj) zT ⟨_,eM,?_⟩)))))))
 refine ae (aM (cw (bW (aF (bo (aU (ah hv .here (bF h.2.1 cn (dB w) (qm w) rfl (aj hv 2 rfl rfl (bO h.2.2.1 qp zU (aW (ax (.ne .ii) ⟨_,rfl,λc1=>bW ?_,λc1=>ff rfl (au (au ⟨rfl,_,_,rfl⟩))⟩))))))))))))
 have e:T[j]=none:=by
  rcases nO.2 j hj with e|e
  rw[bL hj]at e;simpa using e
  rw[rB]at e;cases e;simp at c1
 rw[e]
 exact aF (aj hv 3 rfl rfl (bg (ax .d7 ⟨_,rfl,ff rfl (ff rfl (au (au ⟨rfl,_,_,rfl⟩)))⟩)))
 intro τ ρ zqA;obtain⟨rfl,_⟩:=zqA
 exact au q
inductive aax (σ:Hp)(m:Addr)(i:Nat)(τ:Hp)(ρ:LO):Prop
 |mk (cQ:τ=σ) (o1:Option V) (cR:ρ=[some (.ref m),o1])
theorem aay (h:MR cI σ m F Tg U P st)(hF:cI F=some (.list (fs.map .str)))(hT:cI Tg=some (.list (T.map dN)))(hn:T.length≤1000)(nO:wL T st)(q:Q .none σ):Call w (d+2) (.ref 879) [.ref m] σ Q:=by
 refine Tf fun Γ hd hv hg=>?_
 refine ae (fF hv (aU (ah hv .here (bF h.2.1 aN (dB w) (wN w) rfl ⟨F,fs.map .str,aax σ m,rfl,⟨rfl,_,rfl⟩,?_,?_,?_⟩))))
 (intro i τ ρ zqA;obtain⟨rfl,_⟩:=zqA);exact h.1 _ _ hF
 intro i τ ρ y zqA;obtain⟨rfl,o1,rfl⟩:=zqA;intro hy
 obtain⟨name,fE,rfl⟩:∃s,fs[i]? =some s∧V.str s=y:=by simpa using hy
 refine⟨_,bX,λown=>?_⟩
 obtain⟨hd,hv,hg⟩:=dF own hd hv hg
 refine ae (aM (aF (ah hv aD (bu (ax (.eq .ss) ⟨_,rfl,λ_=>ae (aT.EA q),λ_=>au (ae ?_)⟩)))))
 refine aM (aF (ah hv aD (aU (ah hv .here (bF h.2.1 cY (dB w) (qn w) rfl (Op.AI h.2.2.2 ⟨_,rfl,λ_=>ae (jg ?_),λ_=>au (au ⟨rfl,_,rfl⟩)⟩))))))
 refine ak.own (ah hv .here ⟨m,908,886,_,rfl,h.2.1,dB w,aao w,lB (by rfl'),ar hv [1] rfl ?_⟩)
 rw[hd]
 exact aaw h hT hn nO (au (au ⟨rfl,_,rfl⟩))
 intro τ ρ zqA;obtain⟨rfl,_⟩:=zqA
 exact au q
theorem aaz {p:Nat}(h:MR cI σ m F Tg U P st)(hT:cI Tg=some (.list (T.map dN)))(hn:T.length≤1000)(hu:st.1.length=T.length)(hp:p<T.length)(q:Q (.bool (t8 T st p)) σ):Call w (d+1) (.ref 900) [.ref m,.int p] σ Q:=by
 have zT:(T.map dN).length≤1000000:=by rw[ay];lia
 have zU:(st.1.map vI).length≤1000000:=by rw[ay,hu];lia
 obtain⟨u,rB,qp⟩:=BJ hu hp
 unfold t8 at q
 rw[rB,bL hp]at q
 refine Tj fun Γ hd hv hg=>?_
 refine ae (a_ (fQ (h_ (dP (bo (aU (ah hv .here (bF h.2.1 cn (dB w) (qm w) rfl (ah hv aD (bO h.2.2.1 qp zU (aW (ax (.eq .ii) ⟨_,.bool,λc1=>?_,λc1=>?_⟩))))))))))))
 have c1:u=0:=by simpa using c1
 subst c1
 refine iK (fQ (h8.or (dP (bo (aU (ah hv .here (bF h.2.1 aQ (dB w) (mb w) rfl (ah hv aD (bO (h.1 _ _ hT) (wO hp) zT (bg (ax .bB ⟨_,.bool,λc2=>?_,λc2=>iK ?_⟩)))))))))))
 cases e:T[p]with
 |none=>rw[e]at q;exact q
 |some s=>rw[e]at c2;cases c2
 cases e:T[p]with
 |none=>rw[e]at c2;cases c2
 |some s=>
  rw[e]at q
  have ht:=wO hp
  rw[e]at ht
  refine dP (bo (aU (ah hv .here (bF h.2.1 aQ (dB w) (mb w) rfl (ah hv aD (bO (h.1 _ _ hT) ht zT (bu (ax (.eq .ss) ?_))))))))
  have:(some (0:Nat)==some 0&&(some (some s)==some none||some (some s)==some (some (Str.ofString ""))))=(s==Str.ofString ""):=by simp
  rw[this]at q;exact q
 have c1:u≠0:=by simpa using c1
 have:(some u==some 0&&(some T[p]==some none||some T[p]==some (some (Str.ofString ""))))=false:=by simp[c1]
 rw[this]at q
 have e:((u:Int)==0)=false:=by simpa using c1
 show Q (.bool ((u:Int)==0)) σ
 rw[e];exact q
theorem K6 {p:Nat}:∀n p,p≤iy T st n p∧iy T st n p≤p+n
 |0,p=>⟨dp _,dp _⟩
 |n+1,p=>by
  unfold iy
  split
  lia
  have:=K6 (p:=0) n (p+1);lia
inductive aaA (cI:Hp)(m F Tg U P:Addr)(stF:MS)(fs:List Str)(T:List (Option Str))(i:Nat)(τ:Hp)(ρ:LO):Prop
 |mk (st:MS) (p:Nat) (o:Option V) (cQ:MR cI τ m F Tg U P st) (cR:p≤T.length) (eO:ql T (fs.drop i) p st=some stF) (fV:ρ=[some (.ref m),some (.int p),o])
theorem aaB (h:MR cI σ m F Tg U P st)(hF:cI F=some (.list (fs.map .str)))(hT:cI Tg=some (.list (T.map dN)))(hU:cI U=none)(hP:cI P=none)(hn:T.length≤1000)(hf:fs.length≤1000)
  (hA:ql T fs 0 st=some stF)(q:∀τ,MR cI τ m F Tg U P stF→Q .none τ):Call w (d+2) (.ref 893) [.ref m] σ Q:=by
 have zT:(T.map dN).length≤1000000:=by rw[ay];lia
 refine Ti fun Γ hd hv hg=>?_
 refine ae (aS hv (aW ⟨_,bX,?_⟩))
 refine ae (fF hv (aU (ah hv .here (bF h.2.1 aN (dB w) (wN w) rfl ⟨F,fs.map .str,aaA cI m F Tg U P stF fs T,rfl,⟨st,0,_,h,j9 _,by simpa using hA,rfl⟩,?_,?_,?_⟩))))
 ·(intro i τ ρ zqA;obtain⟨st,p,o,h,_,_⟩:=zqA);exact h.1 _ _ hF
 ·intro i τ ρ y zqA;obtain⟨st,p,o,h,ej,hA,rfl⟩:=zqA;intro hy
  obtain⟨name,fE,rfl⟩:∃s,fs[i]? =some s∧V.str s=y:=by simpa using hy
  obtain⟨hi,rfl⟩:=cp.mp fE
  rw[lL hi]at hA
  revert hA fE hy;refine gen (fs[i]) ?_;intro name fE hy hA
  unfold ql at hA
  refine⟨_,eL,λown=>?_⟩
  obtain⟨hd,hv,hg⟩:=dF own hd hv hg
  refine ae (aM (aF (aj hv 2 rfl rfl (bu (ax (.eq .ss) ⟨_,rfl,λe=>ae (aT.EA (q _ ?_)),λe=>au ?_⟩)))))
  ·have e:name=fu:=by simpa [fu]using e
   rw[ck e]at hA;cases hA;exact h
  have e:name≠fu:=by simpa [fu]using e
  rw[bK e]at hA
  split at hA
  ·next vt=>
   refine ae (aM (aF (aj hv 2 rfl rfl (aU (ah hv .here (bF h.2.1 cY (dB w) (qn w) rfl (Op.AI h.2.2.2 ⟨_,rfl,λc=>?_,λc=>au (au ⟨st,p,_,h,ej,?_,rfl⟩)⟩)))))))
   ·rw[t_]at c
    have qo:name∉st.2.map (·.1):=by simpa using c
    rw[bK qo]at hA
    have hk:=wM qo
    refine fU (λbf aR=>bf=τ∧aR=[some (.ref m),some (.int (iy T st (T.length-p) p)),some (.str name)]) ?_ ?_
    ·refine aT.wo (λn bf aR=>bf=τ∧∃p',n=T.length-p'∧p'≤T.length∧iy T st (T.length-p') p'=iy T st (T.length-p) p∧aR=[some (.ref m),some (.int (p':Nat)),some (.str name)]) _ ⟨rfl,p,rfl,ej,rfl,rfl⟩ ?_
     intro n bf aR zqA;obtain⟨rfl,p',rfl,wQ,BK,rfl⟩:=zqA
     refine cw (bW (aF (ah hv aD (cj hg aN (aU (ah hv .here (bF h.2.1 aQ (dB w) (mb w) rfl ⟨Tg,_,rfl,h.1 _ _ hT,zT,ax .ltI ⟨_,rfl,λc1=>bW (dJ.not (c8 ?_)),λc1=>ff rfl ⟨rfl,?_⟩⟩⟩)))))))
     ·have c1:p'<T.length:=by simpa using c1
      refine ak.own (ah hv .here ⟨m,908,900,_,rfl,h.2.1,dB w,aaq w,lB (by rfl'),ar hv [1] rfl ?_⟩)
      rw[hd]
      have hs:T.length-p'=(T.length-(p'+1))+1:=by lia
      refine aaz h hT hn vt.1 c1 ⟨_,.bool,λc2=>jL (tt rfl ?_),λc2=>ff rfl ⟨rfl,?_⟩⟩
      ·have c2:t8 T st p'=false:=by simpa using c2
       refine ae (aT.aug hv aD (aW (Op.wq ⟨_,bX,au ⟨_,?_,rfl,p'+1,rfl,c1,?_,rfl⟩⟩)))
       ·lia
       ·rw[←BK,hs];conv=>rhs;unfold iy
        rw[bK (by rw[c2];decide)]
      ·have c2:t8 T st p'=true:=by simpa using c2
       rw[←BK,hs];unfold iy;rw[ck c2]
     ·have c1:¬p'<T.length:=by simpa using c1
      have:p'=T.length:=by lia
      subst this
      rw[←BK];simp[iy]
    ·intro bf aR zqA;obtain⟨rfl,rfl⟩:=zqA
     have hle:=(K6 (T:=T) (st:=st) (p:=0) (T.length-p) p).2
     revert hA hle;refine gen (iy T st (T.length-p) p) ?_;intro p' hA hle
     refine ae (aM (aF (ah hv aD (cj hg aN (aU (ah hv .here (bF h.2.1 aQ (dB w) (mb w) rfl ⟨Tg,_,rfl,h.1 _ _ hT,zT,ax .ltI ⟨_,rfl,λc1=>?_,λc1=>au (au (au ⟨st,p',_,h,by lia,?_,rfl⟩))⟩⟩)))))))
     ·have c1:p'<T.length:=by simpa using c1
      rw[ck c1]at hA
      refine ae (lh (ah hv aD (aU (ah hv .here (bF h.2.1 cY (dB w) (qn w) rfl (aj hv 2 rfl rfl (.inr ⟨P,_,_,_,rfl,rfl,h.2.2.2,?_,hk.2 p',?_⟩)))))))
      ·unfold nN;rw[ay];lia
      have h2:=h.KW hP (st.2++[(name,p')])
      refine ae (lh (aW (aU (ah hv .here (bF h2.2.1 cn (dB w) (qm w) rfl (ah hv aD (.inl ⟨U,_,_,rfl,rfl,h2.2.2.1,pB p',?_,?_,au (au (au ⟨_,p',_,?_,by lia,hA,rfl⟩))⟩)))))))
      ·show(p':Int)<((st.1.map vI).length:Int)
       rw[ay];lia
      ·show(st.1.map vI).length≤1000000
       rw[ay];lia
      ·have:=h2.KU hU (st.1.set p' 2)
       rw[List.map_set]at this
       exact this
     ·have c1:¬p'<T.length:=by simpa using c1
      rw[bK c1]at hA;exact hA
   ·rw[t_]at c
    have qo:name∈st.2.map (·.1):=by simpa using c
    rw[ck qo]at hA;exact hA
  ·cases hA
 ·intro τ ρ zqA;obtain⟨st,p,o,h,ej,hA,rfl⟩:=zqA
  rw[List.drop_of_length_le (by rw[ay];exact dp _)]at hA
  cases hA
  exact au (q _ h)
end
section
variable{w:World}{Γ:Ctx}{ρ:LO}{d:Nat}{σ cI:Hp}{Q:PQ}{m F Tg U P:Addr}{st stF:MS}{fs:List Str}{T:List (Option Str)}
theorem rest_eq {n:Nat}{p:Nat→Bool}{G:Nat→Option V}(h:∀i<n,G i=if p i=true then some (vI i)else none):(List.range n).filterMap G=((List.range n).filter p).map vI:=by
 induction n with
 |zero=>rfl
 |succ n ih=>
  rw[lM,qO,qR,df,ih λi hi=>h i (by lia)]
  congr 1
  have:=h n (by lia)
  by_cases e:p n=true
  rw[ck e]at this;simp[this,e]
  rw[bK e]at this;simp[this,e]
theorem aaC (h:MR cI σ m F Tg U P st)(hT:cI Tg=some (.list (T.map dN)))(hn:T.length≤1000)(hu:st.1.length=T.length)(q:∀b,σ b=none→Q (.ref b) (upd σ b (.list ((KS T st).map vI)))):Call w (d+1) (.ref 905) [.ref m] σ Q:=by
 have zT:(T.map dN).length≤1000000:=by rw[ay];lia
 have zU:(st.1.map vI).length≤1000000:=by rw[ay,hu];lia
 refine Tn fun Γ hd hv hg=>?_
 refine ae (a_ (ak.qf hv (VQ (w:=w) hv (by rfl) (by rfl)) (.loc (.loc (.cell .here .nil))) aQ (pt:=λy=>bX) hg aN (cj hg aQ (aU (ah hv .here (bF h.2.1 aQ (dB w) (mb w) rfl ⟨Tg,_,rfl,h.1 _ _ hT,zT,T.length,λi=>if(st.1[i]? ==some 0)=true then some (vI i)else none,by rw[ay],by lia,?_,λD hD=>?_⟩))))))
 intro i hi τ E Γc e1 e2 e3
 obtain⟨u,rB,qp⟩:=BJ hu hi
 refine fp.one (aF (bo (aU (aj e2 2 rfl rfl (bF (E _ _ h.2.1) cn (dB w) (qm w) rfl (ah e2 aD (bO (E _ _ h.2.2.1) qp zU (aW (ax (.eq .ii) ⟨_,rfl,λc=>ah e2 aD ⟨rfl,?_⟩,λc=>⟨rfl,?_⟩⟩)))))))))
 have c:u=0:=by simpa using c
 show(if(st.1[i]? ==some 0)=true then some (vI i)else none)=_
 rw[rB,c];rfl
 have c:u≠0:=by simpa using c
 show(if(st.1[i]? ==some 0)=true then some (vI i)else none)=_
 rw[rB,bK (by simpa using c)]
 rw[rest_eq (p:=λi=>st.1[i]? ==some 0) λi _=>rfl]
 exact q D hD
theorem aaD (hm:σ m=some (.inst 908 []))(hF:σ F=some (.list (fs.map .str)))(hT:σ Tg=some (.list (T.map dN)))(hn:T.length≤1000)
  (q:∀τ U P,MR (off σ m) τ m F Tg U P (List.replicate T.length 0,[])→σ U=none→σ P=none→Q .none τ):Call w (d+1) (.ref 865) [.ref m,.ref F,.ref Tg] σ Q:=by
 have zT:(T.map dN).length≤1000000:=by rw[ay];lia
 have hTm:Tg≠m:=λe=>by rw[e,hm]at hT;cases hT
 refine Td fun Γ hd hv hg=>?_
 refine ae (ic (ah hv aD (ah hv .here ⟨m,908,_,_,rfl,hm,.nil,bG,dB w,wN w,?_⟩)))
 refine ae (ic (aj hv 2 rfl rfl (ah hv .here ⟨m,908,_,_,rfl,ai _ _ _,.there (ne_str (by rfl')) .nil,bG,dB w,mb w,?_⟩)))
 rw[dk]
 refine ae (ic (bC (bq (ar rfl [] rfl ⟨aB,λZ hZ=>cj hg aN (aj hv 2 rfl rfl ⟨Tg,_,rfl,af hZ _ _ ((aJ hTm).trans hT),zT,Op.mulL (n:=(T.map dN).length) (ai _ _ _) (by lia) (by simpa using zT) λU hU=>?_⟩)⟩))))
 have e0:(List.replicate (T.map dN).length [V.int 0]).flatten=(List.replicate T.length 0).map vI:=by simp
 rw[e0]
 have hmZ:m≠Z:=bp (ai _ _ _) hZ
 have wR:m≠U:=bp (af hZ _ _ (ai _ _ _)) hU
 refine ah hv .here ⟨m,908,_,_,rfl,af hU _ _ (af hZ _ _ (ai _ _ _)),.there (ne_str (by rfl')) (oE (by rfl')),bG,dB w,qm w,?_⟩
 have hZ':σ Z=none:=by rw[aJ (Ne.symm hmZ)]at hZ;exact hZ
 have hU':σ U=none:=by
  have:=(af hZ).none hU
  rw[aJ (Ne.symm wR)]at this;exact this
 refine ae (ic (ak.oD λP hP=>ah hv .here ⟨m,908,_,_,rfl,af hP _ _ (ai _ _ _),.there (ne_str (by rfl')) (oF (by rfl')),bG,dB w,qn w,au (q _ U P ⟨?_,ai _ _ _,?_,?_⟩ hU' ?_)⟩))
 have E:Ext (off σ m) σ:=c_
 have E1:Ext (off σ m) (upd σ m (.inst 908 [(Str.ofString "formals",some (V.ref F)),(Str.ofString "tags",some (V.ref Tg))])):=E.upd dA
 have E2:=((E1.trans (af (o:=.list [V.int 0]) hZ)).trans (af (o:=.list ((List.replicate T.length 0).map vI)) hU)).upd (a:=m) (o:=.inst 908 [(Str.ofString "formals",some (V.ref F)),(Str.ofString "tags",some (V.ref Tg)),(Str.ofString "used",some (V.ref U))]) dA
 exact(E2.trans (af hP)).upd dA
 have hPU:U≠P:=bp ((aJ (Ne.symm wR)).trans (ai _ _ _)) hP
 rw[aJ (Ne.symm wR),aJ hPU,aJ (Ne.symm wR)];exact ai _ _ _
 have wU:P≠m:=Ne.symm (bp (ai _ _ _) hP)
 rw[aJ wU];exact ai _ _ _
 have wU:P≠m:=Ne.symm (bp (ai _ _ _) hP)
 rw[aJ wU]at hP
 have:=(af hZ).none ((af hU).none hP)
 rwa[aJ wU]at this
inductive o_ (fs:List Str)(T:List (Option Str))(stF:MS):Prop
 |mk (wV:MS) (h1:fs.foldlM (t7 T) (List.replicate T.length 0,[])=some wV) (h2:wL T wV) (h3:ql T fs 0 wV=some stF) (h4:KS T stF=[]) (h5:stF.1.length=T.length)
noncomputable def BL (σ:Hp):V→Option V
 |.ref a=>match σ a with
  |some (.tup (x::_))=>some x
  |_=>none
 |_=>none
theorem K7 {σ:Hp}{b:Addr}{x:V}{r:List V}(h:σ b=some (.tup (x::r))):BL σ (.ref b)=some x:=by
 show(match σ b with|some (.tup (x::_))=>some x|_=>none)=_
 rw[h]
theorem aaE {σ:Hp}{as:List Addr}{tvs:List (Option Str×V)}(ht:br (λa (p:Option Str×V)=>σ a=some (.tup [dN p.1,p.2])) as tvs):(as.map V.ref).filterMap (BL σ)=(tvs.map (·.1)).map dN:=by
 induction ht with
 |nil=>rfl
 |cons h _ ih=>rw[bx,gz,K7 h,ih];rfl
theorem aaF {Fa As:Addr}{as:List Addr}{tvs:List (Option Str×V)}{sh:V}(hF:σ Fa=some (.list (fs.map .str)))(hA:σ As=some (.list (as.map .ref)))(ht:br (λa (p:Option Str×V)=>σ a=some (.tup [dN p.1,p.2])) as tvs)(hn:tvs.length≤1000)(hf:fs.length≤1000)(hm:o_ fs (tvs.map (·.1)) stF)
  (q:∀τ t P R,Ext σ τ→τ t=some (.tup [.ref P,.ref R])→τ P=some (.dict (nN stF))→τ R=some (.list [])→Q (.ref t) τ):Call w (d+3) (.ref 944) [.ref Fa,.ref As,sh] σ Q:=by
 obtain⟨wV,m1,m2,m3,m4,m5⟩:=hm
 have zA:(as.map V.ref).length≤1000000:=by rw[ay,ht.len];lia
 have qr:(tvs.map (·.1)).length≤1000:=by rw[ay];exact hn
 refine To fun Γ hd hv hg=>?_
 refine ae (aS hv (aw hd hg aN (by rfl') (aq (ah hv .here (aq (fT hv (VU (w:=w) hv (by rfl) (by rfl)) (.loc (.loc .nil)) aQ (pt:=λy=>bX) (ah hv aD ⟨As,_,BL σ,rfl,hA,zA,?_,λTg hTg=>aK ?_⟩)))))))
 intro y hy τ E Γc e1 e2 e3
 refine bZ hy λb hb=>?_
 obtain⟨k,hk⟩:=gN.mp hb
 have fH:k<tvs.length:=by rw[←ht.len];exact(cp.mp hk).1
 obtain⟨b',gq,jr⟩:=ht.get (bL fH)
 rw[hk]at gq;cases gq
 exact dE ⟨λ_=>bo (ah e2 aD (aW (tO (i:=0) (E _ _ jr) rfl aB ⟨rfl,K7 jr⟩))),tf⟩
 rw[aaE ht]
 have E0:=af (o:=.list ((tvs.map (·.1)).map dN)) hTg
 refine Call.cls (fI:=865) (by rfl') (by rfl') (by rfl') λm hm=>?_
 have BM:∀{x:Addr}{o:MO},(upd σ Tg (.list ((tvs.map (·.1)).map dN))) x=some o→off (upd (upd σ Tg (.list ((tvs.map (·.1)).map dN))) m (.inst 908 [])) m x=some o:=λ{x o} h=>off_ne (bp h hm) ((af hm) _ _ h)
 refine aaD (T:=tvs.map (·.1)) (fs:=fs) (ai _ _ _) (af hm _ _ (E0 _ _ hF)) (af hm _ _ (ai _ _ _)) qr λτ U P hM hU hP=>⟨rfl,_,eM,?_⟩
 have K8:off (upd (upd σ Tg (.list ((tvs.map (·.1)).map dN))) m (.inst 908 [])) m U=none:=c_.none hU
 have K_:off (upd (upd σ Tg (.list ((tvs.map (·.1)).map dN))) m (.inst 908 [])) m P=none:=c_.none hP
 have tZ:=BM (E0 _ _ hF)
 have lD:=BM (ai _ _ _)
 refine ae (jg (ak.own (aj hv 3 rfl rfl ⟨m,908,872,_,rfl,hM.2.1,dB w,aam w,lB (by rfl'),aK ?_⟩)))
 rw[hd]
 refine aat hM tZ lD K8 K_ qr hf m1 λcA wW=>ae (jg (ak.own (aj hv 3 rfl rfl ⟨m,908,879,_,rfl,wW.2.1,dB w,aan w,lB (by rfl'),aK ?_⟩)))
 rw[hd]
 refine aay wW tZ lD qr m2 (ae (jg (ak.own (aj hv 3 rfl rfl ⟨m,908,893,_,rfl,wW.2.1,dB w,aap w,lB (by rfl'),aK ?_⟩))))
 rw[hd]
 refine aaB wW tZ lD K8 K_ qr hf m3 λbU qt=>ae (aS hv (ak.own (aj hv 3 rfl rfl ⟨m,908,905,_,rfl,qt.2.1,dB w,aar w,lB (by rfl'),aK ?_⟩)))
 rw[hd]
 refine aaC qt lD qr m5 λR hR=>⟨_,dR,?_⟩
 rw[m4]
 have E3:=af (o:=.list ([]:List V)) hR
 refine ae (aM (cw (bW (aF (cj hg aQ (aj hv 4 rfl rfl ⟨R,_,rfl,ai _ _ _,aB,aW (ax .jc ⟨_,rfl,ff rfl (ff rfl (au ?_))⟩)⟩))))))
 refine ae (a_ (fD (aq (aU (aj hv 3 rfl rfl (bF (E3 _ _ qt.2.1) cY (dB w) (qn w) rfl (ar hv [4] rfl ⟨aB,λt ht=>q _ t P R ?_ (ai _ _ _) ?_ ?_⟩)))))))
 have E4:Ext σ (off (upd (upd σ Tg (.list ((tvs.map (·.1)).map dN))) m (.inst 908 [])) m):=λx o h=>BM (E0 _ _ h)
 exact(E4.trans qt.1).trans (E3.trans (af ht))
 exact af ht _ _ (E3 _ _ qt.2.2.2)
 exact af ht _ _ (ai _ _ _)
end
noncomputable def valOf (st:MS)(tvs:List (Option Str×V))(o:V)(name:Str):V:=if name=fu then o else match keyOf (nN st) name with
 |some (.int p)=>((tvs[p.toNat]?).map (·.2)).getD .none
 |_=>.none
theorem aaG {l:List (Str×Nat)}{x:Str}(h:x∈l.map (·.1)):∃n,(x,n)∈l∧keyOf (l.map λp=>(p.1,vI p.2)) x=some (vI n):=by
 induction l with
 |nil=>cases h
 |cons p r ih=>
  by_cases e:p.1=x
  subst e
  exact⟨p.2,bA,by show(if p.1=p.1 then _ else _:Option V)=_;rw[ck rfl]⟩
  rw[bx,aY]at h
  obtain⟨n,h1,h2⟩:=ih (h.resolve_left λq=>e q.symm)
  exact⟨n,bw _ h1,by show(if p.1=x then _ else _:Option V)=_;rw[bK e];exact h2⟩
section
variable{w:World}{Γ:Ctx}{ρ:LO}{d:Nat}{σ cI:Hp}{Q:PQ}{stF:MS}{fs:List Str}{T:List (Option Str)}
theorem wX {Fa As:Addr}{as:List Addr}{tvs:List (Option Str×V)}(hF:σ Fa=some (.list (fs.map .str)))(hA:σ As=some (.list (as.map .ref)))(ht:br (λa (p:Option Str×V)=>σ a=some (.tup [dN p.1,p.2])) as tvs)(hn:tvs.length≤1000)(hf:fs.length≤1000)(hm:o_ fs (tvs.map (·.1)) stF)
  (nd:fs.Nodup)(ej:∀p∈stF.2,p.2<tvs.length)(q:∀τ R o,Ext σ τ→(fu∈fs→∃E,o=.ref E∧τ E=some (.list [])∧σ E=none)→τ R=some (.list (fs.map (valOf stF tvs o)))→Q (.ref R) τ):Call w (d+4) (.ref 957) [.ref As,.ref Fa] σ Q:=by
 have zF:(fs.map V.str).length≤1000000:=by rw[ay];lia
 have zA:(as.map V.ref).length≤1000000:=by rw[ay,ht.len];lia
 refine Tq fun Γ hd hv hg=>?_
 refine ae (aT.t6 hv (aw hd hg aN (by rfl') (aq (ak.list1 hg aQ (ah hv aD ⟨Fa,_,rfl,.inl hF,zF,λF2 wY=>aq (ah hv .here (aq (gS (aF (aj hv 2 rfl rfl (bg (ax .bB ⟨_,rfl,tt rfl (cm hg cn (aK ?_))⟩)))))))⟩)))))
 have E0:=af (o:=.list (fs.map V.str)) wY
 refine aaF (ai _ _ _) (E0 _ _ hA) (fW ht λ_ _ h=>E0 _ _ h) hn hf hm λτ t P R E1 h1 h2 h3=>⟨t,_,_,rfl,.inl h1,.cons eM (.cons dR .nil),?_⟩
 have E:=E0.trans E1
 refine ae (aS hv (bq (aK ⟨aB,λD hD=>⟨_,fh,ae ?_⟩⟩)))
 refine fF hv (ah hv aD ⟨Fa,fs.map .str,λi bf aR=>∃υ o n,υ D=none∧Ext τ υ∧bf=upd υ D (.list ((fs.take i).map (valOf stF tvs o)))∧(fu∈fs.take i→∃E,o=.ref E∧υ E=some (.list [])∧σ E=none)∧aR=[some (.ref As),some (.ref Fa),some .none,some (.ref P),some (.ref R),some (.ref D),n],rfl,⟨τ,.none,_,hD,.refl _,rfl,by simp,rfl⟩,?_,?_,?_⟩)
 (intro i bf aR zqA;obtain⟨υ,o,n,dM,F,rfl,_⟩:=zqA);exact af dM _ _ (F _ _ (E _ _ hF))
 intro i bf aR y zqA;obtain⟨υ,o,n,dM,F,rfl,ho,rfl⟩:=zqA;intro hy
 obtain⟨name,fE,rfl⟩:∃s,fs[i]? =some s∧V.str s=y:=by simpa using hy
 have hi:=(cp.mp fE).1
 have tk:∀o',(fs.take (i+1)).map (valOf stF tvs o')=(fs.take i).map (valOf stF tvs o')++[valOf stF tvs o' name]:=λo'=>by
  rw[eY,fE];simp
 have hlen:((fs.take i).map (valOf stF tvs o)).length≤1000000:=by rw[ay,eZ];lia
 have G:Ext υ (upd υ D (.list ((fs.take i).map (valOf stF tvs o)))):=af dM
 refine⟨_,eB,λown=>?_⟩
 obtain⟨hd,hv,hg⟩:=dF own hd hv hg
 refine ae (aM (aF (aj hv 6 rfl rfl (bu (ax (.eq .ss) ⟨_,rfl,λe=>?_,λe=>ae ?_⟩)))))
 have e:name=fu:=by simpa [fu]using e
 subst e
 have aaH:fu∉fs.take i:=λhm=>by
  obtain⟨j,hj⟩:=gN.mp hm
  have l8:=(cp.mp hj).1
  rw[eZ]at l8
  rw[List.getElem?_take,ck (by lia)]at hj
  have h1:=cp.mp hj
  have h2:=cp.mp fE
  have:=(List.getElem_inj (h₀:=h1.1) (h₁:=h2.1) nd).mp (h1.2.trans h2.2.symm)
  lia
 have same:∀o',(fs.take i).map (valOf stF tvs o)=(fs.take i).map (valOf stF tvs o'):=λo'=>sm λx hx=>by
  have:x≠fu:=λe=>aaH (e▸hx)
  unfold valOf;rw[bK this,bK this]
 refine ae (eH (aj hv 5 rfl rfl ⟨D,rfl,⟨_,ai _ _ _⟩,fT hv (VY (w:=w) hv (by rfl) (by rfl)) (.loc (.loc (.cell .here .nil))) aQ (pt:=λy=>bX) (aj hv 4 rfl rfl ⟨R,[],λ_=>none,rfl,G _ _ (F _ _ h3),aB,(λy hy=>by cases hy),λb hb=>?_⟩)⟩))
 obtain⟨g1,g2⟩:=hole dM (af (o:=.list []) hb)
 have iu:b≠D:=Ne.symm (bp (ai _ _ _) hb)
 refine⟨_,af hb _ _ (ai _ _ _),hlen,au (au ⟨off (upd (upd υ D (.list ((fs.take i).map (valOf stF tvs o)))) b (.list [])) D,.ref b,_,dA,F.trans g1,?_,λ_=>⟨b,rfl,off_ne iu (ai _ _ _),((E.trans F).trans G).none hb⟩,rfl⟩)⟩
 show upd (upd (upd υ D _) b (.list [])) D _=_
 rw[g2,dk,←g2,tk (.ref b),same (.ref b)]
 unfold valOf
 rw[ck rfl]
 have e:name≠fu:=by simpa [fu]using e
 have La:fu∈fs.take (i+1)→∃E,o=.ref E∧υ E=some (.list [])∧σ E=none:=λhm=>by
  rw[eY,fE]at hm
  rcases cq.mp hm with hm|hm
  exact ho hm
  exact absurd (dm.mp hm).symm e
 refine aM (aF (aj hv 6 rfl rfl (aj hv 3 rfl rfl (Op.inD (G _ _ (F _ _ h2)) ⟨_,rfl,λc=>?_,λc=>?_⟩))))
 rw[t_]at c
 obtain⟨p,qi,jq⟩:=aaG (mD c)
 have hp:=ej _ qi
 obtain⟨b,gq,jr⟩:=ht.get (bL hp)
 refine ae (eH (aj hv 5 rfl rfl ⟨D,rfl,⟨_,ai _ _ _⟩,bo (bo (ah hv .here (bo (aj hv 3 rfl rfl (aj hv 6 rfl rfl (tN (G _ _ (F _ _ h2)) jq (bO (G _ _ (F _ _ (E _ _ hA))) (x:=.ref b) (by rw[dI,gq];rfl) zA (aW (tO (i:=1) (G _ _ (F _ _ (E _ _ jr))) rfl aB ⟨_,ai _ _ _,hlen,au (au (au ⟨υ,o,_,dM,F,?_,La,rfl⟩))⟩)))))))))⟩))
 rw[dk,tk]
 have:valOf stF tvs o name=tvs[p].2:=by
  unfold valOf
  rw[bK e]
  rw[(jq:keyOf (nN stF) name=some (vI p))]
  simp[hp]
 rw[this]
 rw[t_]at c
 have qr:=qQ c
 refine ae (eH (aj hv 5 rfl rfl ⟨D,rfl,⟨_,ai _ _ _⟩,bg ⟨_,ai _ _ _,hlen,au (au (au ⟨υ,o,_,dM,F,?_,La,rfl⟩))⟩⟩))
 rw[dk,tk]
 have:valOf stF tvs o name=.none:=by
  unfold valOf nN
  rw[bK e,(wM qr).1]
 rw[this]
 intro bf aR zqA;obtain⟨υ,o,n,dM,F,rfl,ho,rfl⟩:=zqA
 rw[ay,fM]at*
 have G:Ext υ (upd υ D (.list (fs.map (valOf stF tvs o)))):=af dM
 refine ae (a_ (aj hv 5 rfl rfl (q _ D o (E.trans (F.trans G)) (λhm=>?_) (ai _ _ _))))
 obtain⟨b,h1,h2,rC⟩:=ho hm
 exact⟨b,h1,G _ _ h2,rC⟩
end
theorem wZ {T:List (Option Str)}{st:MS}(h:(st.1.length==T.length&&(List.range T.length).all λp=>(T[p]? ==some none)||(st.1[p]? ==some 2))=true):wL T st:=by
 rw[fN]at h
 refine⟨by simpa using h.1,λp hp=>?_⟩
 have:=ew.mp h.2 p (iD.mpr hp)
 simpa using this
noncomputable def iV:List Str:=[Str.ofString "x",Str.ofString "f",Str.ofString "drop",Str.ofString "sep",fu]
noncomputable def rD:MS:=([2,2],[(Str.ofString "x",0),(Str.ofString "f",1)])
noncomputable def BN:MS:=([2,2,2],[(Str.ofString "sep",2),(Str.ofString "x",0),(Str.ofString "f",1)])
theorem Lb:o_ iV [none,none] rD:=⟨([0,0],[]),by rfl',wZ (by rfl'),by rfl',by rfl',rfl⟩
theorem okB:o_ iV [none,none,some (Str.ofString "sep")] BN:=⟨([0,0,2],[(Str.ofString "sep",2)]),by rfl',wZ (by rfl'),by rfl',by rfl',rfl⟩
theorem w0 {l:List Str}(h:tc (l.map hs)=true):l.Nodup:=z6 (vO h)
theorem Lc:iV.Nodup:=w0 (by rfl')
theorem Ld {v f o:V}:iV.map (valOf rD [(none,v),(none,f)] o)=[v,f,.none,.none,o]:=by rfl'
theorem aaI {v f s o:V}:iV.map (valOf BN [(none,v),(none,f),(some (Str.ofString "sep"),s)] o)=[v,f,.none,s,o]:=by rfl'
section
variable{w:World}{Γ:Ctx}{ρ:LO}{d:Nat}{σ:Hp}{Q:PQ}{a:Addr}{kind items attrs gl cD:V}
theorem w5 {v:V}(q:Q v σ):Call w (d+1) (.ref 851) [.none,v] σ Q:=by
 refine Tc fun Γ hd hv hg=>?_
 exact ae (aM (aF (ah hv .here (bg (ax .bB ⟨_,rfl,tt rfl (ae (a_ (ah hv aD q)))⟩)))))
theorem Le {k:Str}(ha:σ a=some (.inst 401 (aV (.str k) items .none)))(hk:(k==Str.ofString "S4")=false)(q:Q (.bool false) σ):Call w (d+1) (.ref 964) [.ref a] σ Q:=by
 refine Tr fun Γ hd hv hg=>?_
 refine ae (a_ (fQ (h8.or (dP (aU (ah hv .here (vk ha (bu (ax (.eq .ss) ⟨_,.bool,ff hk (iK (fQ (h_ (dP (aU (ah hv .here (va ha (bg (ax .d7 ⟨_,.bool,ff rfl q⟩)))))))))⟩)))))))))
theorem aaJ {l:Addr}{s:Str}{aaK:V}(ha:σ a=some (.inst 401 (aV (.str "character") (.ref l) .none)))(hl:σ l=some (.list [.str s]))(q:Q (.str s) σ):Call w (d+1) (.ref 844) [.ref a,aaK] σ Q:=by
 refine Tb fun Γ hd hv hg=>?_
 refine ae (aM (cw (dK (aF (ah hv .here (bg (ax .bB ⟨_,rfl,ff rfl (dK ?_)⟩)))))))
 refine aF (aU (ah hv .here (vk ha (bu (ax (.ne .ss) ⟨_,rfl,ff rfl (dK ?_)⟩)))))
 refine aF (cj hg aN (aU (ah hv .here (vi ha ⟨l,_,rfl,hl,aB,aW (ax (.ne .ii) ⟨_,rfl,ff rfl (dK ?_)⟩)⟩))))
 refine aF (bo (aU (ah hv .here (vi ha (aW (bO (i:=0) hl rfl aB (bg (ax .bB ⟨_,rfl,ff rfl (kU (ff rfl (au ?_)))⟩))))))))
 exact ae (a_ (bo (aU (ah hv .here (vi ha (aW (bO (i:=0) hl rfl aB q)))))))
theorem aaL {l:Addr}{xs:List V}{sep:V}(ha:σ a=some (.inst 401 (aV (.str "character") (.ref l) .none)))(hl:σ l=some (.list xs))(hx:gJ xs)(hz:xs.length≤1000000)
  (q:∀τ g ts,Ext σ τ→Lv xs ts→cX (new σ τ) g (xs.map (b9 ts)) ts→Q (.ref g) τ):Call w (d+10) (.ref 1610) [.ref a,sep] σ Q:=by
 refine IK fun Γ hd hv hg=>?_
 refine ae (aM (aF (aU (ah hv .here (vk ha (bu (ax (.eq .ss) ⟨_,rfl,ff rfl (au (ae (a_ (aw hd hg cY (by rfl') (ar hv [0] rfl ?_)))))⟩)))))))
 exact wD ha hl hx hz q
noncomputable def w6 (w:World)(d:Nat)(σ:Hp)(f:V)(sep:Str)(G:List V→List Str→Prop):Prop:=∀τ,Ext σ τ→∀Q:PQ,(∀bf g codes ts,Ext τ bf→cX (new τ bf) g codes ts→G codes ts→Q (.ref g) bf)→Call w (d+10) (.ref 1610) [f,.str sep] τ Q
theorem Lf {l:Addr}{xs:List V}{sep:Str}(ha:σ a=some (.inst 401 (aV (.str "character") (.ref l) .none)))(hl:σ l=some (.list xs))(hx:gJ xs)(hz:xs.length≤1000000):w6 w d σ (.ref a) sep fun codes ts=>Lv xs ts∧codes=xs.map (b9 ts):=
 λτ E Q q=>aaL (E _ _ ha) (E _ _ hl) hx hz λbf g ts E' h1 h2=>q bf g _ ts E' h2 ⟨h1,rfl⟩
noncomputable def aaM (σ:Hp)(v:V)(s:Str):Prop:=(v=.none∧s=Str.ofString ".")∨∃a l,v=.ref a∧σ a=some (.inst 401 (aV (.str "character") (.ref l) .none))∧σ l=some (.list [.str s])
theorem Lg {W v l As:Addr}{ws xs:List V}{as:List Addr}{tvs:List (Option Str×V)}{f sv env:V}{sep:Str}{stF:MS}{G:List V→List Str→Prop}(ha:σ a=some (.inst 1985 (gu gl (.ref W) cD)))(hi:gW cD=true)(hW:σ W=some (.list ws))(BA:ws.length≤1000000)
  (hA:σ As=some (.list (as.map .ref)))(ht:br (λa (p:Option Str×V)=>σ a=some (.tup [dN p.1,p.2])) as tvs)(hn:tvs.length≤1000)(hm:o_ iV (tvs.map (·.1)) stF)(ej:∀p∈stF.2,p.2<tvs.length)(BO:∀o,iV.map (valOf stF tvs o)=[.ref v,f,.none,sv,o])
  (hv:σ v=some (.inst 401 (aV (.str "integer") (.ref l) .none)))(hl:σ l=some (.list xs))(hx:xs.length≤1000)(ua:v≠W)(ub:l≠W)(hf:bB f=false)(hs:aaM σ sv sep)(hG:w6 w d σ f sep G)
  (gQ:∀codes ts,G codes ts→ts.length≤1000∧codes.length≤1000∧fX codes ts.length∧(codes.length=0→xs.length=0))
  (q:∀τ r b e rs codes ts,Ext (off σ W) τ→G codes ts→Wn τ W ws (decide (0<codes.length∧xs.length % codes.length≠0))→τ r=some (.inst 401 (aV (.str "list") (.ref b) (.ref e)))→τ b=some (.list (rs.map .ref))→qj τ e (ts.map .str)→
   br (λr qs=>iT τ r (pick xs qs)) rs (dw ts.length (sf codes) (·+1) xs.length)→Q (.ref r) τ):Call w (d+11) (.ref 1627) [.ref a,.ref As,env] σ Q:=by
 have jZ:=hv
 refine Ud fun Γ hd hv hg=>?_
 refine ae (aT.t6 hv (aw hd hg aN (by rfl') (aq (ah hv aD (aq (bq (ar rfl [] rfl ⟨aB,λF hF=>aK ?_⟩)))))))
 have E0:=af (o:=.list (iV.map .str)) hF
 refine wX (fs:=iV) (ai _ _ _) (E0 _ _ hA) (fW ht λ_ _ h=>E0 _ _ h) hn (by decide) hm Lc ej λτ R o E1 ho hR=>?_
 rw[BO]at hR
 obtain⟨Eo,rfl,hEo⟩:=ho (by unfold iV;simp)
 refine⟨R,_,_,rfl,.inr hR,.cons s6 (.cons dR (.cons fh (.cons eB (.cons gV .nil)))),?_⟩
 have E:=E0.trans E1
 refine ae (jg (aw hd hg aQ (by rfl') (ar hv [3] rfl ?_)))
 refine m9 rfl (fU (λυ aR=>∃g codes ts,Ext τ υ∧cX (new τ υ) g codes ts∧G codes ts∧aR=[some (.ref a),some (.ref As),some env,some (.ref v),some f,some .none,some sv,some (.ref Eo),some (.ref g),none,none,none,none,none]) ?_ ?_)
 refine aS hv (aw hd hg cn (by rfl') (aq (aw hd hg aQ (by rfl') (ar hv [4] rfl ?_))))
 refine m9 hf (aq (gS (aF (aj hv 6 rfl rfl (bg (ax .bB ⟨_,rfl,λc=>?_,λc=>?_⟩))))))
 rcases hs with⟨rfl,rfl⟩|⟨sa,sl,rfl,_,_⟩
 exact bu (aK (hG τ E _ λbf g codes ts E' h1 h2=>⟨_,je,g,codes,ts,E',h1,h2,rfl⟩))
 cases c
 rcases hs with⟨rfl,rfl⟩|⟨sa,sl,rfl,s1,s2⟩
 cases c
 refine aw hd hg cY (by rfl') (ar hv [6] rfl ?_)
 exact aaJ (E _ _ s1) (E _ _ s2) (aK (hG τ E _ λbf g codes ts E' h1 h2=>⟨_,je,g,codes,ts,E',h1,h2,rfl⟩))
 intro υ aR zqA;obtain⟨g,codes,ts,E',qu,Li,rfl⟩:=zqA
 have E2:=E.trans E'
 obtain⟨k1,k2,k3,k4⟩:=gQ _ _ Li
 refine ae (aM (c8 (aw hd hg fG (by rfl') (ar hv [5] rfl ?_))))
 refine w5 ⟨_,.bool,ff rfl (au ?_)⟩
 refine ae (aM (cw (bW (aF (aU (aj hv 3 rfl rfl (vk (E2 _ _ jZ) (bu (ax (.eq .ss) ⟨_,rfl,ff rfl (ff rfl (au ?_))⟩)))))))))
 refine ae (aS hv (aw hd hg kl (by rfl') (aq (ah hv .here (aq (aj hv 8 rfl rfl (aq (aw hd hg tB (by rfl') (ar hv [3] rfl ?_)))))))))
 have Lj:τ W=some (.list ws):=E _ _ hW
 refine gn rfl (E2 _ _ jZ) (E2 _ _ hl) (by lia) (aK ?_)
 refine ZJ (E2 _ _ ha) hi (E2 _ _ hW) BA (qu.ext (Bo Lj)) (by lia) k2 k3 hx k4 λuc v2 E3 hw=>⟨_,zH,?_⟩
 have pd:uc v=some (.inst 401 (aV (.str "integer") (.ref l) .none)):=E3 _ _ (off_ne ua (E2 _ _ jZ))
 have jR:uc l=some (.list xs):=E3 _ _ (off_ne ub (E2 _ _ hl))
 refine ae (aM (cw (bW (c8 (aw hd hg JC (by rfl') (ar hv [3] rfl ?_))))))
 refine Le pd rfl ⟨_,.bool,ff rfl (ff rfl (au ?_))⟩
 refine ae (a_ (aw hd hg U9 (by rfl') (ar hv [3,8] rfl ?_)))
 refine aad pd jR hx ((qu.ext (Bo Lj)).ext E3) k1 k2 k3 λυ3 r b e rs E4 jV h1 h2 h3 h4=>q υ3 r b e rs codes ts ?_ Li (hw.ext E4) h1 h2 h3 h4
 have E5:Ext (off σ W) (off υ W):=λx o h=>by
  have ud:x≠W:=λe=>by subst e;rw[dA]at h;cases h
  exact off_ne ud (E2 _ _ (c_ _ _ h))
 exact E5.trans (E3.trans E4)
end
noncomputable def eW (ts:List Str):V→V
 |.int c=>match ts[(c-1).toNat]? with
  |some s=>.str s
  |none=>.none
 |_=>.none
theorem ue {ts:List Str}{j:Nat}(h:j<ts.length):eW ts (.int ((j+1:Nat):Int))=.str ts[j]:=by
 show(match ts[(((j+1:Nat):Int)-1).toNat]? with|some s=>V.str s|none=>.none)=_
 rw[(by lia:(((j+1:Nat):Int)-1).toNat=j),bL h]
theorem Ll {ts:List Str}:eW ts .none=.none:=rfl
theorem BP {σ:Hp}{a b:Str}{c:Bool}(h:(a==b)=c):∀y∈[V.str a],cU σ 3 y (.str b) ((λ_=>c) y):=λy hy=>by
 rw[dm.mp hy]
 exact h▸.ss
section
variable{w:World}{Γ:Ctx}{ρ:LO}{d:Nat}{σ:Hp}{Q:PQ}{a:Addr}{kind items attrs gl cD:V}
theorem aaN {k:Str}(ha:σ a=some (.inst 401 (aV (.str k) items attrs)))(hk:(k==Str.ofString "list")=false)(q:Q (.bool false) σ):Call w (d+1) (.ref 1408) [.ref a] σ Q:=by
 refine T_ fun Γ hd hv hg=>?_
 exact ae (aM (cw (dK (aF (aU (ah hv .here (vk ha (bu (ax (.ne .ss) ⟨_,rfl,tt (by rw[hk];rfl) (tt rfl (ae (a_ (gR q))))⟩)))))))))
theorem BQ {codes:List V}{ts:List Str}(h:cX σ a codes ts)(q:Q (.bool true) σ):Call w (d+3) (.ref 1267) [.ref a] σ Q:=by
 obtain⟨c,e,lv,lt,cl,ct,h1,h2,h3,h4,h5,h6,h7⟩:=h
 refine jn ?_
 refine Af fun Γ hd hv hg=>?_
 refine ae (a_ (fQ (h_ (dP (aU (ah hv .here (vk h1 (bu (ax (.eq .ss) ⟨_,.bool,tt rfl (iK (dP (bu (aw hd hg aN (by rfl') (ar hv [0] rfl ?_)))))⟩)))))))))
 exact AP h1 ((Attr.dict h3).to Bt) h6 h7 aB fun b hb=>ax (.pJ (fun _=>true) (ai _ _ _) (BP (a:=Str.ofString "factor") (b:=Str.ofString "factor") (c:=true) (by simp))) ⟨σ,af hb,q⟩
theorem aaO {codes:List V}{ts:List Str}(h:cX σ a codes ts)(q:Q (.bool false) σ):Call w (d+4) (.ref 1274) [.ref a] σ Q:=by
 have h0:=h
 obtain⟨c,e,lv,lt,cl,ct,h1,h2,h3,h4,h5,h6,h7⟩:=h
 refine jn ?_
 refine TQ fun Γ hd hv hg=>?_
 refine ae (a_ (fQ (h_ (aw hd hg aN (by rfl') (ar hv [0] rfl ?_)))))
 refine BQ h0 ⟨_,.bool,tt rfl (iK (dP (bu (aw hd hg aQ (by rfl') (ar hv [0] rfl ?_)))))⟩
 exact AP h1 ((Attr.dict h3).to Bt) h6 h7 aB λb hb=>ax (.pJ (λ_=>false) (ai _ _ _) (BP (c:=false) (by rfl'))) ⟨σ,af hb,q⟩
theorem aaP {L:Addr}{ts:List Str}{c:V}(hL:σ L=some (.list (ts.map .str)))(hn:ts.length≤1000000)(hc:c=.none∨∃j,j<ts.length∧c=.int ((j+1:Nat):Int))(q:Q (eW ts c) σ):Call w (d+1) (.ref 679) [.ref L,c] σ Q:=by
 have zL:(ts.map V.str).length≤1000000:=by rw[ay];exact hn
 refine S4 fun Γ hd hv hg=>?_
 rcases hc with rfl|⟨j,hj,rfl⟩
 exact ae (aM (cw (dK (aF (ah hv aD (bg (ax .bB ⟨_,rfl,tt rfl (tt rfl (ae (a_ (bg q))))⟩)))))))
 rw[ue hj]at q
 refine ae (aM (cw (dK (aF (ah hv aD (bg (ax .bB ⟨_,rfl,ff rfl (dK ?_)⟩)))))))
 refine aF (ah hv aD (aW (ax .ltI ⟨_,rfl,ff (i5 (by lia)) (dK (aF (ah hv aD (cj hg aN (ah hv .here ⟨L,_,rfl,hL,zL,ax .jc ⟨_,rfl,ff (i5 (by rw[ay];lia)) (kU (ff rfl (au ?_)))⟩⟩)))))⟩)))
 exact ae (a_ (bo (ah hv .here (bC (ah hv aD (aW (Op.pK (eh (i:=j) hL (by lia) (by simp[hj]) zL q))))))))
theorem aaQ {codes:List V}{ts:List Str}(h:cX σ a codes ts)(hn:ts.length≤1000000)(hz:codes.length≤1000000)(ok:fX codes ts.length)(q:∀b,σ b=none→Q (.ref b) (upd σ b (.list (codes.map (eW ts))))):Call w (d+4) (.ref 684) [.ref a] σ Q:=by
 obtain⟨c,e,lv,lt,cl,ct,h1,h2,h3,h4,h5,h6,h7⟩:=h
 have zt:(ts.map V.str).length≤1000000:=by rw[ay];exact hn
 refine jn ?_
 refine Gu fun Γ hd hv hg=>?_
 refine ae (aS hv (aw hd hg aN (by rfl') (ar hv [0] rfl ?_)))
 refine oS h1 ((Attr.dict h3).to Ks) ⟨_,zJ,?_⟩
 refine ae (aM (cw (bW (aF (ah hv aD (bg (ax .d7 ⟨_,rfl,tt rfl (bW ?_)⟩)))))))
 refine aF (aU (ah hv .here (vk h1 (bu (ax (.eq .ss) ⟨_,rfl,tt rfl (bW (aF (bu (aw hd hg aQ (by rfl') (ar hv [0] rfl ?_)))))⟩)))))
 refine AP h1 ((Attr.dict h3).to Bt) h6 h7 aB fun b hb=>ax (.pJ (fun _=>true) (ai _ _ _) (BP (a:=Str.ofString "factor") (b:=Str.ofString "factor") (c:=true) (by simp))) ⟨_,rfl,tt rfl (jL (tt rfl ?_))⟩
 have E:=af (o:=.list [.str "factor"]) hb
 refine ae (aS hv (gS (c8 (aw hd hg cn (by rfl') (ar hv [1] rfl ?_)))))
 refine rp (E _ _ h4) (.inl rfl) ⟨_,.bool,tt rfl (fT hv (VC (w:=w) hv (by rfl) (by rfl)) (.loc (.loc (.cell aD .nil))) aQ (pt:=λy=>bX) (aU (ah hv aD (vi (E _ _ h4) ⟨lt,ts.map .str,λv=>some v,rfl,E _ _ h5,zt,?_,λD hD=>⟨_,vJ,?_⟩⟩))))⟩
 intro y hy τ F Γc e1 e2 e3
 obtain⟨s,rfl⟩:∃s,y=.str s:=by refine bZ hy λs _=>?_;exact⟨s,rfl⟩
 refine dE ⟨λ_=>aw (e1.trans hd) e3 aN (by rfl') (aq (aU (aj e2 2 rfl rfl (vk (F _ _ (E _ _ h4)) (ar e2 [1] rfl ?_))))),tf⟩
 exact JU (.inr ⟨s,rfl⟩) ⟨rfl,rfl⟩
 rw[oX λ_ _=>rfl]
 have E2:=E.trans (af (o:=.list (ts.map V.str)) hD)
 refine ae (a_ (fT hv (VG (w:=w) hv (by rfl) (by rfl)) (.loc (.loc (.cell qX .nil))) aQ (pt:=λy=>bX) (aU (ah hv .here (vi (E2 _ _ h1) ⟨c,codes,λv=>some (eW ts v),rfl,E2 _ _ h2,hz,?_,λD2 jU=>?_⟩)))))
 intro y hy τ F Γc e1 e2 e3
 refine dE ⟨λ_=>aw (e1.trans hd) e3 aN (by rfl') (ar e2 [2,1] rfl ?_),tf⟩
 exact aaP (F _ _ (ai _ _ _)) hn (ok y hy) ⟨rfl,rfl⟩
 have e:codes.filterMap (λv=>some (eW ts v))=codes.map (eW ts):=by rw[←vb];rfl
 refine⟨_,λx o h=>?_,q D2 (E2.none jU)⟩
 show upd _ D2 (.list (codes.filterMap λv=>some (eW ts v))) x=_
 rw[e]
 by_cases hx:x=D2
 subst hx;rw[ai]at h ⊢;exact h
 rw[aJ hx]at h ⊢;exact E2 _ _ h
end
noncomputable def xf (gc:List V)(tgt:Nat→V)(k:Nat)(S:List Nat)(p:Nat):V:=match cf gc p with
 |some j=>if j<k∨(j=k∧p∈S)then tgt p else .none
 |none=>.none
noncomputable def Xf (gc:List V)(tgt:Nat→V)(k:Nat)(S:List Nat):List V:=(List.range gc.length).map (xf gc tgt k S)
noncomputable def md (gc:List V)(tgt:Nat→V):List V:=(List.range gc.length).map λp=>if(cf gc p).isSome then tgt p else .none
theorem Ln {gc tgt k S}:(Xf gc tgt k S).length=gc.length:=by simp[Xf]
theorem aaR {gc tgt}:Xf gc tgt 0 []=List.replicate gc.length .none:=by
 refine List.ext_getElem (by simp[Xf]) λi h1 h2=>?_
 simp only[Xf,qT,List.getElem_range,List.getElem_replicate]
 unfold xf
 split<;>simp
theorem aaS {gc:List V}{tgt:Nat→V}{k p:Nat}{S:List Nat}(hp:cf gc p=some k):(Xf gc tgt k S).set p (tgt p)=Xf gc tgt k (S++[p]):=by
 refine List.ext_getElem (by simp[Xf]) λi h1 h2=>?_
 rw[List.getElem_set]
 simp only[Xf,qT,List.getElem_range]
 by_cases e:p=i
 subst e
 rw[ck rfl]
 unfold xf
 rw[hp];simp
 rw[bK e]
 unfold xf
 have:(i=p)=False:=by simpa using Ne.symm e
 simp[this]
theorem aaT {gc:List V}{tgt:Nat→V}{k:Nat}:Xf gc tgt k (((List.range gc.length).filter λi=>cf gc i==some k).map id)=Xf gc tgt (k+1) []:=by
 refine List.ext_getElem (by simp[Xf]) λi h1 h2=>?_
 simp only[Xf,qT,List.getElem_range]
 have hi:i<gc.length:=by simpa [Xf]using h1
 unfold xf
 cases e:cf gc i with
 |none=>rfl
 |some j=>
  simp only[List.map_id,jE,iD,hi,e,true_and,f9,and_false,gB,beq_iff_eq,Option.some.injEq]
  by_cases hj:j<k
  simp[hj,Nat.lt_succ_of_lt hj]
  by_cases hk:j=k
  subst hk;simp
  have:¬j<k+1:=by lia
  simp[hj,hk,this]
theorem aaU {gc:List V}{tgt:Nat→V}{n:Nat}(h:∀p j,cf gc p=some j→j<n):Xf gc tgt n []=md gc tgt:=by
 unfold Xf md
 congr 1;funext p
 unfold xf
 cases e:cf gc p with
 |none=>rfl
 |some j=>simp[h p j e]
theorem Lo {gc:List V}{n:Nat}(ok:fX gc n):∀p j,cf gc p=some j→j<n:=λp j h=>by
 unfold cf at h
 cases e:gc[p]? with
 |none=>rw[e]at h;cases h
 |some c=>
  rw[e]at h
  rcases ok c (cS e)with rfl|⟨i,hi,rfl⟩
  cases h
  simp at h;lia
section
variable{w:World}{Γ:Ctx}{ρ:LO}{d:Nat}{σ:Hp}{Q:PQ}{a:Addr}{kind items attrs gl cD:V}
inductive aaV (ip:V)(PL g PP:Addr)(gc:List V)(tgt:Nat→V)(L T:Addr)(k:Nat)(Wd:Addr)(me:Hp)(s:Nat)(τ:Hp)(ρ:LO):Prop
 |mk (o3:Option V) (o4:Option V) (cQ:τ=upd me T (.list (Xf gc tgt k ((((List.range gc.length).filter λi=>cf gc i==some k).map id).take s)))) (cR:ρ=[some ip,some (.ref PL),some (.ref g),some (.ref PP),some (.ref L),some (.ref T),some (.bool false),some (.int k),some (.ref Wd),o3,o4])
inductive aaW (ip:V)(PL g PP:Addr)(gc:List V)(tgt:Nat→V)(L T:Addr)(dY:Hp)(k:Nat)(τ:Hp)(ρ:LO):Prop
 |mk (υ:Hp) (o1:Option V) (o2:Option V) (o3:Option V) (o4:Option V) (cQ:υ T=none) (cR:Ext dY υ) (eO:τ=upd υ T (.list (Xf gc tgt k []))) (fV:ρ=[some ip,some (.ref PL),some (.ref g),some (.ref PP),some (.ref L),some (.ref T),some (.bool false),o1,o2,o3,o4])
inductive aaX (ip:V)(PL g PP:Addr)(gc:List V)(tgt:Nat→V)(L T:Addr)(dY τ:Hp)(ρ:LO):Prop
 |mk (υ:Hp) (o1:Option V) (o2:Option V) (o3:Option V) (o4:Option V) (cQ:υ T=none) (cR:Ext dY υ) (eO:τ=upd υ T (.list (md gc tgt))) (fV:ρ=[some ip,some (.ref PL),some (.ref g),some (.ref PP),some (.ref L),some (.ref T),some (.bool false),o1,o2,o3,o4])
theorem aaY {ip:V}{PL g PP:Addr}{ps bs:List Addr}{pcs:List (List V)}{gc:List V}{hs ts:List Str}{tgt:Nat→V}(lE:σ PL=some (.list (ps.map .ref)))(js:br (λp cs=>cX σ p cs ts) ps pcs)(hg:cX σ g gc hs)(w7:σ PP=some (.list (bs.map .ref)))
  (iN:LL σ bs (dw hs.length (cf gc) id gc.length))(gQ:fX gc hs.length)(hn:hs.length≤1000)(hN:gc.length≤1000)(Lp:pcs.length=hs.length)(gH:0<hs.length)(Lq:ts.length≤1000)(BR:ts.Nodup)
  (hlen:∀(j:Nat)(cs:List V)(qs:List Nat),pcs[j]? =some cs→(dw hs.length (cf gc) id gc.length)[j]? =some qs→cs.length=qs.length∧∀(s p:Nat),qs[s]? =some p→∃c,cs[s]? =some c∧eW ts c=tgt p)(jb:∀cs∈pcs,fX cs ts.length)
  (q:∀τ r,Ext σ τ→cX τ r ((md gc tgt).map (b9 ts)) ts→Q (.ref r) τ):Call w (d+9) (.ref 1646) [ip,.ref PL,.ref g,.ref PP] σ Q:=by
 have zP:(ps.map V.ref).length≤1000000:=by rw[ay,js.len,Lp];lia
 have w8:(bs.map V.ref).length≤1000000:=by rw[ay,iN.len,jW];lia
 have BS:pcs[0]? =some (pcs[0]'(by lia)):=bL (by lia)
 obtain⟨p0,qi,jq⟩:=js.get BS
 have uf:(ps.map V.ref)[0]? =some (.ref p0):=by rw[dI,qi];rfl
 have zts:(ts.map V.str).length≤1000000:=by rw[ay];lia
 have hgg:=hg
 obtain⟨gcl,_,_,_,_,_,g1,g2,_⟩:=hgg
 refine Ue fun Γ hd hv hg=>?_
 refine ae (aS hv (aw hd hg aN (by rfl') (aq (bo (ah hv aD (aW (bO (i:=0) lE uf zP (aK ?_))))))))
 refine oY jq (by lia) λL hL=>⟨_,dR,?_⟩
 have E1:=af (o:=.list (ts.map V.str)) hL
 refine ae (aS hv (bC (bq (ar rfl [] rfl ⟨aB,λZ hZ=>aw hd hg aQ (by rfl') (ar hv [2] rfl ?_)⟩))))
 have E2:=E1.trans (af (o:=.list [.none]) hZ)
 refine gn rfl (E2 _ _ g1) (E2 _ _ g2) (by lia) (Op.mulL (ai _ _ _) (by lia) (by simp;lia) λT hT=>⟨_,fh,ae (aS hv (gR ⟨_,eB,?_⟩))⟩)
 have BB:(List.replicate gc.length [V.none]).flatten=Xf gc tgt 0 []:=by rw[aaR];simp
 rw[BB]
 have w9:(upd (upd σ L (.list (ts.map V.str))) Z (.list [V.none])) L=some (.list (ts.map V.str)):=af hZ _ _ (ai _ _ _)
 revert E2 hT w9;refine genE (upd (upd σ L (.list (ts.map V.str))) Z (.list [V.none])) ?_;intro dY afr E2 hT w9
 refine fU (aaX ip PL g PP gc tgt L T dY) ?_ ?_
 refine jP hv hg cn (cj hg cY (aj hv 3 rfl rfl ⟨PP,_,rfl,af hT _ _ (E2 _ _ w7),w8,hs.length,aaW ip PL g PP gc tgt L T dY,
  by rw[ay,iN.len,jW],by lia,⟨dY,_,_,_,_,hT,.refl _,rfl,rfl⟩,?_,?_⟩))
 intro k τ ρ zqA;obtain⟨υ,o1,o2,o3,o4,lD,F,rfl,rfl⟩:=zqA;intro hk
 refine⟨_,gV,λown=>?_⟩
 obtain⟨hd,hv,hg⟩:=dF own hd hv hg
 have G:Ext σ (upd υ T (.list (Xf gc tgt k []))):=E2.trans (F.trans (af lD))
 have eV:pcs[k]? =some (pcs[k]'(by lia)):=bL (by lia)
 obtain⟨pk,Bc,nu⟩:=js.get eV
 have Lr:(ps.map V.ref)[k]? =some (.ref pk):=by rw[dI,Bc];rfl
 obtain⟨pe,jR⟩:=hlen k _ _ eV (lA hk)
 have w_:=jb _ (cS eV)
 revert eV nu pe jR w_;refine gen (pcs[k]'(by lia)) ?_;intro cs eV nu pe jR w_
 obtain⟨bk,b1,b2⟩:=iN.get (lA hk)
 have b3:(bs.map V.ref)[k]? =some (.ref bk):=by rw[dI,b1];rfl
 have et:cs.length≤1000:=by rw[pe];exact dO tV hN
 have hkk:=nu
 obtain⟨_,_,_,_,_,_,f1,_⟩:=hkk
 refine ae (aS hv (gS (cw (bW (aF (aj hv 7 rfl rfl (cj hg cY (ah hv aD ⟨PL,_,rfl,G _ _ lE,zP,ax .ltI ⟨_,rfl,tt (i6 (by rw[ay,js.len,Lp];lia)) (bW ?_)⟩⟩))))))))
 refine c8 (aw hd hg fG (by rfl') (aq (bo (ah hv aD (aj hv 7 rfl rfl (bO (G _ _ lE) Lr zP (aK ?_)))))))
 refine rp (G _ _ f1) (.inr (.inl rfl)) ⟨_,.bool,tt rfl (jL (tt rfl ?_))⟩
 refine aw hd hg gm (by rfl') (aq (bo (ah hv aD (aj hv 7 rfl rfl (bO (G _ _ lE) Lr zP (aK ?_))))))
 refine aaQ (nu.ext G) (by lia) (by lia) w_ λWd Ls=>⟨_,je,?_⟩
 obtain⟨h1,h2⟩:=hole lD (af (o:=.list (cs.map (eW ts))) Ls)
 have hWT:Wd≠T:=Ne.symm (bp (ai _ _ _) Ls)
 have qv:off (upd (upd υ T (.list (Xf gc tgt k []))) Wd (.list (cs.map (eW ts)))) T Wd=some (.list (cs.map (eW ts))):=off_ne hWT (ai _ _ _)
 have rE:off (upd (upd υ T (.list (Xf gc tgt k []))) Wd (.list (cs.map (eW ts)))) T T=none:=dA
 rw[h2]
 revert h1 h2 qv rE;refine gen (off (upd (upd υ T (.list (Xf gc tgt k []))) Wd (.list (cs.map (eW ts)))) T) ?_;intro me h1 h2 qv rE
 have G1:Ext σ (upd me T (.list (Xf gc tgt k []))):=E2.trans (F.trans (h1.trans (af rE)))
 have zW:(cs.map (eW ts)).length≤1000000:=by rw[ay];lia
 have zb:((((List.range gc.length).filter λi=>cf gc i==some k).map id).map vI).length≤1000000:=by rw[ay];exact dO tV (by lia)
 refine fU (λτ ρ=>τ=upd me T (.list (Xf gc tgt k []))∧ρ=[some ip,some (.ref PL),some (.ref g),some (.ref PP),some (.ref L),some (.ref T),some (.bool false),some (.int k),some (.ref Wd),o3,o4]) ?_ ?_
 refine aM (cw (bW (aF (cj hg cY (bo (aj hv 3 rfl rfl (aj hv 7 rfl rfl (bO (G1 _ _ w7) b3 w8 ⟨bk,_,rfl,G1 _ _ b2,zb,aW (ax .jc ⟨_,rfl,λc=>bW ?_,λc=>ff rfl (au ⟨rfl,rfl⟩)⟩)⟩))))))))
 refine aF (cj hg cY (aj hv 8 rfl rfl ⟨Wd,_,rfl,af rE _ _ qv,zW,aW (ax (.eq .ii) ⟨_,rfl,ff ?_ (ff rfl (au ⟨rfl,rfl⟩))⟩)⟩))
 have c:=mD c
 rw[ay,←pe]at c
 rw[ay]
 exact jB.mpr (by lia)
 intro τ ρ zqA;obtain⟨rfl,rfl⟩:=zqA
 refine ae (jP hv hg cn (cj hg cY (bo (aj hv 3 rfl rfl (aj hv 7 rfl rfl (bO (G1 _ _ w7) b3 w8 ⟨bk,_,rfl,G1 _ _ b2,zb,cs.length,aaV ip PL g PP gc tgt L T k Wd me,
  by rw[ay,←pe],by lia,⟨_,_,by simp,rfl⟩,?_,?_⟩))))))
 intro s τ ρ zqA;obtain⟨o3,o4,rfl,rfl⟩:=zqA;intro hs
 have mh:(((List.range gc.length).filter λi=>cf gc i==some k).map id)[s]? =some ((((List.range gc.length).filter λi=>cf gc i==some k).map id)[s]'(by lia)):=bL (by lia)
 obtain⟨c,gZ,jX⟩:=jR s _ mh
 have BU:=cS mh
 revert mh jX BU;refine gen ((((List.range gc.length).filter λi=>cf gc i==some k).map id)[s]'(by lia)) ?_;intro p mh jX BU
 have mi:p<gc.length∧cf gc p=some k:=by simpa using BU
 have G2:Ext me (upd me T (.list (Xf gc tgt k ((((List.range gc.length).filter λi=>cf gc i==some k).map id).take s)))):=af rE
 have G3:=E2.trans (F.trans (h1.trans G2))
 refine⟨_,vG,λown=>?_⟩
 obtain⟨hd,hv,hg⟩:=dF own hd hv hg
 have hwv:(cs.map (eW ts))[s]? =some (tgt p):=by rw[dI,gZ,←jX];rfl
 have hz0:((cs.map (eW ts)).length:Int)≠0:=by rw[ay];lia
 refine ae (aS hv (bo (aj hv 8 rfl rfl (bC (aj hv 9 rfl rfl (cj hg cY (aj hv 8 rfl rfl ⟨Wd,_,rfl,G2 _ _ qv,zW,fC hz0 (eh (i:=s) (G2 _ _ qv) ?_ hwv zW ⟨_,vH,?_⟩)⟩)))))))
 rw[fq,ay,Nat.mod_eq_of_lt hs]
 have ug:upd me T (.list (Xf gc tgt k ((((List.range gc.length).filter λi=>cf gc i==some k).map id).take s))) L=some (.list (ts.map .str)):=G2 _ _ (h1 _ _ (F _ _ w9))
 have hbq:(((((List.range gc.length).filter λi=>cf gc i==some k).map id).map vI))[s]? =some (vI p):=by rw[dI,mh];rfl
 have mQ:=w_ c (cS gZ)
 refine fU (λτ ρ=>τ=upd me T (.list (Xf gc tgt k ((((List.range gc.length).filter λi=>cf gc i==some k).map id).take s)))∧ρ=[some ip,some (.ref PL),some (.ref g),some (.ref PP),some (.ref L),some (.ref T),some (.bool false),some (.int k),some (.ref Wd),some (.int s),some (tgt p)]) ?_ ?_
 refine aS hv (fQ (h8.or (aj hv 6 rfl rfl ⟨false,.bool,(ft),λ_=>iK (fQ (h_ (dP (aj hv 10 rfl rfl (bg (ax .d7 ⟨_,.bool,λc1=>iK ?_,λc1=>?_⟩))))))⟩)))
 rcases mQ with rfl|⟨j,hj,rfl⟩
 rw[Ll]at jX;rw[←jX]at c1;cases c1
 rw[ue hj]at jX
 rw[←jX]
 refine dP (aj hv 10 rfl rfl (aj hv 4 rfl rfl (ax (.zD (λy=>match y with|.str s=>s==ts[j]|_=>false) ug (λy hy=>?_)) ⟨_,eB,?_⟩)))
 refine bZ hy λs' _=>?_;exact .ss
 have:((ts.map V.str).any λy=>match y with|.str s=>s==ts[j]|_=>false)=true:=by
  rw[List.any_eq_true]
  exact⟨.str ts[j],cB (hO hj),by simp⟩
 rw[this]
 exact⟨rfl,rfl⟩
 rcases mQ with rfl|⟨j,hj,rfl⟩
 rw[Ll]at jX;rw[←jX]
 exact⟨_,eB,rfl,rfl⟩
 rw[ue hj]at jX;rw[←jX]at c1;cases c1
 intro τ ρ zqA;obtain⟨rfl,rfl⟩:=zqA
 refine ae (lh (aj hv 10 rfl rfl (aj hv 5 rfl rfl (bo (bo (aj hv 3 rfl rfl (aj hv 7 rfl rfl (bO (G3 _ _ w7) b3 w8 (aj hv 9 rfl rfl (bO (G3 _ _ b2) hbq zb (.inl ⟨T,_,_,rfl,rfl,ai _ _ _,pB p,?_,?_,au ⟨_,_,?_,rfl⟩⟩)))))))))))
 rw[Ln];lia
 rw[Ln];lia
 rw[dk,show((p:Int)).toNat=p from rfl,aaS mi.2,eY,mh];rfl
 intro τ ρ zqA;obtain⟨o3,o4,rfl,rfl⟩:=zqA
 refine au ⟨me,_,_,_,_,rE,F.trans h1,?_,rfl⟩
 rw[pe,fM,aaT]
 intro τ ρ zqA;obtain⟨υ,o1,o2,o3,o4,lD,F,rfl,rfl⟩:=zqA
 exact⟨υ,_,_,_,_,lD,F,by rw[aaU (Lo gQ)],rfl⟩
 intro τ ρ zqA;obtain⟨υ,o1,o2,o3,o4,lD,F,rfl,rfl⟩:=zqA
 have E3:Ext υ (upd υ T (.list (md gc tgt))):=af lD
 have E4:=E2.trans (F.trans E3)
 have zX:(md gc tgt).length≤1000000:=by unfold md;rw[ay,kG];lia
 refine ae (aM (c8 (aj hv 6 rfl rfl ⟨_,.bool,ff rfl (au ?_)⟩)))
 refine ae (a_ (aw hd hg kl (by rfl') (aq (aw hd hg iO (by rfl') (ar hv [5] rfl ?_)))))
 refine jS (ai _ _ _) zX λcA c1 b1 F1 _ _ m1 m2=>aq (aw hd hg iO (by rfl') (ar hv [4] rfl ?_))
 refine jS (F1 _ _ (E3 _ _ (F _ _ w9))) zts λbU c2 b2 F2 _ _ m3 m4=>aq (bg (aq (bq (aK ⟨aB,λex hex=>aq (aw hd hg ri (by rfl') (aq (bo (ah hv aD (aW (bO (i:=0) (x:=.ref p0) ?_ uf zP (aK ?_)))))))⟩))))
 exact af hex _ _ (F2 _ _ (F1 _ _ (E4 _ _ lE)))
 have F3:=F2.trans (af (o:=.list []) hex)
 have E5:=E4.trans (F1.trans F3)
 refine aaO (jq.ext E5) (aK ?_)
 refine Ko (W:=λt=>t=ts) (F3 _ _ m1) (F3 _ _ m2) (λx hx=>?_) zX (ai _ _ _) (.inr ⟨c2,b2,ts,rfl,af hex _ _ m3,af hex _ _ m4,BR,by lia,rfl⟩) λcH r t F4 ht hf=>?_
 refine bZ hx λp hp=>?_
 by_cases e:(cf gc p).isSome=true
 rw[ck e]
 obtain⟨j,hj⟩:=r8.mp e
 have hjn:=Lo gQ p j hj
 have mi:p<gc.length:=iD.mp hp
 have hm:p∈((List.range gc.length).filter λi=>cf gc i==some j).map id:=by simp[mi,hj]
 obtain⟨s,hs⟩:=gN.mp hm
 have Lu:pcs[j]? =some (pcs[j]'(by lia)):=bL (by lia)
 obtain⟨c,g3,g4⟩:=(hlen j _ _ Lu (lA hjn)).2 s p hs
 rw[←g4]
 rcases jb _ (cS Lu) c (cS g3)with rfl|⟨i,hi,rfl⟩
 exact .inl rfl
 rw[ue hi];exact .inr ⟨_,rfl⟩
 rw[bK e];exact .inl rfl
 subst ht
 exact q cH r (E5.trans F4) (hf.ext oW)
end
noncomputable def uh:List Str:=[Str.ofString "value",Str.ofString "f",Str.ofString "drop"]
noncomputable def stC:MS:=([2,2],[(Str.ofString "value",0),(Str.ofString "f",1)])
theorem okC:o_ uh [none,none] stC:=⟨([0,0],[]),by rfl',wZ (by rfl'),by rfl',by rfl',rfl⟩
theorem aaZ:uh.Nodup:=w0 (by rfl')
theorem aa0 {v f o:V}:uh.map (valOf stC [(none,v),(none,f)] o)=[v,f,.none]:=by rfl'
section
variable{w:World}{Γ:Ctx}{ρ:LO}{d:Nat}{σ:Hp}{Q:PQ}{a:Addr}{kind items attrs gl cD:V}
theorem aa1 {l:Addr}{xs:List V}(ha:σ a=some (.inst 401 (aV (.str "character") (.ref l) .none)))(hl:σ l=some (.list xs))(hx:gJ xs)(hz:xs.length≤1000000)
  (q:∀τ g ts,Ext σ τ→Lv xs ts→cX (new σ τ) g (xs.map (b9 ts)) ts→Q (.ref g) τ):Call w (d+10) (.ref 1610) [.ref a] σ Q:=by
 refine Ub fun Γ hd hv hg=>?_
 refine ae (aM (aF (aU (ah hv .here (vk ha (bu (ax (.eq .ss) ⟨_,rfl,ff rfl (au (ae (a_ (aw hd hg cY (by rfl') (ar hv [0] rfl ?_)))))⟩)))))))
 exact wD ha hl hx hz q
theorem aa2 {ip env at_:V}{As PV PL t1 t2 fa fl:Addr}{ps:List Addr}{pcs:List (List V)}{ws:List V}{ts:List Str}{tgt:Nat→V}(hA:σ As=some (.list [.ref t1,.ref t2]))(iz:σ t1=some (.tup [.none,.ref PV]))(iW:σ t2=some (.tup [.none,.ref fa]))
  (rF:σ PV=some (.inst 401 (aV (.str "list") (.ref PL) at_)))(lE:σ PL=some (.list (ps.map .ref)))(js:br (fun p cs=>cX σ p cs ts) ps pcs)(hfa:σ fa=some (.inst 401 (aV (.str "character") (.ref fl) .none)))(iw:σ fl=some (.list ws))(hws:gJ ws)(hN:ws.length≤1000)(Lq:ts.length≤1000)(BR:ts.Nodup)
  (hyp:∀hs,Lv ws hs→pcs.length=hs.length∧0<hs.length∧hs.length≤1000∧∀(j:Nat)(cs:List V)(qs:List Nat),pcs[j]? =some cs→(dw hs.length (cf (ws.map (b9 hs))) id (ws.map (b9 hs)).length)[j]? =some qs→cs.length=qs.length∧∀(s p:Nat),qs[s]? =some p→∃c,cs[s]? =some c∧eW ts c=tgt p)
  (jb:∀cs∈pcs,fX cs ts.length)(q:∀τ r hs,Ext σ τ→Lv ws hs→cX τ r ((md (ws.map (b9 hs)) tgt).map (b9 ts)) ts→Q (.ref r) τ):Call w (d+11) (.ref 1653) [ip,.ref As,env] σ Q:=by
 refine Ug fun Γ hd hv hg=>?_
 refine ae (aT.t6 hv (aw hd hg aN (by rfl') (aq (ah hv aD (aq (bq (ar rfl [] rfl ⟨aB,λF hF=>aK ?_⟩)))))))
 have E0:=af (o:=.list (uh.map .str)) hF
 refine wX (fs:=uh) (as:=[t1,t2]) (tvs:=[(none,.ref PV),(none,.ref fa)]) (ai _ _ _) (E0 _ _ hA) (.cons (E0 _ _ iz) (.cons (E0 _ _ iW) .nil)) (by simp) (by decide) okC aaZ (by intro p hp;simp[stC]at hp;rcases hp with rfl|rfl<;>simp) λτ R o E1 _ hR=>?_
 rw[aa0]at hR
 refine⟨R,_,_,rfl,.inr hR,.cons eM (.cons dR (.cons fh .nil)),?_⟩
 have E:=E0.trans E1
 refine ae (aM (aF (aU (aw hd hg aQ (by rfl') (ar hv [3] rfl ?_)))))
 refine m9 rfl (vk (E _ _ rF) (bu (ax (.ne .ss) ⟨_,rfl,ff rfl (au ?_)⟩)))
 refine ae (aS hv (aw hd hg cY (by rfl') (aq (aw hd hg aQ (by rfl') (ar hv [4] rfl ?_)))))
 refine m9 rfl (aK (aa1 (E _ _ hfa) (E _ _ iw) hws (by lia) λbU g hs E2 ku qu=>⟨_,eB,?_⟩))
 have E3:=E.trans E2
 obtain⟨y1,y2,y3,y4⟩:=hyp hs ku
 have zP:(ps.map V.ref).length≤1000000:=by rw[ay,js.len,y1];lia
 have BS:pcs[0]? =some (pcs[0]'(by lia)):=bL (by lia)
 obtain⟨p0,qi,jq⟩:=js.get BS
 have uf:(ps.map V.ref)[0]? =some (.ref p0):=by rw[dI,qi];rfl
 have ej:0<(ps.map V.ref).length:=by rw[ay,js.len,y1];exact y2
 have hpp:=jq
 obtain⟨_,_,_,_,_,_,f1,_⟩:=hpp
 refine ae (aM (c8 (aw hd hg fG (by rfl') (ar hv [5] rfl ?_))))
 refine w5 ⟨_,.bool,ff rfl (au ?_)⟩
 refine ae (aM (cw (bW (aF (aw hd hg kj (by rfl') (ar hv [3] rfl ?_))))))
 refine gn rfl (E3 _ _ rF) (E3 _ _ lE) zP (aW (ax .jc ⟨_,rfl,tt (i6 (by lia)) (bW ?_)⟩))
 refine c8 (aw hd hg kl (by rfl') (aq (bo (aU (aj hv 3 rfl rfl (vi (E3 _ _ rF) (aW (bO (i:=0) (E3 _ _ lE) uf zP (aK ?_)))))))))
 refine aaN (E3 _ _ f1) rfl ⟨_,.bool,ff rfl (ff rfl (au ?_))⟩
 refine ae (aM (cw (bW (aF (aw hd hg kj (by rfl') (ar hv [3] rfl ?_))))))
 refine gn rfl (E3 _ _ rF) (E3 _ _ lE) zP (aW (ax .jc ⟨_,rfl,tt (i6 (by lia)) (bW ?_)⟩))
 refine c8 (aw hd hg v_ (by rfl') (aq (bo (aU (aj hv 3 rfl rfl (vi (E3 _ _ rF) (aW (bO (i:=0) (E3 _ _ lE) uf zP (aK ?_)))))))))
 refine BQ (jq.ext E3) ⟨_,.bool,tt rfl (jL (tt rfl ?_))⟩
 refine ae (a_ (aw hd hg AM (by rfl') (aq (ah hv .here (aq (aU (aj hv 3 rfl rfl (vi (E3 _ _ rF) (aq (aj hv 6 rfl rfl (aq (aw hd hg ri (by rfl') (ar hv [6] rfl ?_)))))))))))))
 have rn:fX (ws.map (b9 hs)) hs.length:=wF ku.nodup ws
 refine Bv (qu.ext oW) (by lia) (by rw[ay];lia) rn λcH G bs l_=>aK ?_
 have E4:=E3.trans l_.1
 exact aaY (E4 _ _ lE) (fW js λ_ _ h=>h.ext E4) ((qu.ext oW).ext l_.1) l_.2.1 l_.2.2.1 rn y3 (by rw[ay];exact hN) y1 y2 Lq BR y4 jb λeP r E5 hf=>q eP r hs (E4.trans E5) ku hf
end
theorem Lw:∀{vs:List Value}{ns:List Int},vs.map er=ns.map V.int→∃ps:List (Int×Tok),vs=ps.map (λp=>Value.int p.1 p.2)∧ps.map (·.1)=ns
 | [],[],_=>⟨[],rfl,rfl⟩
 | [],n::ns,h=>by cases h
 |v::vs,[],h=>by cases h
 |v::vs,n::ns,h=>by
  rw[bx,bx,jD]at h
  refine cL (h.1) λt=>?_
  obtain⟨ps,rfl,rfl⟩:=Lw h.2
  exact⟨(n,t)::ps,rfl,rfl⟩
theorem Lx {ps:List (Int×Tok)}:∀j,j≤ps.length→preSum (numAt ps.toArray) j=((ps.map (·.1)).take j).sum
 |0,_=>by simp[preSum]
 |j+1,h=>by
  unfold preSum
  rw[Lx j (by lia),eY,List.sum_append]
  have hj:j<ps.length:=by lia
  have:numAt ps.toArray j=ps[j].1:=by unfold numAt;simp[hj]
  rw[this]
  simp[hj]
theorem BV:∀(ns:List Nat)(j:Nat),(ns.take j).sum≤ns.sum
 | [],_=>by simp
 |n::ns,0=>by simp
 |n::ns,j+1=>by have:=BV ns j;simp;lia
theorem Ly:∀(ns:List Nat),(ns.map (λn:Nat=>((n:Nat):Int))).sum=((ns.sum:Nat):Int)
 | []=>rfl
 |n::ns=>by rw[bx,List.sum_cons,List.sum_cons,Ly ns];lia
section
variable{w:World}{Γ:Ctx}{σ:Hp}{ρ:LO}{Q:PQ}{gls:LV}
theorem Op.BW {x:Str}(hz:x.length≤1000000)(q:Q (.int x.length) σ):∀as:List Value,as.map er=[.str x]→Op w Γ (PySem.call (.builtin "len") as) σ ρ Q:=by
 intro as ea S s D k X hk
 obtain⟨a,rfl,e1⟩:=args_1 ea
 refine gh e1 λt=>?_
 exact PyProof.Rows.len_str (by lia) (hk _ _ σ q (D.toks _))
theorem Op.max2 {x y:Int}(q:Q (.int (if y>x then y else x)) σ):∀as:List Value,as.map er=[.int x,.int y]→Op w Γ (PySem.call (.builtin "max") as) σ ρ Q:=by
 intro as ea S s D k X hk
 obtain⟨a,b,rfl,e1,e2⟩:=args_2 ea
 refine cL e1 λt=>?_
 refine cL e2 λu=>?_
 refine max_two_ints S.hh λh' tk pV=>?_
 have D':az w Γ {s with heap:=h',toks:=tk} σ ρ:=(D.grow (s':={s with heap:=h'}) pV rfl rfl).toks tk
 split at q
 next hc=>rw[ck hc];exact hk _ _ σ q D'
 next hc=>rw[bK hc];exact hk _ _ σ q D'
theorem Op.sum {l:Addr}{ns:List Nat}(hl:σ l=some (.list (ns.map vI)))(hz:ns.sum≤1000000)(q:Q (.int ((ns.sum:Nat):Int)) σ):∀as:List Value,as.map er=[.ref l]→Op w Γ (PySem.call (.builtin "sum") as) σ ρ Q:=by
 intro as ea S s D k X hk
 obtain⟨a,rfl,e1⟩:=args_1 ea
 refine bJ e1 ?_
 obtain⟨vs,hv,ev⟩:=(D.hr.at_ _ _ hl).isList
 have ev':vs.toList.map er=(ns.map λn:Nat=>((n:Nat):Int)).map V.int:=by rw[ev,kM];rfl
 obtain⟨ps,h1,h2⟩:=Lw ev'
 have ig:vs=intItems ps.toArray:=by
  apply Array.ext'
  rw[h1];unfold intItems;simp
 subst ig
 have hlen:ps.length=ns.length:=by have:=gf List.length h2;simpa using this
 have pre:∀j,j≤ps.length→preSum (numAt ps.toArray) j=(((ns.take j).sum:Nat):Int):=λj hj=>by
  rw[Lx j hj,h2,←List.map_take,Ly]
 refine sum_intList S.hh hv (λj hj=>?_) λh' tk t' pV=>?_
 have hj:j<ps.length:=by simpa using hj
 have e1:=pre j (by lia)
 have e2:=pre (j+1) (by lia)
 have e3:preSum (numAt ps.toArray) (j+1)=preSum (numAt ps.toArray) j+numAt ps.toArray j:=rfl
 have b1:=BV ns j
 have b2:=BV ns (j+1)
 unfold InLong
 constructor<;>lia
 have e:=pre ps.length (dp _)
 rw[hlen,fM,←hlen]at e
 have e':preSum (numAt ps.toArray) ps.toArray.size=((ns.sum:Nat):Int):=by simpa using e
 rw[e']
 exact hk _ _ σ q ((D.grow (s':={s with heap:=h'}) pV rfl rfl).toks tk)
inductive aa3 (Q:PQ)(v:V)(σ:Hp):Prop
 |mk (a:Addr) (ns:List Nat) (e:v=.ref a) (h:σ a=some (.list (ns.map vI))) (z:ns.sum≤1000000) (q:Q (.int ((ns.sum:Nat):Int)) σ)
theorem ak.Lz (hg:Γ.gls=gls) {x np pos e}(l:(x,V.cK (.builtin "sum"))∈gls)(h:ak w Γ e σ ρ (aa3 Q))
  (he:∀env,starEach [e] env=(false,eval e env)::starEach [] env:=by intro _;rfl)(hp:∀env,(backTo pos (starEach [e] env)).any (·.1)=false:=by intro _;rfl):ak w Γ (.Call (.Name x np) [e] [] pos) σ ρ Q:=
 gG (cm hg l ⟨"sum",rfl,aq (h.mono fun v aH ⟨a,xs,e1,e2,e3,q⟩=>aK (by subst e1;exact Op.sum e2 e3 q)) he⟩) hp
end
noncomputable def fJ (ls rs:List Str)(sep:Str):List Str:=rs.flatMap λr=>ls.map λl=>l++sep++r
noncomputable def BX (n:Nat):V→V→V
 |.int l,.int r=>.int (l+(r-1)*n)
 |_,_=>.none
noncomputable def g9 (n:Nat)(c1 c2:List V):List V:=(List.range c1.length).map λi=>BX n (c1[i]?.getD .none) (c2[i]?.getD .none)
noncomputable def dZ (ls:List Str):Nat:=(ls.map (·.length)).sum
theorem xd {ls:List Str}{s:Str}(h:s∈ls):s.length≤dZ ls:=by
 unfold dZ
 induction ls with
 |nil=>cases h
 |cons x r ih=>
  rw[bx,List.sum_cons]
  rcases aY.mp h with rfl|h
  lia
  have:=ih h;lia
noncomputable def qw:V→Option V
 |.str s=>some (vI s.length)
 |_=>none
theorem LA (ls:List Str):(ls.map V.str).filterMap qw=(ls.map (·.length)).map vI:=by
 induction ls with
 |nil=>rfl
 |cons x r ih=>rw[bx,gz];show vI x.length::_=_;rw[ih];rfl
theorem xe {ls rs:List Str}{sep:Str}:(fJ ls rs sep).length=rs.length*ls.length:=by
 unfold fJ
 induction rs with
 |nil=>simp
 |cons r rs ih=>rw[List.flatMap_cons,j6,ih,ay,List.length_cons,Nat.succ_mul];lia
section
variable{w:World}{Γ:Ctx}{ρ:LO}{d:Nat}{σ:Hp}{Q:PQ}{a g:Addr}{kind items attrs gl cD:V}
theorem aa4 {n:Int}(hn:n≤1000000)(q:Q (.int n) σ):Call w (d+1) (.ref 540) [.int n] σ Q:=by
 refine SO fun Γ hd hv hg=>?_
 exact ae (aM (aF (ah hv .here (cm hg aN (ax .jc ⟨_,rfl,ff (i5 (by lia)) (au (ae (a_ (ah hv .here q))))⟩)))))
inductive LB (a g:Addr)(c1 c2:List V)(ls rs:List Str)(sep:Str)(R L Nm A B:Addr)(cH:Hp)(C:Addr)(k:Nat)(τ:Hp)(ρ:LO):Prop
 |mk (o1:Option V) (o2:Option V) (o3:Option V) (cQ:τ=upd cH C (.list ((g9 ls.length c1 c2).take k))) (cR:ρ=[some (.ref a),some (.ref g),some (.str sep),some (.ref R),some (.ref L),some (.int ls.length),some (.int (((dZ ls:Int)*(rs.length:Int))+((dZ rs:Int)*(ls.length:Int)))),some (.ref Nm),o1,o2,some (.int c1.length),some (.ref A),some (.ref B),some (.ref C),o3])
inductive aa5 (a g:Addr)(ls rs:List Str)(sep:Str)(R L:Addr)(cA:Hp)(Nm:Addr)(k:Nat)(r:Str)(j:Nat)(τ:Hp)(ρ:LO):Prop
 |mk (o2:Option V) (cQ:τ=upd cA Nm (.list ((fJ ls (rs.take k) sep++(ls.take j).map λl=>l++sep++r).map .str))) (cR:ρ=[some (.ref a),some (.ref g),some (.str sep),some (.ref R),some (.ref L),some (.int ls.length),some (.int (((dZ ls:Int)*(rs.length:Int))+((dZ rs:Int)*(ls.length:Int)))),some (.ref Nm),some (.str r),o2,none,none,none,none,none])
inductive aa6 (a g:Addr)(ls rs:List Str)(sep:Str)(R L:Addr)(cA:Hp)(Nm:Addr)(k:Nat)(τ:Hp)(ρ:LO):Prop
 |mk (o1:Option V) (o2:Option V) (cQ:τ=upd cA Nm (.list ((fJ ls (rs.take k) sep).map .str))) (cR:ρ=[some (.ref a),some (.ref g),some (.str sep),some (.ref R),some (.ref L),some (.int ls.length),some (.int (((dZ ls:Int)*(rs.length:Int))+((dZ rs:Int)*(ls.length:Int)))),some (.ref Nm),o1,o2,none,none,none,none,none])
inductive aa7 (a g:Addr)(ls rs:List Str)(sep:Str)(R L:Addr)(cA:Hp)(Nm:Addr)(τ:Hp)(ρ:LO):Prop
 |mk (o1:Option V) (o2:Option V) (cQ:τ=upd cA Nm (.list ((fJ ls rs sep).map .str))) (cR:ρ=[some (.ref a),some (.ref g),some (.str sep),some (.ref R),some (.ref L),some (.int ls.length),some (.int (((dZ ls:Int)*(rs.length:Int))+((dZ rs:Int)*(ls.length:Int)))),some (.ref Nm),o1,o2,none,none,none,none,none])
theorem aa8 {c1 c2:List V}{ls rs:List Str}{sep:Str}(hf:cX σ a c1 ls)(mj:cX σ g c2 rs)(hl:ls.length≤100)(hr:rs.length≤100)(s1:dZ ls≤1000)(s2:dZ rs≤1000)(s3:sep.length≤1000)(hN:c1.length≤1000)(xg:0<c1.length)(rG:c2.length=c1.length)
  (LC:fX c1 ls.length)(LD:fX c2 rs.length)(q:∀τ r,Ext σ τ→cX (new σ τ) r (g9 ls.length c1 c2) (fJ ls rs sep)→Q (.ref r) τ):Call w (d+6) (.ref 1356) [.ref a,.ref g,.str sep] σ Q:=by
 have zl:(ls.map V.str).length≤1000000:=by rw[ay];lia
 have zr:(rs.map V.str).length≤1000000:=by rw[ay];lia
 refine T7 fun Γ hd hv hg=>?_
 refine ae (aS hv (aw hd hg aN (by rfl') (ar hv [1] rfl ?_)))
 refine oY mj (by lia) λR hR=>⟨_,eM,?_⟩
 have E1:=af (o:=.list (rs.map V.str)) hR
 refine ae (aS hv (aw hd hg aN (by rfl') (ar hv [0] rfl ?_)))
 refine oY (hf.ext E1) (by lia) λL hL=>⟨_,dR,?_⟩
 have E2:=E1.trans (af (o:=.list (ls.map V.str)) hL)
 have ui:(upd (upd σ R (.list (rs.map V.str))) L (.list (ls.map V.str))) R=some (.list (rs.map .str)):=af hL _ _ (ai _ _ _)
 have uj:(upd (upd σ R (.list (rs.map V.str))) L (.list (ls.map V.str))) L=some (.list (ls.map .str)):=ai _ _ _
 revert E2 ui uj;refine gen ((upd (upd σ R (.list (rs.map V.str))) L (.list (ls.map V.str)))) ?_;intro LF E2 ui uj
 refine ae (aS hv (cj hg aQ (aj hv 4 rfl rfl ⟨L,_,rfl,uj,zl,_,fh,?_⟩)))
 rw[ay]
 refine ae (aS hv (bC (bC (ak.Lz hg cn (fT hv (WB (w:=w) hv (by rfl) (by rfl)) (.loc (.loc .nil)) aQ (pt:=λy=>bX) (aj hv 4 rfl rfl ⟨L,_,qw,rfl,uj,zl,?_,λD hD=>⟨D,ls.map (·.length),rfl,by rw[LA];exact ai _ _ _,by unfold dZ at s1;lia,cj hg aQ (aj hv 3 rfl rfl ⟨R,_,rfl,af hD _ _ ui,zr,Op.q8 (by unfold dZ at s1;lia) ?_⟩)⟩⟩))))))
 intro y hy τ F Γc e1 e2 e3
 refine bZ hy λs hs=>?_
 have:=xd hs
 refine dE ⟨fun _=>gG (cm e3 aN ⟨"len",rfl,ar e2 [1] rfl (Op.BW (by lia) ⟨rfl,rfl⟩)⟩),tf⟩
 rw[ay]
 have F1:=af (o:=.list ((ls.map V.str).filterMap qw)) hD
 refine bC (ak.Lz hg cn (fT hv (WG (w:=w) hv (by rfl) (by rfl)) (.loc (.loc .nil)) aQ (pt:=λy=>bX) (aj hv 3 rfl rfl ⟨R,_,qw,rfl,F1 _ _ ui,zr,?_,λD2 jU=>⟨D2,rs.map (·.length),rfl,by rw[LA rs];exact ai _ _ _,by unfold dZ at s2;lia,aj hv 5 rfl rfl (Op.q8 (by unfold dZ at s2;lia) (Op.jd ⟨_,eB,?_⟩))⟩⟩)))
 intro y hy τ F Γc e1 e2 e3
 refine bZ hy λs hs=>?_
 have:=xd hs
 refine dE ⟨fun _=>gG (cm e3 aN ⟨"len",rfl,ar e2 [1] rfl (Op.BW (by lia) ⟨rfl,rfl⟩)⟩),tf⟩
 have F2:=F1.trans (af (o:=.list ((rs.map V.str).filterMap qw)) jU)
 have E3:=E2.trans F2
 have xh:=F2 _ _ ui
 have rH:=F2 _ _ uj
 revert F2 E3 xh rH;refine gen ((upd (upd LF D (.list ((ls.map V.str).filterMap qw))) D2 (.list ((rs.map V.str).filterMap qw)))) ?_;intro cA F2 E3 xh rH
 have p1:dZ ls*rs.length≤1000*100:=Nat.mul_le_mul s1 hr
 have p2:dZ rs*ls.length≤1000*100:=Nat.mul_le_mul s2 hl
 have p3:ls.length*rs.length≤100*100:=Nat.mul_le_mul hl hr
 have p4:sep.length*(ls.length*rs.length)≤1000*(100*100):=Nat.mul_le_mul s3 p3
 refine ae (aM (aF (bC (aj hv 6 rfl rfl (bC (gG (cm hg aQ ⟨"len",rfl,ar hv [2] rfl (Op.BW (by lia) (aw hd hg cY (by rfl') (aq (bC (aj hv 5 rfl rfl (cj hg aQ (aj hv 3 rfl rfl ⟨R,_,rfl,xh,zr,Op.q8 (by lia) (aK ?_)⟩)))))))⟩)))))))
 rw[ay]
 have q3:((ls.length:Int)*(rs.length:Int))≤10000:=by lia
 refine aa4 (by lia) (Op.q8 (by lia) (Op.jd (cm hg fG (ax .jc ⟨_,rfl,ff (i5 ?_) (au ?_)⟩))))
 have q1:((dZ ls:Int)*(rs.length:Int))≤100000:=by lia
 have q2:((dZ rs:Int)*(ls.length:Int))≤100000:=by lia
 have q4:((sep.length:Int)*((ls.length:Int)*(rs.length:Int)))≤10000000:=by
  rw[←Int.natCast_mul,←Int.natCast_mul];exact Int.ofNat_le.mpr p4
 show ¬((dZ ls:Int)*(rs.length:Int)+(dZ rs:Int)*(ls.length:Int)+(sep.length:Int)*((ls.length:Int)*(rs.length:Int))>20000000)
 lia
 refine ae (aS hv (bq (aK ⟨aB,λNm BY=>⟨_,gV,?_⟩⟩)))
 have bl:∀{l r:Str},l∈ls→r∈rs→l.length+sep.length≤1000000∧(l++sep).length+r.length≤1000000:=λ{l r} h1 h2=>by
  have:=xd h1
  have:=xd h2
  rw[strLen_append];lia
 have LG:∀k,(fJ ls (rs.take k) sep).length≤10000:=λk=>by
  rw[xe]
  have:(rs.take k).length≤100:=by rw[eZ];lia
  exact dO (Nat.mul_le_mul this hl) (by decide)
 refine fU (aa7 a g ls rs sep R L cA Nm) ?_ ?_
 refine fF hv (aj hv 3 rfl rfl ⟨R,rs.map .str,aa6 a g ls rs sep R L cA Nm,rfl,⟨_,_,by simp[fJ],rfl⟩,?_,?_,?_⟩)
 (intro k τ ρ zqA;obtain⟨o1,o2,rfl,rfl⟩:=zqA);exact af BY _ _ xh
 intro k τ ρ y zqA;obtain⟨o1,o2,rfl,rfl⟩:=zqA;intro hy
 obtain⟨r,LH,rfl⟩:∃s,rs[k]? =some s∧V.str s=y:=by simpa using hy
 refine⟨_,je,λown=>?_⟩
 obtain⟨hd,hv,hg⟩:=dF own hd hv hg
 refine ae (fF hv (aj hv 4 rfl rfl ⟨L,ls.map .str,aa5 a g ls rs sep R L cA Nm k r,rfl,⟨_,by simp,rfl⟩,?_,?_,?_⟩))
 (intro j τ ρ zqA;obtain⟨o2,rfl,rfl⟩:=zqA);exact af BY _ _ rH
 intro j τ ρ y zqA;obtain⟨o2,rfl,rfl⟩:=zqA;intro hy
 obtain⟨l,LI,rfl⟩:∃s,ls[j]? =some s∧V.str s=y:=by simpa using hy
 refine⟨_,vG,λown=>?_⟩
 obtain⟨hd,hv,hg⟩:=dF own hd hv hg
 obtain⟨b1,b2⟩:=bl (cS LI) (cS LH)
 refine ae (eH (aj hv 7 rfl rfl ⟨Nm,rfl,⟨_,ai _ _ _⟩,bC (bC (aj hv 9 rfl rfl (aj hv 2 rfl rfl (Op.lT b1 (aj hv 8 rfl rfl (Op.lT b2 ⟨_,ai _ _ _,?_,au ⟨_,?_,rfl⟩⟩))))))⟩))
 rw[ay,j6,ay,eZ]
 have:=LG k;lia
 rw[dk,eY,LI];simp
 intro τ ρ zqA;obtain⟨o2,rfl,rfl⟩:=zqA
 refine au ⟨_,_,?_,rfl⟩
 rw[ay,fM,eY,LH]
 unfold fJ
 rw[List.flatMap_append];simp
 intro τ ρ zqA;obtain⟨o1,o2,rfl,rfl⟩:=zqA
 exact⟨_,_,by rw[ay,fM],rfl⟩
 intro τ ρ zqA;obtain⟨o1,o2,rfl,rfl⟩:=zqA
 have E4:=E3.trans (af (o:=.list ((fJ ls rs sep).map V.str)) BY)
 have BZ:(upd cA Nm (.list ((fJ ls rs sep).map V.str))) Nm=some (.list ((fJ ls rs sep).map .str)):=ai _ _ _
 revert E4 BZ;refine gen ((upd cA Nm (.list ((fJ ls rs sep).map V.str)))) ?_;intro bU E4 BZ
 have LJ:=hf.ext E4
 have LK:=mj.ext E4
 obtain⟨a1,_,_,_,_,_,f1,f2,_⟩:=id LJ
 obtain⟨a2,_,_,_,_,_,f3,f4,_⟩:=id LK
 have rI:c1.length≤1000000:=by lia
 have uk:c2.length≤1000000:=by lia
 refine ae (aS hv (gG (cm hg kj ⟨"max",rfl,aq (aw hd hg kl (by rfl') (ar hv [0] rfl ?_))⟩)))
 refine gn rfl f1 f2 rI (aq (aw hd hg kl (by rfl') (ar hv [1] rfl ?_)))
 refine gn rfl f3 f4 uk (aK (Op.max2 ⟨_,vH,?_⟩))
 have hmx:(if(c2.length:Int)>(c1.length:Int)then(c2.length:Int)else(c1.length:Int))=(c1.length:Int):=by rw[rG];simp
 rw[hmx]
 refine ae (aM (cw (dK (aF (aw hd hg kl (by rfl') (ar hv [0] rfl ?_))))))
 refine gn rfl f1 f2 rI (aW (ax (.eq .ii) ⟨_,rfl,ff (jB.mpr (by lia)) (dK (aF (aw hd hg kl (by rfl') (ar hv [1] rfl ?_))))⟩))
 refine gn rfl f3 f4 uk (aW (ax (.eq .ii) ⟨_,rfl,ff (jB.mpr (by lia)) (kU (ff rfl (au ?_)))⟩))
 refine ae (aS hv (aw hd hg iO (by rfl') (ar hv [0] rfl ?_)))
 refine wG LJ (by lia) rI LC λA hA=>⟨_,zE,?_⟩
 have G1:=af (o:=.list c1) hA
 refine ae (aS hv (aw hd hg iO (by rfl') (ar hv [1] rfl ?_)))
 refine wG (LK.ext G1) (by lia) uk LD λB hB=>⟨_,Ew,?_⟩
 have G2:=G1.trans (af (o:=.list c2) hB)
 have pf:(upd (upd bU A (.list c1)) B (.list c2)) A=some (.list c1):=af hB _ _ (ai _ _ _)
 have xi:(upd (upd bU A (.list c1)) B (.list c2)) B=some (.list c2):=ai _ _ _
 have B2:=G2 _ _ BZ
 have E5:=E4.trans G2
 revert G2 pf xi B2 E5;refine gen ((upd (upd bU A (.list c1)) B (.list c2))) ?_;intro cH G2 pf xi B2 E5
 refine ae (aS hv (bq (aK ⟨aB,λC hC=>⟨_,zH,?_⟩⟩)))
 refine ae (jP hv hg ri (aj hv 10 rfl rfl ⟨c1.length,LB a g c1 c2 ls rs sep R L Nm A B cH C,rfl,rI,⟨_,_,_,by simp,rfl⟩,?_,?_⟩))
 intro k τ ρ zqA;obtain⟨o1,o2,o3,rfl,rfl⟩:=zqA;intro hk
 refine⟨_,Ex,λown=>?_⟩
 obtain⟨hd,hv,hg⟩:=dF own hd hv hg
 have G3:Ext cH (upd cH C (.list ((g9 ls.length c1 c2).take k))):=af hC
 have k1:c1[k]? =some c1[k]:=bL hk
 have k2:c2[k]? =some (c2[k]'(by lia)):=bL (by lia)
 have m1:=LC _ (hO hk)
 have m2:=LD _ (cS k2)
 have cz1:(c1.length:Int)≠0:=by lia
 have cz2:(c2.length:Int)≠0:=by lia
 have et:(g9 ls.length c1 c2).length=c1.length:=by unfold g9;simp
 have eV:(g9 ls.length c1 c2)[k]? =some (BX ls.length c1[k] (c2[k]'(by lia))):=by
  unfold g9
  rw[dI,List.getElem?_range hk]
  simp[k1,k2]
 revert k1 m1 eV;refine gen (c1[k]) ?_;intro x k1 m1 eV
 revert k2 m2 eV;refine gen (c2[k]'(by lia)) ?_;intro y k2 m2 eV
 refine ae (aS hv (bo (aj hv 11 rfl rfl (bC (aj hv 14 rfl rfl (cj hg aQ (aj hv 11 rfl rfl ⟨A,_,rfl,G3 _ _ pf,rI,fC cz1 (eh (i:=k) (G3 _ _ pf) (by rw[fq,Nat.mod_eq_of_lt hk]) k1 rI ⟨_,vG,?_⟩)⟩)))))))
 refine ae (aS hv (bo (aj hv 12 rfl rfl (bC (aj hv 14 rfl rfl (cj hg aQ (aj hv 12 rfl rfl ⟨B,_,rfl,G3 _ _ xi,uk,fC cz2 (eh (i:=k) (G3 _ _ xi) (by rw[fq,rG,Nat.mod_eq_of_lt hk]) k2 uk ⟨_,je,?_⟩)⟩)))))))
 have B3:((g9 ls.length c1 c2).take k).length≤1000000:=by rw[eZ,et];lia
 have fin:∀v,v=BX ls.length x y→LB a g c1 c2 ls rs sep R L Nm A B cH C (k+1) (upd (upd cH C (.list ((g9 ls.length c1 c2).take k))) C (.list ((g9 ls.length c1 c2).take k++[v]))) [some (V.ref a),some (.ref g),some (.str sep),some (.ref R),some (.ref L),some (.int ls.length),some (.int (((dZ ls:Int)*(rs.length:Int))+((dZ rs:Int)*(ls.length:Int)))),some (.ref Nm),some y,some x,some (.int c1.length),some (.ref A),some (.ref B),some (.ref C),some (.int (k:Int))]:=λv hv=>by
  refine⟨_,_,_,?_,rfl⟩
  rw[dk,eY,eV,hv];rfl
 refine ae (aM (cw (dK (aF (aj hv 9 rfl rfl (bg (ax .bB ⟨_,rfl,λh1=>tt rfl ?_,λh1=>dK (aF (aj hv 8 rfl rfl (bg (ax .bB ⟨_,rfl,λh2=>tt rfl ?_,λh2=>kU (ff rfl ?_)⟩))))⟩)))))))
 refine ae (eH (aj hv 13 rfl rfl ⟨C,rfl,⟨_,ai _ _ _⟩,bg ⟨_,ai _ _ _,B3,au (au (fin _ ?_))⟩⟩))
 rcases m1 with rfl|⟨j,hj,rfl⟩
 rfl
 cases h1
 refine ae (eH (aj hv 13 rfl rfl ⟨C,rfl,⟨_,ai _ _ _⟩,bg ⟨_,ai _ _ _,B3,au (au (fin _ ?_))⟩⟩))
 rcases m2 with rfl|⟨j,hj,rfl⟩
 cases x<;>rfl
 cases h2
 rcases m1 with rfl|⟨i,hi,rfl⟩
 cases h1
 rcases m2 with rfl|⟨j,hj,rfl⟩
 cases h2
 exact ae (eH (aj hv 13 rfl rfl ⟨C,rfl,⟨_,ai _ _ _⟩,bC (aj hv 9 rfl rfl (bC (bC (aj hv 8 rfl rfl (aW (Op.pK (aj hv 5 rfl rfl (Op.q8 (by lia) (Op.jd ⟨_,ai _ _ _,B3,au (au (fin _ rfl))⟩)))))))))⟩))
 intro τ ρ zqA;obtain⟨o1,o2,o3,rfl,rfl⟩:=zqA
 have et:(g9 ls.length c1 c2).length=c1.length:=by unfold g9;simp
 have xj:=LG rs.length
 rw[fM]at xj
 rw[←et,fM]
 have G3:Ext cH (upd cH C (.list (g9 ls.length c1 c2))):=af hC
 refine ae (a_ (aw hd hg v_ (by rfl') (aq (aw hd hg AM (by rfl') (ar hv [13] rfl ?_)))))
 refine nA (ai _ _ _) (by lia) λeP r rb F7 jV Bq r1 r2=>ar hv [7] rfl ?_
 have E6:=E5.trans (G3.trans F7)
 have r0:=(E5.trans G3).none jV
 exact Kj r1 r2 (F7 _ _ (G3 _ _ B2)) (by lia) λdU F8 hF=>q dU r ((Ext.rt E6 r0).trans F8) (hF σ E6 r0 ((E5.trans G3).none Bq))
end
section
variable{w:World}{Γ:Ctx}{ρ:LO}{d:Nat}{σ:Hp}{Q:PQ}{a g:Addr}{kind items attrs gl cD:V}
theorem LM {codes:List V}{ts:List Str}(h:cX σ a codes ts)(q:Q (.ref a) σ):Call w (d+4) (.ref 1346) [.ref a] σ Q:=by
 refine Iy fun Γ hd hv hg=>?_
 refine ae (aM (c8 (aw hd hg aN (by rfl') (ar hv [0] rfl ?_))))
 exact BQ h ⟨_,.bool,tt rfl (ae (a_ (ah hv .here q)))⟩
theorem aa9 {L:Addr}{sep:V}{codes:List V}{ts:List Str}(hL:σ L=some (.list [.ref a]))(h:cX σ a codes ts)(q:Q (.ref a) σ):Call w (d+5) (.ref 1363) [.ref L,sep] σ Q:=by
 refine jn ?_
 refine IC fun Γ hd hv hg=>?_
 refine ae (aS hv (aw hd hg aN (by rfl') (aq (bo (ah hv .here (aW (bO (i:=0) hL rfl aB (aK ?_))))))))
 refine LM h ⟨_,eL,ae ?_⟩
 refine fF hv (ak.sliceFrom (ah hv .here (aW ⟨L,[.ref a],1,rfl,rfl,hL,aB,by simp,λb hb=>⟨b,[],λk τ ρ=>τ=upd σ b (.list [])∧ρ=[some (.ref L),some sep,some (.ref a),none],rfl,⟨rfl,rfl⟩,?_,?_,?_⟩⟩)))
 (intro k τ ρ zqA;obtain⟨rfl,_⟩:=zqA);exact ai _ _ _
 rintro k τ ρ y _ hy;cases hy
 intro τ ρ zqA;obtain⟨rfl,rfl⟩:=zqA
 exact ae (a_ (aj hv 2 rfl rfl ⟨σ,af hb,q⟩))
theorem aa_ {L v1 v2 l1 l2:Addr}{sep:Str}{gw iA:List V}(hL:σ L=some (.list [.ref v1,.ref v2]))(h1:σ v1=some (.inst 401 (aV (.str "character") (.ref l1) .none)))(h2:σ l1=some (.list gw))(h3:σ v2=some (.inst 401 (aV (.str "character") (.ref l2) .none)))(h4:σ l2=some (.list iA))
  (t1:gJ gw)(t2:gJ iA)(hN:gw.length≤1000)(xg:0<gw.length)(rG:iA.length=gw.length)(s3:sep.length≤1000)(b1:∀ls,Lv gw ls→ls.length≤100∧dZ ls≤1000)(b2:∀rs,Lv iA rs→rs.length≤100∧dZ rs≤1000)
  (q:∀τ r ls rs,Ext σ τ→Lv gw ls→Lv iA rs→cX (new σ τ) r (g9 ls.length (gw.map (b9 ls)) (iA.map (b9 rs))) (fJ ls rs sep)→Q (.ref r) τ):Call w (d+10) (.ref 1363) [.ref L,.str sep] σ Q:=by
 refine IC fun Γ hd hv hg=>?_
 refine ae (aS hv (aw hd hg aN (by rfl') (aq (bo (ah hv .here (aW (bO (i:=0) hL rfl aB (aK ?_))))))))
 refine wD h1 h2 t1 (by lia) λcA g1 ls E1 um f1=>⟨_,eL,ae ?_⟩
 refine fF hv (ak.sliceFrom (ah hv .here (aW ⟨L,[.ref v1,.ref v2],1,rfl,rfl,E1 _ _ hL,aB,by simp,λb hb=>⟨b,[.ref v2],λk τ ρ=>(k=0∧τ=upd cA b (.list [.ref v2])∧ρ=[some (.ref L),some (.str sep),some (.ref g1),none])∨(k=1∧∃r rs o,Ext σ τ∧Lv iA rs∧cX (new σ τ) r (g9 ls.length (gw.map (b9 ls)) (iA.map (b9 rs))) (fJ ls rs sep)∧τ b=some (.list [.ref v2])∧ρ=[some (.ref L),some (.str sep),some (.ref r),o]),rfl,.inl ⟨rfl,rfl,rfl⟩,?_,?_,?_⟩⟩)))
 rintro k τ ρ (⟨_,rfl,_⟩|⟨_,r,rs,o,_,_,_,cg,_⟩)
 exact ai _ _ _
 exact cg
 rintro k τ ρ y (⟨rfl,rfl,rfl⟩|⟨rfl,_⟩) hy
 cases hy
 refine⟨_,eM,λown=>?_⟩
 obtain⟨hd,hv,hg⟩:=dF own hd hv hg
 have E2:=E1.trans (af (o:=.list [.ref v2]) hb)
 refine ae (aS hv (aw hd hg aQ (by rfl') (aq (aj hv 2 rfl rfl (aq (aw hd hg aN (by rfl') (ar hv [3] rfl ?_)))))))
 refine wD (E2 _ _ h3) (E2 _ _ h4) t2 (by lia) λbU g2 rs E3 nP f2=>ar hv [1] rfl ?_
 have E4:=(af (o:=.list [.ref v2]) hb).trans E3
 obtain⟨y1,y2⟩:=b1 ls um
 obtain⟨y3,y4⟩:=b2 rs nP
 refine aa8 ((f1.ext oW).ext E4) (f2.ext oW) y1 y3 y2 y4 s3 (by rw[ay];exact hN) (by rw[ay];exact xg) (by rw[ay,ay];exact rG) (wF um.nodup gw) (wF nP.nodup iA) λcH r E5 hf=>⟨_,eL,au (.inr ⟨rfl,r,rs,_,(E2.trans E3).trans E5,nP,hf.ext (Kh (E2.trans E3) (.refl _)),E5 _ _ (E3 _ _ (ai _ _ _)),rfl⟩)⟩
 cases hy
 rintro τ ρ (⟨h,_⟩|⟨_,r,rs,o,E,nP,hf,_,rfl⟩)
 cases h
 exact ae (a_ (aj hv 2 rfl rfl (q τ r ls rs E um nP hf)))
theorem aba {f L v1 v2 l1 l2:Addr}{sep:Str}{gw iA:List V}{at_:V}(hf:σ f=some (.inst 401 (aV (.str "list") (.ref L) at_)))(hL:σ L=some (.list [.ref v1,.ref v2]))(h1:σ v1=some (.inst 401 (aV (.str "character") (.ref l1) .none)))(h2:σ l1=some (.list gw))(h3:σ v2=some (.inst 401 (aV (.str "character") (.ref l2) .none)))(h4:σ l2=some (.list iA))
  (t1:gJ gw)(t2:gJ iA)(hN:gw.length≤1000)(xg:0<gw.length)(rG:iA.length=gw.length)(s3:sep.length≤1000)(b1:∀ls,Lv gw ls→ls.length≤100∧dZ ls≤1000)(b2:∀rs,Lv iA rs→rs.length≤100∧dZ rs≤1000):
  w6 w (d+1) σ (.ref f) sep λcodes ts=>∃ls rs,Lv gw ls∧Lv iA rs∧codes=g9 ls.length (gw.map (b9 ls)) (iA.map (b9 rs))∧ts=fJ ls rs sep:=by
 intro τ E Q q
 show Call w (d+11) _ _ _ _
 refine IK fun Γ hd hv hg=>?_
 refine ae (aM (aF (aU (ah hv .here (vk (E _ _ hf) (bu (ax (.eq .ss) ⟨_,rfl,tt rfl (ae ?_)⟩)))))))
 refine aM (aF (cj hg aN (aU (ah hv .here (vi (E _ _ hf) ⟨L,_,rfl,E _ _ hL,aB,aW (ax (.eq .ii) ⟨_,rfl,ff rfl (au (ae (a_ (aw hd hg cn (by rfl') (aq (aU (ah hv .here (vi (E _ _ hf) (ar hv [1] rfl ?_)))))))))⟩)⟩)))))
 exact aa_ (E _ _ hL) (E _ _ h1) (E _ _ h2) (E _ _ h3) (E _ _ h4) t1 t2 hN xg rG s3 b1 b2 λbf r ls rs E' um nP hf=>q bf r _ _ E' hf ⟨ls,rs,um,nP,rfl,rfl⟩
end
section
variable{w:World}{Γ:Ctx}{ρ:LO}{d:Nat}{σ:Hp}{Q:PQ}{QT:PF}{a:Addr}
theorem su {υ τ bf:Hp}{o:MO}(e:bf=upd τ a o)(E:Ext υ τ)(h:υ a=none):Ext υ bf∧bf a=some o∧∀x o',x≠a→τ x=some o'→bf x=some o':=by
 subst e
 exact⟨E.upd h,ai _ _ _,λx o' hx h=>(aJ hx).trans h⟩
inductive abb (w:World)(QT:PF)(attr:Str)(ρ:LO)(v ov:V)(σ:Hp):Prop
 |mk (a C:Addr) (fs c9:List (Str×Option V)) (e:ov=.ref a) (h:σ a=some (.inst C fs)) (s:Sf fs attr v c9) (l:c9.length≤1000) (c:gE w C=true) (f:bP w C attr=true) (q:∀τ,τ=upd σ a (.inst C c9)→QT .next τ ρ)
theorem aT.abc {o attr apos value pos}(h:ak w Γ value σ ρ (J0 w Γ o ρ (abb w QT attr ρ)))
  (hs:∀env,swapsWithSole [.Attribute o attr apos] value pos.line env=pure false:=by intro _;rfl)(hw:∀env,swappedStores [.Attribute o attr apos] value env=pure none:=by intro _;rfl):
  aT w Γ (.Assign [.Attribute o attr apos] value pos) σ ρ QT:=
 ic (h.mono λv τ q=>q.mono λov bf ⟨a,C,fs,c9,h1,h2,h3,h4,h5,h6,h7⟩=>⟨a,C,fs,c9,h1,h2,h3,h4,h5,h6,h7 _ rfl⟩) hs hw
def cJ:= @aT.abc
theorem aT.abd {o attr apos op value pos}(h:ak w Γ o σ ρ λov aH=>∀o',er o'=ov→Op w Γ (getAttr o' attr true) aH ρ λold aZ=>ak w Γ value aZ ρ λv lS=>∀a' b',er a'=old→er b'=v→Op w Γ (inplaceOp op a' b') lS ρ λnv mZ=>∃a C fs c9,ov=.ref a∧mZ a=some (.inst C fs)∧Sf fs attr nv c9∧c9.length≤1000∧gE w C=true∧bP w C attr=true∧QT .next (upd mZ a (.inst C c9)) ρ):
  aT w Γ (.AugAssign (.Attribute o attr apos) op value pos) σ ρ QT:=by
 refine⟨λS s D k X hk=>wpAny_AugAssign_AttributeAny (h.run S s D _ X λov av aH q aL=>?_)⟩
 refine q ov rfl S av aL _ X λold aG aZ b_ aA=>?_
 refine b_.run S aG aA _ X λv bI lS kg bN=>?_
 refine kg old v rfl rfl S bI bN _ X λnv gi mZ abe jh=>?_
 obtain⟨a,C,fs,c9,eo,ha,hf,hl,hc,hn,qq⟩:=abe
 refine bJ eo ?_
 exact Fi S jh ha hf hl hc hn λpZ pU=>hk .next pZ _ ρ qq pU
theorem abf (w:World):bP w 1985 "limit"=true:=by rfl'
theorem abg (w:World):bP w 1985 "most_frames"=true:=by rfl'
theorem abh (w:World):bP w 1985 "steps"=true:=by rfl'
theorem xk (w:World):bP w 1985 "next_number"=true:=by rfl'
theorem LN (w:World):bP w 1985 "base"=true:=by rfl'
theorem abi (w:World):bP w 1985 "frames"=true:=by rfl'
theorem abj (w:World):bP w 1985 "out"=true:=by rfl'
theorem abk (w:World):bP w 1985 "handlers"=true:=by rfl'
theorem abl (w:World):bP w 1985 "restarts"=true:=by rfl'
theorem abm (w:World):bP w 1985 "targets"=true:=by rfl'
theorem abn (w:World):bP w 1985 "signaller"=true:=by rfl'
theorem abo (w:World):bP w 1985 "deparser"=true:=by rfl'
theorem abp (w:World):bP w 1985 "s4"=true:=by rfl'
theorem LP (w:World):ki w 1985 "new_env" 1801=true:=by rfl'
theorem qy (w:World):gE w 487=true:=by rfl'
theorem abq (w:World):bP w 487 "kind"=true:=by rfl'
theorem abr (w:World):bP w 487 "number"=true:=by rfl'
theorem abt (w:World):bP w 487 "parent"=true:=by rfl'
theorem abu (w:World):bP w 487 "attrs"=true:=by rfl'
theorem abv (w:World):bP w 487 "frame"=true:=by rfl'
theorem abw (w:World):bP w 487 "locked"=true:=by rfl'
theorem abx (w:World):bP w 487 "locks"=true:=by rfl'
theorem aby {n p:V}(q:∀τ e,Ext σ τ→σ e=none→Q (.ref e) τ):Call w (d+2) (.ref 487) [n,p] σ Q:=by
 refine Call.cls (fI:=484) (by rfl') (by rfl') (by rfl') λa bQ=>?_
 have ha:(upd σ a (.inst 487 [])) a=some (.inst 487 []):=ai _ _ _
 have E:Ext σ (upd σ a (.inst 487 [])):=af bQ
 revert ha E;refine gen (upd σ a (.inst 487 [])) ?_;intro τ ha E
 refine SM fun Γ hd hv hg=>?_
 refine ae (cJ (bu (ah hv .here ⟨a,487,_,_,rfl,ha,(.nil),bG,qy w,abq w,λτ e=>?_⟩)))
 obtain⟨E,ha,k⟩:=su e (E) bQ
 refine ae (cJ (ah hv aD (ah hv .here ⟨a,487,_,_,rfl,ha,(oE (by rfl')),bG,qy w,abr w,λτ e=>?_⟩)))
 obtain⟨E,ha,k⟩:=su e (E) bQ
 refine ae (cJ (aj hv 2 rfl rfl (ah hv .here ⟨a,487,_,_,rfl,ha,(oF (by rfl')),bG,qy w,abt w,λτ e=>?_⟩)))
 obtain⟨E,ha,k⟩:=su e (E) bQ
 refine ae (cJ (aj hv 3 rfl rfl (ah hv .here ⟨a,487,_,_,rfl,ha,(q_ (by rfl')),bG,qy w,abu w,λτ e=>?_⟩)))
 obtain⟨E,ha,k⟩:=su e (E) bQ
 refine ae (cJ (ak.oD λx hx=>ah hv .here ⟨a,487,_,_,rfl,af hx _ _ ha,(s9 (by rfl')),bG,qy w,abv w,λτ e=>?_⟩))
 obtain⟨E,ha,k⟩:=su e (E.trans (af hx)) bQ
 refine ae (cJ (gR (ah hv .here ⟨a,487,_,_,rfl,ha,(vM (by rfl')),bG,qy w,abw w,λτ e=>?_⟩)))
 obtain⟨E,ha,k⟩:=su e (E) bQ
 refine ae (cJ (ak.oD λx hx=>ah hv .here ⟨a,487,_,_,rfl,af hx _ _ ha,(zV (by rfl')),bG,qy w,abx w,λτ e=>?_⟩))
 obtain⟨E,ha,k⟩:=su e (E.trans (af hx)) bQ
 exact au ⟨rfl,q _ a E bQ⟩
theorem LQ {fs c9:List (Str×Option V)}{n:Int}{p:V}(ha:σ a=some (.inst 1985 fs))(hn:(Str.ofString "next_number",some (V.int n))∈fs)(hs:Sf fs (Str.ofString "next_number") (.int (n+1)) c9)(hl:c9.length≤1000)
  (q:∀τ e,Ext (off σ a) τ→σ e=none→τ a=some (.inst 1985 c9)→Q (.ref e) τ):Call w (d+3) (.ref 1801) [.ref a,p] σ Q:=by
 refine Um fun Γ hd hv hg=>?_
 refine ae (aS hv (aw hd hg aN (by rfl') (aq (aU (ah hv .here (bF ha hn (cz w) (xk w) rfl (ar hv [1] rfl ?_)))))))
 refine aby λτ e E he=>⟨_,eL,?_⟩
 refine ae (aT.abd (ah hv .here (bF (E _ _ ha) hn (cz w) (xk w) rfl (aW (Op.wq ⟨a,1985,_,_,rfl,E _ _ ha,hs,hl,cz w,xk w,?_⟩)))))
 exact ae (a_ (aj hv 2 rfl rfl (q _ e ((c_.trans E).upd dA) he (ai _ _ _))))
theorem xl {n:V}(q:∀τ a g W,Ext σ τ→σ a=none→σ W=none→W≠a→τ a=some (.inst 1985 (gu (.ref g) (.ref W) (.bool true)))→τ W=some (.list [])→Q (.ref a) τ):Call w (d+5) (.ref 1985) [n] σ Q:=by
 refine Call.cls (fI:=1794) (by rfl') (by rfl') (by rfl') λa bQ=>?_
 have ha:(upd σ a (.inst 1985 [])) a=some (.inst 1985 []):=ai _ _ _
 have E:Ext σ (upd σ a (.inst 1985 [])):=af bQ
 revert ha E;refine gen (upd σ a (.inst 1985 [])) ?_;intro τ ha E
 refine Ul fun Γ hd hv hg=>?_
 refine ae (cJ (ah hv aD (ah hv .here ⟨a,1985,_,_,rfl,ha,(.nil),bG,cz w,abf w,λτ e=>?_⟩)))
 obtain⟨E,ha,k⟩:=su e E bQ
 refine ae (cJ (aj hv 2 rfl rfl (ah hv .here ⟨a,1985,_,_,rfl,ha,(oE (by rfl')),bG,cz w,abg w,λτ e=>?_⟩)))
 obtain⟨E,ha,k⟩:=su e E bQ
 refine ae (cJ (aW (ah hv .here ⟨a,1985,_,_,rfl,ha,(oF (by rfl')),bG,cz w,abh w,λτ e=>?_⟩)))
 obtain⟨E,ha,k⟩:=su e E bQ
 refine ae (cJ (aW (ah hv .here ⟨a,1985,_,_,rfl,ha,(q_ (by rfl')),bG,cz w,xk w,λτ e=>?_⟩)))
 obtain⟨E,ha,k⟩:=su e E bQ
 refine ae (cJ (ak.own (ah hv .here ⟨a,1985,1801,_,rfl,ha,cz w,LP w,lB (by rfl'),ar rfl [] rfl ?_⟩)))
 rw[hd]
 refine LQ ha cY (zQ (by rfl')) bG λτ b F _ gY=>?_
 have E:=(Ext.rt E bQ).trans F
 have ha:=gY
 refine ah hv .here ⟨a,1985,_,_,rfl,ha,(s9 (by rfl')),bG,cz w,LN w,λτ e=>?_⟩
 obtain⟨E,ha,k⟩:=su e E bQ
 refine ae (cJ (ak.own (ah hv .here ⟨a,1985,1801,_,rfl,ha,cz w,LP w,lB (by rfl'),aq (aU (ah hv .here (bF ha fG (cz w) (LN w) rfl (aK ?_))))⟩)))
 rw[hd]
 refine LQ ha cY (zQ (by rfl')) bG λτ g F _ gY=>?_
 have E:=(Ext.rt E bQ).trans F
 have ha:=gY
 refine ah hv .here ⟨a,1985,_,_,rfl,ha,(vM (by rfl')),bG,cz w,rz w,λτ e=>?_⟩
 obtain⟨E,ha,k⟩:=su e E bQ
 refine ae (cJ (bq (aK ⟨aB,λx hx=>ah hv .here ⟨a,1985,_,_,rfl,af hx _ _ ha,(zV (by rfl')),bG,cz w,abi w,λτ e=>?_⟩⟩)))
 obtain⟨E,ha,k⟩:=su e (E.trans (af (o:=.list []) hx)) bQ
 refine ae (cJ (bq (aK ⟨aB,λx hx=>ah hv .here ⟨a,1985,_,_,rfl,af hx _ _ ha,(EN (by rfl')),bG,cz w,abj w,λτ e=>?_⟩⟩)))
 obtain⟨E,ha,k⟩:=su e (E.trans (af (o:=.list []) hx)) bQ
 refine ae (cJ (bq (aK ⟨aB,λW hW=>ah hv .here ⟨a,1985,_,_,rfl,af hW _ _ ha,(EO (by rfl')),bG,cz w,tW w,λτ e=>?_⟩⟩)))
 have j1:W≠a:=Ne.symm (bp ha hW)
 have hW0:=E.none hW
 obtain⟨E,ha,k⟩:=su e (E.trans (af (o:=.list []) hW)) bQ
 have hW:=k _ _ j1 (ai _ _ _)
 refine ae (cJ (bq (aK ⟨aB,λx hx=>ah hv .here ⟨a,1985,_,_,rfl,af hx _ _ ha,(EP (by rfl')),bG,cz w,abk w,λτ e=>?_⟩⟩)))
 have hW:=af (o:=.list []) hx _ _ hW
 obtain⟨E,ha,k⟩:=su e (E.trans (af (o:=.list []) hx)) bQ
 have hW:=k _ _ j1 hW
 refine ae (cJ (bq (aK ⟨aB,λx hx=>ah hv .here ⟨a,1985,_,_,rfl,af hx _ _ ha,(ER (by rfl')),bG,cz w,abl w,λτ e=>?_⟩⟩)))
 have hW:=af (o:=.list []) hx _ _ hW
 obtain⟨E,ha,k⟩:=su e (E.trans (af (o:=.list []) hx)) bQ
 have hW:=k _ _ j1 hW
 refine ae (cJ (aW (ah hv .here ⟨a,1985,_,_,rfl,ha,(ES (by rfl')),bG,cz w,abm w,λτ e=>?_⟩)))
 obtain⟨E,ha,k⟩:=su e E bQ
 have hW:=k _ _ j1 hW
 refine ae (cJ (gR (ah hv .here ⟨a,1985,_,_,rfl,ha,(ET (by rfl')),bG,cz w,tX w,λτ e=>?_⟩)))
 obtain⟨E,ha,k⟩:=su e E bQ
 have hW:=k _ _ j1 hW
 refine ae (cJ (bg (ah hv .here ⟨a,1985,_,_,rfl,ha,(EU (by rfl')),bG,cz w,tY w,λτ e=>?_⟩)))
 obtain⟨E,ha,k⟩:=su e E bQ
 have hW:=k _ _ j1 hW
 refine ae (cJ (bg (ah hv .here ⟨a,1985,_,_,rfl,ha,(EV (by rfl')),bG,cz w,Ku w,λτ e=>?_⟩)))
 obtain⟨E,ha,k⟩:=su e E bQ
 have hW:=k _ _ j1 hW
 refine ae (cJ (bg (ah hv .here ⟨a,1985,_,_,rfl,ha,(EW (by rfl')),bG,cz w,abn w,λτ e=>?_⟩)))
 obtain⟨E,ha,k⟩:=su e E bQ
 have hW:=k _ _ j1 hW
 refine ae (cJ (bg (ah hv .here ⟨a,1985,_,_,rfl,ha,(EY (by rfl')),bG,cz w,Kw w,λτ e=>?_⟩)))
 obtain⟨E,ha,k⟩:=su e E bQ
 have hW:=k _ _ j1 hW
 refine ae (cJ (bg (ah hv .here ⟨a,1985,_,_,rfl,ha,(EZ (by rfl')),bG,cz w,abo w,λτ e=>?_⟩)))
 obtain⟨E,ha,k⟩:=su e E bQ
 have hW:=k _ _ j1 hW
 refine ae (cJ (bg (ah hv .here ⟨a,1985,_,_,rfl,ha,(RV (by rfl')),bG,cz w,abp w,λτ e=>?_⟩)))
 obtain⟨E,ha,k⟩:=su e E bQ
 have hW:=k _ _ j1 hW
 refine dj.wk (σ':=upd τ a (.inst 1985 (gu (.ref g) (.ref W) (.bool true)))) ?_ (au ⟨rfl,q _ a g W (E.upd bQ) bQ hW0 j1 (ai _ _ _) ((aJ j1).trans hW)⟩)
 have e:τ=upd τ a _:=(Bx ha).symm
 rw[e,dk]
 exact(Wk.refl τ).upd (.inst (.cons ⟨rfl,.inl rfl⟩ (.cons ⟨rfl,.inl rfl⟩ (.cons ⟨rfl,.inl rfl⟩ (.cons ⟨rfl,.inl rfl⟩ (.cons ⟨rfl,.inl rfl⟩ (.cons ⟨rfl,.inr rfl⟩ (.cons ⟨rfl,.inl rfl⟩ (.cons ⟨rfl,.inl rfl⟩ (.cons ⟨rfl,.inr rfl⟩ (.cons ⟨rfl,.inl rfl⟩ (.cons ⟨rfl,.inl rfl⟩ (.cons ⟨rfl,.inl rfl⟩ (.cons ⟨rfl,.inr rfl⟩ (.cons ⟨rfl,.inr rfl⟩ (.cons ⟨rfl,.inr rfl⟩ (.cons ⟨rfl,.inl rfl⟩ (.cons ⟨rfl,.inr rfl⟩ (.cons ⟨rfl,.inl rfl⟩ (.cons ⟨rfl,.inl rfl⟩ (.nil)))))))))))))))))))))
end
section
variable{w:World}{Γ:Ctx}{ρ:LO}{d:Nat}{σ:Hp}{Q:PQ}{QT:PF}{a:Addr}
theorem Op.abz {x:Int}(q:Q (.int ((x.natAbs:Nat):Int)) σ):∀as:List Value,as.map er=[.int x]→Op w Γ (PySem.call (.builtin "abs") as) σ ρ Q:=by
 intro as ea S s D k X hk
 obtain⟨a,rfl,e1⟩:=args_1 ea
 refine cL e1 λt=>?_
 have e:(if x<0 then-x else x)=((x.natAbs:Nat):Int):=by split<;>lia
 rw[←e]at q
 exact call_abs_int λu tk=>hk _ _ σ q (D.toks tk)
theorem Op.abA {x:Int}(q:Q (.int x) σ):∀as:List Value,as.map er=[.int x]→Op w Γ (PySem.call (.type "int") as) σ ρ Q:=by
 intro as ea S s D k X hk
 obtain⟨a,rfl,e1⟩:=args_1 ea
 refine cL e1 λt=>?_
 exact call_int_int (hk _ _ σ q D)
end
theorem Lv.uniq {xs:List V}:∀{ts us:List Str},Lv xs ts→Lv xs us→ts=us:=by
 have key:∀(ts us:List Str),(ts.Pairwise λa b=>a.cps.toList<b.cps.toList)→(us.Pairwise λa b=>a.cps.toList<b.cps.toList)→(∀s,s∈ts↔s∈us)→ts=us:=by
  intro ts
  induction ts with
  |nil=>
   intro us _ _ h
   cases us with
   |nil=>rfl
   |cons u us=>exact absurd ((h u).mpr bA) (by simp)
  |cons t ts ih=>
   intro us h1 h2 h
   cases us with
   |nil=>exact absurd ((h t).mp bA) (by simp)
   |cons u us=>
    rw[List.pairwise_cons]at h1 h2
    have e:t=u:=by
     rcases aY.mp ((h t).mp bA)with e|m1
     exact e
     rcases aY.mp ((h u).mpr bA)with e|m2
     exact e.symm
     exact absurd (List.lt_trans (h1.1 u m2) (h2.1 t m1)) (List.lt_irrefl _)
    subst e
    rw[ih us h1.2 h2.2 λs=>⟨λm=>?_,λm=>?_⟩]
    rcases aY.mp ((h s).mp (bw _ m))with e|m'
    subst e;exact absurd (h1.1 _ m) (List.lt_irrefl _)
    exact m'
    rcases aY.mp ((h s).mpr (bw _ m))with e|m'
    subst e;exact absurd (h2.1 _ m) (List.lt_irrefl _)
    exact m'
 intro ts us h1 h2
 exact key ts us h1.1 h2.1 λs=>(h1.2 s).trans (h2.2 s).symm
theorem fw {σ:Hp}{n:Nat}{l b:Addr}{xs ys:List V}(hl:σ l=some (.list xs))(hb:σ b=some (.list ys))(b8:l≠b)(h:br (λx y=>cU σ n x y true) xs ys):cU σ (n+1) (.ref l) (.ref b) true:=by
 have e:=cU.ll (n:=n) (λ_=>true) hl hb b8 h.len λj h1 h2=>by
  obtain⟨x,hx,r⟩:=h.get (bL h2)
  rw[bL h1]at hx
  cases hx
  exact r
 have:((List.range xs.length).all λ_=>true)=true:=ew.mpr λ_ _=>rfl
 rw[this]at e
 exact e
theorem rJ {σ:Hp}{n:Nat}:∀(ts:List Str),br (λx y=>cU σ n x y true) (ts.map V.str) (ts.map V.str)
 | []=>.nil
 |t::ts=>.cons (by
  have:cU σ n (.str t) (.str t) (t==t):=.ss
  rwa[beq_self_eq_true]at this) (rJ ts)
theorem mn {σ:Hp}{n:Nat}{i:Int}:cU σ n (.int i) (.int i) true:=by
 have:cU σ n (.int i) (.int i) (i==i):=.ii
 rwa[beq_self_eq_true]at this
noncomputable def nQ (σ:Hp):V→Option V
 |.ref r=>match σ r with
  |some (.inst 401 [_,(_,some i),_,_,_])=>some i
  |_=>none
 |_=>none
theorem qz {σ:Hp}{r:Addr}{k i a:V}(h:σ r=some (.inst 401 (aV k i a))):nQ σ (.ref r)=some i:=by
 show(match σ r with|some (.inst 401 [_,(_,some i),_,_,_])=>some i|_=>none)=_
 rw[h]
 rfl
theorem abB {σ:Hp}{rs:List Addr}{jt:List (List V)}(h:br (λr ys=>iT σ r ys) rs jt):∃ls:List Addr,(rs.map V.ref).filterMap (nQ σ)=ls.map V.ref∧br (λl ys=>σ l=some (.list ys)) ls jt:=by
 induction h with
 |nil=>exact⟨[],rfl,.nil⟩
 |cons hr _ ih=>
  obtain⟨ls,h1,h2⟩:=ih
  obtain⟨l,g1,g2⟩:=hr
  exact⟨l::ls,by rw[bx,gz,qz g1,h1];rfl,.cons g2 h2⟩
section
variable{w:World}{Γ:Ctx}{ρ:LO}{d:Nat}{σ:Hp}{Q:PQ}{QT:PF}{a:Addr}{gl cD:V}
noncomputable def fK:List Str:=[Str.ofString "x",Str.ofString "y",Str.ofString "z"]
theorem LR {C:Addr}{cs:List V}(hC:σ C=some (.list cs))(hz:cs.length≤1000000)(q:∀τ r,Ext σ τ→cX (new σ τ) r cs fK→Q (.ref r) τ):Call w (d+4) (.ref 2034) [.ref C] σ Q:=by
 refine Uu fun Γ hd hv hg=>?_
 refine ae (aS hv (aw hd hg aN (by rfl') (aq (bu (aq (ak.list1 hg aQ (ah hv .here ⟨C,cs,rfl,.inl hC,hz,λc hc=>aK ?_⟩)))))))
 refine mW λr hr=>⟨_,bX,?_⟩
 have xj:c≠r:=bp (ai _ _ _) hr
 have E1:=(af (o:=.list cs) hc).trans (af (o:=.inst 401 (aV (.str "integer") (.ref c) .none)) hr)
 have r0:=(af (o:=.list cs) hc).none hr
 have ha:(upd (upd σ c (.list cs)) r (.inst 401 (aV (.str "integer") (.ref c) .none))) r=some (.inst 401 (aV (.str "integer") (.ref c) .none)):=ai _ _ _
 have eA:(upd (upd σ c (.list cs)) r (.inst 401 (aV (.str "integer") (.ref c) .none))) c=some (.list cs):=(aJ xj).trans (ai _ _ _)
 revert E1 ha eA;refine gen ((upd (upd σ c (.list cs)) r (.inst 401 (aV (.str "integer") (.ref c) .none)))) ?_;intro cA E1 ha eA
 refine ae (ic (ak.KJ (by rfl') λD hD=>aw hd hg cn (by rfl') (aq (bq (ar rfl [] rfl ⟨aB,λx hx=>aK ?_⟩)))))
 have F1:=(af (o:=.dict []) hD).trans (af (o:=.list (fK.map V.str)) hx)
 refine jS (ai _ _ _) aB λbU lv lt F2 n1 n2 m1 m2=>aw hd hg cn (by rfl') (aq (bq (ar rfl [] rfl ⟨aB,λy hy=>aK ?_⟩)))
 have F3:=(F1.trans F2).trans (af (o:=.list [.str "factor"]) hy)
 refine jS (ai _ _ _) aB λcH cl ct F4 n3 n4 m3 m4=>?_
 have F5:=F3.trans F4
 have fy:cH D=some (.dict []):=F4 _ _ (af hy _ _ (F2 _ _ (af hx _ _ (ai _ _ _))))
 refine⟨fy,?_⟩
 have LS:cA lv=none:=F1.none n1
 have LU:cA lt=none:=F1.none n2
 have i8:cA cl=none:=F3.none n3
 have LW:cA ct=none:=F3.none n4
 have rK:=F4 _ _ (af (o:=.list [.str "factor"]) hy _ _ m1)
 have uo:=F4 _ _ (af (o:=.list [.str "factor"]) hy _ _ m2)
 have LX:r≠D:=bp ha hD
 have hcD:c≠D:=bp eA hD
 have lvD:lv≠D:=λe=>by rw[e,fy]at rK;cases rK
 have ltD:lt≠D:=λe=>by rw[e,fy]at uo;cases uo
 have clD:cl≠D:=λe=>by rw[e,fy]at m3;cases m3
 have ctD:ct≠D:=λe=>by rw[e,fy]at m4;cases m4
 have lvr:lv≠r:=Ne.symm (bp ha LS)
 have ltr:lt≠r:=Ne.symm (bp ha LU)
 have clr:cl≠r:=Ne.symm (bp ha i8)
 have ctr:ct≠r:=Ne.symm (bp ha LW)
 refine ah hv aD ⟨r,401,_,_,rfl,(aJ LX).trans (F5 _ _ ha),wA,bG,dT w,mV w,?_⟩
 have Ef:=((E1.trans F5).upd (a:=D) (o:=.dict [(Str.ofString "levels",V.ref lv),(Str.ofString "class",V.ref cl)]) (E1.none hD)).upd (a:=r) (o:=.inst 401 (aV (.str "integer") (.ref c) (.ref D))) r0
 refine ae (a_ (ah hv aD (q _ r Ef ⟨c,D,lv,lt,cl,ct,iR r0 (ai _ _ _),iR hc ?_,iR (E1.none hD) ?_,iR (E1.none LS) ?_,iR (E1.none LU) ?_,iR (E1.none i8) ?_,iR (E1.none LW) ?_⟩)))
 rw[aJ xj,aJ hcD];exact F5 _ _ eA
 rw[aJ LX.symm];exact ai _ _ _
 rw[aJ lvr,aJ lvD];exact rK
 rw[aJ ltr,aJ ltD];exact uo
 rw[aJ clr,aJ clD];exact m3
 rw[aJ ctr,aJ ctD];exact m4
end
theorem B5 {a b:Str}(h:decide (a.cps.toList<b.cps.toList)=true):a.cps.toList<b.cps.toList:=mD h
theorem B6:Lv [.str "a",.str "b",.str "a",.str "b"] [Str.ofString "a",Str.ofString "b"]:=by
 refine⟨.cons (λx hx=>by rw[dm.mp hx];exact B5 (by rfl')) (r9 _ _),λs=>?_⟩
 simp only[aY,V.str.injEq,f9,gB]
 exact⟨λh=>h.elim .inl λh=>.inr (.inl h),λh=>h.elim .inl λh=>h.elim .inr λh=>h.elim .inl .inr⟩
theorem B7:Lv [.str "c",.str "c",.str "d",.str "d"] [Str.ofString "c",Str.ofString "d"]:=by
 refine⟨.cons (λx hx=>by rw[dm.mp hx];exact B5 (by rfl')) (r9 _ _),λs=>?_⟩
 simp only[aY,V.str.injEq,f9,gB]
 exact⟨λh=>h.elim .inl λh=>.inr (.inr (.inl h)),λh=>h.elim .inl λh=>h.elim .inl λh=>h.elim .inr .inr⟩
theorem LY:g9 [Str.ofString "a",Str.ofString "b"].length ([V.str "a",.str "b",.str "a",.str "b"].map (b9 [Str.ofString "a",Str.ofString "b"])) ([V.str "c",.str "c",.str "d",.str "d"].map (b9 [Str.ofString "c",Str.ofString "d"]))=[vI 1,vI 2,vI 3,vI 4]:=by rfl'
theorem abC:dw 4 (sf [vI 1,vI 2,vI 3,vI 4]) (·+1) 4=[[1],[2],[3],[4]]:=by rfl'
theorem la:(Str.ofString "a").length=1:=by rfl'
theorem lb:(Str.ofString "b").length=1:=by rfl'
theorem lc:(Str.ofString "c").length=1:=by rfl'
theorem ld:(Str.ofString "d").length=1:=by rfl'
theorem B8 {P:V→Prop}{a b c d:V}(h1:P a)(h2:P b)(h3:P c)(h4:P d):∀x∈[a,b,c,d],P x:=λx hx=>by
 simp only[aY,f9,gB]at hx
 rcases hx with rfl|rfl|rfl|rfl<;>assumption
section
variable{w:World}{Γ:Ctx}{ρ:LO}{d:Nat}{σ:Hp}{Q:PQ}{QT:PF}{a:Addr}{gl cD:V}
theorem LZ {I:Addr}{xs:List V}(hI:σ I=some (.list xs))(hz:xs.length≤1000000)(hx:∀x∈xs,∃a k i u,x=.ref a∧σ a=some (.inst 401 (aV k i u)))
  (q:∀τ r b,Ext σ τ→σ r=none→σ b=none→τ r=some (.inst 401 (aV (.str "list") (.ref b) .none))→τ b=some (.list xs)→Q (.ref r) τ):Call w (d+5) (.ref 581) [.ref I] σ Q:=by
 refine SR fun Γ hd hv hg=>?_
 refine ae (a_ (aw hd hg aN (by rfl') (aq (aw hd hg aQ (by rfl') (aq (bu (aq (fT hv (JO (w:=w) hv (by rfl) (by rfl)) (.loc (.loc .nil)) aQ (pt:=λy=>bX) (ah hv .here ⟨I,xs,λv=>some v,rfl,hI,hz,?_,λD hD=>aK ?_⟩)))))))))
 intro y hy τ F Γc e1 e2 e3
 obtain⟨a,k,i,u,rfl,ha⟩:=hx y hy
 exact dE ⟨λ_=>aw (e1.trans hd) e3 aN (by rfl') (ar e2 [1] rfl (JD (F _ _ ha) ⟨rfl,rfl⟩)),tf⟩
 rw[oX λ_ _=>rfl]
 refine mW λr hr=>ar hv [1] rfl ?_
 have E:=af (o:=.list xs) hD
 have t5:D≠r:=bp (ai _ _ _) hr
 exact AQ (q _ r D (E.trans (af hr)) (E.none hr) hD (ai _ _ _) ((aJ t5).trans (ai _ _ _)))
theorem abD {S W:Addr}{ns:List Nat}(ha:σ a=some (.inst 1985 (gu gl (.ref W) cD)))(hi:gW cD=true)(gD:gW gl=true)(hW:σ W=some (.list []))(hS:σ S=some (.list (ns.map vI)))(hn:ns.length=30)(q:∀τ,Ext (off σ W) τ→Q (.bool true) τ):Call w (d+13) (.ref 2027) [.ref a,.ref S] σ Q:=by
 have zS:(ns.map vI).length≤1000000:=by rw[ay];lia
 have L5:(ns.map vI)[17]? =some (vI (ns[17]'(by lia))):=by rw[dI,bL (by lia)];rfl
 generalize ns[17]'(by lia)=n at L5
 obtain⟨m,hm,lx⟩:∃m:Str,[V.str ".",.str "_",.str ""][n % 3]? =some (.str m)∧m.length≤1000:=by
  have:=i7 n (by decide:3>0)
  rcases(by lia:n % 3=0∨n % 3=1∨n % 3=2)with e|e|e<;>rw[e]
  exact⟨_,rfl,j5 (by rfl')⟩
  exact⟨_,rfl,j5 (by rfl')⟩
  exact⟨_,rfl,j5 (by rfl')⟩
 have l1:∀{x:Str},x.length=1→x.length+m.length≤1000000:=λh=>by lia
 have l2:∀{x y:Str},x.length=1→y.length=1→(x++m).length+y.length≤1000000:=λh1 h2=>by rw[strLen_append];lia
 refine Ut fun Γ hd hv hg=>?_
 refine ae (aS hv (bo (bq (ar rfl [] rfl ⟨aB,λx hx=>bC (bo (ah hv aD (aW (eh (i:=17) (af hx _ _ hS) rfl L5 zS (aW (fC (by decide) (eh (i:=n % 3) (ai _ _ _) (fq n 3) hm aB ⟨_,eL,?_⟩)))))))⟩))))
 have E1:=af (o:=.list [.str ".",.str "_",.str ""]) hx
 refine ae (aS hv (bq (ar rfl [] rfl ⟨aB,λfi hfi=>⟨_,eM,?_⟩⟩)))
 have E2:=E1.trans (af (o:=.list [.str "a",.str "b",.str "a",.str "b"]) hfi)
 refine ae (aS hv (bq (ar rfl [] rfl ⟨aB,λse L6=>⟨_,dR,?_⟩⟩)))
 have E3:=E2.trans (af (o:=.list [.str "c",.str "c",.str "d",.str "d"]) L6)
 have abE:=af (o:=.list [.str "c",.str "c",.str "d",.str "d"]) L6 _ _ (ai _ fi (.list [.str "a",.str "b",.str "a",.str "b"]))
 have abF:=ai (upd (upd σ x (.list [.str ".",.str "_",.str ""])) fi (.list [.str "a",.str "b",.str "a",.str "b"])) se (.list [.str "c",.str "c",.str "d",.str "d"])
 generalize upd (upd (upd σ x (.list [.str ".",.str "_",.str ""])) fi (.list [.str "a",.str "b",.str "a",.str "b"])) se (.list [.str "c",.str "c",.str "d",.str "d"])=LF at*
 refine ae (aS hv (aw hd hg aN (by rfl') (aq (bq (aq (aw hd hg aQ (by rfl') (ar hv [3] rfl ?_)))))))
 refine jS abE aB λcA v1 b1 F1 _ _ m1 m2=>aq (aw hd hg aQ (by rfl') (ar hv [4] rfl ?_))
 refine jS (F1 _ _ abF) aB λbU v2 b2 F2 _ _ m3 m4=>aK ⟨aB,λI hI=>aK ?_⟩
 have rK:=af (o:=.list [.ref v1,.ref v2]) hI _ _ (F2 _ _ m1)
 have uo:=af (o:=.list [.ref v1,.ref v2]) hI _ _ (F2 _ _ m2)
 have L7:=af (o:=.list [.ref v1,.ref v2]) hI _ _ m3
 have m4':=af (o:=.list [.ref v1,.ref v2]) hI _ _ m4
 have E4:=(E3.trans (F1.trans F2)).trans (af (o:=.list [.ref v1,.ref v2]) hI)
 refine LZ (ai _ _ _) aB (λy hy=>?_) λcH tr tb F3 _ _ n1 n2=>⟨_,fh,?_⟩
 simp only[aY,f9,gB]at hy
 rcases hy with rfl|rfl
 exact⟨v1,_,_,_,rfl,rK⟩
 exact⟨v2,_,_,_,rfl,L7⟩
 have E5:=E4.trans F3
 refine ae (aS hv (aw hd hg cn (by rfl') (aq (ah hv .here (aq (bq (aq (fD (aq (bg (aq (aw hd hg cY (by rfl') (aq (bq (ar rfl [] rfl ⟨aB,λil pg=>aK ?_⟩)))))))))))))))
 have E6:=E5.trans (af (o:=.list [vI 1,vI 2,vI 3,vI 4]) pg)
 refine nA (ai _ _ _) aB λeP v vl F4 jZ B9 k1 k2=>aK ⟨aB,λt1 iz=>aq (fD (ar hv [5] rfl ⟨aB,λt2 iW=>aq (fD (aq (bu (aq (aw hd hg aQ (by rfl') (aq (bq (ar hv [2] rfl ⟨aB,λml B_=>aK ?_⟩))))))))⟩))⟩
 have F5:=(af (o:=.tup [.none,.ref v]) iz).trans (af (o:=.tup [.none,.ref tr]) iW)
 have F6:=F5.trans (af (o:=.list [.str m]) B_)
 refine jS (ai _ _ _) aB λdU sv sl F7 _ _ p1 p2=>aK ⟨aB,λt3 xm=>aK ⟨aB,λAs kz=>aq (aU (ah hv .here (bF (fs:=gu gl (.ref W) cD) (C:=1985) ?_ gm (cz w) (rz w) gD (aK ?_))))⟩⟩
 exact af kz _ _ (af xm _ _ (F7 _ _ (F6 _ _ (F4 _ _ (E6 _ _ ha)))))
 have F8:=(af (o:=.tup [.str "sep",.ref sv]) xm).trans (af (o:=.list [.ref t1,.ref t2,.ref t3]) kz)
 have G7:=F7.trans F8
 have G6:=F6.trans G7
 have E7:=(E6.trans F4).trans G6
 have fY:(upd (upd dU t3 (.tup [.str "sep",.ref sv])) As (.list [.ref t1,.ref t2,.ref t3])) W=some (.list []):=E7 _ _ hW
 have u1:(upd (upd dU t3 (.tup [.str "sep",.ref sv])) As (.list [.ref t1,.ref t2,.ref t3])) t1=some (.tup [.none,.ref v]):=G7 _ _ (af B_ _ _ (af iW _ _ (ai _ _ _)))
 have u2:(upd (upd dU t3 (.tup [.str "sep",.ref sv])) As (.list [.ref t1,.ref t2,.ref t3])) t2=some (.tup [.none,.ref tr]):=G7 _ _ (af B_ _ _ (ai _ _ _))
 have u3:(upd (upd dU t3 (.tup [.str "sep",.ref sv])) As (.list [.ref t1,.ref t2,.ref t3])) t3=some (.tup [.str "sep",.ref sv]):=af kz _ _ (ai _ _ _)
 have u4:(upd (upd dU t3 (.tup [.str "sep",.ref sv])) As (.list [.ref t1,.ref t2,.ref t3])) As=some (.list [.ref t1,.ref t2,.ref t3]):=ai _ _ _
 have u5:=G6 _ _ k1
 have u6:=G6 _ _ k2
 have GG:=(F4.trans G6)
 have u7:=GG _ _ (af (o:=.list [vI 1,vI 2,vI 3,vI 4]) pg _ _ n1)
 have u8:=GG _ _ (af (o:=.list [vI 1,vI 2,vI 3,vI 4]) pg _ _ n2)
 have GH:=F3.trans ((af (o:=.list [vI 1,vI 2,vI 3,vI 4]) pg).trans GG)
 have w1:=GH _ _ rK
 have w2:=GH _ _ uo
 have w3:=GH _ _ L7
 have w4:=GH _ _ m4'
 have s1:=F8 _ _ p1
 have s2:=F8 _ _ p2
 have ua:v≠W:=Ne.symm (bp (E6 _ _ hW) jZ)
 have ub:vl≠W:=Ne.symm (bp (E6 _ _ hW) B9)
 have kA:=E7 _ _ ha
 generalize (upd (upd dU t3 (.tup [.str "sep",.ref sv])) As (.list [.ref t1,.ref t2,.ref t3]))=fL at*
 refine Lg (d:=d+1) (as:=[t1,t2,t3]) (tvs:=[(none,.ref v),(none,.ref tr),(some (Str.ofString "sep"),.ref sv)]) kA hi fY aB u4 (.cons u1 (.cons u2 (.cons u3 .nil))) (by simp) okB (by intro p hp;simp[BN]at hp;rcases hp with rfl|rfl|rfl<;>simp) (fun o=>aaI) u5 u6 (by simp) ua ub rfl (.inr ⟨sv,sl,rfl,s1,s2⟩)
  (aba u7 u8 w1 w2 w3 w4 (B8 (.inr ⟨_,rfl⟩) (.inr ⟨_,rfl⟩) (.inr ⟨_,rfl⟩) (.inr ⟨_,rfl⟩)) (B8 (.inr ⟨_,rfl⟩) (.inr ⟨_,rfl⟩) (.inr ⟨_,rfl⟩) (.inr ⟨_,rfl⟩)) (by simp) (by simp) rfl lx (λls h=>?_) (λrs h=>?_)) ?_ ?_
 rw[Lv.uniq h B6];exact⟨by simp,j5 (by rfl')⟩
 rw[Lv.uniq h B7];exact⟨by simp,j5 (by rfl')⟩
 intro codes ts zqA;obtain⟨ls,rs,h1,h2,rfl,rfl⟩:=zqA
 obtain rfl:=Lv.uniq h1 B6
 obtain rfl:=Lv.uniq h2 B7
 rw[LY]
 refine⟨by rw[xe];simp,by simp,?_,by simp⟩
 rw[xe]
 exact B8 (.inr ⟨0,by simp,rfl⟩) (.inr ⟨1,by simp,rfl⟩) (.inr ⟨2,by simp,rfl⟩) (.inr ⟨3,by simp,rfl⟩)
 intro eI r b e rs codes ts E8 zqA;obtain⟨ls,rs',h1,h2,rfl,rfl⟩:=zqA;intro _ g1 g2 g3 g4
 obtain rfl:=Lv.uniq h1 B6
 obtain rfl:=Lv.uniq h2 B7
 rw[LY]at g4
 have g4:br (λr qs=>iT eI r (pick [vI 1,vI 2,vI 3,vI 4] qs)) rs [[1],[2],[3],[4]]:=by
  have:=g4
  rw[xe]at this
  exact abC▸this
 have g4:=g4.map
 obtain⟨nv,nl,e1,e2,e3⟩:=g3
 refine⟨_,eB,?_⟩
 have kn:keyOf [(Str.ofString "names",V.ref nv)] (Str.ofString "names")=some (.ref nv):=by simp[keyOf]
 refine ae (aM (aF (aU (bo (aU (aj hv 6 rfl rfl (va g1 (bu (tN e1 kn (vi e2 (bq (aq (bC (bC (bu (aj hv 2 rfl rfl (Op.lT (l1 la) (bu (Op.lT (l2 la lc) (aq (bC (bC (bu (aj hv 2 rfl rfl (Op.lT (l1 lb) (bu (Op.lT (l2 lb lc) (aq (bC (bC (bu (aj hv 2 rfl rfl (Op.lT (l1 la) (bu (Op.lT (l2 la ld) (aq (bC (bC (bu (aj hv 2 rfl rfl (Op.lT (l1 lb) (bu (Op.lT (l2 lb ld) (aK ⟨aB,fun dl lF=>ax (.ne (fw (af lF _ _ e3) (ai _ _ _) (bp e3 lF) (rJ (fJ [Str.ofString "a",Str.ofString "b"] [Str.ofString "c",Str.ofString "d"] m)))) ⟨_,rfl,ff rfl (au ?_)⟩⟩))))))))))))))))))))))))))))))))))))))))))))
 have X1:=af (o:=.list ((fJ [Str.ofString "a",Str.ofString "b"] [Str.ofString "c",Str.ofString "d"] m).map V.str)) lF
 have g5:br (fun r ys=>iT (upd eI dl (.list ((fJ [Str.ofString "a",Str.ofString "b"] [Str.ofString "c",Str.ofString "d"] m).map V.str))) r ys) rs _:=fW g4 fun _ _ h=>h.ext X1
 obtain⟨ls,f1,f2⟩:=abB g5
 have wI:=g4.len
 refine ae (a_ (dP (fT hv (XS (w:=w) hv (by rfl) (by rfl)) (.loc (.loc .nil)) aQ (pt:=fun y=>bX) (aU (aj hv 6 rfl rfl (vi (X1 _ _ g1) ⟨b,rs.map .ref,nQ (upd eI dl (.list ((fJ [Str.ofString "a",Str.ofString "b"] [Str.ofString "c",Str.ofString "d"] m).map V.str))),rfl,X1 _ _ g2,by rw[ay,wI];exact aB,?_,fun o ho=>?_⟩))))))
 intro y hy υ F Γc c1 c2 c3
 refine bZ hy λr' Ca=>?_
 obtain⟨k,hk⟩:=gN.mp Ca
 have fH:k<(List.map (pick [vI 1,vI 2,vI 3,vI 4]) [[1],[2],[3],[4]]).length:=by rw[←g5.len];exact(cp.mp hk).1
 obtain⟨r2,jY,l2,i1,i2⟩:=g5.get (bL fH)
 rw[hk]at jY;cases jY
 have e2:=c2
 exact dE ⟨λ_=>aU (ah e2 aD (vi (F _ _ i1) ⟨rfl,qz i1⟩)),tf⟩
 rw[f1]
 have X2:=af (o:=.list (ls.map V.ref)) ho
 refine bq (aq (bq (ar rfl [] rfl ⟨aB,λd1 xn=>aq (bq (ar rfl [] rfl ⟨aB,λd2 hd2=>aq (bq (ar rfl [] rfl ⟨aB,λd3 rL=>aq (bq (ar rfl [] rfl ⟨aB,λd4 L8=>aK ⟨aB,λdd xo=>?_⟩⟩))⟩))⟩))⟩)))
 have Y1:=af (o:=.list [vI 1]) xn
 have Y2:=af (o:=.list [vI 2]) hd2
 have Y3:=af (o:=.list [vI 3]) rL
 have Y4:=af (o:=.list [vI 4]) L8
 have Y5:=af (o:=.list [.ref d1,.ref d2,.ref d3,.ref d4]) xo
 obtain⟨a1,a2,a3,a4,rfl,b1,b2,b3,b4⟩:=QM f2
 have Z:=Y1.trans (Y2.trans (Y3.trans (Y4.trans Y5)))
 have Z2:=Y2.trans (Y3.trans (Y4.trans Y5))
 have Z3:=Y3.trans (Y4.trans Y5)
 have Z4:=Y4.trans Y5
 have t1:=X2 _ _ b1
 have t2:=Y1 _ _ (X2 _ _ b2)
 have t3:=Y2 _ _ (Y1 _ _ (X2 _ _ b3))
 have t4:=Y3 _ _ (Y2 _ _ (Y1 _ _ (X2 _ _ b4)))
 have L9:=ai (upd eI dl (.list ((fJ [Str.ofString "a",Str.ofString "b"] [Str.ofString "c",Str.ofString "d"] m).map V.str))) o (.list ([a1,a2,a3,a4].map V.ref))
 have lG:o≠dd:=bp (Y4 _ _ (Y3 _ _ (Y2 _ _ (Y1 _ _ L9)))) xo
 refine ax (.eq (fw (Z _ _ L9) (ai _ _ _) lG (.cons ?_ (.cons ?_ (.cons ?_ (.cons ?_ .nil)))))) (q _ ?_)
 exact fw (Z _ _ t1) (Z2 _ _ (ai _ _ _)) (bp t1 xn) (.cons mn .nil)
 exact fw (Z2 _ _ t2) (Z3 _ _ (ai _ _ _)) (bp t2 hd2) (.cons mn .nil)
 exact fw (Z3 _ _ t3) (Z4 _ _ (ai _ _ _)) (bp t3 rL) (.cons mn .nil)
 exact fw (Z4 _ _ t4) (Y5 _ _ (ai _ _ _)) (bp t4 L8) (.cons mn .nil)
 have E9:Ext (off σ W) (off fL W):=λx o h=>by
  have ud:x≠W:=λe=>by subst e;rw[dA]at h;cases h
  exact off_ne ud (E7 _ _ (c_ _ _ h))
 exact((E9.trans E8).trans X1).trans (X2.trans Z)
end
theorem L_ {hx:Str}:∀(names:SN)(n:Nat)(acc:List (Str×Addr))(h:Heap),(names.filter fun p=>p.2==.cell)=[(hx,.cell)]→cellsFrom n names acc=(hx,n)::acc∧pushCells h names=h.push {cls:=.type "cell",data:=.cell none}
 | [],_,_,_,h=>by cases h
 |(x,k)::r,n,acc,hp,h=>by
  unfold cellsFrom pushCells
  rw[List.filter_cons]at h
  cases hk:(k==NameKind.cell)with
  |true=>
   simp only[hk,if_true]at h ⊢
   rw[jD]at h
   obtain⟨e,h⟩:=h
   cases e
   have none:∀(l:SN) (n:Nat) (acc:List (Str×Addr)) (hp:Heap),(l.filter λp=>p.2==.cell)=[]→cellsFrom n l acc=acc∧pushCells hp l=hp:=by
    intro l
    induction l with
    |nil=>intro _ _ _ _;exact⟨rfl,rfl⟩
    |cons p l ih=>
     intro n acc hp h
     obtain⟨x,k⟩:=p
     rw[List.filter_cons]at h
     unfold cellsFrom pushCells
     cases hk:(k==NameKind.cell)with
     |true=>simp[hk]at h
     |false=>
      simp only[hk,jC,if_false]at h ⊢
      exact ih n acc hp h
   exact none r _ _ _ h
  |false=>
   simp only[hk,jC,if_false]at h ⊢
   exact L_ r n acc hp h
section
variable{M:Model}{A:Around}{E:VP}{s:Shared}
theorem abG {scope:Scope}{globals:Addr}{closure:List (Str×Addr)}{qual:Str}{outer:Env}{builtins:Addr}{hx:Str}{Q:Env→Shared→Prop}(hf:(scope.names.filter λp=>p.2==.cell)=[(hx,.cell)])
  (hQ:Q (newEnv scope s.heap.objs.size globals ((hx,s.heap.objs.size+1)::closure) qual none .none (some outer) builtins) {s with heap:=(s.heap.push {cls:=.type "dict",data:=.dict #[]}).push {cls:=.type "cell",data:=.cell none}}):
  wpAny M A (newFunctionEnv scope globals closure [] qual none .none (some outer) builtins) Q E s:=by
 simp only[newFunctionEnv,Option.isSome_some,if_true]
 refine aP (wpAny_alloc ?_)
 refine aP (wpAny_layCells _ (λname kind cells=>by cases hkc:kind==NameKind.cell<;>simp[hkc]) _ _ _ _ ?_)
 obtain⟨h1,h2⟩:=L_ scope.names ({s with heap:=s.heap.push {cls:=.type "dict",data:=.dict #[]}}:Shared).heap.objs.size closure (s.heap.push {cls:=.type "dict",data:=.dict #[]}) hf
 rw[h1,h2]
 rw[(jF .. :({s with heap:=s.heap.push {cls:=.type "dict",data:=.dict #[]}}:Shared).heap.objs.size=s.heap.objs.size+1)]
 exact aP (bY (bY hQ))
end
inductive iX (vars:KV)(ρ:LO)(hx:Str):KV→LO→Prop
 |nil:iX vars ρ hx [] []
 |loc {x vc aX}:iX vars ρ hx vc aX→iX vars ρ hx ((x,.loc)::vc) (none::aX)
 |own {vc aX}:iX vars ρ hx vc aX→iX vars ρ hx ((hx,.cell)::vc) (none::aX)
 |cell {y v vc aX}:y≠hx→Lk vars ρ y .cell v→iX vars ρ hx vc aX→iX vars ρ hx ((y,.cell)::vc) (some v::aX)
theorem iX.lk {vars vc:KV}{ρ aX:LO}{hx:Str}(c:iX vars ρ hx vc aX){y:Str}{k:VK}{v:V}(l:Lk vc aX y k v):k=.cell∧Lk vars ρ y .cell v∧y≠hx:=by
 induction c with
 |nil=>cases l
 |loc _ ih=>exact ih (l.inv.resolve_left λe=>nomatch e.2)
 |own _ ih=>exact ih (l.inv.resolve_left λe=>nomatch e.2)
 |cell hn h _ ih=>
  rcases l.inv with⟨e1,e2⟩|l
  exact⟨(jG e1).2.symm,(jG e1).1▸j7 e2▸h,(jG e1).1▸hn⟩
  exact ih l
theorem iX.has {vars vc:KV}{ρ aX:LO}{hx:Str}(c:iX vars ρ hx vc aX){y:Str}(h:(y,VK.cell)∈vc)(b8:y≠hx):∃v,Lk vc aX y .cell v:=by
 induction c with
 |nil=>cases h
 |loc _ ih=>
  rcases aY.mp h with e|h
  cases e
  obtain⟨v,l⟩:=ih h;exact⟨v,.there l⟩
 |own _ ih=>
  rcases aY.mp h with e|h
  cases e;exact absurd rfl b8
  obtain⟨v,l⟩:=ih h;exact⟨v,.there l⟩
 |cell _ hl _ ih=>
  rcases aY.mp h with e|h
  cases e;exact⟨_,.here⟩
  obtain⟨v,l⟩:=ih h;exact⟨v,.there l⟩
section
variable{w:World}{Γ:Ctx}{s s':Shared}{σ σ':Hp}{ρ aR aX:LO}{Q:PQ}{scope:Scope}{hx:Str}{C cc:Addr}{own:List (Addr×Obj)}{vc:KV}{gc:LV}{m:Str→Option Value}
noncomputable def Ctx.gx (Γ:Ctx)(scope:Scope)(C:Addr)(hx:Str)(cc:Addr)(own:List (Addr×Obj))(vc:KV)(gc:LV)(m:Str→Option Value):Ctx:=
 {Γ with env:=compEnvC scope ((hx,cc)::cV Γ.env scope.names []) C Γ.env,kp:=own++Γ.kp,vars:=vc,gls:=gc,fm:=some m}
structure fZ (w:World)(Γ:Ctx)(scope:Scope)(hx:Str)(vc:KV)(gc:LV):Prop where
 kind:scope.kind=.function
 nd:(scope.names.map (·.1)).Nodup
 bS:∀n,(n,NameKind.free)∈scope.names→(n,VK.cell)∈Γ.vars
 lY:∀p∈vc,(p.2=.loc∧(p.1,NameKind.local)∈scope.names)∨(p.2=.cell∧((p.1,NameKind.free)∈scope.names∨p.1=hx))
 mU:(vc.map (·.1)).Nodup
 db:∀x∈scope.names.map (·.1),(x==("__debug__":Str))=false∧(x==("__classdict__":Str))=false
 AU:∀p∈gc,(p.1,NameKind.globalImplicit)∈scope.names∧∃v,i9 w p.1=some v∧er v=p.2
 one:(scope.names.filter λp=>p.2==.cell)=[(hx,.cell)]
 full:∀y,(y,NameKind.free)∈scope.names→(y,VK.cell)∈vc
theorem fZ.Cb (c:fZ w Γ scope hx vc gc):(hx,NameKind.cell)∈scope.names:=by
 have:(hx,NameKind.cell)∈scope.names.filter λp=>p.2==.cell:=by rw[c.one];exact bA
 exact(jE.mp this).1
theorem fZ.ne (c:fZ w Γ scope hx vc gc){y:Str}(h:(y,NameKind.free)∈scope.names):y≠hx:=λe=>by
 subst e
 have h1:=jM c.nd h
 have h2:=jM c.nd c.Cb
 rw[h1]at h2;cases h2
theorem fZ.cell (c:fZ w Γ scope hx vc gc)(S:bt w Γ){n:Str}(h:(n,NameKind.free)∈scope.names):Γ.env.kindOf n=some .cell∧∃a,Γ.env.cells.lookup n=some a:=S.vk _ (c.bS n h)
theorem fZ.oU (c:fZ w Γ scope hx vc gc)(S:bt w Γ){n:Str}{k:NameKind}(h:(n,k)∈scope.names):(relabel scope Γ.env).names.lookup n=some (if k=.free then .cell else k):=by
 rw[JG,jM c.nd h]
 by_cases hk:k=.free
 subst hk
 have:=(c.cell S h).1
 simp[this,S.ek]
 simp[hk]
theorem Cc {l:List (Str×Addr)}{y:Str}{a:Addr}(h:((hx,cc)::l).lookup y=some a):(y=hx∧a=cc)∨(y≠hx∧l.lookup y=some a):=by
 rw[kJ]at h
 cases e:(y==hx)with
 |true=>rw[e]at h;cases h;exact .inl ⟨by simpa using e,rfl⟩
 |false=>rw[e]at h;exact .inr ⟨by simpa using e,h⟩
theorem abH {l:List (Str×Addr)}{y:Str}{a:Addr}(b8:y≠hx)(h:l.lookup y=some a):((hx,cc)::l).lookup y=some a:=by
 rw[kJ]
 have:(y==hx)=false:=by simpa using b8
 rw[this];exact h
theorem xp (c:fZ w Γ scope hx vc gc){y:Str}{a:Addr}(h:(y,NameKind.free)∈scope.names)(ha:Γ.env.cells.lookup y=some a):((hx,cc)::cV Γ.env scope.names []).lookup y=some a:=
 abH (c.ne h) (jM (rj (acc:=[]) c.nd kK λx _ h=>nomatch h) (m_ h ha))
theorem bt.gx (S:bt w Γ)(c:fZ w Γ scope hx vc gc)
  (hC:C∉Γ.bM)(jm:Γ.h₀.get? C=none)(eA:cc∉Γ.bM)(abI:Γ.h₀.get? cc=none)(abJ:cc≠C)(fj:∀p∈own,Γ.h₀.get? p.1=none∧p.1≠C∧p.1≠cc∧p.1≠Γ.FL∧∀q∈cV Γ.env scope.names [],p.1≠q.2):bt w (Γ.gx scope C hx cc own vc gc m):=by
 have nh:∀y a,(cV Γ.env scope.names []).lookup y=some a→(y,NameKind.free)∈scope.names∧Γ.env.cells.lookup y=some a:=λy a h=>by
  rcases jl (mem_of_lookup h)with q|q
  cases q
  exact q
 have qA:∀p∈cV Γ.env scope.names [],(p.1,NameKind.free)∈scope.names∧Γ.env.cells.lookup p.1=some p.2:=λp hp=>by
  rcases jl (l:=scope.names) (acc:=[]) (y:=p.1) (c:=p.2) hp with q|q
  cases q
  exact q
 have AV:((cV Γ.env scope.names []).map (·.1)).Nodup:=rj c.nd kK λx _ h=>nomatch h
 have uq:(Γ.gx scope C hx cc own vc gc m).kp=own++Γ.kp:=rfl
 obtain⟨a1,a2,a3,a4,a5,a6,a7,a8,a9,d_,eT,gk,gF,ia,ib,kZ,k_,oH,oI,lV,iM,kh,lW,lX⟩:=id S
 refine⟨a1,λp hp=>?_,λp hp=>?_,a4,a5,a6,a7,c.kind,a9,d_,eT,λp hp=>?_,c.mU,λx y b h1 h2=>?_,λx b h1=>?_,λh=>?_,λh=>?_,λp hp=>?_,λp hp=>?_,λh=>?_,λb hb=>?_,kh,lW,lX⟩
 refine c.db _ ?_
 rcases c.lY p hp with⟨_,h⟩|⟨_,h|h⟩
 exact cB (f:=(·.1)) h
 exact cB (f:=(·.1)) h
 rw[h];exact cB (f:=(·.1)) c.Cb
 obtain⟨h1,h2⟩:=c.AU p hp
 exact⟨c.oU S h1,(c.db _ (cB (f:=(·.1)) h1)).1,h2⟩
 obtain⟨x,k⟩:=p
 rcases c.lY _ hp with⟨e,h⟩|⟨e,h|h⟩
 have e:k=.loc:=e
 subst e
 exact c.oU S h
 have e:k=.cell:=e
 subst e
 obtain⟨_,a,ha⟩:=c.cell S h
 exact⟨c.oU S h,a,xp c h ha⟩
 have e:k=.cell:=e
 have h:x=hx:=h
 subst e h
 refine⟨c.oU S c.Cb,cc,?_⟩
 show((x,cc)::_).lookup x=_
 rw[kJ,beq_self_eq_true]
 rcases Cc h1 with⟨e1,f1⟩|⟨n1,g1⟩<;>rcases Cc h2 with⟨e2,f2⟩|⟨n2,g2⟩
 exact e1.trans e2.symm
 rw[f1]at g2;exact absurd (eS (nh y _ g2).2) eA
 rw[f2]at g1;exact absurd (eS (nh x _ g1).2) eA
 exact ia x y b (nh x b g1).2 (nh y b g2).2
 rcases Cc h1 with⟨rfl,rfl⟩|⟨n1,h1⟩
 refine⟨λq=>eA (q▸Γ.dG),abJ,λ_=>?_⟩
 rw[uq,df,cq,not_or]
 refine⟨λhm=>?_,λhm=>?_⟩
 obtain⟨p,hp,e⟩:=cF.mp hm
 exact(fj p hp).2.2.1 e
 obtain⟨p,hp,e⟩:=cF.mp hm
 exact eA (e▸iH hp)
 obtain⟨g1,g2⟩:=nh x b h1
 have h3:=ib x b g2
 refine⟨h3.1,λq=>hC (by rw[show C=b from q.symm];exact eS g2),λ_=>?_⟩
 rw[uq,df,cq,not_or]
 refine⟨λhm=>?_,h3.2.2 (c.bS x g1)⟩
 obtain⟨p,hp,e⟩:=cF.mp hm
 exact(fj p hp).2.2.2.2 (x,b) (mem_of_lookup h1) e
 rw[uq,df,cq]at h
 rcases h with h|h
 obtain⟨p,hp,e⟩:=cF.mp h
 exact(fj p hp).2.1 e
 obtain⟨p,hp,e⟩:=cF.mp h
 exact hC (by rw[show C=p.1 from e.symm];exact iH hp)
 rw[uq,df,cq]at h
 rcases h with h|h
 obtain⟨p,hp,e⟩:=cF.mp h
 exact(fj p hp).2.2.2.1 e
 exact k_ h
 rcases aY.mp (show p∈(hx,cc)::cV Γ.env scope.names []from hp)with rfl|hp
 exact λq=>eA (by rw[show cc=Γ.FL from q];exact Γ.dG)
 exact(ib _ _ (qA p hp).2).1
 rcases aY.mp (show p∈(hx,cc)::cV Γ.env scope.names []from hp)with rfl|hp
 show((hx,cc)::_).lookup hx=_
 rw[kJ,beq_self_eq_true]
 exact xp c (qA p hp).1 (qA p hp).2
 exact absurd (show C=Γ.FL from h) λq=>hC (q▸Γ.dG)
 rcases aY.mp hb with rfl|hb
 exact iM _ Γ.dG
 rcases aY.mp hb with rfl|hb
 exact jm
 rcases cq.mp hb with hb|hb
 refine bZ hb λp hp=>?_
 rcases aY.mp (show p∈(hx,cc)::cV Γ.env scope.names []from hp)with rfl|hp
 exact abI
 exact iM _ (eS (qA p hp).2)
 rw[uq,df,cq]at hb
 rcases hb with hb|hb
 refine bZ hb λp hp=>?_
 exact(fj p hp).1
 refine bZ hb λp hp=>?_
 exact iM _ (iH hp)
theorem az.gx (S:bt w Γ)(D:az w Γ s σ ρ)(c:fZ w Γ scope hx vc gc)(bS:iX Γ.vars ρ hx vc aX)(keep:∀b o,s.heap.get? b=some o→s'.heap.get? b=some o)(hC:s.heap.get? C=none)(eA:s.heap.get? cc=none)(nC:s'.heap.Ns C λ_=>none)(ncc:s'.heap.IsCell cc none)
  (fj:∀p∈own,s'.heap.get? p.1=some p.2∧Off s.heap σ p.1)(hm:s.heap.Ns Γ.FL m)(hg:s'.gens=s.gens)(ho:s'.os=s.os):az w (Γ.gx scope C hx cc own vc gc m) s' σ aX:=by
 have qA:∀p∈cV Γ.env scope.names [],(p.1,NameKind.free)∈scope.names∧Γ.env.cells.lookup p.1=some p.2:=λp hp=>by
  rcases jl (l:=scope.names) (acc:=[]) (y:=p.1) (c:=p.2) hp with q|q
  cases q
  exact q
 obtain⟨m',F⟩:=D.fr
 obtain⟨ml,hl,hh⟩:=D.loc
 have fR:∀a o,σ a=some o→foot s'.heap a=foot s.heap a:=λa o sa=>by
  obtain⟨z,hz⟩:=(D.hr.at_ a o sa).live a (bD.mpr (.inl rfl))
  exact ey ((keep _ _ hz).trans hz.symm)
 refine⟨⟨m',Ns.at F.ns λo e=>keep _ _ e,λb o e=>keep b o (F.keep b o e),F.above⟩,D.hr.grow keep,λa o sa b hb=>?_,λp hp=>?_,λp hp=>?_,⟨_,nC,λx k v l=>?_⟩,hg.trans D.gens,ho.trans D.os,λf e=>?_⟩
 rw[fR a o sa]at hb
 have f:=D.free a o sa b hb
 have old:∀x,s.heap.get? x=none→b≠x:=λx hx e=>by
  obtain⟨z,hz⟩:=(D.hr.at_ a o sa).live _ hb
  rw[e,hx]at hz;cases hz
 refine⟨f.1,λhp=>?_⟩
 rcases aY.mp hp with rfl|hp
 exact f.2 Γ.dG
 rcases aY.mp hp with e|hp
 exact old C hC e
 rcases cq.mp hp with hp|hp
 obtain⟨p,hq,rfl⟩:=cF.mp hp
 rcases aY.mp (show p∈(hx,cc)::cV Γ.env scope.names []from hq)with e|hq
 exact old cc eA (by rw[e])
 exact f.2 (eS (qA p hq).2)
 rw[show(Γ.gx scope C hx cc own vc gc m).kp=own++Γ.kp from rfl,df,cq]at hp
 rcases hp with hp|hp
 obtain⟨p,hq,rfl⟩:=cF.mp hp
 exact(fj p hq).2 a o sa hb
 obtain⟨p,hq,rfl⟩:=cF.mp hp
 exact f.2 (iH hq)
 rcases cq.mp hp with hp|hp
 exact(fj p hp).1
 exact keep _ _ (D.kp p hp)
 rcases aY.mp (show p∈(hx,cc)::cV Γ.env scope.names []from hp)with rfl|hp
 exact⟨none,ncc⟩
 obtain⟨v,o,oO,hd⟩:=D.cells (p.1,p.2) (mem_of_lookup (qA p hp).2)
 exact⟨v,o,keep _ _ oO,hd⟩
 obtain⟨rfl,lv,nx⟩:=bS.lk l
 obtain⟨a,val,h1,⟨o,h2,h3⟩,h4⟩:=hh x .cell v lv
 have hf:(x,NameKind.free)∈scope.names:=by
  rcases c.lY _ l.mem with⟨e,_⟩|⟨_,h|h⟩
  cases e
  exact h
  exact absurd h nx
 exact⟨a,val,xp c hf h1,⟨o,keep _ _ h2,h3⟩,h4⟩
 cases e
 exact Ns.at hm λo e=>keep _ _ e
theorem az.abK (S:bt w Γ)(D:az w Γ s σ ρ)(c:fZ w Γ scope hx vc gc)(bS:iX Γ.vars ρ hx vc aX)(hm:s.heap.Ns Γ.FL m)
  (o1:∀p∈own,p.1∈Γ.bM→s.heap.get? p.1=some p.2)(o2:Γ.env.locals=Γ.FL∨Γ.env.locals∈own.map (·.1))(o3:∀p∈Γ.env.cells,p.2∈own.map (·.1)∨(p.1,NameKind.free)∈scope.names)
  (D':az w (Γ.gx scope C hx cc own vc gc m) s' σ' aX):az w Γ s' σ' ρ:=by
 obtain⟨ml,hl,hh⟩:=D.loc
 have pX:∀b,b∈Γ.bM→b∈own.map (·.1)→∀o,s.heap.get? b=some o→s'.heap.get? b=some o:=λb hb hm o e=>by
  obtain⟨p,hp,rfl⟩:=cF.mp hm
  rw[o1 p hp hb]at e;cases e
  exact D'.kp p (gO _ hp)
 have sub:∀b,b∈Γ.bM→b∈(Γ.gx scope C hx cc own vc gc m).bM:=λb hb=>by
  have tC:b∈own.map (·.1)→b∈(Γ.gx scope C hx cc own vc gc m).bM:=λh=>bw _ (bw _ (jy _ (by
   rw[show(Γ.gx scope C hx cc own vc gc m).kp=own++Γ.kp from rfl,df];exact gO _ h)))
  rcases aY.mp hb with rfl|hb
  exact bA
  rcases aY.mp hb with rfl|hb
  rcases o2 with h|h
  rw[h];exact bA
  exact tC h
  rcases cq.mp hb with hb|hb
  obtain⟨p,hp,rfl⟩:=cF.mp hb
  rcases o3 p hp with h|h
  exact tC h
  have:=m_ (env:=Γ.env) (acc:=[]) h (S.cl p hp)
  exact bw _ (bw _ (gO _ (cB (f:=(·.2)) (bw (hx,cc) this))))
  refine bw _ (bw _ (jy _ ?_))
  rw[show(Γ.gx scope C hx cc own vc gc m).kp=own++Γ.kp from rfl,df]
  exact jy _ hb
 have tD:∀y a,Γ.env.cells.lookup y=some a→∀v k,Lk Γ.vars ρ y k v→(∃val,s.heap.IsCell a (some val)∧er val=v)→∃val,s'.heap.IsCell a (some val)∧er val=v:=λy a ha v k l h=>by
  rcases o3 (y,a) (mem_of_lookup ha)with hw|hf
  obtain⟨val,⟨o,h1,h2⟩,h3⟩:=h
  exact⟨val,⟨o,pX a (eS ha) hw o h1,h2⟩,h3⟩
  obtain⟨u,lu⟩:=bS.has (c.full y hf) (c.ne hf)
  obtain⟨_,AW,_⟩:=bS.lk lu
  obtain⟨_,rfl⟩:=Lk.fun S.nd l AW
  obtain⟨mc,nc,hc⟩:=D'.loc
  obtain⟨b,val,h1,h2,h3⟩:=hc y .cell _ lu
  have h1:((hx,cc)::cV Γ.env scope.names []).lookup y=some b:=h1
  rw[xp c hf ha]at h1
  cases h1
  exact⟨val,h2,h3⟩
 refine⟨D'.fr,D'.hr,λa o sa b hb=>⟨(D'.free a o sa b hb).1,λhp=>(D'.free a o sa b hb).2 (sub b hp)⟩,λp hp=>D'.kp p (jy _ hp),λp hp=>?_,⟨ml,?_,λx k v l=>?_⟩,D'.gens,D'.os,λf e=>?_⟩
 rcases o3 p hp with h|h
 obtain⟨v,o,h1,h2⟩:=D.cells p hp
 exact⟨v,o,pX _ (ow hp) h o h1,h2⟩
 exact D'.cells (p.1,p.2) (bw _ (m_ h (S.cl p hp)))
 rcases o2 with h|h
 rw[h]at hl ⊢
 rw[hl.eq_nsMap,←hm.eq_nsMap]
 exact D'.fm m rfl
 exact Ns.at hl λo e=>pX _ Γ.fP h o e
 have hx:=hh x k v l
 cases k with
 |loc=>exact hx
 |cell=>
  obtain⟨a,val,h1,h2,h3⟩:=hx
  obtain⟨pY,h4,h5⟩:=tD x a h1 v .cell l ⟨val,h2,h3⟩
  exact⟨a,pY,h1,h4,h5⟩
 |free=>
  obtain⟨a,val,h1,h2,h3⟩:=hx
  obtain⟨pY,h4,h5⟩:=tD x a h1 v .free l ⟨val,h2,h3⟩
  exact⟨a,pY,h1,h4,h5⟩
 have:=D.fm f e
 rw[this.eq_nsMap,←hm.eq_nsMap]
 exact D'.fm m rfl
end
section
variable{w:World}{Γ:Ctx}{s s':Shared}{σ σ':Hp}{ρ aR aX:LO}{Q:PQ}{scope:Scope}{vc:KV}{gc:LV}
theorem abL {elt tgt iter ifs pos}{hc:Str}(c:fZ w Γ scope hc vc gc)(bS:iX Γ.vars ρ hc vc aX)(z:Src){aH:Hp}{QD:Addr→Hp→Prop}
  (q:JK w Γ.d vc gc aX tgt z elt ifs QD aH):rl w Γ scope tgt elt iter ifs pos ρ QD (.ref z.addr) aH:=by
 refine⟨λS av aL v' ev X RR ends=>?_⟩
 refine bJ ev ?_
 obtain⟨xs,hb,q⟩:=q
 refine z.start aL hb λoi A3 Vp cM=>?_
 have N:=aL.AE A3
 generalize hit:av.heap.objs.size=it at N
 have nk:=N.out
 have nj:=N.h0
 have oN:=N.none_
 have aA:=N.dyn
 have A4:=N.at_
 have A5:=N.off
 refine wpAny_newObj_type ?_
 generalize hL:({cls:=.type "list",dict:=none,data:=.seq ([]:List Value).toArray}:Obj)=oL
 have A6:At w ((av.heap.push oi).push oL) (av.heap.push oi).objs.size (.list []):=by rw[←hL];exact At.newList (vs:=[])
 obtain⟨bN,tH⟩:=aA.push (o:=oL) (by rw[←hL];rfl) (by rw[←hL]) A6 av.toks
 generalize tI:(av.heap.push oi).objs.size=DD at bN tH
 obtain⟨I,I0,Il,B,fin⟩:=q DD tH
 have lp:it<DD:=by rw[←tI,jF,hit];exact Nat.lt_succ_self _
 refine abG c.one ?_
 generalize hH:(av.heap.push oi).push oL=H at bN
 have hV:((H.push {cls:=.type "dict",data:=.dict #[]}).push {cls:=.type "cell",data:=.cell none}).Ns H.objs.size fun _=>none:=(Heap.Ns.new H (.type "dict")).keeps fun b o e=>dy _ e
 have et:((H.push {cls:=.type "dict",data:=.dict #[]}).push {cls:=.type "cell",data:=.cell none}).IsCell (H.objs.size+1) none:=⟨_,by rw[←jF H {cls:=.type "dict",data:=.dict #[]}];exact jA _ rfl,rfl⟩
 have km:∀b o,H.get? b=some o→((H.push {cls:=.type "dict",data:=.dict #[]}).push {cls:=.type "cell",data:=.cell none}).get? b=some o:=fun b o e=>dy _ (dy _ e)
 show codeAny (model aC w) Γ.A (.compStart (.ListComp elt [⟨tgt,iter,ifs,0⟩] scope pos) 0 (.ref it) (.ref DD) (compEnvC scope ((hc,H.objs.size+1)::cV Γ.env scope.names []) H.objs.size Γ.env)) (RR (.ref DD) H.objs.size) {av with heap:=((H.push {cls:=.type "dict",data:=.dict #[]}).push {cls:=.type "cell",data:=.cell none})}
 generalize afs:((H.push {cls:=.type "dict",data:=.dict #[]}).push {cls:=.type "cell",data:=.cell none})=h₁ at hV et km ⊢
 generalize iq:H.objs.size=C at hV et ⊢
 have rm:DD<C:=by rw[←iq,←hH,jF,tI];exact Nat.lt_succ_self _
 have lq:H.get? C=none:=jz (Nat.le_of_eq iq)
 have jm:Γ.h₀.get? C=none:=by
  cases e:Γ.h₀.get? C with
  |none=>rfl
  |some o=>obtain⟨m,F⟩:=bN.fr;rw[show H.get? C=some o from F.keep C o e]at lq;cases lq
 have ko:C∉Γ.bM:=λhp=>by obtain⟨o,e⟩:=bN.kR C hp;rw[show H.get? C=some o from e]at lq;cases lq
 have ur:H.get? (C+1)=none:=jz (by rw[iq];exact Nat.le_succ C)
 have wH:Γ.h₀.get? (C+1)=none:=by
  cases e:Γ.h₀.get? (C+1)with
  |none=>rfl
  |some o=>obtain⟨m,F⟩:=bN.fr;rw[show H.get? (C+1)=some o from F.keep (C+1) o e]at ur;cases ur
 have mQ:(C+1)∉Γ.bM:=λhp=>by obtain⟨o,e⟩:=bN.kR (C+1) hp;rw[show H.get? (C+1)=some o from e]at ur;cases ur
 obtain⟨own,o1,o2,o3⟩:=ownOf S bN scope
 obtain⟨m,F⟩:=bN.fr
 have SC:bt w (Γ.gx scope C hc (C+1) own vc gc m):=S.gx c ko jm mQ wH (Nat.succ_ne_self C) λp hp=>by
  obtain⟨a1,a2,a3,a4⟩:=o1 p hp
  exact⟨S.new _ a1,λq=>ko (q▸a1),λq=>mQ (q▸a1),a2,a4⟩
 have DC:az w (Γ.gx scope C hc (C+1) own vc gc m) {av with heap:=h₁} (upd aH DD (.list [])) aX:=
  az.gx S bN c bS km lq ur hV et (λp hp=>⟨km _ _ (o1 p hp).2.2.1,bN.off (.inl (o1 p hp).1)⟩) F.ns rfl rfl
 have tJ:H.get? it=some oi:=by rw[←hH];exact dy _ A4
 have A8:it∉(Γ.gx scope C hc (C+1) own vc gc m).bM:=λhp=>by
  rcases aY.mp hp with e|hp
  exact nk (e▸Γ.dG)
  rcases aY.mp hp with e|hp
  have e:it=C:=e
  rw[e]at lp;exact Nat.lt_asymm lp rm
  rcases cq.mp hp with hp|hp
  obtain⟨p,hq,e⟩:=cF.mp hp
  rcases aY.mp (show p∈(hc,C+1)::cV Γ.env scope.names []from hq)with z|hq
  rw[z]at e
  have e:C+1=it:=e
  rw[←e]at lp;exact absurd (Nat.lt_trans lp rm) (Nat.not_lt.mpr (Nat.le_succ C))
  rcases jl (l:=scope.names) (acc:=[]) (y:=p.1) (c:=p.2) hq with z|z
  cases z
  exact nk (e▸eS z.2)
  rw[show(Γ.gx scope C hc (C+1) own vc gc m).kp=own++Γ.kp from rfl,df,cq]at hp
  rcases hp with hp|hp
  obtain⟨p,hq,e⟩:=cF.mp hp
  exact nk (e▸(o1 p hq).1)
  obtain⟨p,hq,e⟩:=cF.mp hp
  exact nk (e▸iH hq)
 have A9:Off h₁ (upd aH DD (.list [])) it:=λa o sa hb=>by
  by_cases ha:a=DD
  subst ha
  have:foot h₁ a=[a]:=(DC.hr.at_ _ _ sa).noDict (by rw[ai]at sa;cases sa;trivial)
  rw[this,dm]at hb
  rw[hb]at lp;exact Nat.lt_irrefl _ lp
  rw[aJ ha]at sa
  obtain⟨z,hz⟩:=(aA.hr.at_ a o sa).live a (bD.mpr (.inl rfl))
  have hz:(av.heap.push oi).get? a=some z:=hz
  have:h₁.get? a=some z:=km _ _ (by rw[←hH];exact dy _ hz)
  rw[ey (this.trans hz.symm)]at hb
  exact A5 a o sa hb
 have DW:az w ((Γ.gx scope C hc (C+1) own vc gc m).with [(it,oi)]) {av with heap:=h₁} (upd aH DD (.list [])) aX:=DC.with λp hp=>by
  rw[dm.mp hp];exact⟨km _ _ tJ,A9⟩
 have tK:z.At (h₁) it xs 0:=cM _ _ (km _ _ tJ)
 have loop:codeAny (model aC w) Γ.A (.compLoop (.ListComp elt [⟨tgt,iter,ifs,0⟩] scope pos) 0 (.ref it) (.ref DD) (compEnvC scope ((hc,C+1)::cV Γ.env scope.names []) C Γ.env)) (RR (.ref DD) C) {av with heap:=h₁}:=by
  refine JJ (Γc:=Γ.gx scope C hc (C+1) own vc gc m) ⟨A8,nj⟩ SC rfl rfl B Il I0 DW tK λs' τ ys Ie De=>?_
  obtain⟨mc,nc,_⟩:=De.loc
  have Du:az w Γ s' τ ρ:=az.abK S bN c bS F.ns (λp hp _=>(o1 p hp).2.2.1) o2 o3 De
  have qc:Off s'.heap τ C:=λa o sa hb=>(De.free a o sa C hb).2 (bw _ bA)
  exact ends DD C s' τ (fin ys τ Ie) Du ko jm qc ⟨mc,nc⟩
 exact codeAny_compStart_list loop (z.again tK loop)
end
noncomputable def uu:Str×NameKind→Option (Str×VK)
 |(x,.local)=>some (x,.loc)
 |(x,.free)=>some (x,.cell)
 |(x,.cell)=>some (x,.cell)
 |_=>none
theorem abM {l:SN}:((l.filterMap uu).map (·.1)).Sublist (l.map (·.1)):=by
 induction l with
 |nil=>exact List.Sublist.refl _
 |cons p r ih=>
  obtain⟨x,k⟩:=p
  cases k<;>simp only[gz,uu,bx]<;>first|exact ih.cons_cons _|exact ih.cons _
theorem abN {l:SN}{x:Str}{k:VK}(h:(x,k)∈l.filterMap uu):(k=.loc∧(x,NameKind.local)∈l)∨(k=.cell∧((x,NameKind.free)∈l∨(x,NameKind.cell)∈l)):=by
 obtain⟨⟨y,j⟩,hm,e⟩:=i4.mp h
 cases j<;>simp only[uu]at e<;>cases e
 exact .inl ⟨rfl,hm⟩
 exact .inr ⟨rfl,.inr hm⟩
 exact .inr ⟨rfl,.inl hm⟩
theorem fZ.of {w:World}{Γ:Ctx}{scope:Scope}{hx:Str}{vars vc:KV}{gc:LV}(hv:Γ.vars=vars)(names:SN)(is gs:List Nat)
  (hk:scope.kind=.function)(hn:scope.names=names)(Ma:(names.filter λp=>p.2==.cell)=[(hx,.cell)])(h:rf names=true∧names.filterMap uu=vc∧(names.filterMap wc).map some=is.map (λi=>vars[i]?)∧gc.map (·.1)=(names.filter rg).map (·.1)∧gc.map some=gs.map λi=>GT[i]?):fZ w Γ scope hx vc gc:=by
 obtain⟨mN,qe,Be,Bf,rn⟩:=h
 obtain⟨nd,db⟩:=z7 mN
 have gv:=vP w gs rn
 refine⟨hk,hn▸nd,λn hm=>?_,λp hp=>?_,?_,λx hx=>db x (hn▸hx),λp hp=>⟨hn▸z9 Bf p hp,eJ.mp (List.map_inj_left.mp gv p hp)⟩,hn▸Ma,λy hy=>?_⟩
 rw[hv]
 have:some (n,VK.cell)∈(names.filterMap wc).map some:=cB (i4.mpr ⟨(n,.free),hn▸hm,rfl⟩)
 rw[Be]at this
 obtain⟨i,_,e⟩:=cF.mp this
 exact cS e
 obtain⟨x,k⟩:=p
 rw[hn]
 rcases abN (qe▸hp)with h|⟨e,h|h⟩
 exact .inl h
 exact .inr ⟨e,.inl h⟩
 refine .inr ⟨e,.inr ?_⟩
 have:(x,NameKind.cell)∈names.filter λp=>p.2==.cell:=jE.mpr ⟨h,by simp⟩
 rw[Ma]at this
 simpa using this
 rw[←qe];exact abM.nodup nd
 rw[←qe];exact i4.mpr ⟨(y,.free),hn▸hy,rfl⟩
section
variable{w:World}{Γ:Ctx}{σ:Hp}{ρ aX:LO}{QT:PF}{scope:Scope}{vars vc:KV}{gc:LV}{R:V→LO}
theorem aT.Mb (hv:Γ.vars=vars) {elt x px iter ifs pos y py gp}(C:fZ w Γ scope x vc gc)(bS:iX vars ρ x vc aX)(pt:∀y,Pt vc aX x y (R y))(hy:(y,VK.loc)∈vars)(iP:(scope.names.all λp=> !(p.1==y))=true)
  (h:ak w Γ iter σ ρ (tM w Γ.d vc gc R ifs elt (kf vars y ρ QT)))
  (eG:(py.line==pos.line)=true:=by rfl)(hs:∀env y,foldedSetIterable iter env y=pure y:=by intro _ _;rfl):aT w Γ (.Assign [.Name y py] (.ListComp elt [⟨.Name x px,iter,ifs,0⟩] scope pos) gp) σ ρ QT:=
 aT.wb hv (λS n hn=>(C.cell S hn).2) C.kind C.nd hy (λk hk=>by
  have:=ew.mp iP _ hk
  simp at this) ⟨λS s D k X hk=>h.run S s D k X λa s' σ' q D'=>hk a s' σ' (by
  obtain⟨l,xs,ev,hh,qq⟩:=q
  rw[ev]
  subst hv
  exact abL C bS (.list l) ⟨xs,hh,λD hD=>let⟨I,i0,k,st,q⟩:=qq D hD;⟨I,i0,k,.of pt (λz k u bj v _ l=>(bS.lk l).2.2) st,q⟩⟩) D'⟩ eG hs
end
theorem abO {w:World}{Γ:Ctx}{scope:Scope}(hv:Γ.vars=oK)(hk:scope.kind=.function)(hn:scope.names=JP):fZ w Γ scope "head" JQ XC:=
 fZ.of hv JP [2,3] [26,9] hk hn rfl (by and_intros<;>rfl')
theorem abP {w:World}{Γ:Ctx}{scope:Scope}(hv:Γ.vars=pS)(hk:scope.kind=.function)(hn:scope.names=JS):fZ w Γ scope "head" JT X8:=
 fZ.of hv JS [3,2,4] [123,26] hk hn rfl (by and_intros<;>rfl')
theorem Mc:∀{vs:List Value}{ss:List Str},vs.map er=ss.map V.str→StrsAre vs ss
 | [],[],_=>.nil
 | [],s::ss,h=>by cases h
 |v::vs,[],h=>by cases h
 |v::vs,s::ss,h=>by
  rw[bx,bx,jD]at h
  refine gh (h.1) λt=>?_
  exact .cons s t (Mc h.2)
theorem StrsAre.er {vs:List Value}{ss:List Str}(h:StrsAre vs ss):vs.map er=ss.map V.str:=by
 induction h with
 |nil=>rfl
 |cons y t _ ih=>rw[bx,bx,ih];rfl
section
variable{w:World}{Γ:Ctx}{ρ:LO}{d:Nat}{σ:Hp}{Q:PQ}
theorem Op.sorted {l:Addr}{ss:List Str}(hl:σ l=some (.list (ss.map .str)))(h64:ss.length<64)(q:∀b uv,σ b=none→uv.Perm ss→sortedS uv=true→Q (.ref b) (upd σ b (.list (uv.map .str)))):∀as:List Value,as.map er=[.ref l]→Op w Γ (PySem.call (.builtin "sorted") as) σ ρ Q:=by
 intro as ea S s D k X hk
 obtain⟨a,rfl,e1⟩:=args_1 ea
 refine bJ e1 ?_
 obtain⟨vs,hv,ev⟩:=(D.hr.at_ _ _ hl).isList
 have eD:s.heap.IsList l vs.toList.toArray:=by simpa using hv
 have hlen:vs.toList.length=ss.length:=by have:=gf List.length ev;simpa using this
 refine sorted_strs eD (Mc ev) (by lia) λout uv h1 h2 h3=>?_
 obtain⟨e,he⟩:=sortedAll_at s.heap vs.toList out
 have cM:At w (sortedAll s.heap vs.toList out) (s.heap.objs.size+1) (.list (uv.map .str)):=⟨e,out,he,StrsAre.er h1⟩
 obtain⟨aA,fr⟩:=D.new (s':={s with heap:=sortedAll s.heap vs.toList out}) (λb o e=>sortedAll_old e) cM (λb hb=>by
  rw[cM.noDict trivial,dm]at hb
  rw[hb];exact jz (Nat.le_succ _)) rfl rfl
 exact hk (.ref _) _ _ (q _ _ fr h2 h3) aA
end
noncomputable def dW (s:Str):V→Bool
 |.str t=>t==s
 |_=>false
noncomputable def mS:Str:=Str.ofString "m"
noncomputable def nS:Str:=Str.ofString "n"
noncomputable def MN (ws:List V):Prop:=∀x∈ws,x=.none∨x=.str mS∨x=.str nS
theorem MN.rM {ws:List V}(h:MN ws):gJ ws:=λx hx=>by
 rcases h x hx with e|e|e
 exact .inl e
 exact .inr ⟨_,e⟩
 exact .inr ⟨_,e⟩
noncomputable def heads (ws:List V):List Str:=[mS,nS].filter λs=>ws.any (dW s)
theorem xq {s:Str}{x:V}:dW s x=true↔x=.str s:=by
 cases x<;>simp[dW]
theorem abQ {s:Str}{ws:List V}:ws.any (dW s)=true↔V.str s∈ws:=by
 rw[List.any_eq_true]
 constructor
 (intro zqA;obtain⟨x,hx,e⟩:=zqA);rw[←xq.mp e];exact hx
 intro h;exact⟨_,h,xq.mpr rfl⟩
theorem Md:mS.cps.toList<nS.cps.toList:=B5 (by rfl')
theorem xr {ws:List V}(h:MN ws):Lv ws (heads ws):=by
 refine⟨?_,λs=>?_⟩
 refine List.Pairwise.filter _ ?_
 exact .cons (λx hx=>by rw[dm.mp hx];exact Md) (r9 _ _)
 unfold heads
 rw[jE,abQ]
 refine⟨λh=>h.2,λhs=>⟨?_,hs⟩⟩
 rcases h _ hs with e|e|e
 cases e
 cases e;simp
 cases e;simp
theorem uw {ws:List V}:(heads ws).length≤2:=og _ _
theorem abR:sortedS [nS,mS]=false:=by rfl'
theorem Me {ws:List V}{ss:List Str}(h:ss.Perm (heads ws))(hs:sortedS ss=true):ss=heads ws:=by
 unfold heads at*
 have key:∀l:List Str,(l=[]∨l=[mS]∨l=[nS]∨l=[mS,nS])→ss.Perm l→ss=l:=by
  rintro l (rfl|rfl|rfl|rfl) hp
  exact hp.eq_nil
  exact List.perm_singleton.mp hp
  exact List.perm_singleton.mp hp
  match ss,hp.length_eq,hp,hs with
  | [a,b],_,hp,hs=>
   have ha:a=mS∨a=nS:=by simpa using hp.subset (bA)
   have hb:b=mS∨b=nS:=by simpa using hp.subset (bw a (bA (l:=[])))
   have b8:mS≠nS:=λe=>List.lt_irrefl _ (e▸Md:nS.cps.toList<nS.cps.toList)
   have nd:[a,b].Nodup:=hp.nodup_iff.mpr (by simp[b8])
   rcases ha with rfl|rfl<;>rcases hb with rfl|rfl
   simp at nd
   rfl
   rw[abR]at hs;cases hs
   simp at nd
 refine key _ ?_ h
 simp only[List.filter_cons,List.filter_nil]
 by_cases h1:ws.any (dW mS)=true<;>by_cases h2:ws.any (dW nS)=true<;>simp[h1,h2]
noncomputable def mq (ns:List Nat)(M:Nat):List V:=(List.range M).map λi=>([vI 1,vI 2,vI 3,.none][(ns[19+i]?.getD 0) % 4]?).getD .none
noncomputable def gy (ns:List Nat)(o M:Nat):List V:=(List.range M).map λi=>([V.str mS,.str nS,.none][(ns[o+i]?.getD 0) % 3]?).getD .none
theorem abS {ns M}:(mq ns M).length=M:=by simp[mq]
theorem Mf {ns o M}:(gy ns o M).length=M:=by simp[gy]
theorem abT {ns M}:fX (mq ns M) 3:=λc hc=>by
 refine bZ hc λi _=>?_
 have:=i7 (ns[19+i]?.getD 0) (by decide:4>0)
 generalize (ns[19+i]?.getD 0) % 4=k at this
 rcases(by lia:k=0∨k=1∨k=2∨k=3)with rfl|rfl|rfl|rfl
 exact .inr ⟨0,by decide,rfl⟩
 exact .inr ⟨1,by decide,rfl⟩
 exact .inr ⟨2,by decide,rfl⟩
 exact .inl rfl
theorem Mg {ns o M}:MN (gy ns o M):=λc hc=>by
 refine bZ hc λi _=>?_
 have:=i7 (ns[o+i]?.getD 0) (by decide:3>0)
 generalize (ns[o+i]?.getD 0) % 3=k at this
 rcases(by lia:k=0∨k=1∨k=2)with rfl|rfl|rfl
 exact .inr (.inl rfl)
 exact .inr (.inr rfl)
 exact .inl rfl
noncomputable def cC (xs:List V)(i:Nat):V:=xs[i]?.getD .none
theorem iY {xs:List V}{i:Nat}(h:i<xs.length):xs[i]? =some (cC xs i):=by unfold cC;rw[bL h];rfl
noncomputable def lH (cs ws:List V)(h:Str):List V:=(List.range ws.length).filterMap λi=>if dW h (cC ws i)=true then some (cC cs i)else none
theorem Cd {cs ws:List V}{h:Str}:lH cs ws h=((List.range ws.length).filter λi=>dW h (cC ws i)).map (cC cs):=by
 unfold lH
 induction List.range ws.length with
 |nil=>rfl
 |cons i r ih=>
  rw[gz,List.filter_cons]
  by_cases e:dW h (cC ws i)=true
  simp only[e,if_true,bx];rw[ih]
  simp only[e];exact ih
theorem Ce {ws:List V}{hs:List Str}(nd:hs.Nodup){i j:Nat}(hi:i<ws.length)(hj:j<hs.length):cf (ws.map (b9 hs)) i=some j↔dW hs[j] (cC ws i)=true:=by
 have e:(ws.map (b9 hs))[i]? =some (b9 hs (cC ws i)):=by rw[dI,iY hi];rfl
 unfold cf
 rw[e,xq]
 constructor
 intro h
 cases hv:cC ws i with
 |str s=>
  rw[hv]at h
  by_cases hm:s∈hs
  obtain⟨k,hk⟩:=gN.mp hm
  have:b9 hs (.str s)=.int ((k+1:Nat):Int):=by
   show(keyOf (eU 0 hs) s).getD .none=_
   rw[rr 0 hs k nd hk];simp
  rw[this]at h
  have:k=j:=by simpa using h
  subst this
  rw[(cp.mp hk).2]
  have:b9 hs (.str s)=.none:=by
   show(keyOf (eU 0 hs) s).getD .none=_
   rw[wz 0 hs hm];rfl
  rw[this]at h;cases h
 |none=>rw[hv]at h;cases h
 |bool b=>rw[hv]at h;cases h
 |int b=>rw[hv]at h;cases h
 |ref b=>rw[hv]at h;cases h
 |cK b=>rw[hv]at h;cases h
 intro h
 rw[h]
 have:b9 hs (.str hs[j])=.int ((j+1:Nat):Int):=by
  show(keyOf (eU 0 hs) hs[j]).getD .none=_
  rw[rr 0 hs j nd (bL hj)];simp
 rw[this];simp
theorem Mh:fK.Nodup:=w0 (by rfl')
theorem abU {c:V}(h:c=.none∨∃j,j<3∧c=.int ((j+1:Nat):Int)):b9 fK (eW fK c)=c:=by
 rcases h with rfl|⟨j,hj,rfl⟩
 rfl
 rw[ue (hj:j<fK.length)]
 show(keyOf (eU 0 fK) _).getD .none=_
 rw[rr 0 fK j Mh (bL _)];simp
noncomputable def rN (cs ws:List V):List V:=(List.range ws.length).map λi=>if bB (cC ws i)=true then .none else cC cs i
theorem abV {cs ws:List V}(hl:cs.length=ws.length)(hw:MN ws)(hc:fX cs 3):(md (ws.map (b9 (heads ws))) λp=>eW fK (cC cs p)).map (b9 fK)=rN cs ws:=by
 unfold md rN
 rw[kM,ay]
 refine sm λi hi=>?_
 have hi:=iD.mp hi
 have lv:=xr hw
 have wm:=cS (iY hi)
 have hcm:=hc _ (cS (iY (by rw[hl];exact hi)))
 show b9 fK (if(cf _ i).isSome=true then _ else _)=_
 cases hv:bB (cC ws i)with
 |true=>
  have:cC ws i=.none:=by cases h:cC ws i<;>rw[h]at hv<;>first|rfl|cases hv
  have:cf (ws.map (b9 (heads ws))) i=none:=by
   unfold cf;rw[dI,iY hi,this];rfl
  rw[this];rfl
 |false=>
  obtain⟨s,hs⟩:∃s,cC ws i=.str s:=by
   rcases hw _ wm with e|e|e
   rw[e]at hv;cases hv
   exact⟨_,e⟩
   exact⟨_,e⟩
  have hm:s∈heads ws:=(lv.2 s).mpr (hs▸wm)
  obtain⟨j,hj⟩:=gN.mp hm
  obtain⟨l8,hj2⟩:=cp.mp hj
  have:cf (ws.map (b9 (heads ws))) i=some j:=(Ce lv.nodup hi l8).mpr (xq.mpr (by rw[hj2,hs]))
  rw[this]
  simp only[Option.isSome_some,if_true,jC,if_false]
  exact abU hcm
theorem abW {cs ws:List V}{hs:List Str}(nd:hs.Nodup)(j:Nat)(c:List V)(qs:List Nat)(h1:(hs.map (lH cs ws))[j]? =some c)(h2:(dw hs.length (cf (ws.map (b9 hs))) id (ws.map (b9 hs)).length)[j]? =some qs):
  c.length=qs.length∧∀(s p:Nat),qs[s]? =some p→∃c',c[s]? =some c'∧eW fK c'=eW fK (cC cs p):=by
 rw[dI]at h1
 obtain⟨h,hj,rfl⟩:=eJ.mp h1
 obtain⟨l8,rfl⟩:=cp.mp hj
 rw[lA l8]at h2
 cases h2
 have e:((List.range (ws.map (b9 hs)).length).filter λi=>cf (ws.map (b9 hs)) i==some j)=(List.range ws.length).filter λi=>dW hs[j] (cC ws i):=by
  rw[ay]
  refine List.filter_congr λi hi=>?_
  have:=Ce nd (iD.mp hi) l8
  by_cases e:dW hs[j] (cC ws i)=true
  rw[e];simp[this.mpr e]
  have e':dW hs[j] (cC ws i)=false:=by simpa using e
  rw[e']
  simp only[jB]
  exact λq=>e (this.mp q)
 rw[e,List.map_id,Cd]
 refine⟨by rw[ay],λs p hp=>⟨cC cs p,by rw[dI,hp];rfl,rfl⟩⟩
theorem abX {x y:V}:keyOf [(Str.ofString "levels",x),(Str.ofString "class",y)] (Str.ofString "levels")=some x:=by simp[keyOf]
theorem abY {x y:V}:keyOf [(Str.ofString "levels",x),(Str.ofString "class",y)] (Str.ofString "class")=some y:=by
 unfold keyOf keyOf
 rw[bK (ne_str (by rfl')),ck rfl]
theorem xt {σ:Hp}{n:Nat}{x:V}{s:Str}(h:x=.none∨∃t,x=.str t):cU σ n x (.str s) (dW s x):=by
 rcases h with rfl|⟨t,rfl⟩
 exact .ns
 exact .ss
noncomputable def ju (ws:List V):V→Option V
 |.str s=>if ws.any (dW s)=true then some (.str s)else none
 |_=>none
theorem Mi {ws:List V}:[V.str mS,.str nS].filterMap (ju ws)=(heads ws).map V.str:=by
 unfold heads ju
 by_cases h1:ws.any (dW mS)=true<;>by_cases h2:ws.any (dW nS)=true<;>simp[List.filterMap,List.filter,h1,h2]
theorem ux {n:Nat}{f:Nat→V}:(List.range n).filterMap (λi=>some (f i))=(List.range n).map f:=by rw[←vb];rfl
theorem Cf {σ:Hp}{n:Nat}:∀(xs:List V),(∀x∈xs,x=.none∨∃i,x=.int i)→br (λx y=>cU σ n x y true) xs xs
 | [],_=>.nil
 |x::xs,h=>.cons (by rcases h x bA with rfl|⟨i,rfl⟩;exact .nn;exact mn) (Cf xs λy hy=>h y (bw _ hy))
section
variable{w:World}{Γ:Ctx}{ρ:LO}{d:Nat}{σ:Hp}{Q:PQ}{QT:PF}{a:Addr}{gl cD:V}
inductive abZ (ws cs:List V)(dU:Hp)(D:Addr)(i:Nat)(ys:List V)(τ:Hp):Prop
 |mk (υ:Hp) (fa:List Addr) (cQ:υ D=none) (cR:Ext dU υ) (eO:τ=upd υ D (.list ys)) (fV:ys=fa.map V.ref) (lr:br (λp c=>cX υ p c fK) fa (((heads ws).take i).map (lH cs ws)))
theorem ab0 {S W:Addr}{ns:List Nat}(ha:σ a=some (.inst 1985 (gu gl (.ref W) cD)))(gD:gW gl=true)(hS:σ S=some (.list (ns.map vI)))(hn:ns.length=30)(q:∀τ,Ext σ τ→Q (.bool true) τ):Call w (d+12) (.ref 2039) [.ref a,.ref S] σ Q:=by
 have zS:(ns.map vI).length≤1000000:=by rw[ay];lia
 have cM:∀k,k<30→(ns.map vI)[k]? =some (vI (ns[k]?.getD 0)):=λk hk=>by
  rw[dI,bL (by lia)];rfl
 refine Uv fun Γ hd hv hg=>?_
 refine ae (aS hv (bC (bo (ah hv aD (aW (eh (i:=18) hS rfl (cM 18 (by lia)) zS (aW (fC (by decide) ⟨_,vJ,?_⟩))))))))
 have Cg:((ns[18]?.getD 0:Nat):Int).fmod 6=((ns[18]?.getD 0 % 6:Nat):Int):=fq _ 6
 rw[Cg]
 have hM:=i7 (ns[18]?.getD 0) (by decide:6>0)
 revert Cg hM;refine gen (ns[18]?.getD 0 % 6) ?_;intro M Cg hM
 refine ae (aT.wg hv cY (ak.qf hv (XX (w:=w) hv (by rfl) (by rfl)) (.loc (.loc (.cell aD .nil))) aQ (pt:=λy=>bX) hg aN (aj hv 2 rfl rfl ⟨M,λi=>some (([vI 1,vI 2,vI 3,.none][(ns[19+i]?.getD 0) % 4]?).getD .none),rfl,by lia,?_,λDc Mj=>⟨_,s6,?_⟩⟩)))
 intro i hi υ F Γc e1 e2 e3
 have h4:=i7 (ns[19+i]?.getD 0) (by decide:4>0)
 have uy:[vI 1,vI 2,vI 3,.none][(ns[19+i]?.getD 0) % 4]? =some (([vI 1,vI 2,vI 3,.none][(ns[19+i]?.getD 0) % 4]?).getD .none):=by
  rw[bL (h4:_<4)];rfl
 refine dE ⟨λ_=>ak.forget ?_,tf⟩
 exact bo (bq (ar rfl [] rfl ⟨aB,λx hx=>bC (bo (aj e2 2 rfl rfl (bC (aW (ah e2 aD (Op.jd (eh (i:=19+i) (af hx _ _ (F _ _ hS)) (by lia) (cM (19+i) (by lia)) zS (aW (fC (by decide) (eh (ai _ _ _) (fq _ 4) uy aB ⟨υ,af hx,rfl,rfl⟩))))))))))⟩))
 rw[ux,show(List.range M).map (λi=>([vI 1,vI 2,vI 3,V.none][(ns[19+i]?.getD 0) % 4]?).getD .none)=mq ns M from rfl]
 have E1:=af (o:=.list (mq ns M)) Mj
 have uz:=ai σ Dc (.list (mq ns M))
 revert E1 uz;refine genE (upd σ Dc (.list (mq ns M))) ?_;intro cA qB E1 uz
 refine ae (aT.wg hv fG (ak.qf hv (X3 (w:=w) hv (by rfl) (by rfl)) (.loc (.loc (.cell aD .nil))) aQ (pt:=λy=>bX) hg aN (aj hv 2 rfl rfl ⟨M,λi=>some (([V.str mS,.str nS,.none][(ns[24+i]?.getD 0) % 3]?).getD .none),rfl,by lia,?_,λDw ph=>⟨_,Ez,?_⟩⟩)))
 intro i hi υ F Γc e1 e2 e3
 have h4:=i7 (ns[24+i]?.getD 0) (by decide:3>0)
 have uy:[V.str mS,.str nS,.none][(ns[24+i]?.getD 0) % 3]? =some (([V.str mS,.str nS,.none][(ns[24+i]?.getD 0) % 3]?).getD .none):=by
  rw[bL (h4:_<3)];rfl
 refine dE ⟨λ_=>ak.forget ?_,tf⟩
 exact bo (bq (ar rfl [] rfl ⟨aB,λx hx=>bC (bo (aj e2 2 rfl rfl (bC (aW (ah e2 aD (Op.jd (eh (i:=24+i) (af hx _ _ (F _ _ (E1 _ _ hS))) (by lia) (cM (24+i) (by lia)) zS (aW (fC (by decide) (eh (ai _ _ _) (fq _ 3) uy aB ⟨υ,af hx,rfl,rfl⟩))))))))))⟩))
 rw[ux,show(List.range M).map (λi=>([V.str mS,.str nS,V.none][(ns[24+i]?.getD 0) % 3]?).getD .none)=gy ns 24 M from rfl]
 have E2:=E1.trans (af (o:=.list (gy ns 24 M)) ph)
 have hC:=af (o:=.list (gy ns 24 M)) ph _ _ uz
 have hW:=ai cA Dw (.list (gy ns 24 M))
 revert E2 hC hW;refine gen (upd cA Dw (.list (gy ns 24 M))) ?_;intro bU E2 hC hW
 have iZ:MN (gy ns 24 M):=Mg
 have qC:(gy ns 24 M).length=M:=Mf
 have et:(mq ns M).length=M:=abS
 have jb:fX (mq ns M) 3:=abT
 revert hW iZ qC;refine gen (gy ns 24 M) ?_;intro ws hW iZ qC
 revert qB uz hC et jb;refine gen (mq ns M) ?_;intro cs qB uz hC et jb
 have zw:ws.length≤1000000:=by lia
 have zc:cs.length≤1000000:=by lia
 refine ae (aS hv (gG (cm hg aQ ⟨"sorted",rfl,aq (fT hv (X7 (w:=w) hv (by rfl) (by rfl)) (.loc (.loc (.cell sO .nil))) aQ (pt:=fun y=>bX) (bq (ar rfl [] rfl ⟨aB,fun l hl=>⟨l,_,ju ws,rfl,ai _ _ _,aB,?_,fun D hD=>aK ?_⟩⟩)))⟩)))
 intro y hy υ F Γc e1 e2 e3
 obtain⟨s,rfl⟩:∃s,y=.str s:=by
  simp only[aY,f9,gB]at hy
  rcases hy with rfl|rfl<;>exact⟨_,rfl⟩
 refine fp.one (aF (ah e2 aD (aj e2 2 rfl rfl (ax (.pJ (dW s) (F _ _ (af hl _ _ hW)) λy hy=>xt (iZ.rM y hy)) ⟨_,rfl,λh=>ah e2 aD ⟨rfl,?_⟩,λh=>⟨rfl,?_⟩⟩))))
 unfold ju;simp only[h,if_true]
 unfold ju;simp only[h];rfl
 have E3:=E2.trans (af (o:=.list [V.str (Str.ofString "m"),.str (Str.ofString "n")]) hl)
 rw[(Mi:([V.str (Str.ofString "m"),V.str (Str.ofString "n")]:List V).filterMap (ju ws)=(heads ws).map V.str)]
 refine Op.sorted (ai _ _ _) (Nat.lt_of_le_of_lt uw (by decide)) λH ss hH hp hs=>⟨_,fh,?_⟩
 obtain rfl:=Me hp hs
 have E4:=(E3.trans (af (o:=.list ((heads ws).map V.str)) hD)).trans (af (o:=.list ((heads ws).map V.str)) hH)
 have Ci:=af (o:=.list ((heads ws).map V.str)) hH _ _ (af (o:=.list ((heads ws).map V.str)) hD _ _ (af (o:=.list [V.str (Str.ofString "m"),.str (Str.ofString "n")]) hl _ _ hC))
 have xu:=af (o:=.list ((heads ws).map V.str)) hH _ _ (af (o:=.list ((heads ws).map V.str)) hD _ _ (af (o:=.list [V.str (Str.ofString "m"),.str (Str.ofString "n")]) hl _ _ hW))
 have j2:=ai (upd (upd bU l (.list [V.str (Str.ofString "m"),.str (Str.ofString "n")])) D (.list ((heads ws).map V.str))) H (.list ((heads ws).map V.str))
 revert E4 Ci xu j2;refine genE (upd (upd (upd bU l (.list [V.str (Str.ofString "m"),.str (Str.ofString "n")])) D (.list ((heads ws).map V.str))) H (.list ((heads ws).map V.str))) ?_;intro eP ab1 E4 Ci xu j2
 clear ab1 hD hl hH ph Mj qB
 have ku:=xr iZ
 have hhl:=uw (ws:=ws)
 have zh:((heads ws).map V.str).length≤1000000:=by rw[ay];lia
 by_cases Mk:heads ws=[]
 refine ae (aM (aF (aj hv 5 rfl rfl (bq (aK ⟨aB,λz hz=>ax (.eq (fw (af hz _ _ j2) (ai _ _ _) (bp j2 hz) (by rw[Mk];exact .nil))) ⟨_,rfl,tt rfl ?_⟩⟩)))))
 exact ae (a_ (gR (q _ (E4.trans (af hz)))))
 have gH:0<(heads ws).length:=vd.mpr Mk
 refine ae (aM (aF (aj hv 5 rfl rfl (bq (aK ⟨aB,λz hz=>ax (.eq (cU.sX (af hz _ _ j2) (ai _ _ _) (bp j2 hz) (by rw[ay];simp;lia))) ⟨_,rfl,ff rfl (au ?_)⟩⟩)))))
 have E5:=E4.trans (af (o:=.list []) hz)
 have xv:=af (o:=.list []) hz _ _ Ci
 have xw:=af (o:=.list []) hz _ _ xu
 have uA:=af (o:=.list []) hz _ _ j2
 revert E5 xv xw uA;refine gen (upd eP z (.list [])) ?_;intro dU E5 xv xw uA
 refine ae (aT.Mb hv (abP (w:=w) hv (by rfl) (by rfl)) (.loc (.own (.cell (ne_str (by rfl')) qY (.cell (ne_str (by rfl')) qX (.cell (ne_str (by rfl')) sO .nil))))) (pt:=λy=>.there (.here AK)) kj (by rfl') (aj hv 5 rfl rfl ⟨H,_,rfl,uA,λD hD=>⟨abZ ws cs dU D,⟨dU,[],hD,.refl _,rfl,rfl,by simp;exact .nil⟩,?_,?_,?_⟩⟩))
 (intro i ys τ zqA;obtain⟨υ,fa,h1,h2,rfl,_⟩:=zqA);exact af h1 _ _ (h2 _ _ uA)
 intro i ys τ y zqA;obtain⟨υ,fa,h1,h2,rfl,rfl,h3⟩:=zqA;intro hy Γc e1 e2 e3
 obtain⟨h,hh,rfl⟩:∃s,(heads ws)[i]? =some s∧V.str s=y:=by simpa using hy
 have hi:=(cp.mp hh).1
 have F:Ext dU (upd υ D (.list (fa.map V.ref))):=h2.trans (af h1)
 refine dE ⟨λ_=>aw (e1.trans hd) e3 aN (by rfl') (aq (ak.qf e2 (Yb (w:=w) e2 (by rfl) (by rfl)) (.loc (.loc (.cell qX (.cell aD (.cell sO .nil))))) aQ (pt:=λy=>.there (.here pW)) e3 aQ (aj e2 3 rfl rfl ⟨M,λi=>if dW h (cC ws i)=true then some (cC cs i)else none,rfl,by lia,?_,λD2 jU=>aK ?_⟩))),tf⟩
 intro k hk uc F2 Γd g1 g2 g3
 have e2:=g2
 have Cj:=iZ.rM _ (cS (iY (xs:=ws) (i:=k) (by lia)))
 refine fp.one (aF (bo (aj e2 4 rfl rfl (ah e2 aD (bO (F2 _ _ (F _ _ xw)) (iY (by lia)) zw (aj e2 3 rfl rfl (ax (.eq (xt Cj)) ⟨_,rfl,λt=>bo (aj e2 2 rfl rfl (ah e2 aD (bO (F2 _ _ (F _ _ xv)) (iY (by lia)) zc ⟨rfl,?_⟩))),λt=>⟨rfl,?_⟩⟩)))))))
 simp only[t,if_true]
 simp only[t];rfl
 have hpe:(List.range M).filterMap (λi=>if dW h (cC ws i)=true then some (cC cs i)else none)=lH cs ws h:=by unfold lH;rw[qC]
 rw[hpe]
 have ej:(lH cs ws h).length≤1000000:=by
  rw[Cd,ay]
  refine dO (og _ _) ?_
  rw[kG];lia
 have F3:=af (o:=.list (lH cs ws h)) jU
 refine LR (ai _ _ _) ej λfL r F4 hf=>?_
 obtain⟨k1,k2⟩:=hole h1 (F3.trans F4)
 have fy:=F4 _ _ (F3 _ _ (ai _ _ _))
 refine⟨fy,?_,off fL D,fa++[r],dA,h2.trans k1,?_,by simp,?_⟩
 rw[ay,h3.len,ay,eZ];lia
 rw[k2,dk,←k2]
 rw[eY,hh,df]
 exact br.app (fW h3 λ_ _ x=>x.ext k1) (.cons (hf.ext (Bo (F3 _ _ (ai _ _ _)))) .nil)
 intro ys τ zqA;obtain⟨υ,fa,h1,h2,rfl,rfl,h3⟩:=zqA
 rw[ay,fM]at h3
 have E6:=E5.trans (h2.trans (af (o:=.list (fa.map V.ref)) h1))
 have rC:br (λp c=>cX (upd υ D (.list (fa.map V.ref))) p c fK) fa ((heads ws).map (lH cs ws)):=fW h3 λ_ _ x=>x.ext (af h1)
 have Ck:=ai υ D (.list (fa.map V.ref))
 have Cm:=af (o:=.list (fa.map V.ref)) h1 _ _ (h2 _ _ xv)
 have xx:=af (o:=.list (fa.map V.ref)) h1 _ _ (h2 _ _ xw)
 have Cn:=af (o:=.list (fa.map V.ref)) h1 _ _ (h2 _ _ uA)
 revert E6 rC Ck Cm xx Cn;refine gen (upd υ D (.list (fa.map V.ref))) ?_;intro fL E6 rC Ck Cm xx Cn
 have zfa:(fa.map V.ref).length≤1000000:=by rw[ay,h3.len,ay];lia
 refine⟨_,eB,?_⟩
 refine ae (aS hv (aw hd hg cn (by rfl') (aq (ah hv .here (aq (bq (aq (fD (aq (bg (aq (aw hd hg cY (by rfl') (ar hv [6,5] rfl ?_)))))))))))))
 refine KL Ck zfa (λy hy=>?_) Cn zh λeI r b e F7 _ r1 r2 _=>aK ⟨aB,λt1 iz=>aq (fD (aq (bg (aq (aw hd hg fG (by rfl') (ar hv [4] rfl ?_))))))⟩
 refine bZ hy λr hr=>?_
 obtain⟨k,hk⟩:=gN.mp hr
 have fH:k<((heads ws).map (lH cs ws)).length:=by rw[←h3.len];exact(cp.mp hk).1
 obtain⟨r',qk,_,_,_,_,_,_,jY,_⟩:=rC.get (bL fH)
 rw[hk]at qk;cases qk
 exact⟨r,_,_,_,rfl,jY⟩
 have F8:=af (o:=.tup [.none,.ref r]) iz
 refine jS (F8 _ _ (F7 _ _ xx)) zw λrO fv fl F9 _ _ f1 f2=>aK ⟨aB,λt2 iW=>aK ⟨aB,λAs kz=>aq (aU (ah hv .here (bF (fs:=gu gl (.ref W) cD) (C:=1985) ?_ gm (cz w) (rz w) gD (aK ?_))))⟩⟩
 exact af kz _ _ (af iW _ _ (F9 _ _ (F8 _ _ (F7 _ _ (E6 _ _ ha)))))
 have Fa:=(af (o:=.tup [.none,.ref fv]) iW).trans (af (o:=.list [.ref t1,.ref t2]) kz)
 have Fb:=F9.trans Fa
 have Fc:=F8.trans Fb
 have Fd:=F7.trans Fc
 refine aa2 (ps:=fa) (pcs:=(heads ws).map (lH cs ws)) (ws:=ws) (ts:=fK) (tgt:=λp=>eW fK (cC cs p)) (ai _ _ _) (Fb _ _ (ai _ _ _)) (af kz _ _ (ai _ _ _)) (Fc _ _ r1) (Fc _ _ r2) (fW rC λ_ _ x=>x.ext Fd) (Fa _ _ f1) (Fa _ _ f2) iZ.rM (by lia) (by decide) Mh (λhs hl=>?_) (λc hc=>?_) λnR bk hs Fe hl hf=>⟨_,gV,?_⟩
 obtain rfl:=Lv.uniq hl ku
 exact⟨by rw[ay],gH,by lia,abW ku.nodup⟩
 refine bZ hc λh _=>?_
 intro x hx
 rw[Cd]at hx
 refine bZ hx λi hi=>?_
 have hi:=iD.mp (jE.mp hi).1
 exact jb _ (cS (iY (by lia)))
 obtain rfl:=Lv.uniq hl ku
 rw[abV (by lia) iZ jb]at hf
 obtain⟨bc,be,blv,blt,bcl,bct,b1,b2,b3,b4,b5,b6,b7⟩:=hf
 have Ff:=(E6.trans Fd).trans Fe
 have hC9:=Fe _ _ (Fd _ _ Cm)
 have hW9:=Fe _ _ (Fd _ _ xx)
 refine ae (aT.Yz hv (Yf (w:=w) hv (by rfl) (by rfl)) (.loc (.loc (.cell qY (.cell sO .nil)))) aQ (pt:=λy=>bX) iO (by rfl') hg aN (aj hv 2 rfl rfl ⟨M,λi=>some (if bB (cC ws i)=true then .none else cC cs i),rfl,by lia,?_,λDd fy=>⟨_,je,?_⟩⟩))
 intro i hi υ F Γc e1 e2 e3
 refine dE ⟨λ_=>gS (aF (bo (aj e2 3 rfl rfl (ah e2 aD (bO (F _ _ hW9) (iY (by lia)) zw (bg (ax .d7 ⟨_,rfl,λt=>?_,λt=>?_⟩))))))),tf⟩
 have t:bB (cC ws i)=false:=by simpa using t
 refine bo (aj e2 2 rfl rfl (ah e2 aD (bO (F _ _ hC9) (iY (by lia)) zc ⟨rfl,?_⟩)))
 simp only[t];rfl
 have t:bB (cC ws i)=true:=by simpa using t
 refine bg ⟨rfl,?_⟩
 simp only[t,if_true]
 rw[ux,show(List.range M).map (λi=>if bB (cC ws i)=true then V.none else cC cs i)=rN cs ws by unfold rN;rw[qC]]
 have Fg:=af (o:=.list (rN cs ws)) fy
 have hdi:∀x∈rN cs ws,x=.none∨∃i,x=.int i:=λx hx=>by
  refine bZ hx λi hi=>?_
  by_cases t:bB (cC ws i)=true
  rw[ck t];exact .inl rfl
  rw[bK t]
  rcases jb _ (cS (iY (xs:=cs) (i:=i) (by have:=iD.mp hi;lia)))with e|⟨j,_,e⟩
  exact .inl e
  exact .inr ⟨_,e⟩
 refine ae (a_ (fQ (h_ (dP (aU (aj hv 7 rfl rfl (vi (Fg _ _ b1) (aj hv 8 rfl rfl (ax (.eq (fw (Fg _ _ b2) (ai _ _ _) (bp b2 fy) (Cf _ hdi))) ⟨true,.bool,λ_=>?_,tf⟩)))))))))
 refine h_ (dP (aU (bo (aU (aj hv 7 rfl rfl (va (Fg _ _ b1) (bu (tN (Fg _ _ b3) abX (vi (Fg _ _ b4) (bq (ar rfl [] rfl ⟨aB,λz1 nT=>ax (.eq (fw (af nT _ _ (Fg _ _ b5)) (ai _ _ _) (bp (Fg _ _ b5) nT) (rJ fK))) ⟨true,.bool,λ_=>?_,tf⟩⟩)))))))))))
 have Fh:=Fg.trans (af (o:=.list (fK.map V.str)) nT)
 refine iK (dP (aU (bo (aU (aj hv 7 rfl rfl (va (Fh _ _ b1) (bu (tN (Fh _ _ b3) abY (vi (Fh _ _ b6) (bq (ar rfl [] rfl ⟨aB,fun z2 iB=>ax (.eq (fw (af iB _ _ (Fh _ _ b7)) (ai _ _ _) (bp (Fh _ _ b7) iB) (rJ [Str.ofString "factor"]))) ?_⟩)))))))))))
 exact q _ ((Ff.trans Fh).trans (af iB))
end
section
variable{w:World}{Γ:Ctx}{s s':Shared}{σ σ':Hp}{ρ aR aX:LO}{Q:PQ}{scope:Scope}{vc:KV}{gc:LV}
structure Co (w:World)(d:Nat)(vc:KV)(gc:LV)(aX:LO)(elts:List Expr)(elt:Expr)(ifs:List Expr)(xs:List V)(D:Addr)(I:Nat→List V→Hp→Prop):Prop where
 step:∀i ys τ y,I i ys τ→xs[i]? =some y→∃t zs bj,y=.ref t∧τ t=some (.tup zs)∧ma vc aX elts zs bj∧(∀z k u,Lk vc aX z k u→Lk vc bj z k u)∧∀Γc:Ctx,Γc.d=d→Γc.vars=vc→Γc.gls=gc→
  fp w Γc ifs τ bj (rk w Γc elt bj D ys (I (i+1)))
theorem Co.toK {d:Nat}{elts:List Expr} {TK tp}{l:Addr}{elt:Expr}{ifs:List Expr}{xs:List V}{D:Addr}{I:Nat→List V→Hp→Prop}(B:Co w d vc gc aX elts elt ifs xs D I):tF w d vc gc aX (.Tuple elts TK tp) (.list l) elt ifs xs D I:=by
 refine⟨λ{A s it i v k X} h hk=>(by cases v with|ref t=>exact wpAny_letOwnedTupleGo_listiter h hk|_=>exact bY hk),λi ys τ y hI hy=>?_⟩
 obtain⟨t,zs,bj,rfl,ht,xy,AY,AZ⟩:=B.step i ys τ y hI hy
 refine⟨bj,⟨λ{Γ} hv S {s} jh {v} ev {k X} hk=>?_⟩,AY,AZ⟩
 refine bJ ev ?_
 obtain⟨ts,hts,Ml⟩:=(jh.hr.at_ _ _ ht).isTup
 have fs:(assignEach elts Γ.env).findIdx? (·.1)=none:=by
  rw[(xy.each Γ.env).1,List.findIdx?_map]
  exact List.findIdx?_eq_none_iff.mpr λx _=>rfl
 refine wpAny_assign_Tuple S.hh hts (by rw[(xy.each Γ.env).1,ay,(xy.each Γ.env).2,fg Ml]) fs λlg e''=>?_
 subst Ml
 exact ma.run hv S xy (jh.grow (s':={s with heap:=lg}) (λb o eb=>e'' b o (oj (f_ eb)) eb) rfl rfl) hk
inductive ab2 (w:World)(d:Nat)(vc:KV)(gc:LV)(aX:LO)(elts:List Expr)(elt:Expr)(ifs:List Expr)(Q:PQ)(l:Addr)(xs:List V)(σ:Hp)(D:Addr):Prop
 |mk (I:Nat→List V→Hp→Prop) (i0:I 0 [] (upd σ D (.list []))) (k:∀i ys τ,I i ys τ→τ l=some (.list xs)) (st:Co w d vc gc aX elts elt ifs xs D I) (q:∀ys τ,I xs.length ys τ→Q (.ref D) τ)
inductive kLt (w:World)(d:Nat)(vc:KV)(gc:LV)(aX:LO)(elts:List Expr)(elt:Expr)(ifs:List Expr)(Q:PQ)(v:V)(σ:Hp):Prop
 |mk (l:Addr) (xs:List V) (e:v=.ref l) (h:σ l=some (.list xs)) (q:∀D,σ D=none→ab2 w d vc gc aX elts elt ifs Q l xs σ D)
end
section
variable{w:World}{Γ:Ctx}{σ:Hp}{ρ aX:LO}{Q:PQ}{QT:PF}{scope:Scope}{vars vc:KV}{gc:LV}
theorem aT.ab3 {body h₀ hs pos}(h:dj w Γ body σ ρ QT):aT w Γ (.Try body (h₀::hs) [] [] pos) σ ρ QT:=
 ⟨λS s D k X hk=>wpAny_Try_except (h.run S s D _ _ λfl av aH bj q aL=>by
  cases fl with
  |next=>exact qU (hk .next _ _ _ q aL)
  |brk=>exact hk _ _ _ _ q aL
  |cont=>exact hk _ _ _ _ q aL
  |ret v=>exact hk _ _ _ _ q aL)⟩
theorem aT.Mm (hv:Γ.vars=vars) {elt elts TK tp iter ifs pos y py gp}(C:bT w Γ scope vc gc)(bS:ee vars ρ vc aX)(hy:(y,VK.loc)∈vars)(iP:(scope.names.all λp=> !(p.1==y))=true)
  (h:ak w Γ iter σ ρ (kLt w Γ.d vc gc aX elts elt ifs (kf vars y ρ QT)))
  (eG:(py.line==pos.line)=true:=by rfl)(hs:∀env y,foldedSetIterable iter env y=pure y:=by intro _ _;rfl):aT w Γ (.Assign [.Name y py] (.ListComp elt [⟨.Tuple elts TK tp,iter,ifs,0⟩] scope pos) gp) σ ρ QT:=
 aT.wb hv (λS n hn=>(C.ok.cell S hn).2) C.ok.kind C.ok.nd hy (λk hk=>by
  have:=ew.mp iP _ hk
  simp at this) ⟨λS s D k X hk=>h.run S s D k X λa s' σ' q D'=>hk a s' σ' (by
  obtain⟨l,xs,ev,hh,qq⟩:=q
  rw[ev]
  subst hv
  exact A2 C.ok bS C.full C.Bd (.list l) ⟨xs,hh,λD hD=>let⟨I,i0,k,st,q⟩:=qq D hD;⟨I,i0,k,st.toK,q⟩⟩) D'⟩ eG hs
end
section
variable{w:World}{d:Nat}{σ:Hp}{Q:PQ}{a:Addr}{gl cD:V}
theorem ab4 {A:V}{W:Addr}(ha:σ a=some (.inst 1985 (gu gl (.ref W) cD)))(gD:gW gl=true)(h:Call w d (.ref 1627) [.ref a,A,gl] σ Q):Call w (d+1) (.ref 2017) [.ref 1627,.ref a,A] σ Q:=by
 refine Ur fun Γ hd hv hg=>?_
 refine ae (aT.ab3 (ae (a_ (ak.call (ah hv .here ⟨1627,rfl,by rfl',aq (ah hv aD (aq (aj hv 2 rfl rfl (aq (aU (ah hv aD (bF ha gm (cz w) (rz w) gD (aK ?_))))))))⟩)))))
 rw[hd]
 exact h
end
noncomputable def mr (ns:List Nat)(n:Nat):List V:=(List.range n).map λi=>vI ((ns[1+i]?.getD 0) % 50)
theorem ab5 {ns n}:(mr ns n).length=n:=by simp[mr]
theorem ab6 {ns n}:∀x∈mr ns n,x=.none∨∃i,x=.int i:=λx hx=>by
 refine bZ hx λi _=>?_;exact .inr ⟨_,rfl⟩
noncomputable def iC (bV ws:List V)(h:Str):List V:=(List.range bV.length).filterMap λi=>if dW h (cC ws (i % ws.length))=true then some (cC bV i)else none
theorem Cp {bV ws:List V}{h:Str}:iC bV ws h=((List.range bV.length).filter λi=>dW h (cC ws (i % ws.length))).map (cC bV):=by
 unfold iC
 induction List.range bV.length with
 |nil=>rfl
 |cons i r ih=>
  rw[gz,List.filter_cons]
  by_cases e:dW h (cC ws (i % ws.length))=true
  simp only[e,if_true,bx];rw[ih]
  simp only[e];exact ih
theorem ab7 {bV ws:List V}{hs:List Str}(nd:hs.Nodup)(h0:ws.length=0→bV.length=0):(dw hs.length (sf (ws.map (b9 hs))) (·+1) bV.length).map (pick bV)=hs.map (iC bV ws):=by
 refine List.ext_getElem? λj=>?_
 by_cases hj:j<hs.length
 rw[dI,lA hj,dI,bL hj]
 show some _=some _
 rw[Cp]
 unfold pick
 rw[kM]
 have e:((List.range bV.length).filter λi=>sf (ws.map (b9 hs)) i==some j)=(List.range bV.length).filter λi=>dW hs[j] (cC ws (i % ws.length)):=by
  refine List.filter_congr λi hi=>?_
  have hi:=iD.mp hi
  have hw:0<ws.length:=by
   rcases Nat.eq_zero_or_pos ws.length with h|h
   have:=h0 h;lia
   exact h
  unfold sf
  rw[ay,ck hw]
  have:=Ce nd (i7 i hw) hj
  by_cases e:dW hs[j] (cC ws (i % ws.length))=true
  rw[e];simp[this.mpr e]
  have e':dW hs[j] (cC ws (i % ws.length))=false:=by simpa using e
  rw[e']
  simp only[jB]
  exact λq=>e (this.mp q)
 rw[e]
 rfl
 rw[qP (by rw[ay,jW];lia),qP (by rw[ay];lia)]
theorem ab8 {σ:Hp}{rs:List Addr}{jt:List (List V)}(h:br (λr ys=>iT σ r ys) rs jt):∃ls:List Addr,(rs.map V.ref).filterMap (nQ σ)=ls.map V.ref∧br (λl ys=>σ l=some (.list ys)) ls jt∧br (λr l=>nQ σ (.ref r)=some (.ref l)) rs ls:=by
 induction h with
 |nil=>exact⟨[],rfl,.nil,.nil⟩
 |cons hr _ ih=>
  obtain⟨ls,h1,h2,h3⟩:=ih
  obtain⟨l,g1,g2⟩:=hr
  exact⟨l::ls,by rw[bx,gz,qz g1,h1];rfl,.cons g2 h2,.cons (qz g1) h3⟩
noncomputable def kC (τ:Hp)(bs:List Addr)(jt:List (List V)):Prop:=br (λb ys=>τ b=some (.list ys)) bs jt
theorem kC.ext {σ τ:Hp}{bs:List Addr}{jt:List (List V)}(h:kC σ bs jt)(E:Ext σ τ):kC τ bs jt:=fW h λ_ _ e=>E _ _ e
theorem ab9 {σ:Hp}{n:Nat}{ls ds:List Addr}{jt:List (List V)}(h1:kC σ ls jt):kC σ ds jt→(∀l∈ls,∀d∈ds,l≠d)→(∀ys∈jt,∀x∈ys,x=.none∨∃i,x=.int i)→br (λx y=>cU σ (n+1) x y true) (ls.map V.ref) (ds.map V.ref):=by
 unfold kC at h1
 induction h1 generalizing ds with
 |nil=>intro h2 _ _;cases h2;exact .nil
 |cons h _ ih=>
  intro h2 b8 hi
  cases h2 with
  |cons h' t'=>exact .cons (fw h h' (b8 _ bA _ bA) (Cf _ (hi _ bA))) (ih t' (λl hl d hd=>b8 l (bw _ hl) d (bw _ hd)) λys hy=>hi ys (bw _ hy))
section
variable{w:World}{Γ:Ctx}{ρ:LO}{d:Nat}{σ:Hp}{Q:PQ}{QT:PF}{a:Addr}{gl cD:V}
noncomputable def rP:Str:=Str.ofString "group length is 0 but data length > 0"
end
noncomputable def qD:List Value:=[.type "Exception",.type "BaseException",.type "object"]
theorem ab_ (w:World):findIn (Kc w) (.ref 51) "__setattr__"=some (some (.builtin "object.__setattr__")):=by rfl'
theorem aca (w:World):findIn (Kc w) (.ref 51) "__getattribute__"=some (some (.builtin "BaseException.__getattribute__")):=by rfl'
theorem acb (w:World):findIn (Kc w) (.ref 51) "__getattr__"=some none:=by rfl'
theorem Mn (w:World):findIn (Kc w) (.ref 51) "message"=some none:=by rfl'
theorem Mo (w:World):hasDictIn (Kc w) 51=true:=by rfl'
theorem Mp (w:World):(clsIn (Kc w) 51).map (·.mro)=some (.ref 51::.ref 31::qD):=by rfl'
theorem acd (self:Value):refuseLoop self "__setattr__" (.ref 51::.ref 31::qD)=pure ():=by
 rw[refuseLoop_ref,refuseLoop_ref];rfl'
section
variable{w:World}{A:Around}{E:VP}{s:Shared}{e:Addr}{ox:Obj}{od:Option Obj}{v:Value}{expr:Bool}
theorem ace {Q:VP}(X:(Kc w).In s.heap)(I:W.InstAt s.heap e ox 51 od)(hf:findObj (Kc w) 51 od "message"=some (.value v))(hh:handedIn v=true)(q:Q v {s with toks:=s.toks+1}):
  wpAny (model aC w) A (getAttr (.ref e) "message" expr) Q E s:=by
 obtain⟨cd,hc,hm⟩:=eJ.mp (Mp w)
 obtain⟨hp,g,d,t,os⟩:=s
 have L0:=I.type (M:=model aC w)
 have L1:=looks_findIn (M:=model aC w) X (aca w)
 have L2:=looks_findIn (M:=model aC w) X (acb w)
 have L3:=looks_find (M:=model aC w) X I hf
 have Lm:Looks (model aC w) hp (mroOf (.ref 51)) cd.mro:=(looks_clsIn X hc).andThen .now
 have sub:Looks (model aC w) hp (isInstance (.ref e) (.type "BaseException")) true:=L0.andThen (looks_mroIn X (by unfold mroIn;rw[hc,Option.bind_some,hm];rfl))
 have hk:builtinKind "BaseException.__getattribute__"=some .slot:=by decide+kernel
 have acf:splitId "BaseException.__getattribute__"=some ("BaseException","__getattribute__"):=by decide+kernel
 have hx2:(Value.builtin "BaseException.__getattribute__"==Value.builtin "object.__getattribute__")=false:=by decide+kernel
 have hx1:(onTheHeap (Value.ref 51)&&Value.builtin "BaseException.__getattribute__"==Value.builtin "object.__getattribute__")=false:=by rw[hx2];rfl
 have hx0:(expr&&onTheHeap (Value.builtin "BaseException.__getattribute__"))=false:=by cases expr<;>rfl
 have sl:=PySem.F.attr_Exception.ga
 have f3:=sl.bind (.ref e)
 have hho:handedOut v=pure v:=handedOut_of hh
 have fin:∀A' R,R (.ok (.ret v)) ⟨hp,g,d,t+1,os⟩→codeAny (model aC w) A' (.call (.builtin "BaseException.__getattribute__") ⟨[.ref e,.str "message" t],[]⟩) R ⟨hp,g,d,t+1,os⟩:=by
  intro A' R hR
  refine codeAny_call_builtin sl.plain F.entry_bexc_ga ?_
  have ha:=F.args_bexc_ga (.ref e) (.str "message" t)
  simp only[checkBuiltinCall,hk,acf]
  refine aP (sub.at ?_)
  repeat (any_goals (first|assumption|with_reducible refine L0.at ?_|with_reducible refine L3.at ?_|wp_step))
 unfold getAttr getAttrBy
 refine aP (wpAny_mkText (gA (aP (L0.at (aP (L1.at ?_))))))
 dsimp only
 rw[hx1]
 unfold getAttrByItsOwn
 repeat (any_goals (first|assumption|with_reducible refine L2.at ?_|with_reducible refine L0.at ?_|with_reducible refine fin _ _ ?_|wp_step))
 refine fin _ _ ?_
 dsimp only
 rw[hho]
 exact bY q
theorem acg {Q:Unit→Shared→Prop}{vs:Array Value}{sl:Array (Option Value)}(K:Known w s.heap)(he:s.heap.get? e=some ⟨.ref 51,none,.fields vs,sl⟩)
  (q:∀h' d t,(∀b o,b≠e→s.heap.get? b=some o→h'.get? b=some o)→s.heap.get? d=none→h'.get? e=some ⟨.ref 51,some d,.fields vs,sl⟩→h'.get? d=some (dictOf [⟨PyData.keyHash w.params "message",.str "message" t,v⟩] 1)→
   Q () {s with heap:=h',toks:=s.toks+2}):wpAny (model aC w) A (setAttr (.ref e) "message" v) Q E s:=by
 have X:=ji K
 have I:W.InstAt s.heap e ⟨.ref 51,none,.fields vs,sl⟩ 51 none:=⟨he,rfl,rfl,trivial⟩
 obtain⟨cd,hc,hm⟩:=eJ.mp (Mp w)
 refine set_plain X I (ab_ w) ?_
 have SF:=PySem.F.store_object
 obtain⟨hp,g,dd,t,os⟩:=s
 have L0:=I.type (M:=model aC w)
 have Lm:Looks (model aC w) hp (mroOf (.ref 51)) cd.mro:=(looks_clsIn X hc).andThen .now
 have sub:Looks (model aC w) hp (isInstance (.ref e) (.type "object")) true:=L0.andThen (looks_mroIn X (by unfold mroIn;rw[hc,Option.bind_some,hm];rfl))
 refine codeAny_call_builtin SF.slot.plain SF.entry (@check_slot (model aC w) _ _ _ "object.__setattr__" "object" "__setattr__" (.ref e) [.str "message" t,v] [] _ SF.kind SF.split sub (SF.args (.ref e) (.str "message" t) v) ?_)
 rw[osa_eq,refuse_eq]
 refine aP (aP (L0.at (aP (Lm.at ?_))))
 rw[hm,acd]
 have L4:=looks_findIn (M:=model aC w) X (Mn w)
 refine bY (aP (L0.at (aP (L4.at (aP (bY ?_))))))
 have hdc:cd.hasDict=true:=by
  have:=Mo w
  unfold hasDictIn at this
  rw[hc]at this
  exact this
 refine aP (bY (aP (aP (wpAny_loadPart he (aP ((looks_clsIn X hc).at ?_))))))
 rw[hdc]
 have nE:=dy {cls:=.type "dict",data:=.dict #[]} he
 have xn:(hp.push {cls:=.type "dict",data:=.dict #[]}).get? hp.objs.size=some {cls:=.type "dict",data:=.dict #[]}:=jA hp rfl
 have b8:hp.objs.size≠e:=kN (f_ he)
 refine aP (wpAny_alloc (aP (wpAny_update nE ?_)))
 have tT:=kE (λo=>{o with dict:=some hp.objs.size}) nE rfl
 have hd2:=(j4 (hp.push {cls:=.type "dict",data:=.dict #[]}) (fun o=>{o with dict:=some hp.objs.size}) (Ne.symm b8)).trans xn
 generalize hH:(hp.push {cls:=.type "dict",data:=.dict #[]}).update e (fun o=>{o with dict:=some hp.objs.size})=H at*
 have kH:∀b o,b≠e→hp.get? b=some o→H.get? b=some o:=λb o hb ho=>by
  rw[←hH,j4 _ _ (Ne.symm hb)];exact dy _ ho
 refine bY (a:=some hp.objs.size) (aP (bY (aP ?_)))
 unfold nsSet
 refine aP (aP (wpAny_askSetting (bY (aP (wpAny_mkText (aP (wpAny_loadPart hd2 ?_)))))))
 dsimp only
 rw[aRefKeyMayBeTheName_at,show(!(#[]:Array DictEntry).any (·.key.isStr "message")&&(#[]:Array DictEntry).any (·.refKey))=false by simp]
 refine wpAny_updatePart hd2 ?_
 have jq:∀t',Obj.putName "message" (PyData.keyHash w.params "message") (.str "message" t') v {cls:=.type "dict",data:=.dict #[]}=dictOf [⟨PyData.keyHash w.params "message",.str "message" t',v⟩] 1:=fun t'=>putName_dict "message" (PyData.keyHash w.params "message") (.str "message" t') v [] 0
 have rL:=kE (Obj.putName "message" (PyData.keyHash w.params "message") (.str "message" (t+1)) v) hd2 (by rw[jq];rfl)
 rw[jq]at rL
 refine aP (wpAny_lookBehind rL (pastItsLine_dict (by rw[List.size_toArray,sizeLine_eq,List.length_singleton];decide)) ?_)
 refine bY (q _ hp.objs.size (t+1) (λb o hb ho=>?_) (jz (dp _)) ?_ rL)
 rw[j4 _ _ (kN (f_ ho))];exact kH b o hb ho
 rw[j4 _ _ b8];exact tT
end
noncomputable def f6 (t:Addr):Obj:={cls:=.ref 51,data:=.fields #[.ref t,.none,.none,.none,.bool false,.none]}
theorem Mq (w:World):findIn (Kc w) (.ref 51) "__init__"=some (some (.ref 48)):=by rfl'
theorem Mr (w:World):typeIn (Kc w) (.ref 48)=some (.type "function"):=by rfl'
noncomputable def rQ:Obj:=excClassObj "Refusal" "Refusal" 51 50 [.ref 31] (.ref 31::qD) true [] [] false none none (some (.ref 35)) none (some (.str "Refusal" 216)) (some (.str "Refusal" 224)) (some (.bool true)) "Exception.__new__"
theorem ach (w:World):lk (Fin w) 51=some rQ:=by rfl'
theorem aci (w:World):(match lk (Fin w) 31 with|some ⟨_,_,.cls cd,_⟩=>cd.ns==30|_=>false)=true:=by rfl'
theorem acj (w:World):lk (Fin w) 30=some (yf w.params):=by rfl'
set_option tactic.hygienic true in
theorem Known.exc {w:World}{h:Heap}(K:Known w h):h.get? 51=some rQ∧OwnTail h qD (.ref 31::qD):=by
 refine⟨K.at (ach w),?_⟩
 have Cq:=aci w
 split at Cq
 rename_i c0 dd cd sl q
 have Ms:h.get? 30=some (yf w.params):=K.at (acj w)
 have n30:h.Ns cd.ns (h.nsMap 30):=by
  rw[beq_iff_eq.mp Cq]
  refine Heap.Ns.of_isNs ?_
  unfold Heap.isNs
  rw[Ms]
  rfl'
 have i30:h.nsMap 30 "__init__"=none:=by unfold Heap.nsMap;rw[Ms];rfl'
 exact .own (K.at q) n30 i30 .base
 cases Cq
section
variable{w:World}{A:Around}{R:Result→Shared→Prop}{h:Heap}{g:Array GenState}{d:Drawn}{t:Nat}{os:OsState}{rest:List Value}
theorem ack (K:Known w h)(acm:rest.length≤sizeLine)
  (hq:codeAny (model aC w) (A.under (.builtin "type.__call__" ⟨.ref 51::rest,[]⟩)) (.call (.ref 48) ⟨.ref (h.objs.size+1)::rest,[]⟩) (InitBack (h.objs.size+1) R)
   ⟨(h.push {cls:=.type "tuple",data:=.seq rest.toArray}).push (f6 h.objs.size),g,d,t,os⟩):
  codeAny (model aC w) A (.call (.ref 51) ⟨rest,[]⟩) R ⟨h,g,d,t,os⟩:=by
 obtain⟨hC,T⟩:=K.exc
 unfold rQ at hC
 have F:=PySem.F.excBase_Exception
 have f1:=tc_lookup
 have f2:=tc_bind (.ref 51)
 have hT:(⟨h,g,d,t,os⟩:Shared).TypeIs (.ref 51) "type":=⟨_,hC,rfl⟩
 refine codeAny_of_tree ?_
 show wpAny _ _ (callAny (.ref 51) _) _ _ _
 repeat (any_goals (first|assumption|with_reducible refine wpAny_loadPart_at hC ?_|wp_step))
 refine⟨rfl,?_⟩
 refine codeAny_call_builtin_at (Code.quiet_builtin _ (by decide+kernel)) entry_typeCall (wpAny_check_type_call_sub hC ?_)
 repeat (first|with_reducible refine wpAny_loadPart_at hC ?_|with_reducible refine wpAny_madeBy_exc hC ?_|wp_step)
 refine codeAny_call_builtin_code (Code.quiet_builtin _ F.quiet) (wpAny_check_new_subT F T hC ?_)
 refine codeAny_exc_new_subT F T hC ?_ acm
 show wpAny _ _ _ _ _ _
 have kp:∀b o,h.get? b=some o→((h.push {cls:=.type "tuple",data:=.seq rest.toArray}).push (f6 h.objs.size)).get? b=some o:=fun b o e=>dy _ (dy _ e)
 have Mt:=kp _ _ hC
 have nU:((h.push {cls:=.type "tuple",data:=.seq rest.toArray}).push (f6 h.objs.size)).get? (h.objs.size+1)=some (f6 h.objs.size):=by
  have:=jA (h.push {cls:=.type "tuple",data:=.seq rest.toArray}) (o:=f6 h.objs.size) rfl
  rwa[jF]at this
 have Mu:(Value.ref 51::(.ref 31::qD)).contains (.ref 51)=true:=by simp
 have rR:=ji (K.keeps kp)
 have I1:=looks_findIn (M:=model aC w) rR (Mq w)
 have B1:=bind_fn (M:=model aC w) rR (.ref (h.objs.size+1)) (Mr w)
 have ty1:Looks (model aC w) ((h.push {cls:=.type "tuple",data:=.seq rest.toArray}).push (f6 h.objs.size)) (typeOf (.ref (h.objs.size+1))) (.ref 51):=(Looks.ld nU).andThen .now
 unfold isInstance
 repeat (first|with_reducible refine wpAny_loadPart_at nU ?_|(with_reducible refine wpAny_isSubtype_exc Mt ?_;rw[Mu])|wp_step)
 show wpAny _ _ (isSubtype (.ref 51) (.ref 51)) _ _ _
 refine wpAny_isSubtype_exc Mt ?_
 rw[Mu]
 have I:W.InstAt ((h.push {cls:=.type "tuple",data:=.seq rest.toArray}).push (f6 h.objs.size)) (h.objs.size+1) (f6 h.objs.size) 51 none:=⟨nU,rfl,rfl,trivial⟩
 rw[bK (by decide)]
 refine aP (gA (special_fn (s:=⟨(h.push {cls:=.type "tuple",data:=.seq rest.toArray}).push (f6 h.objs.size),g,d,t,os⟩) rR I (Mq w) (Mr w) (wpAny_call ?_)))
 refine codeAny_mono hq λr s' z=>?_
 rcases r with e|(v|_|_|_)<;>first|exact z|exact z.elim|skip
 obtain⟨rfl,z⟩:=z
 exact bY z
end
noncomputable def qE (w:World)(t:Addr)(v:V)(o:Obj)(od:Option Obj):Prop:=
 ∃dd t1 v',o=⟨.ref 51,some dd,.fields #[.ref t,.none,.none,.none,.bool false,.none],#[]⟩∧od=some (dictOf [⟨PyData.keyHash w.params "message",.str "message" t1,v'⟩] 1)∧er v'=v
section
variable{w:World}{Γ:Ctx}{s s':Shared}{σ:Hp}{ρ aR:LO}{Q:PQ}{QT:PF}
theorem At.raw {h:Heap}{a:Addr}{o:Obj}(e:h.get? a=some o)(hd:eK o=none):At w h a (.raw o none):=⟨e,λd eN=>by rw[hd]at eN;cases eN⟩
theorem jv {h:Heap}{a:Addr}{o:Obj}(e:h.get? a=some o):foot h a=a::(eK o).toList:=by unfold foot dictAt;rw[e];rfl
theorem Call.acn {d:Nat}{vs:List V}(hl:vs.length≤1000)(h:∀e t,σ e=none→Call w d (.ref 48) (.ref e::vs) (upd σ e (.raw (f6 t) none)) λv σ'=>v=.none∧Q (.ref e) σ'):Call w (d+1) (.ref 51) vs σ Q:=by
 refine⟨fun Γ hd ρ fv args jK ez S s D k X hk=>?_⟩
 refine bJ jK ?_
 obtain⟨hp,g,dr,tk,os⟩:=s
 have hlen:args.length=vs.length:=by rw[←ez,ay]
 refine ack (D.known S) (by rw[sizeLine_eq];lia) ?_
 have kp:∀b o,hp.get? b=some o→((hp.push {cls:=.type "tuple",data:=.seq args.toArray}).push (f6 hp.objs.size)).get? b=some o:=fun b o e=>dy _ (dy _ e)
 have nU:((hp.push {cls:=.type "tuple",data:=.seq args.toArray}).push (f6 hp.objs.size)).get? (hp.objs.size+1)=some (f6 hp.objs.size):=by
  have:=jA (hp.push {cls:=.type "tuple",data:=.seq args.toArray}) (o:=f6 hp.objs.size) rfl
  rwa[jF]at this
 obtain⟨D1,fr⟩:=az.new (s':=⟨(hp.push {cls:=.type "tuple",data:=.seq args.toArray}).push (f6 hp.objs.size),g,dr,tk,os⟩) D kp (At.raw nU rfl) (fun b hb=>by
  have hb:b∈foot ((hp.push {cls:=.type "tuple",data:=.seq args.toArray}).push (f6 hp.objs.size)) (hp.objs.size+1):=hb
  rw[jv nU]at hb
  have:b=hp.objs.size+1:=by simpa [f6,eK]using hb
  subst this
  exact jz (Nat.le_succ _)) rfl rfl
 have U:=Fo 51 args
 have S':bt w (Γ.at (Γ.A.under (.builtin "type.__call__" ⟨.ref 51::args,[]⟩)) d):=by
  rw[Fn]
  refine S.at rfl rfl ?_ ?_
  have:=S.dep;show Γ.A.depth+_+6*d<_;lia
  have:=S.un;show Γ.A.units+_+40*d+40<_;lia
 have:=(h (hp.objs.size+1) hp.objs.size fr).run (Γ.at (Γ.A.under (.builtin "type.__call__" ⟨.ref 51::args,[]⟩)) d) (dp _) ρ (.ref 48) (.ref (hp.objs.size+1)::args) rfl (by rw[bx,ez];rfl) S' _ D1.at
  (λv s'=>v=.none∧k (.ref (hp.objs.size+1)) s') X λv aG aZ q aA=>⟨ke q.1,hk _ aG aZ q.2 aA.Fp⟩
 refine codeAny_mono this λr aG hr=>?_
 unfold InitBack
 split at hr<;>first|exact hr|exact hr.elim
theorem aco {e t:Addr}{v':Value}(S:bt w Γ)(D:az w Γ s σ ρ)(he:σ e=some (.raw (f6 t) none)){k:Unit→Shared→Prop}{X:VP}
  (hk:∀s' o od,qE w t (er v') o od→az w Γ s' (upd σ e (.raw o od)) ρ→k () s'):wpAny (model aC w) Γ.A (setAttr (.ref e) "message" v') k X s:=by
 obtain⟨jT,_⟩:=D.hr.at_ _ _ he
 have fe:foot s.heap e=[e]:=by rw[jv jT];rfl
 refine acg (D.known S) jT λh' d t1 kp nV uB eN=>?_
 have Cr:foot h' e=[e,d]:=by rw[jv uB];rfl
 have aft:=D.free e _ he e (bD.mpr (.inl rfl))
 have b8:e≠d:=λq=>by rw[←q,jT]at nV;cases nV
 have off:∀b ob,σ b=some ob→b≠e→∀c∈foot s.heap b,c≠e:=λb ob sb hb c hc q=>D.hr.apart b e ob _ sb he hb e (q▸hc) (bD.mpr (.inl rfl))
 have same:∀b ob,σ b=some ob→b≠e→∀c∈foot s.heap b,h'.get? c=s.heap.get? c:=λb ob sb hb c hc=>by
  obtain⟨z,hz⟩:=(D.hr.at_ b ob sb).live c hc
  rw[hz];exact kp c z (off b ob sb hb c hc) hz
 have fR:∀b ob,σ b=some ob→b≠e→foot h' b=foot s.heap b:=λb ob sb hb=>ey (same b ob sb hb b (bD.mpr (.inl rfl)))
 have nd:∀b ob,σ b=some ob→∀c∈foot s.heap b,c≠d:=λb ob sb c hc q=>by
  obtain⟨z,hz⟩:=(D.hr.at_ b ob sb).live c hc
  rw[q,nV]at hz;cases hz
 have cM:At w h' e (.raw ⟨.ref 51,some d,.fields #[.ref t,.none,.none,.none,.bool false,.none],#[]⟩ (some (dictOf [⟨PyData.keyHash w.params "message",.str "message" t1,v'⟩] 1))):=⟨uB,fun x hx=>by cases hx;exact⟨_,rfl,eN⟩⟩
 have low:∀{b ob mo},upd σ e mo b=some ob→b≠e→σ b=some ob:=λh hb=>by rwa[aJ hb]at h
 have H:HR w h' (upd σ e (.raw ⟨.ref 51,some d,.fields #[.ref t,.none,.none,.none,.bool false,.none],#[]⟩ (some (dictOf [⟨PyData.keyHash w.params "message",.str "message" t1,v'⟩] 1)))):=by
  refine⟨λb ob sb=>?_,λb c ob oc sb sc ne y yb yc=>?_,?_⟩
  by_cases hb:b=e
  subst hb;rw[ai]at sb;cases sb;exact cM
  exact(D.hr.at_ b ob (low sb hb)).same (same b ob (low sb hb) hb)
  by_cases hb:b=e
  subst hb
  have hc:c≠b:=Ne.symm ne
  rw[fR c oc (low sc hc) hc]at yc
  rw[Cr]at yb
  rcases aY.mp yb with q|q
  exact off c oc (low sc hc) hc y yc q
  exact nd c oc (low sc hc) y yc (by simpa using q)
  by_cases hc:c=e
  subst hc
  rw[fR b ob (low sb hb) hb]at yb
  rw[Cr]at yc
  rcases aY.mp yc with q|q
  exact off b ob (low sb hb) hb y yb q
  exact nd b ob (low sb hb) y yb (by simpa using q)
  rw[fR b ob (low sb hb) hb]at yb
  rw[fR c oc (low sc hc) hc]at yc
  exact D.hr.apart b c ob oc (low sb hb) (low sc hc) ne y yb yc
  obtain⟨l,hl⟩:=D.hr.fin
  refine⟨l,λb ob sb=>?_⟩
  by_cases hb:b=e
  rw[hb];exact hl _ _ he
  exact hl b ob (low sb hb)
 refine hk _ _ _ ⟨d,t1,v',rfl,rfl,rfl⟩ (D.move (λb o hb ob=>kp b o (λq=>ob e _ he (q▸bD.mpr (.inl rfl))) hb) H (λb ob sb c hc=>?_) rfl rfl)
 by_cases hb:b=e
 subst hb
 have hc:c∈foot h' b:=hc
 rw[Cr]at hc
 rcases aY.mp hc with q|q
 exact .inl ⟨b,_,he,by rw[fe];simp[q]⟩
 have:c=d:=by simpa using q
 exact .inr (this▸nV)
 have hc:c∈foot h' b:=hc
 rw[fR b ob (low sb hb) hb]at hc
 exact .inl ⟨b,ob,low sb hb,hc⟩
theorem aT.acp {o apos value pos}(h:ak w Γ value σ ρ λv aH=>ak w Γ o aH ρ λov aZ=>∃e t,ov=.ref e∧aZ e=some (.raw (f6 t) none)∧∀ob od,qE w t v ob od→QT .next (upd aZ e (.raw ob od)) ρ)
  (hs:∀env,swapsWithSole [.Attribute o "message" apos] value pos.line env=pure false:=by intro _;rfl)(hw:∀env,swappedStores [.Attribute o "message" apos] value env=pure none:=by intro _;rfl):
  aT w Γ (.Assign [.Attribute o "message" apos] value pos) σ ρ QT:=by
 refine⟨λS s D k X hk=>wpAny_Assign_stores (h.run S s D _ X λv av aH q aL=>?_) (hs _) (hw _)⟩
 show wpAny _ _ (assign (.Attribute o "message" apos) Γ.env v) _ _ _
 show wpAny _ _ (do
  let ov←holding [v] (eval o Γ.env)
  standAt apos.atName
  holding [v,ov] (setAttr ov "message" v)
  release [v,ov] []) _ _ _
 refine aP (gA (q.run S av aL _ X λov aG aZ b_ aA=>?_))
 obtain⟨e,t,eo,ha,b_⟩:=b_
 refine bJ eo ?_
 exact aP (j8 (aP (gA (aco S aA ha λbI ob od hm bN=>wpAny_release (hk .next bI _ ρ (b_ _ _ hm) bN)))))
theorem acq {d:Nat}{m:V}(q:∀e t o od,σ e=none→qE w t m o od→Q (.ref e) (upd σ e (.raw o od))):Call w (d+2) (.ref 51) [m] σ Q:=by
 refine Call.acn (by simp) λe t he=>SG fun Γ hd hv hg=>?_
 refine ae (aT.acp (ah hv aD (ah hv .here ⟨e,t,rfl,ai _ _ _,λo od hm=>au ⟨rfl,?_⟩⟩)))
 have:upd (upd σ e (.raw (f6 t) none)) e (.raw o od)=upd σ e (.raw o od):=by
  funext b;unfold upd;split<;>rfl
 rw[this]
 exact q e t o od he hm
end
noncomputable def dC (l:List Env):List Addr:=l.filterMap (·.frame)
structure eX (G:Heap)(l:List Env)(e:Addr)(o:Obj)(fl:Option Value)(h:Heap):Prop where
 keep:∀b ob,G.get? b=some ob→b∉dC l→b≠e→h.get? b=some ob
 slot:∀b ob,G.get? b=some ob→b∈dC l→∃sl,h.get? b=some {ob with slots:=sl}
 live:∀b∈dC l,∃ob,G.get? b=some ob∧∀vs,ob.data≠.fields vs
 fr:∃base,h.FunFrames base l
 en:∃oe vs,G.get? e=some oe∧oe.data=.fields vs
 ex:∃vs,h.get? e=some {o with data:=.fields vs}∧match fl with
  |none=>vs[1]? =some .none
  |some x=>∃T oT ts,vs[1]? =some (.ref T)∧G.get? T=none∧T≠e∧h.get? T=some oT∧oT.data=.fields ts∧ts[3]? =some x
section
variable{M:Model}{A:Around}{E:VP}{s:Shared}{G:Heap}{l:List Env}{e:Addr}{o:Obj}{fl:Option Value}
theorem eX.uC (F:eX G l e o fl s.heap):e∉dC l:=λhm=>by
 obtain⟨ob,h1,h2⟩:=F.live e hm
 obtain⟨oe,vs,h3,h4⟩:=F.en
 rw[h1]at h3;cases h3
 exact h2 _ h4
theorem eX.step {h h':Heap}(F:eX G l e o fl h)(hn:e∉dC l)(k:∀b ob,h.get? b=some ob→b≠e→(∀vs,ob.data≠.fields vs)∨(G.get? b).isSome=true→h'.get? b=some ob){Mv:Option Value}
  (x:∃vs,h'.get? e=some {o with data:=.fields vs}∧match Mv with
  |none=>vs[1]? =some .none
  |some x=>∃T oT ts,vs[1]? =some (.ref T)∧G.get? T=none∧T≠e∧h'.get? T=some oT∧oT.data=.fields ts∧ts[3]? =some x):eX G l e o Mv h':=by
 refine⟨λb ob hb hf he=>k b ob (F.keep b ob hb hf he) he (.inr (by rw[hb];rfl)),λb ob hb hf=>?_,F.live,?_,F.en,x⟩
 obtain⟨sl,hs⟩:=F.slot b ob hb hf
 exact⟨sl,k b _ hs (λq=>hn (q▸hf)) (.inr (by rw[hb];rfl))⟩
 obtain⟨base,hF⟩:=F.fr
 refine⟨base,hF.of_keeps λb ob hb hd=>⟨ob,?_,rfl⟩⟩
 by_cases he:b=e
 obtain⟨vs,hx,_⟩:=F.ex
 rw[he,hx]at hb;cases hb
 exact absurd rfl (hd _)
 exact k b ob hb he (.inl hd)
theorem Cs {x:Value}{Q:Unit→Shared→Prop}(F:eX G l e o (some x) s.heap)(hQ:∀h',eX G l e o (some .none) h'→Q () {s with heap:=h'}):wpAny M A (setFlight (.ref e) none) Q E s:=by
 obtain⟨vs,he,T,oT,ts,h1,pj,nW,hT,mu,h3⟩:=F.ex
 have Mw:3<ts.size:=(qM.mp h3).1
 have other:∀b,b≠T→(s.heap.update T (Obj.mapFields (·.setIfInBounds 3 ((none:Option Addr).elim Value.none λf=>rawInt f)))).get? b=s.heap.get? b:=
  λb hb=>j4 _ _ (Ne.symm hb)
 unfold setFlight
 refine aP (wpAny_field he rfl h1 ?_)
 rw[ck (by simp:(Value.ref T !=Value.none)=true)]
 refine wpAny_setField hT mu Mw (hQ _ (F.step F.uC (λb ob hb ja hc=>(other b λq=>?_).trans hb) ?_))
 subst q
 rw[hT]at hb;cases hb
 rcases hc with hc|hc
 exact hc _ mu
 rw[pj]at hc;cases hc
 exact⟨vs,(other e (Ne.symm nW)).trans he,T,_,_,h1,pj,nW,kE _ hT (Obj.isFreed_of_fields (Obj.data_mapFields mu _)),Obj.data_mapFields mu _,by simp[Mw]⟩
theorem Mx {env:Env}{outer:List Env}{L:Addr}{vs:Array Value}{head:Value}{acr:Bool}{Q:Unit→Shared→Prop}(mv:A.frames=some (env::outer))(hf:env.frame=some L)
  (F:eX G (env::outer) e o fl s.heap)(he:s.heap.get? e=some {o with data:=.fields vs})(l5:1<vs.size)
  (hQ:∀h',eX G (env::outer) e o (some (rawInt L)) h'→Q () {s with heap:=h'}):
  wpAny M A (do let a←frameOf env;let pl←entryPlaceOf L acr;let b←EntryCells.newEntry head a .none (rawInt L) .none pl;setField (.ref e) 1 b) Q E s:=by
 obtain⟨base,hl⟩:=F.fr
 refine aP (wpAny_frameOf_fun mv hl hf λh₁ iU=>?_)
 refine aP (wpAny_entryPlaceOf λpl ej=>?_)
 unfold EntryCells.newEntry newFields
 refine aP (wpAny_newObj_type ?_ (ej.sizeOk5 _ _ _ _ _))
 have My:h₁.get? e=some {o with data:=.fields vs}:=(iU.2.1 e F.uC).trans he
 have wJ:=dy (h:=h₁) {cls:=.type "traceback",dict:=none,data:=.fields ([head,.ref L,.none,rawInt L,.none]++(if pl.isEmpty then List.replicate 6 Value.none else pl)).toArray} My
 refine wpAny_setField wJ rfl l5 (hQ _ ?_)
 have nW:h₁.objs.size≠e:=kN (f_ My)
 have Ct:=kE (Obj.mapFields (·.setIfInBounds 1 (Value.ref h₁.objs.size))) wJ rfl
 have acs:=(j4 (h₁.push {cls:=.type "traceback",dict:=none,data:=.fields ([head,.ref L,.none,rawInt L,.none]++(if pl.isEmpty then List.replicate 6 Value.none else pl)).toArray})
  (Obj.mapFields (·.setIfInBounds 1 (Value.ref h₁.objs.size))) (Ne.symm nW)).trans (jA h₁ rfl)
 have keep:∀b ob,b≠e→h₁.get? b=some ob→
   ((h₁.push {cls:=.type "traceback",dict:=none,data:=.fields ([head,.ref L,.none,rawInt L,.none]++(if pl.isEmpty then List.replicate 6 Value.none else pl)).toArray}).update e (Obj.mapFields (·.setIfInBounds 1 (Value.ref h₁.objs.size)))).get? b=some ob:=
  λb ob ja hb=>by
   rw[j4 _ _ (Ne.symm ja)]
   exact dy _ hb
 have gT:G.get? h₁.objs.size=none:=by
  cases q:G.get? h₁.objs.size with
  |none=>rfl
  |some ob=>
   have live:∃fO,h₁.get? h₁.objs.size=some fO:=by
    by_cases hm:h₁.objs.size∈dC (env::outer)
    obtain⟨sl,hs⟩:=F.slot _ _ q hm
    obtain⟨Mz,lQ⟩:=iU.2.2 _ _ hs
    exact⟨_,lQ⟩
    exact⟨_,(iU.2.1 _ hm).trans (F.keep _ _ q hm nW)⟩
   obtain⟨fO,h'⟩:=live
   exact absurd (f_ h') (Nat.lt_irrefl _)
 refine⟨λb ob hb hm ja=>keep b ob ja ((iU.2.1 b hm).trans (F.keep b ob hb hm ja)),λb ob hb hm=>?_,F.live,⟨base,hl.of_keeps λb ob hb hd=>?_⟩,F.en,?_⟩
 obtain⟨sl,hs⟩:=F.slot b ob hb hm
 obtain⟨Mz,lQ⟩:=iU.2.2 _ _ hs
 exact⟨Mz,keep b _ (λq=>F.uC (q▸hm)) lQ⟩
 obtain⟨sl,hs⟩:=iU.2.2 b ob hb
 refine⟨_,keep b _ (λq=>?_) hs,rfl⟩
 rw[q,he]at hb;cases hb
 exact hd _ rfl
 exact⟨_,Ct,h₁.objs.size,_,_,by simp[l5],gT,nW,acs,rfl,by first|(simp;done)|(rcases ej with rfl|⟨_,_,_,_,_,_,_,rfl⟩<;>simp)⟩
theorem MA {env:Env}{outer:List Env}{L:Addr}{Q:Unit→Shared→Prop}(mv:A.frames=some (env::outer))(hf:env.frame=some L)(iw:fl=none∨fl=some .none)
  (F:eX G (env::outer) e o fl s.heap)(hQ:∀h',eX G (env::outer) e o (some (rawInt L)) h'→Q () {s with heap:=h'}):wpAny M A (noteFrame (.ref e) env) Q E s:=by
 unfold noteFrame
 simp only[hf]
 rcases iw with rfl|rfl
 obtain⟨vs,he,h1⟩:=F.ex
 refine aP (wpAny_field he rfl h1 ?_)
 rw[bK (by decide)]
 exact Mx mv hf F he (qM.mp h1).1 hQ
 obtain⟨vs,he,T,oT,ts,h1,pj,nW,hT,mu,h3⟩:=F.ex
 refine aP (wpAny_field he rfl h1 ?_)
 rw[ck (by simp:(Value.ref T !=Value.none)=true)]
 refine aP (wpAny_field hT mu h3 ?_)
 rw[bK (by simp[rawInt]:¬((Value.none==rawInt L)=true))]
 refine aP (wpAny_setField hT mu (qM.mp h3).1 ?_)
 have other:∀b,b≠T→(s.heap.update T (Obj.mapFields (·.setIfInBounds 3 Value.none))).get? b=s.heap.get? b:=λb hb=>j4 _ _ (Ne.symm hb)
 have uB:=(other e (Ne.symm nW)).trans he
 refine Mx (fl:=some .none) mv hf (F.step F.uC (λb ob hb ja hc=>(other b λq=>?_).trans hb) ?_) uB (qM.mp h1).1 hQ
 subst q
 rw[hT]at hb;cases hb
 rcases hc with hc|hc
 exact hc _ mu
 rw[pj]at hc;cases hc
 exact⟨vs,uB,T,_,_,h1,pj,nW,kE _ hT (Obj.isFreed_of_fields (Obj.data_mapFields mu _)),Obj.data_mapFields mu _,by simp[(qM.mp h3).1]⟩
theorem acu {env:Env}{outer:List Env}{L:Addr}{Q:Unit→Shared→Prop}(mv:A.frames=some (env::outer))(hf:env.frame=some L)(iw:fl=none∨fl=some .none)
  (F:eX G (env::outer) e o fl s.heap)(hQ:∀h',eX G (env::outer) e o (some .none) h'→Q () {s with heap:=h'}):wpAny M A (leaving env (.ref e)) Q E s:=by
 unfold leaving
 exact aP (MA mv hf iw F λh₁ acv=>Cs (s:={s with heap:=h₁}) acv hQ)
theorem eX.out {env:Env}{outer:List Env}{L:Addr}{h:Heap}(F:eX G (env::outer) e o fl h)(hf:env.frame=some L)(Cu:L∉dC outer)(Cv:L≠e):eX (hideAll G [L]) outer e o fl h:=by
 have fs:dC (env::outer)=L::dC outer:=by unfold dC;rw[gz,hf]
 have sub:∀b ob,(hideAll G [L]).get? b=some ob→G.get? b=some ob∧b≠L:=λb ob hb=>⟨of_hideAll _ hb,λq=>by
  rw[q,hideAll_none _ bA]at hb;cases hb⟩
 refine⟨λb ob hb hm ja=>?_,λb ob hb hm=>?_,λb hm=>?_,?_,?_,?_⟩
 obtain⟨h1,h2⟩:=sub b ob hb
 exact F.keep b ob h1 (by rw[fs,aY,not_or];exact⟨h2,hm⟩) ja
 exact F.slot b ob (sub b ob hb).1 (by rw[fs];exact bw _ hm)
 obtain⟨ob,h1,h2⟩:=F.live b (by rw[fs];exact bw _ hm)
 exact⟨ob,mE _ h1 (by simp only[dm];exact λq=>Cu (q▸hm)),h2⟩
 obtain⟨base,_,_,hr⟩:=F.fr
 exact⟨base,hr⟩
 obtain⟨oe,vs,h1,h2⟩:=F.en
 exact⟨oe,vs,mE _ h1 (by simp only[dm];exact λq=>Cv q.symm),h2⟩
 obtain⟨vs,he,hx⟩:=F.ex
 refine⟨vs,he,?_⟩
 cases fl with
 |none=>exact hx
 |some x=>
  obtain⟨T,oT,ts,h1,pj,r⟩:=hx
  refine⟨T,oT,ts,h1,?_,r⟩
  cases q:(hideAll G [L]).get? T with
  |none=>rfl
  |some ob=>rw[(sub T ob q).1]at pj;cases pj
end
noncomputable def Ctx.re (Γ:Ctx)(h:Heap):Ctx:={Γ with h₀:=h}
noncomputable def Ctx.all (Γ:Ctx):List Env:=Γ.iG::Γ.outer
theorem xA {Γ:Ctx}{w:World}(S:bt w Γ):dC Γ.all=Γ.FL::dC Γ.outer:=by unfold dC Ctx.all;rw[gz,S.hf]
theorem acw {h h':Heap}{a:Addr}{m:Str→Option Value}(n:h.Ns a m)(k:∀ob,h.get? a=some ob→∃sl,h'.get? a=some {ob with slots:=sl}):h'.Ns a m:=by
 obtain⟨o,es,ep,ho,hd,r⟩:=n
 obtain⟨sl,hs⟩:=k o ho
 exact⟨_,es,ep,hs,hd,r⟩
section
variable{w:World}{Γ:Ctx}{s s':Shared}{σ σ':Hp}{ρ:LO}
theorem uD (S:bt w Γ){b:Addr}(hb:b∈dC Γ.outer):Γ.base.get? b=none∧∃o,Γ.h₀.get? b=some o∧∀vs,o.data≠.fields vs:=S.B.frames.mem hb
theorem MB (S:bt w Γ){b:Addr}(hb:b∈Γ.bM):b∉dC Γ.outer:=λhm=>by
 obtain⟨_,o,h,_⟩:=uD S hm
 rw[S.new b hb]at h;cases h
theorem MC (S:bt w Γ)(D:az w Γ s σ ρ){a:Addr}{o:MO}(sa:σ a=some o){b:Addr}(hb:b∈foot s.heap a):b∉dC Γ.all:=λhm=>by
 have:=D.free a o sa b hb
 rw[xA S]at hm
 rcases aY.mp hm with q|hm
 exact this.2 (q▸Γ.dG)
 obtain⟨_,o,h,_⟩:=uD S hm
 rw[this.1]at h;cases h
inductive nX (w:World)(Γ:Ctx)(s:Shared)(σ:Hp)(ρ:LO):Prop
 |mk (h₁:Heap) (h1:KtsTurn (dC Γ.outer) Γ.h₀ h₁) (h2:bt w (Γ.re h₁)) (h3:az w (Γ.re h₁) s σ ρ)
theorem MD (S:bt w Γ)(KB:Known w Γ.base)(D:az w Γ s σ ρ){h':Heap}(k1:∀b ob,s.heap.get? b=some ob→b∉dC Γ.all→h'.get? b=some ob)
  (k2:∀b ob,s.heap.get? b=some ob→b∈dC Γ.all→∃sl,h'.get? b=some {ob with slots:=sl}):
  nX w Γ {s with heap:=h'} σ ρ:=by
 obtain⟨m,F⟩:=D.fr
 have all:=xA S
 have zm:Γ.h₀.get? Γ.FL=none:=S.new _ Γ.dG
 have acx:∀b o,Γ.h₀.get? b=some o→b≠Γ.FL:=λb o e q=>by rw[q,zm]at e;cases e
 obtain⟨T,K1⟩:=kts_turn_at (g:=Γ.h₀) (h:=h') (fs:=dC Γ.outer) (λb hb=>by obtain⟨_,o,h,_⟩:=uD S hb;exact⟨o,h⟩)
  (λb o e hm=>k1 b o (F.keep b o e) (by rw[all,aY,not_or];exact⟨acx b o e,hm⟩)) (λb o e hm=>k2 b o (F.keep b o e) (by rw[all];exact bw _ hm))
 generalize ktsHeap h' (dC Γ.outer) Γ.h₀=h₁ at T K1
 have up:∀b o,Γ.h₀.get? b=some o→∃sl,h₁.get? b=some {o with slots:=sl}:=λb o e=>T.up e
 have S':bt w (Γ.re h₁):=by
  obtain⟨a1,a2,a3,a4,a5,a6,a7,a8,a9,d_,eT,gk,gF,ia,ib,kZ,k_,oH,oI,lV,iM,kh,lW,lX⟩:=S
  refine⟨a1,a2,a3,⟨a4.stack,λb o e=>?_,a4.frames.of_keeps λb o e hd=>?_⟩,a5,a6,a7,a8,a9,d_,eT,gk,gF,ia,ib,kZ,k_,oH,oI,lV,λb hb=>T.none_ b (iM b hb),⟨λp hp hn=>?_,?_⟩,lW,lX⟩
  have e:Γ.base.get? b=some o:=e
  refine T.other b o (a4.stays b o e) λhm=>?_
  rw[(a4.frames.mem hm).1]at e;cases e
  obtain⟨sl,hs⟩:=up b o e
  exact⟨_,hs,rfl⟩
  refine T.other _ _ (kh.fin p hp hn) λhm=>?_
  have:=KB.fin p hp hn
  rw[(a4.frames.mem hm).1]at this;cases this
  refine T.other _ _ kh.sys λhm=>?_
  have:=KB.sys
  rw[(a4.frames.mem hm).1]at this;cases this
 have d0:∀b o,b∈Γ.bM→b≠Γ.FL→s.heap.get? b=some o→h'.get? b=some o:=λb o hb hn e=>k1 b o e (by rw[all,aY,not_or];exact⟨hn,MB S hb⟩)
 have Cw:∀m,s.heap.Ns Γ.FL m→h'.Ns Γ.FL m:=λm n=>acw n λob e=>k2 _ ob e (by rw[all];exact bA)
 have same:∀a o,σ a=some o→∀b∈foot s.heap a,h'.get? b=s.heap.get? b:=λa o sa b hb=>by
  obtain⟨z,hz⟩:=(D.hr.at_ a o sa).live b hb
  rw[hz];exact k1 b z hz (MC S D sa hb)
 refine⟨h₁,T,S',⟨⟨m,Cw m F.ns,K1,by show h₁.objs.size≤_;rw[T.size];exact F.above⟩,D.hr.same same,λa o sa b hb=>?_,λp hp=>?_,λp hp=>?_,?_,D.gens,D.os,λf e=>Cw f (D.fm f e)⟩⟩
 rw[ey (same a o sa a (bD.mpr (.inl rfl)))]at hb
 have:=D.free a o sa b hb
 exact⟨T.none_ b this.1,this.2⟩
 exact d0 _ _ (iH hp) (λq=>S.fk (q▸cB hp)) (D.kp p hp)
 obtain⟨v,o,ho,hd⟩:=D.cells p hp
 exact⟨v,o,d0 _ _ (ow hp) (S.fc p hp) ho,hd⟩
 obtain⟨ml,hl,hh⟩:=D.loc
 refine⟨ml,?_,λx k v hx=>?_⟩
 show h'.Ns Γ.env.locals ml
 by_cases q:Γ.env.locals=Γ.FL
 rw[q]at hl ⊢;exact Cw ml hl
 exact Ns.at hl λo e=>d0 _ _ Γ.fP q e
 have:=hh x k v hx
 cases k with
 |loc=>exact this
 |cell=>obtain⟨c,val,hc,⟨o,ho,hd⟩,hv⟩:=this;exact⟨c,val,hc,⟨o,d0 _ _ (eS hc) (S.fc _ (mem_of_lookup hc)) ho,hd⟩,hv⟩
 |free=>obtain⟨c,val,hc,⟨o,ho,hd⟩,hv⟩:=this;exact⟨c,val,hc,⟨o,d0 _ _ (eS hc) (S.fc _ (mem_of_lookup hc)) ho,hd⟩,hv⟩
structure Inner (w:World)(Γ aE:Ctx)(ρ:LO):Prop where
 sR:aE.iG=aE.env
 sS:aE.outer=Γ.all
 DZ:aE.base=Γ.base
 A_:aE.A=Γ.A.deeper aE.env
 st:bt w aE
 back:∀aG aZ dz h',az w aE aG aZ dz→(∀b,b≠aE.FL→h'.get? b=aG.heap.get? b)→az w Γ {aG with heap:=h'} aZ ρ
 acy:Known w Γ.base→∀aG aZ dz g,KtsTurn (dC Γ.all) aE.h₀ g→az w (aE.re g) aG aZ dz→nX w Γ aG aZ ρ
end
theorem acz {w:World}{f c:Addr}{st:Stmt}{q:Str}{dV pm:Value}{vs:List V}{bs:LV}{vars:KV}{gls:LV}{cu:LO}{d:Nat}{σ:Hp}(e_:Def w f c st q dV pm vs bs vars gls cu)
  {Γ:Ctx}(hd:d+1≤Γ.d) {ρ:LO}{args:List Value}(ez:args.map er=vs) (S:bt w Γ) {s:Shared}(D:az w Γ s σ ρ) {R:Result→Shared→Prop}
  (body:∀(aE:Ctx)(s':Shared),aE.d=d→aE.vars=vars→aE.gls=gls→Inner w Γ aE ρ→aE.env=newEnv (bz st) aE.FL mainGlobals (cellsFrom (aE.FL+1) (bz st).names []) (q++".<locals>.") (some f) (.ref c) none builtinsNs→az w aE s' σ cu→
   wpAny (model aC w) aE.A (execs (bodyOf st) aE.env) (λfl aG=>R (.ok (.ret (match fl with|.ret v=>v|_=>.none))) aG)
    (λe aG=>wpAny (model aC w) aE.A (leaving aE.env e) (λ_ bI=>R (.error e) bI) (λe' bI=>R (.error e') bI) aG) s'):
  codeAny (model aC w) Γ.A (.call (.ref f) ⟨args,[]⟩) R s:=by
 refine Ee e_ hd ez S D fun aE s' e1 e2 e3 I _ eE D'=>?_
 obtain⟨f1,f2,f3,f4,f5,st,q5,pG,news,kS,lR,back⟩:=I
 refine body aE s' e1 e2 e3 ⟨f1,f2,f3,f4,st,back,λKB aG aZ dz g T aA=>?_⟩ eE D'
 obtain⟨m₂,pH⟩:=aA.fr
 have T:KtsTurn (dC Γ.all) aE.h₀ g:=T
 have Fk:∀b o,g.get? b=some o→aG.heap.get? b=some o:=pH.keep
 have Cx:∀b∈dC Γ.all,∃o,aE.h₀.get? b=some o∧s.heap.get? b=some o:=λb hb=>by
  obtain⟨_,o,h,_⟩:=st.B.frames.mem (by rw[f2];exact hb)
  exact⟨o,h,q5 b o h⟩
 have out:∀b,b∉dC Γ.all→(ktsHeap s.heap (dC Γ.all) aG.heap).get? b=aG.heap.get? b:=λb hb=>ktsHeap_ne _ hb
 have Cy:∀b∈dC Γ.all,∀o,s.heap.get? b=some o→(ktsHeap s.heap (dC Γ.all) aG.heap).get? b=some o∧∃sl,aG.heap.get? b=some {o with slots:=sl}:=λb hb o e=>by
  obtain⟨o',h1,h2⟩:=Cx b hb
  rw[e]at h2;cases h2
  obtain⟨sl,hs⟩:=T.frame b o h1 hb
  have h3:=Fk _ _ hs
  exact⟨ktsHeap_some (o:={o with slots:=sl}) (sl:=o.slots) _ hb h3 e,sl,h3⟩
 have nfr:∀a o,aZ a=some o→∀b∈foot aG.heap a,b∉dC Γ.all:=λa o sa b hb hm=>by
  obtain⟨o',h1,h2⟩:=Cx b hm
  obtain⟨sl,hs⟩:=T.frame b o' h1 hm
  have:=(aA.free a o sa b hb).1
  rw[show(aE.re g).h₀=g from rfl,hs]at this;cases this
 generalize hH:ktsHeap s.heap (dC Γ.all) aG.heap=H at out Cy
 have same:∀a o,aZ a=some o→∀b∈foot aG.heap a,H.get? b=aG.heap.get? b:=λa o sa b hb=>out b (nfr a o sa b hb)
 have ft:∀a o,aZ a=some o→foot H a=foot aG.heap a:=λa o sa=>ey (same a o sa a (bD.mpr (.inl rfl)))
 have bN:az w Γ {aG with heap:=H} aZ ρ:=by
  refine D.move (λb o e off=>?_) (aA.hr.same same) (λa o sa b hb=>?_) (aA.gens.trans D.gens.symm) ((aA.os.trans f5).trans D.os.symm)
  by_cases hm:b∈dC Γ.all
  exact(Cy b hm o e).1
  refine(out b hm).trans (Fk b o (T.other b o (kS b o e λhb=>?_) hm))
  obtain⟨p,hp,rfl⟩:=cF.mp hb
  obtain⟨a,o',sa,cg⟩:=lR p hp
  exact off a o' sa cg
  have hb:b∈foot H a:=hb
  rw[ft a o sa]at hb
  have hn:=(aA.free a o sa b hb).1
  cases e:s.heap.get? b with
  |none=>exact .inr rfl
  |some ob=>
   by_cases cg:b∈news.map (·.1)
   refine bZ cg λp hp=>?_
   obtain⟨a',o',jJ,sU⟩:=lR p hp
   exact .inl ⟨a',o',jJ,sU⟩
   have e2:=kS b ob e cg
   obtain⟨sl,hs⟩:=T.up e2
   rw[show(aE.re g).h₀=g from rfl,hs]at hn
   cases hn
 refine MD (s:={aG with heap:=H}) S KB bN (h':=aG.heap) (λb ob e hm=>(out b hm).symm.trans e) λb ob e hm=>?_
 obtain⟨o',h1,h2⟩:=Cx b hm
 obtain⟨i1,sl,i2⟩:=Cy b hm o' h2
 have e:H.get? b=some ob:=e
 rw[i1]at e;cases e
 exact⟨sl,i2⟩
structure g_ (w:World)(d:Nat)(f:Addr)(st:Stmt)(q:Str)(c:Addr)(vs:List V)(vars:KV)(gls:LV)(cu:LO):Prop where
 go:∀{Γ:Ctx}(hd:d+1≤Γ.d) {ρ:LO}{args:List Value}(ez:args.map er=vs) (S:bt w Γ) {s:Shared}{σ:Hp}(D:az w Γ s σ ρ) {R:Result→Shared→Prop}
  (body:∀(aE:Ctx)(s':Shared),aE.d=d→aE.vars=vars→aE.gls=gls→Inner w Γ aE ρ→aE.env=newEnv (bz st) aE.FL mainGlobals (cellsFrom (aE.FL+1) (bz st).names []) (q++".<locals>.") (some f) (.ref c) none builtinsNs→az w aE s' σ cu→
   wpAny (model aC w) aE.A (execs (bodyOf st) aE.env) (λfl aG=>R (.ok (.ret (match fl with|.ret v=>v|_=>.none))) aG)
    (λe aG=>wpAny (model aC w) aE.A (leaving aE.env e) (λ_ bI=>R (.error e) bI) (λe' bI=>R (.error e') bI) aG) s'),
  codeAny (model aC w) Γ.A (.call (.ref f) ⟨args,[]⟩) R s
theorem Def.gen {w:World}{f c:Addr}{st:Stmt}{q:Str}{dV pm:Value}{vs:List V}{bs:LV}{vars:KV}{gls:LV}{cu:LO}{d:Nat}(e_:Def w f c st q dV pm vs bs vars gls cu):g_ w d f st q c vs vars gls cu:=⟨λ{Γ} hd {ρ args} ez S {s σ} D {R} body=>acz e_ hd ez S D body⟩
noncomputable def Flew (w:World)(Γ:Ctx)(ρ:LO)(Qx:Hp→Prop)(m:V)(e:Addr)(fl:Option Value)(s:Shared):Prop:=
 ∃G σ t o od,Qx (off σ e)∧az w Γ {s with heap:=G} σ ρ∧σ e=some (.raw o od)∧qE w t m o od∧eX G Γ.all e o fl s.heap
structure nY (w:World)(Γ:Ctx)(x:Expr)(σ:Hp)(ρ:LO)(Qx:Hp→Prop)(m:V):Prop where
 run:bt w Γ→∀s,az w Γ s σ ρ→∀(k:VP) (X:VP),(∀e s' fl,(fl=none∨fl=some .none)→Flew w Γ ρ Qx m e fl s'→X (.ref e) s')→wpAny (model aC w) Γ.A (eval x Γ.env) k X s
structure mw (w:World)(Γ:Ctx)(st:Stmt)(σ:Hp)(ρ:LO)(Qx:Hp→Prop)(m:V):Prop where
 run:bt w Γ→∀s,az w Γ s σ ρ→∀(k:Flow→Shared→Prop) (X:VP),(∀e s' fl aR,(fl=none∨fl=some .none)→Flew w Γ aR Qx m e fl s'→X (.ref e) s')→wpAny (model aC w) Γ.A (exec st Γ.env) k X s
structure f7 (w:World)(Γ:Ctx)(st:List Stmt)(σ:Hp)(ρ:LO)(Qx:Hp→Prop)(m:V):Prop where
 run:bt w Γ→∀s,az w Γ s σ ρ→∀(k:Flow→Shared→Prop) (X:VP),(∀e s' fl aR,(fl=none∨fl=some .none)→Flew w Γ aR Qx m e fl s'→X (.ref e) s')→wpAny (model aC w) Γ.A (execs st Γ.env) k X s
structure uE (w:World)(d:Nat)(fv:V)(vs:List V)(σ:Hp)(Qx:Hp→Prop)(m:V):Prop where
 run:∀Γ:Ctx,d≤Γ.d→∀ρ f args,er f=fv→args.map er=vs→bt w Γ→∀s,az w Γ s σ ρ→∀R:Result→Shared→Prop,(∀e s',Flew w Γ ρ Qx m e (some .none) s'→R (.error (.ref e)) s')→codeAny (model aC w) Γ.A (.call f ⟨args,[]⟩) R s
section
variable{w:World}{Γ:Ctx}{σ:Hp}{ρ:LO}{Qx:Hp→Prop}{m:V}{f c:Addr}{nq:Str}{st:Stmt}{vs:List V}{vars:KV}{gls:LV}{cu:LO}{d:Nat}
theorem g_.ME (E:g_ w d f st nq c vs vars gls cu)(body:∀Γ:Ctx,Γ.d=d→Γ.vars=vars→Γ.gls=gls→f7 w Γ (bodyOf st) σ cu Qx m):uE w (d+1) (.ref f) vs σ Qx m:=by
 refine⟨fun Γ hd ρ fv args jK ez S s D R hR=>?_⟩
 refine bJ jK ?_
 refine E.go hd ez S D fun aE s' e1 e2 e3 I _ D'=>?_
 refine(body aE e1 e2 e3).run I.st s' D' _ _ λe aG fl dz iw FW=>?_
 obtain⟨G,aZ,t,o,od,q,aA,he,hm,F⟩:=FW
 have kr:aE.all=aE.env::Γ.all:=by unfold Ctx.all;rw[I.sR,I.sS];rfl
 rw[kr]at F
 have MF:aE.env.frame=some aE.FL:=I.st.ef
 have mv:aE.A.frames=some (aE.env::Γ.all):=by rw[I.st.hA,I.sR,I.sS]
 refine acu mv MF iw F λh' F'=>hR e _ ?_
 have Cv:aE.FL≠e:=λhq=>(aA.free e _ he e (bD.mpr (.inl rfl))).2 (hq▸aE.dG)
 have Cu:aE.FL∉dC Γ.all:=by rw[←I.sS];exact MB I.st aE.dG
 have F2:=F'.out MF Cu Cv
 refine⟨hideAll G [aE.FL],aZ,t,o,od,q,?_,he,hm,F2⟩
 exact I.back {aG with heap:=G} aZ dz (hideAll G [aE.FL]) aA λb hb=>by
  cases hq:G.get? b with
  |none=>
   cases hz:(hideAll G [aE.FL]).get? b with
   |none=>rfl
   |some z=>rw[of_hideAll _ hz]at hq;cases hq
  |some z=>exact mE _ hq (by simpa using hb)
structure MG (P:Hp→LO→Prop)(f:Fl)(σ:Hp)(ρ:LO):Prop where
 e:f=.next
 q:P σ ρ
noncomputable abbrev kRX (w:World)(Γ:Ctx)(r:List Stmt)(Qx:Hp→Prop)(m:V):Hp→LO→Prop:=λσ ρ=>f7 w Γ r σ ρ Qx m
structure kTX (w:World)(Γ:Ctx)(r:List Stmt)(ρ:LO)(Qx:Hp→Prop)(m:V)(b:Bool)(σ:Hp):Prop where
 e:b=true
 q:f7 w Γ r σ ρ Qx m
noncomputable abbrev acA (w:World)(d:Nat)(f:V)(Qx:Hp→Prop)(m:V):List V→Hp→Prop:=λvs σ=>uE w d f vs σ Qx m
theorem f7.cons {bH rest}(h:aT w Γ bH σ ρ (MG (kRX w Γ rest Qx m))):f7 w Γ (bH::rest) σ ρ Qx m:=
 ⟨λS s D k X hX=>pC (h.run S s D _ X λfl av aH bj q aL=>by
  obtain⟨q1,q2⟩:=q
  cases fl with
  |next=>exact q2.run S av aL k X hX
  |brk=>cases q1
  |cont=>cases q1
  |ret v=>cases q1)⟩
theorem f7.throw {bH rest}(h:mw w Γ bH σ ρ Qx m):f7 w Γ (bH::rest) σ ρ Qx m:=
 ⟨λS s D k X hX=>pC (h.run S s D _ X hX)⟩
theorem mw.iff {test body orelse pos}(h:dJ w Γ test σ ρ (kTX w Γ body ρ Qx m)):mw w Γ (.If test body orelse pos) σ ρ Qx m:=
 ⟨λS s D k X hX=>wpAny_If (h.run S s D _ X λb av aH q aL=>by
  obtain⟨rfl,q⟩:=q
  exact q.run S av aL k X hX)⟩
theorem mw.asg {x pos' value pos}(h:nY w Γ value σ ρ Qx m)(hs:∀env,swapsWith value (some (.Name x pos')) pos.line env=pure false:=by intro _;rfl):mw w Γ (.Assign [.Name x pos'] value pos) σ ρ Qx m:=
 ⟨λS s D k X hX=>wpAny_Assign_Name (h.run S s D _ X λe s' fl iw F=>hX e s' fl ρ iw F) (hs _)⟩
theorem nY.call {x np pos args}(h:ak w Γ (.Name x np) σ ρ λfv aH=>∃a,fv=.ref a∧keepIn (Kc w) (.ref a)=true∧eC w Γ pos args aH ρ λvs aZ=>uE w Γ.d (.ref a) vs aZ Qx m)
  (hp:∀env,(backTo pos (starEach args env)).any (·.1)=false:=by intro _;rfl):nY w Γ (.Call (.Name x np) args [] pos) σ ρ Qx m:=by
 refine⟨λS s D k X hX=>qS (h.run S s D _ X λf av aH q aL=>?_)⟩
 obtain⟨a,e,pP,q⟩:=q
 refine bJ e ?_
 have gX:(backTo pos (starEach args Γ.env)).any (·.1)=false:=hp _
 refine callWith_of (P:=(Kc w).In) (by rw[gX];rfl) (λh kY=>keeps_K pP h kY) (lU gX (q.run S av aL _ X λvs aG aZ c aA=>⟨ji (aA.known S),?_⟩))
 exact wpAny_call (c.run Γ (dp _) ρ _ _ rfl rfl S aG aA _ λe bI F=>hX e bI _ (.inr rfl) F)
theorem nY.fn {gls:LV} {x np pos args a}(hd:Γ.d=d)(hg:Γ.gls=gls)(l:(x,.ref a)∈gls)(hk:keepIn (Kc w) (.ref a)=true)(h:eC w Γ pos args σ ρ (acA w d (.ref a) Qx m))
  (hp:∀env,(backTo pos (starEach args env)).any (·.1)=false:=by intro _;rfl):nY w Γ (.Call (.Name x np) args [] pos) σ ρ Qx m:=
 nY.call (cm hg l ⟨a,rfl,hk,by rw[hd];exact h⟩) hp
end
theorem acB {w:World}{d:Nat}{x1 x2 x3:V}:g_ w d 1615 (ao 233) "recycled_places" 1614 [x1,x2,x3] vS Aq [some x1,some x2,some x3,none,none,none,none,none,none]:=((IL w).d3 fun _ _ _ _=>.of_eq (by rfl')).gen
theorem acC {w:World}{d:Nat}{x1 x2 x3:V}:g_ w d 1627 (ao 235) "b_split" 1626 [x1,x2,x3] Au Av [some x1,some x2,some x3,none,none,none,none,none,none,none,none,none,none,none]:=((IM w).d3 fun _ _ _ _=>.of_eq (by rfl')).gen
theorem acD {w:World}{d:Nat}{x1 x2 x3:V}:g_ w d 2017 (ao 266) "_law_said" 2016 [x1,x2,x3] Ax Ay [some x1,some x2,some x3,none]:=((Jc w).d3 fun _ _ _ _=>.of_eq (by rfl')).gen
theorem acE {w:World}{d:Nat}{x1 x2:V}:g_ w d 2022 (ao 267) "_law_split_right" 2021 [x1,x2] oK Jd [some x1,some x2,none,none,none,none,none,none,none]:=((Us w).d2 fun _ _ _=>.of_eq (by rfl')).gen
theorem acF {w:World}{d:Nat}{x1 x2:V}:g_ w d 2046 (ao 271) "_law_default_right" 2045 [x1,x2] Ji Jj [some x1,some x2,none,none,none,none,none,none,none]:=((Uw w).d2 fun _ _ _=>.of_eq (by rfl')).gen
section
variable{w:World}{A:Around}{E:VP}{s:Shared}{env:Env}
theorem acG {x:Sem Value}{Q:Flow→Shared→Prop}(hh:A.handled=none)
  (h:wpAny (model aC w) A x (λv av=>∃e dd vs sl,v=.ref e∧av.heap.get? 51=some rQ∧av.heap.get? e=some ⟨.ref 51,dd,.fields vs,sl⟩∧vs[1]? =some .none∧E (.ref e) av) E s):
  wpAny (model aC w) A (raiseStmt env (some x) none) Q E s:=by
 have hcB:(Value.ref 51::(.ref 31::qD)).contains (.type "BaseException")=true:=by rfl'
 unfold raiseStmt
 refine aP (j_ h (λv av h₁=>?_) λ_ _ x=>x)
 obtain⟨e,dd,vs,sl,rfl,hC,he,h1,hE⟩:=h₁
 unfold rQ at hC
 obtain⟨hp,g,d,tk,os⟩:=av
 repeat (first|with_reducible refine wpAny_loadPart_at he ?_|with_reducible refine wpAny_loadPart_at hC ?_|(with_reducible refine wpAny_isSubtype_exc hC ?_;rw[hcB])|with_reducible refine wpAny_field he rfl h1 ?_|wp_step)
 exact wpAny_raiseNew_none hh hE
end
section
variable{w:World}{Γ:Ctx}{σ:Hp}{ρ:LO}{Qx:Hp→Prop}{m:V}
theorem Flew.fresh {s:Shared}{e t:Addr}{o:Obj}{od:Option Obj}(S:bt w Γ)(D:az w Γ s σ ρ)(he:σ e=some (.raw o od))(hm:qE w t m o od)(q:Qx (off σ e)):Flew w Γ ρ Qx m e none s:=by
 have Cz:=hm
 obtain⟨dd,t1,v',rfl,rfl,_⟩:=Cz
 obtain⟨jT,_⟩:=D.hr.at_ _ _ he
 obtain⟨mf,F⟩:=D.fr
 obtain⟨oL,es,ep,hL,hLd,_⟩:=id F.ns
 have hb:Γ.base.get? Γ.FL=none:=by
  cases hq:Γ.base.get? Γ.FL with
  |none=>rfl
  |some o=>have:=S.B.stays _ _ hq;rw[S.new _ Γ.dG]at this;cases this
 refine⟨s.heap,σ,t,_,_,q,D,he,hm,⟨λb ob h _ _=>h,λb ob h _=>⟨ob.slots,h⟩,λb hb=>?_,⟨Γ.base,?_⟩,⟨_,_,jT,rfl⟩,⟨_,jT,rfl⟩⟩⟩
 rw[xA S]at hb
 rcases aY.mp hb with rfl|hb
 exact⟨oL,hL,λvs q=>by rw[hLd]at q;cases q⟩
 obtain⟨_,o,h1,h2⟩:=uD S hb
 exact⟨o,F.keep _ _ h1,h2⟩
 exact .cons (by rw[S.hk];decide) S.hf F.ns hb (S.B.frames.of_keeps λb o h _=>⟨o,F.keep b o h,rfl⟩)
theorem mw.raise {x pos}(h:ak w Γ x σ ρ λv aH=>∃e t o od,v=.ref e∧aH e=some (.raw o od)∧qE w t m o od∧Qx (off aH e)):mw w Γ (.Raise (some x) none pos) σ ρ Qx m:=by
 refine⟨λS s D k X hX=>?_⟩
 rw[arm_exec_Raise]
 have key:wpAny (model aC w) Γ.A (eval x Γ.env) (λv av=>∃e dd vs sl,v=.ref e∧av.heap.get? 51=some rQ∧av.heap.get? e=some ⟨.ref 51,dd,.fields vs,sl⟩∧vs[1]? =some .none∧X (.ref e) av) X s:=
  h.run S s D _ X λv av aH q aL=>by
   obtain⟨e,t,o,od,ev,he,hm,q⟩:=q
   refine bJ ev ?_
   have hX':=hX e av none ρ (.inl rfl) (Flew.fresh S aL he hm q)
   obtain⟨dd,t1,v',rfl,rfl,_⟩:=hm
   exact⟨e,_,_,_,rfl,(aL.known S).exc.1,(aL.hr.at_ _ _ he).1,rfl,hX'⟩
 refine aP (j8 (acG S.hh (aP (j_ key (λv bI mT=>aP (j8 (bY mT))) λ_ _ y=>y))))
end
section
variable{w:World}{Γ:Ctx}{ρ:LO}{d:Nat}{σ:Hp}{Qx:Hp→Prop}{m:V}{a:Addr}{gl cD:V}
theorem f7.Bl {bH rest}(P:Hp→LO→Prop)(h:aT w Γ bH σ ρ (λfl aH bj=>fl=.next∧P aH bj))(k:∀aH bj,P aH bj→f7 w Γ rest aH bj Qx m):f7 w Γ (bH::rest) σ ρ Qx m:=
 f7.cons ⟨λS s D K X hk=>h.run S s D K X λfl av aH bj q aL=>hk fl av aH bj ⟨q.1,k _ _ q.2⟩ aL⟩
theorem acH {g:Addr}{ts:List Str}{n:Nat}(hF:cX σ g [] ts)(hn:0<n):uE w (d+7) (.ref 1615) [.ref a,.ref g,.int n] σ (λτ=>Ext σ τ) (.str rP):=by
 obtain⟨c,_,_,_,_,_,h1,h2,_⟩:=hF
 refine g_.ME acB fun Γ hd hv hg=>?_
 refine f7.cons (aS hv (aw hd hg aN (by rfl') (ar hv [1] rfl ?_)))
 refine gn rfl h1 h2 (by simp) ⟨_,eM,rfl,?_⟩
 refine f7.throw (mw.iff (cw (bW (aF (aj hv 3 rfl rfl (aW (ax (.eq .ii) ⟨_,rfl,(λ_=>bW ?_),λe=>by simp at e⟩)))))))
 refine aF (aj hv 2 rfl rfl (aW (ax .jc ⟨_,rfl,(λ_=>jL ⟨rfl,?_⟩),λe=>by simp at e;lia⟩)))
 refine f7.throw (mw.raise (aw hd hg aQ (by rfl') (ar rfl [] rfl ?_)))
 exact acq (d:=d+4) λe t o od he hm=>⟨e,t,o,od,rfl,ai _ _ _,hm,λb ob hb=>by have ja:b≠e:=(λq=>by rw[q,he]at hb;cases hb);exact off_ne ja ((aJ ja).trans hb)⟩
theorem acI {W v l As:Addr}{xs:List V}{as:List Addr}{tvs:List (Option Str×V)}{f env:V}{stF:MS}
  (hA:σ As=some (.list (as.map .ref)))(ht:br (λa (p:Option Str×V)=>σ a=some (.tup [dN p.1,p.2])) as tvs)(hn:tvs.length≤1000)(hm:o_ iV (tvs.map (·.1)) stF)(ej:∀p∈stF.2,p.2<tvs.length)(BO:∀o,iV.map (valOf stF tvs o)=[.ref v,f,.none,.none,o])
  (hv:σ v=some (.inst 401 (aV (.str "integer") (.ref l) .none)))(hl:σ l=some (.list xs))(hx:xs.length≤1000)(gH:0<xs.length)(hf:bB f=false)(hG:w6 w d σ f (Str.ofString ".") fun codes ts=>codes=[]):
  uE w (d+11) (.ref 1627) [.ref a,.ref As,env] σ (λτ=>Ext σ τ) (.str rP):=by
 have jZ:=hv
 refine g_.ME acC fun Γ hd hv hg=>?_
 refine f7.cons (aT.t6 hv (aw hd hg aN (by rfl') (aq (ah hv aD (aq (bq (ar rfl [] rfl ⟨aB,λF hF=>aK ?_⟩)))))))
 have E0:=af (o:=.list (iV.map .str)) hF
 refine wX (fs:=iV) (ai _ _ _) (E0 _ _ hA) (fW ht λ_ _ h=>E0 _ _ h) hn (by decide) hm Lc ej λτ R o E1 ho hR=>?_
 rw[BO]at hR
 obtain⟨Eo,rfl,hEo⟩:=ho (by unfold iV;simp)
 refine⟨R,_,_,rfl,.inr hR,.cons s6 (.cons dR (.cons fh (.cons eB (.cons gV .nil)))),rfl,?_⟩
 have E:=E0.trans E1
 refine f7.cons (jg (aw hd hg aQ (by rfl') (ar hv [3] rfl ?_)))
 refine m9 rfl ⟨rfl,f7.Bl (λυ aR=>∃g ts,Ext τ υ∧cX (new τ υ) g [] ts∧aR=[some (.ref a),some (.ref As),some env,some (.ref v),some f,some .none,some .none,some (.ref Eo),some (.ref g),none,none,none,none,none]) ?_ ?_⟩
 refine aS hv (aw hd hg cn (by rfl') (aq (aw hd hg aQ (by rfl') (ar hv [4] rfl ?_))))
 refine m9 hf (aq (gS (aF (aj hv 6 rfl rfl (bg (ax .bB ⟨_,rfl,(λc=>?_),tf⟩))))))
 exact bu (aK (hG τ E _ λbf g codes ts E' h1 h2=>⟨_,je,rfl,g,ts,E',h2▸h1,rfl⟩))
 intro υ aR zqA;obtain⟨g,ts,E',qu,rfl⟩:=zqA
 have E2:=E.trans E'
 refine f7.cons (aM (c8 (aw hd hg fG (by rfl') (ar hv [5] rfl ?_))))
 refine w5 ⟨_,.bool,ff rfl (au ⟨rfl,?_⟩)⟩
 refine f7.cons (aM (cw (bW (aF (aU (aj hv 3 rfl rfl (vk (E2 _ _ jZ) (bu (ax (.eq .ss) ⟨_,rfl,ff rfl (ff rfl (au ⟨rfl,?_⟩))⟩)))))))))
 refine f7.throw (mw.asg (nY.fn hd hg kl (by rfl') (aq (ah hv .here (aq (aj hv 8 rfl rfl (aq (aw hd hg tB (by rfl') (ar hv [3] rfl ?_)))))))))
 refine gn rfl (E2 _ _ jZ) (E2 _ _ hl) (by lia) (aK ?_)
 have hFu:cX υ g [] ts:=qu.ext oW
 exact⟨fun Γ hd ρ f args hf ha S s D R hR=>(acH (d:=d+3) hFu gH).run Γ hd ρ f args hf ha S s D R λe s' ⟨G,σ2,t,o,od,q,r⟩=>hR e s' ⟨G,σ2,t,o,od,E2.trans q,r⟩⟩
end
structure pn (w:World)(d:Nat)(fv:V)(vs:List V)(σ:Hp)(Q:PQ):Prop where
 run:∀Γ:Ctx,d≤Γ.d→∀ρ f args,er f=fv→args.map er=vs→bt w Γ→Known w Γ.base→∀s,az w Γ s σ ρ→∀R:Result→Shared→Prop,(∀a s' σ',Q (er a) σ'→nX w Γ s' σ' ρ→R (.ok (.ret a)) s')→
  codeAny (model aC w) Γ.A (.call f ⟨args,[]⟩) R s
structure nZ (w:World)(Γ:Ctx)(x:Expr)(σ:Hp)(ρ:LO)(Q:PQ):Prop where
 run:bt w Γ→Known w Γ.base→∀s,az w Γ s σ ρ→∀(k:VP) (X:VP),(∀a s' σ',Q (er a) σ'→nX w Γ s' σ' ρ→k a s')→wpAny (model aC w) Γ.A (eval x Γ.env) k X s
structure mx (w:World)(Γ:Ctx)(st:Stmt)(σ:Hp)(ρ:LO)(Q:PF):Prop where
 run:bt w Γ→Known w Γ.base→∀s,az w Γ s σ ρ→∀(k:Flow→Shared→Prop) (X:VP),(∀a s' σ' aR,Q (sQ a) σ' aR→nX w Γ s' σ' aR→k a s')→wpAny (model aC w) Γ.A (exec st Γ.env) k X s
structure jw (w:World)(Γ:Ctx)(st:List Stmt)(σ:Hp)(ρ:LO)(Q:PF):Prop where
 run:bt w Γ→Known w Γ.base→∀s,az w Γ s σ ρ→∀(k:Flow→Shared→Prop) (X:VP),(∀a s' σ' aR,Q (sQ a) σ' aR→nX w Γ s' σ' aR→k a s')→wpAny (model aC w) Γ.A (execs st Γ.env) k X s
section
variable{w:World}{Γ:Ctx}{s:Shared}{σ:Hp}{ρ aR:LO}{Q:PQ}{QT:PF}{Qx:Hp→Prop}{m:V}{f c:Addr}{nq:Str}{st:Stmt}{vs:List V}{vars:KV}{gls:LV}{cu:LO}{d:Nat}
theorem nX.of (S:bt w Γ)(D:az w Γ s σ ρ):nX w Γ s σ ρ:=⟨Γ.h₀,.refl,S,D⟩
theorem pn.of {fv:V}(h:Call w d fv vs σ Q):pn w d fv vs σ Q:=
 ⟨fun Γ hd ρ f args hf ha S _ s D R hR=>codeAny_mono (h.run Γ hd ρ f args hf ha S s D (λa s'=>R (.ok (.ret a)) s') (λe s'=>R (.error e) s') λa s' σ' q D'=>hR a s' σ' q (.of S D')) λr s' h=>by
  rcases r with e|(v|_|_|_)<;>first|exact h|exact h.elim⟩
noncomputable abbrev kRT (w:World)(Γ:Ctx)(r:List Stmt)(QT:PF):Hp→LO→Prop:=λσ ρ=>jw w Γ r σ ρ QT
noncomputable abbrev acJ (w:World)(Γ:Ctx)(rest:List Stmt)(QT:PF):PF
 |.next,σ,ρ=>∀aE:Ctx,aE.d=Γ.d→aE.vars=Γ.vars→aE.gls=Γ.gls→dj w aE rest σ ρ QT
 |f,σ,ρ=>QT f σ ρ
noncomputable abbrev acK (w:World)(d:Nat)(f:V)(Q:PQ):List V→Hp→Prop:=λvs σ=>pn w d f vs σ Q
theorem jw.cons {bH rest}(h:aT w Γ bH σ ρ (MG (kRT w Γ rest QT))):jw w Γ (bH::rest) σ ρ QT:=
 ⟨λS K s D k X hk=>pC (h.run S s D _ X λfl av aH bj q aL=>by
  obtain⟨q1,q2⟩:=q
  cases fl with
  |next=>exact q2.run S K av aL k X hk
  |brk=>cases q1
  |cont=>cases q1
  |ret v=>cases q1)⟩
theorem jw.CA {bH rest}(h:mx w Γ bH σ ρ (acJ w Γ rest QT)):jw w Γ (bH::rest) σ ρ QT:=by
 refine⟨λS K s D k X hk=>pC (h.run S K s D _ X λfl av aH bj q T=>?_)⟩
 cases fl with
 |next=>
  obtain⟨h₁,T1,S1,D1⟩:=T
  have q:∀aE:Ctx,aE.d=Γ.d→aE.vars=Γ.vars→aE.gls=Γ.gls→dj w aE rest aH bj QT:=q
  exact(q (Γ.re h₁) rfl rfl rfl).run S1 av D1 k X λa aG aZ dz b_ aA=>hk a aG aZ dz b_ ⟨h₁,T1,S1,aA⟩
 |brk=>exact hk _ av aH bj q T
 |cont=>exact hk _ av aH bj q T
 |ret v=>exact hk _ av aH bj q T
theorem mx.asg (hv:Γ.vars=vars) {x pos' value pos}(h:nZ w Γ value σ ρ (kf vars x ρ QT))
  (hs:∀env,swapsWith value (some (.Name x pos')) pos.line env=pure false:=by intro _;rfl):mx w Γ (.Assign [.Name x pos'] value pos) σ ρ QT:=
 ⟨λS K s D k X hk=>wpAny_Assign_Name (h.run S K s D _ X λv av aH q T=>by
  obtain⟨bj,p,q⟩:=q
  obtain⟨h₁,T1,S1,D1⟩:=T
  subst hv
  exact(mP (Γ:=Γ.re h₁) (k:=λ_=>k .next) (X:=X) S1 D1 p λaG aA=>hk .next aG aH bj q ⟨h₁,T1,S1,aA⟩)) (hs _)⟩
theorem nZ.call {x np pos args}(h:ak w Γ (.Name x np) σ ρ λfv aH=>∃a,fv=.ref a∧keepIn (Kc w) (.ref a)=true∧eC w Γ pos args aH ρ λvs aZ=>pn w Γ.d (.ref a) vs aZ Q)
  (hp:∀env,(backTo pos (starEach args env)).any (·.1)=false:=by intro _;rfl):nZ w Γ (.Call (.Name x np) args [] pos) σ ρ Q:=by
 refine⟨λS K s D k X hk=>qS (h.run S s D _ X λf av aH q aL=>?_)⟩
 obtain⟨a,e,pP,q⟩:=q
 refine bJ e ?_
 have gX:(backTo pos (starEach args Γ.env)).any (·.1)=false:=hp _
 refine callWith_of (P:=(Kc w).In) (by rw[gX];rfl) (λh kY=>keeps_K pP h kY) (lU gX (q.run S av aL _ X λvs aG aZ c aA=>⟨ji (aA.known S),?_⟩))
 exact wpAny_call (c.run Γ (dp _) ρ _ _ rfl rfl S K aG aA _ λa bI lS q T=>hk a bI lS q T)
theorem nZ.fn {gls:LV} {x np pos args a}(hd:Γ.d=d)(hg:Γ.gls=gls)(l:(x,.ref a)∈gls)(hk:keepIn (Kc w) (.ref a)=true)(h:eC w Γ pos args σ ρ (acK w d (.ref a) Q))
  (hp:∀env,(backTo pos (starEach args env)).any (·.1)=false:=by intro _;rfl):nZ w Γ (.Call (.Name x np) args [] pos) σ ρ Q:=
 nZ.call (cm hg l ⟨a,rfl,hk,by rw[hd];exact h⟩) hp
theorem g_.call (E:g_ w d f st nq c vs vars gls cu)(body:∀Γ:Ctx,Γ.d=d→Γ.vars=vars→Γ.gls=gls→Γ.iG=Γ.env→Γ.env=newEnv (bz st) Γ.FL mainGlobals (cellsFrom (Γ.FL+1) (bz st).names []) (nq++".<locals>.") (some f) (.ref c) none builtinsNs→
  dj w Γ (bodyOf st) σ cu λfl σ' _=>Q (rv fl) σ'):Call w (d+1) (.ref f) vs σ Q:=by
 refine⟨fun Γ hd ρ fv args jK ez S s D k X hk=>?_⟩
 refine bJ jK ?_
 refine E.go hd ez S D fun aE s' e1 e2 e3 I he D'=>?_
 refine(body aE e1 e2 e3 I.sR he).run I.st s' D' _ _ λfl aG aZ dz q aA=>?_
 have:=I.back aG aZ dz aG.heap aA λ_ _=>rfl
 cases fl<;>exact hk _ aG aZ q this
theorem g_.MH (E:g_ w d f st nq c vs vars gls cu)(body:∀Γ:Ctx,Γ.d=d→Γ.vars=vars→Γ.gls=gls→Γ.iG=Γ.env→jw w Γ (bodyOf st) σ cu λfl σ' _=>Q (rv fl) σ'):pn w (d+1) (.ref f) vs σ Q:=by
 refine⟨fun Γ hd ρ fv args jK ez S KB s D R hR=>?_⟩
 refine bJ jK ?_
 refine E.go hd ez S D fun aE s' e1 e2 e3 I _ D'=>?_
 refine(body aE e1 e2 e3 I.sR).run I.st (by rw[I.DZ];exact KB) s' D' _ _ λfl aG aZ dz q T=>?_
 obtain⟨g,T1,S1,D1⟩:=T
 rw[I.sS]at T1
 have:=I.acy KB aG aZ dz g T1 D1
 cases fl<;>exact hR _ aG aZ q this
theorem az.renamed (S:bt w Γ)(D:az w Γ s σ ρ){h':Heap}{tk:Nat}{ml m':Str→Option Value}(hl:s.heap.Ns Γ.env.locals ml)(hn:h'.Ns Γ.env.locals m')(hs:∀b,b≠Γ.env.locals→h'.get? b=s.heap.get? b)
  (hm:∀x v,Lk Γ.vars ρ x .loc v→m' x=ml x):az w Γ {s with heap:=h',toks:=tk} σ ρ:=by
 obtain⟨m,F⟩:=D.fr
 obtain⟨ml',BE,hh⟩:=D.loc
 have eml:∀x,ml' x=ml x:=λx=>by
  have a:=BE.eq_nsMap
  have b:=hl.eq_nsMap
  rw[a,b]
 have off:=D.off (.inl Γ.fP)
 refine⟨?_,At.zM hs D.hr off,λa o sa c hc=>?_,λq hq=>?_,λq hq=>?_,⟨m',hn,λy j u l=>?_⟩,D.gens,D.os,λf e=>?_⟩
 have kp:∀b o,Γ.h₀.get? b=some o→h'.get? b=some o:=λb o e=>by
  have:b≠Γ.env.locals:=λq=>by rw[q,S.new _ Γ.fP]at e;cases e
  exact(hs b this).trans (F.keep b o e)
 by_cases q:Γ.env.locals=Γ.FL
 exact⟨_,q▸hn,kp,F.above⟩
 refine⟨m,?_,kp,F.above⟩
 obtain⟨o,es,ep,ho,r⟩:=F.ns
 exact⟨o,es,ep,(hs _ (Ne.symm q)).trans ho,r⟩
 have:a≠Γ.env.locals:=λq=>off a o sa (q▸bD.mpr (.inl rfl))
 have hc:c∈foot h' a:=hc
 rw[ey (hs a this)]at hc
 exact D.free a o sa c hc
 exact(hs _ λz=>S.lk (z▸cB hq)).trans (D.kp q hq)
 obtain⟨v,o,ho,hd⟩:=D.cells q hq
 exact⟨v,o,(hs _ (S.lc _ _ (S.cl q hq)).2.1).trans ho,hd⟩
 have:=hh y j u l
 cases j with
 |loc=>
  obtain⟨z,h1,h2⟩:=this
  exact⟨z,by rw[hm y u l,←eml];exact h1,h2⟩
 |cell=>obtain⟨c,z,h1,⟨o,h2,h3⟩,h4⟩:=this;exact⟨c,z,h1,⟨o,(hs _ (S.lc _ _ h1).2.1).trans h2,h3⟩,h4⟩
 |free=>obtain⟨c,z,h1,⟨o,h2,h3⟩,h4⟩:=this;exact⟨c,z,h1,⟨o,(hs _ (S.lc _ _ h1).2.1).trans h2,h3⟩,h4⟩
 have q:Γ.env.locals≠Γ.FL:=λq=>by rw[S.DR q]at e;cases e
 obtain⟨o,es,ep,ho,r⟩:=D.fm f e
 exact⟨o,es,ep,(hs _ (Ne.symm q)).trans ho,r⟩
end
section
variable{w:World}{Γ:Ctx}{s:Shared}{σ:Hp}{ρ aR:LO}{Q:PQ}{QT:PF}{Qx:Hp→Prop}{m:V}
theorem acL (S:bt w Γ):Γ.base.get? Γ.FL=none:=by
 cases hq:Γ.base.get? Γ.FL with
 |none=>rfl
 |some o=>have:=S.B.stays _ _ hq;rw[S.new _ Γ.dG]at this;cases this
theorem eX.known {G h:Heap}{e:Addr}{o:Obj}{fl:Option Value}(S:bt w Γ)(KB:Known w Γ.base)(K:Known w G)(F:eX G Γ.all e o fl h)(he:Γ.h₀.get? e=none):Known w h:=by
 have nf:∀b ob,Γ.base.get? b=some ob→b∉dC Γ.all:=λb ob hb hm=>by
  rw[xA S]at hm
  rcases aY.mp hm with rfl|hm
  rw[acL S]at hb;cases hb
  rw[(uD S hm).1]at hb;cases hb
 have ne:∀b ob,Γ.h₀.get? b=some ob→b≠e:=λb ob hb q=>by rw[q,he]at hb;cases hb
 exact⟨λp hp hn=>F.keep _ _ (K.fin p hp hn) (nf _ _ (KB.fin p hp hn)) (ne _ _ (S.K.fin p hp hn)),F.keep _ _ K.sys (nf _ _ KB.sys) (ne _ _ S.K.sys)⟩
theorem eX.land {G:Heap}{s:Shared}{e:Addr}{o:Obj}{od:Option Obj}{fl:Option Value}(S:bt w Γ)(KB:Known w Γ.base)(D:az w Γ {s with heap:=G} σ ρ){t:Addr}(hm:qE w t m o od)(he:σ e=some (.raw o od))(F:eX G Γ.all e o fl s.heap):
  nX w Γ s (off σ e) ρ∧∃vs,s.heap.get? e=some {o with data:=.fields vs}∧(∀d,o.dict=some d→s.heap.get? d=od∧od.isSome=true):=by
 have lG:eK o=o.dict:=by
  obtain⟨_,_,_,h5,_⟩:=hm
  rw[h5];rfl
 obtain⟨vs,hx,_⟩:=F.ex
 obtain⟨hG,acM⟩:=D.hr.at_ _ _ he
 have ju:∀d,o.dict=some d→∃x,od=some x∧G.get? d=some x:=λd h=>acM d (lG.trans h)
 have fe:foot G e=e::o.dict.toList:=by rw[←lG];exact jv hG
 have CB:(G.update e λ_=>{o with data:=.fields vs}).get? e=some {o with data:=.fields vs}:=kE _ hG rfl
 have xB:∀b,b≠e→(G.update e λ_=>{o with data:=.fields vs}).get? b=G.get? b:=λb hb=>j4 _ _ (Ne.symm hb)
 have MI:∀d,o.dict=some d→d≠e:=λd hd q=>by
  obtain⟨oe,ws,h1,h2⟩:=F.en
  obtain⟨y,h3,h4⟩:=ju d hd
  obtain⟨_,_,_,_,h5,_⟩:=hm
  have h4:G.get? d=some y:=h4
  rw[q,h1]at h4;cases h4
  rw[h5]at h3;cases h3
  cases h2
 have D1:az w Γ {s with heap:=G.update e λ_=>{o with data:=.fields vs}} (upd σ e (.raw {o with data:=.fields vs} od)) ρ:=by
  refine az.set (s:={s with heap:=G}) (x:=e) D he (bD.mpr (.inl rfl)) (λb hb=>xB b hb) ⟨CB,λd hd=>?_⟩ ?_ rfl rfl
  obtain⟨x,h1,h2⟩:=ju d hd
  exact⟨x,h1,(xB d (MI d hd)).trans h2⟩
  show foot (G.update e λ_=>{o with data:=.fields vs}) e=foot G e
  rw[jv CB,fe];rfl
 have T:=MD (s:={s with heap:=G.update e λ_=>{o with data:=.fields vs}}) S KB D1 (h':=s.heap) (λb ob hb xC=>?_) λb ob hb xC=>?_
 obtain⟨h₁,T1,S1,D2⟩:=T
 refine⟨⟨h₁,T1,S1,D2.wk λa o' ha=>?_⟩,vs,hx,λd hd=>?_⟩
 by_cases q:a=e
 rw[q,dA]at ha;cases ha
 exact⟨o',by rw[aJ q];exact c_ _ _ ha,.refl⟩
 obtain⟨x,h1,h2⟩:=ju d hd
 refine⟨(F.keep d x h2 (λhm=>?_) (MI d hd)).trans h1.symm,by rw[h1];rfl⟩
 have tw:d∈foot ({s with heap:=G}:Shared).heap e:=by show d∈foot G e;rw[fe];simp[hd]
 exact MC S D he tw hm
 by_cases q:b=e
 subst q;exact hx.trans (CB.symm.trans hb)
 exact F.keep b ob ((xB b q).symm.trans hb) xC q
 have q:b≠e:=λq=>F.uC (q▸xC)
 exact F.slot b ob ((xB b q).symm.trans hb) xC
theorem Lk.idx {vs:KV}{ρ:LO}{x:Str}{k:VK}{v:V}(h:Lk vs ρ x k v):∃i:Nat,vs[i]? =some (x,k)∧ρ[i]? =some (some v):=by
 induction h with
 |here=>exact⟨0,rfl,rfl⟩
 |there _ ih=>obtain⟨i,h1,h2⟩:=ih;exact⟨i+1,by simpa using h1,by simpa using h2⟩
theorem acN {vs:KV}(nd:(vs.map (·.1)).Nodup){i j:Nat}{p q:Str×VK}(h1:vs[i]? =some p)(h2:vs[j]? =some q)(e:p.1=q.1):i=j:=by
 have a:=cp.mp h1
 have b:=cp.mp h2
 have a':(vs.map (·.1))[i]'(by rw[ay];exact a.1)=p.1:=by rw[qT,a.2]
 have b':(vs.map (·.1))[j]'(by rw[ay];exact b.1)=q.1:=by rw[qT,b.2]
 exact(List.getElem_inj nd).mp (a'.trans (e.trans b'.symm))
theorem acO {w:World}{t1:Tok}{x:Str}{t2:Tok}:findObj (Kc w) 51 (some (dictOf [⟨PyData.keyHash w.params "message",.str "message" t1,.str x t2⟩] 1)) "message"=some (.value (.str x t2)):=by
 refine findObj_own (Mo w) (Mn w) rfl ?_
 rw[lookIn_dict]
 unfold getL
 rw[List.find?_cons,q9]
 simp
theorem mx.acP {mm:Str}{call:Expr} {p0 p1 p2 p3 np gH pos}(hE:Γ.iG=Γ.env)(h:nY w Γ call σ ρ Qx (.str mm))(hg:(("Refusal":Str),V.ref 51)∈Γ.gls){ie:Nat}(hle:Γ.vars[ie]? =some (("error":Str),VK.loc))(hre:ρ[ie]? =some none)
  (q:∀τ,Qx τ→QT (.ret (.str mm)) τ ρ):mx w Γ (.Try [.Return (some call) p0] [.ExceptHandler (some (.Name "Refusal" np)) (some "error") [.Return (some (.Attribute (.Name "error" p1) "message" p2)) p3] gH] [] [] pos) σ ρ QT:=by
 refine⟨λS KB s D k X hk=>wpAny_Try_except (pC (wpAny_Return_some (h.run S s D _ _ λe av fl iw FW=>?_)))⟩
 obtain⟨G,aZ,t,o,od,qx,aA,he,hm,F⟩:=FW
 have mv:Γ.A.frames=some (Γ.env::Γ.outer):=by rw[S.hA,hE]
 have hl:(("error":Str),VK.loc)∈Γ.vars:=cS hle
 have b8:∀v,¬Lk Γ.vars ρ "error" .loc v:=fun v l=>by
  obtain⟨j,h1,h2⟩:=l.idx
  rw[acN S.nd h1 hle rfl,hre]at h2
  cases h2
 have kr:Γ.all=Γ.env::Γ.outer:=by unfold Ctx.all;rw[hE]
 have wC:Γ.h₀.get? e=none:=(aA.free e _ he e (bD.mpr (.inl rfl))).1
 rw[kr]at F
 refine MA mv S.ef iw F λiJ pH=>?_
 refine Cs (s:={av with heap:=iJ}) pH λmT CC=>?_
 have Cz:=hm
 obtain⟨dd,t1,v',rfl,rfl,eD⟩:=Cz
 obtain⟨t2,rfl⟩:=DN eD
 have KG:Known w G:=aA.known S
 have MJ:Known w mT:=eX.known S KB KG (by rw[kr];exact CC) wC
 obtain⟨kd,nd,val,e2,ev⟩:=S.gl _ hg
 obtain rfl:=vx ev
 obtain⟨afu,Ct,_⟩:=CC.ex
 obtain⟨hC,TT⟩:=MJ.exc
 refine wpAny_handleBy_cons (codeAny_handlers_test (Name_function_global S.ek kd (MJ.glob e2 S.eg S.eb rfl (wpAny_excMatches_sub_self hC Ct rfl (by rfl') (codeAny_handlers_suite_as ?_))) nd)) (by intro q;cases q)
 refine Cs (s:={av with heap:=mT}) CC λp_ acQ=>?_
 obtain⟨⟨g,T1,S1,D4⟩,acR,acS,acT⟩:=eX.land (s:={av with heap:=p_}) S KB aA hm he (by rw[kr];exact acQ)
 have MK:Known w p_:=D4.known S1
 obtain⟨xo,_⟩:=acT dd rfl
 obtain⟨ml,ML,hh4⟩:=id D4.loc
 have kk:Γ.env.kindOf "error"=some .local:=S.vk _ hl
 have sP:=S.sP _ hl
 have afv:=D4.off (.inl (Γ.re g).fP)
 have heL:e≠Γ.env.locals:=λq=>(aA.free e _ he e (bD.mpr (.inl rfl))).2 (q▸Γ.fP)
 have z0:dd≠Γ.env.locals:=λq=>(aA.free e _ he dd (by
  show dd∈foot G e
  rw[jv (aA.hr.at_ _ _ he).1]
  simp[eK])).2 (q▸Γ.fP)
 have MM:∀b ob,Γ.h₀.get? b=some ob→b≠Γ.env.locals:=λb ob hb q=>by rw[q,S.new _ Γ.fP]at hb;cases hb
 refine wpAny_storeName_local kk ML (λtE MP uF=>?_) (by rw[S.ek];rfl)
 have he5:tE.get? e=some ⟨.ref 51,some dd,.fields acR,#[]⟩:=(uF.2 e heL).trans acS
 have hd5:tE.get? dd=some (dictOf [⟨PyData.keyHash w.params "message",.str "message" t1,.str mm t2⟩] 1):=(uF.2 dd z0).trans xo
 have acU:Known w tE:=⟨λp hp hn=>(uF.2 _ (MM _ _ (S.K.fin p hp hn))).trans (MK.fin p hp hn),(uF.2 _ (MM _ _ S.K.sys)).trans MK.sys⟩
 refine pC (wpAny_Return_some (Attribute_name (wpAny_Name (wpAny_loadName_local (v:=.ref e) S.ek kk MP (by simp) ?_) sP.1)))
 refine ace (ji acU) ⟨he5,rfl,rfl,hd5⟩ acO rfl ?_
 refine wpAny_nameGoes_keeps kk MP (by rw[S.ek];rfl) λafw afx hn6 hs6=>hk (.ret (.str mm t2)) _ (off aZ e) ρ (q _ qx) ⟨g,T1,S1,?_⟩
 refine az.renamed (s:={av with heap:=p_}) S1 D4 ML hn6 (λb hb=>(hs6.2 b hb).trans (uF.2 b hb)) λx v hx=>?_
 have:x≠"error":=fun q=>b8 v (q▸hx)
 simp[this]
end
section
variable{w:World}{Γ:Ctx}{ρ:LO}{d:Nat}{σ:Hp}{Q:PQ}{a:Addr}{gl cD:V}
theorem acV {W As v l f fl t1 t2:Addr}{bV:List V}(ha:σ a=some (.inst 1985 (gu gl (.ref W) cD)))(gD:gW gl=true)(hA:σ As=some (.list [.ref t1,.ref t2]))(h1:σ t1=some (.tup [.none,.ref v]))(h2:σ t2=some (.tup [.none,.ref f]))
  (hv:σ v=some (.inst 401 (aV (.str "integer") (.ref l) .none)))(hl:σ l=some (.list bV))(hf:σ f=some (.inst 401 (aV (.str "character") (.ref fl) .none)))(iw:σ fl=some (.list []))(b8:bV≠[])(hz:bV.length≤10)
  (q:∀τ,Ext σ τ→Q (.str rP) τ):pn w (d+12) (.ref 2017) [.ref 1627,.ref a,.ref As] σ Q:=by
 have gH:0<bV.length:=vd.mpr b8
 refine g_.MH acD fun Γ hd eD hg hE=>?_
 refine jw.CA (mx.acP (Qx:=λτ=>Ext σ τ) (mm:=rP) (ie:=3) hE (nY.call (ah eD .here ⟨1627,rfl,by rfl',aq (ah eD aD (aq (aj eD 2 rfl rfl (aq (aU (ah eD aD (bF ha gm (cz w) (rz w) gD (aK ?_))))))))⟩)) (by rw[hg];exact aN) (by rw[eD];rfl) rfl λτ E=>q τ E)
 rw[hd]
 refine acI (W:=W) (d:=d) (as:=[t1,t2]) (tvs:=[(none,.ref v),(none,.ref f)]) (stF:=rD) hA (.cons h1 (.cons h2 .nil)) (by simp) Lb (by intro p hp;simp[rD]at hp;rcases hp with rfl|rfl<;>simp) (λo=>Ld) hv hl (by lia) gH rfl ?_
 intro τ E Q' q'
 refine Lf hf iw (λx hx=>by cases hx) (by simp) τ E Q' λbf g codes ts E' hF hc=>q' bf g codes ts E' hF ?_
 exact hc.2
end
section
variable{w:World}{Γ:Ctx}{ρ:LO}{d:Nat}{σ:Hp}{Q:PQ}{QT:PF}{a:Addr}{gl cD:V}
inductive acW (ws bV:List V)(eI:Hp)(D:Addr)(i:Nat)(ys:List V)(τ:Hp):Prop
 |mk (υ:Hp) (da:List Addr) (cQ:υ D=none) (cR:Ext eI υ) (eO:τ=upd υ D (.list ys)) (fV:ys=da.map V.ref) (lr:kC υ da (((heads ws).take i).map (iC bV ws))) (tR:(∀x∈da,eI x=none))
theorem acX {S W:Addr}{ns:List Nat}(ha:σ a=some (.inst 1985 (gu gl (.ref W) cD)))(hi:gW cD=true)(gD:gW gl=true)(hW:σ W=some (.list []))(hS:σ S=some (.list (ns.map vI)))(hn:ns.length=30)(q:∀τ,Ext (off σ W) τ→Q (.bool true) τ):pn w (d+13) (.ref 2022) [.ref a,.ref S] σ Q:=by
 have zS:(ns.map vI).length≤1000000:=by rw[ay];lia
 have By:a≠W:=λe=>by rw[e,hW]at ha;cases ha
 have cM:∀k,k<30→(ns.map vI)[k]? =some (vI (ns[k]?.getD 0)):=λk hk=>by
  rw[dI,bL (by lia)];rfl
 refine g_.MH acE fun Γ hd hv hg hE=>?_
 have e0:((ns[0]?.getD 0:Nat):Int).fmod 10=((ns[0]?.getD 0 % 10:Nat):Int):=fq _ 10
 have hM:=i7 (ns[0]?.getD 0) (by decide:10>0)
 have vC:((ns[10]?.getD 0:Nat):Int).fmod 6=((ns[10]?.getD 0 % 6:Nat):Int):=fq _ 6
 have hK:=i7 (ns[10]?.getD 0) (by decide:6>0)
 refine jw.cons (aT.wg hv cn (ak.qf hv (Xt (w:=w) hv (by rfl) (by rfl)) (.loc (.loc (.cell aD .nil))) aQ (pt:=λy=>bX) hg aN (bC (bo (ah hv aD (aW (eh (i:=0) hS rfl (cM 0 (by lia)) zS (aW (fC (by decide) ⟨ns[0]?.getD 0 % 10,λi=>some (vI ((ns[1+i]?.getD 0) % 50)),by rw[←e0],by lia,?_,λDi CD=>⟨_,vJ,rfl,?_⟩⟩)))))))))
 intro i tu υ F Γc e1 e2 e3
 have e50:((ns[1+i]?.getD 0:Nat):Int).fmod 50=((ns[1+i]?.getD 0 % 50:Nat):Int):=fq _ 50
 exact dE ⟨λ_=>bC (bo (aj e2 2 rfl rfl (bC (aW (ah e2 aD (Op.jd (eh (i:=1+i) (F _ _ hS) (by lia) (cM (1+i) (by lia)) zS (aW (fC (by decide) ⟨rfl,gf (λz=>some (V.int z)) e50.symm⟩))))))))),tf⟩
 rw[ux,show(List.range (ns[0]?.getD 0 % 10)).map (λi=>vI ((ns[1+i]?.getD 0) % 50))=mr ns (ns[0]?.getD 0 % 10)from rfl]
 have acY:Di≠W:=Ne.symm (bp hW CD)
 have E1:=af (o:=.list (mr ns (ns[0]?.getD 0 % 10))) CD
 have uG:=ai σ Di (.list (mr ns (ns[0]?.getD 0 % 10)))
 revert E1 uG;refine genE (upd σ Di (.list (mr ns (ns[0]?.getD 0 % 10)))) ?_;intro cA qB E1 uG
 refine jw.cons (aT.wg hv cY (ak.qf hv (Xx (w:=w) hv (by rfl) (by rfl)) (.loc (.loc (.cell aD .nil))) aQ (pt:=λy=>bX) hg aN (bC (bo (ah hv aD (aW (eh (i:=10) (E1 _ _ hS) rfl (cM 10 (by lia)) zS (aW (fC (by decide) ⟨ns[10]?.getD 0 % 6,λi=>some (([V.str mS,.str nS,.none][(ns[11+i]?.getD 0) % 3]?).getD .none),by rw[←vC],by lia,?_,λDw ph=>⟨_,s6,rfl,?_⟩⟩)))))))))
 intro i tu υ F Γc e1 e2 e3
 have h4:=i7 (ns[11+i]?.getD 0) (by decide:3>0)
 have uy:[V.str mS,.str nS,.none][(ns[11+i]?.getD 0) % 3]? =some (([V.str mS,.str nS,.none][(ns[11+i]?.getD 0) % 3]?).getD .none):=by
  rw[bL (h4:_<3)];rfl
 refine dE ⟨λ_=>ak.forget ?_,tf⟩
 exact bo (bq (ar rfl [] rfl ⟨aB,λx hx=>bC (bo (aj e2 2 rfl rfl (bC (aW (ah e2 aD (Op.jd (eh (i:=11+i) (af hx _ _ (F _ _ (E1 _ _ hS))) (by lia) (cM (11+i) (by lia)) zS (aW (fC (by decide) (eh (ai _ _ _) (fq _ 3) uy aB ⟨υ,af hx,rfl,rfl⟩))))))))))⟩))
 rw[ux,show(List.range (ns[10]?.getD 0 % 6)).map (λi=>([V.str mS,.str nS,V.none][(ns[11+i]?.getD 0) % 3]?).getD .none)=gy ns 11 (ns[10]?.getD 0 % 6)from rfl]
 have acZ:Dw≠W:=Ne.symm (bp (E1 _ _ hW) ph)
 have E2:=E1.trans (af (o:=.list (gy ns 11 (ns[10]?.getD 0 % 6))) ph)
 have qF:=af (o:=.list (gy ns 11 (ns[10]?.getD 0 % 6))) ph _ _ uG
 have n0:=ai cA Dw (.list (gy ns 11 (ns[10]?.getD 0 % 6)))
 revert E2 qF n0;refine gen (upd cA Dw (.list (gy ns 11 (ns[10]?.getD 0 % 6)))) ?_;intro bU E2 qF n0
 have iZ:MN (gy ns 11 (ns[10]?.getD 0 % 6)):=Mg
 have qC:(gy ns 11 (ns[10]?.getD 0 % 6)).length≤10:=by rw[Mf];lia
 have pg:(mr ns (ns[0]?.getD 0 % 10)).length≤10:=by rw[ab5];lia
 have CE:∀x∈mr ns (ns[0]?.getD 0 % 10),x=.none∨∃i,x=.int i:=ab6
 revert n0 iZ qC;refine gen (gy ns 11 (ns[10]?.getD 0 % 6)) ?_;intro ws n0 iZ qC
 revert qB uG qF pg CE;refine gen (mr ns (ns[0]?.getD 0 % 10)) ?_;intro bV qB uG qF pg CE
 clear qB CD ph e0 hM vC hK
 have zw:ws.length≤1000000:=by lia
 have zi:bV.length≤1000000:=by lia
 refine jw.CA (mx.asg hv (nZ.fn hd hg aQ (by rfl') (aq (cm hg cn (aq (ah hv .here (aq (bq (aq (fD (aq (bg (aq (aw hd hg cY (by rfl') (ar hv [2] rfl ?_)))))))))))))))
 refine nA qF zi λcH v vl F3 jZ B9 k1 k2=>aK ⟨aB,λt1 iz=>aq (fD (aq (bg (aq (aw hd hg fG (by rfl') (ar hv [3] rfl ?_))))))⟩
 have F4:=F3.trans (af (o:=.tup [.none,.ref v]) iz)
 refine jS (F4 _ _ n0) zw λeP fv fl F5 _ _ f1 f2=>aK ⟨aB,λt2 iW=>aK ⟨aB,λAs kz=>aK ?_⟩⟩
 have Fa:=(af (o:=.tup [.none,.ref fv]) iW).trans (af (o:=.list [.ref t1,.ref t2]) kz)
 have Fb:=(af (o:=.tup [.none,.ref v]) iz).trans (F5.trans Fa)
 have Fc:=F3.trans Fb
 have Ec:=E2.trans Fc
 have u1:=(F5.trans Fa) _ _ (ai cH t1 (.tup [.none,.ref v]))
 have u2:=af (o:=.list [.ref t1,.ref t2]) kz _ _ (ai eP t2 (.tup [.none,.ref fv]))
 have u3:=ai (upd eP t2 (.tup [.none,.ref fv])) As (.list [.ref t1,.ref t2])
 have u4:=Fb _ _ k1
 have u5:=Fb _ _ k2
 have u6:=Fa _ _ f1
 have u7:=Fa _ _ f2
 have rS:=Fc _ _ qF
 have qG:=Fc _ _ n0
 have ua:v≠W:=Ne.symm (bp (E2 _ _ hW) jZ)
 have ub:vl≠W:=Ne.symm (bp (E2 _ _ hW) B9)
 revert Fa Fb Fc Ec u1 u2 u3 u4 u5 u6 u7 rS qG;refine gen (upd (upd eP t2 (.tup [.none,.ref fv])) As (.list [.ref t1,.ref t2])) ?_;intro dU Fa Fb Fc Ec u1 u2 u3 u4 u5 u6 u7 rS qG
 have CF:∀{υ:Hp},Ext (off dU W) υ→Ext (off σ W) υ:=λ{υ} h=>by
  have E9:Ext (off σ W) (off dU W):=λx o h=>by
   have ud:x≠W:=λe=>by subst e;rw[dA]at h;cases h
   exact off_ne ud (Ec _ _ (c_ _ _ h))
  exact E9.trans h
 by_cases MQ:ws=[]∧bV≠[]
 obtain⟨rfl,b8⟩:=MQ
 have gH:0<bV.length:=vd.mpr b8
 refine acV (Ec _ _ ha) gD u3 u1 u2 u4 u5 u6 u7 b8 pg λfL E6=>⟨_,dR,fun aE eN eD mj=>?_⟩
 have hd:=eN.trans hd
 have hv:=eD.trans hv
 have hg:=mj.trans hg
 refine ae (aM (cw (bW (aF (aj hv 3 rfl rfl (bq (aK ⟨aB,λz hz=>ax (.eq (fw (af hz _ _ (E6 _ _ qG)) (ai _ _ _) (bp (E6 _ _ qG) hz) .nil)) ⟨_,rfl,tt rfl (bW ?_)⟩⟩)))))))
 have G1:=E6.trans (af (o:=.list []) hz)
 refine aF (aj hv 2 rfl rfl (bq (aK ⟨aB,λz2 iB=>ax (.ne (cU.sX (af iB _ _ (G1 _ _ rS)) (ai _ _ _) (bp (G1 _ _ rS) iB) (by simp;exact b8))) ⟨_,rfl,tt rfl (jL (tt rfl ?_))⟩⟩)))
 have G2:=G1.trans (af (o:=.list []) iB)
 have GW:=G2 _ _ (Ec _ _ hW)
 refine ae (a_ (fQ (h_ (dP (aj hv 4 rfl rfl (bu (ax (.eq .ss) ⟨true,by rw[(by unfold rP;simp:(rP==Str.ofString "group length is 0 but data length > 0")=true)];exact .bool,fun _=>iK ?_,(tf)⟩)))))))
 refine dP (aU (ah hv .here (bF (G2 _ _ (Ec _ _ ha)) iO (cz w) (tW w) rfl (bq (aK ⟨aB,λz3 CG=>ax (.eq (fw (af CG _ _ GW) (ai _ _ _) (bp GW CG) .nil)) ?_⟩)))))
 exact q _ (CF (c_.trans (G2.trans (af CG))))
 have h0:ws.length=0→bV.length=0:=λh=>by
  have h1:ws=[]:=List.length_eq_zero_iff.mp h
  exact List.length_eq_zero_iff.mpr (Classical.byContradiction λh2=>MQ ⟨h1,h2⟩)
 refine pn.of (ab4 (Ec _ _ ha) gD (Lg (d:=d) (as:=[t1,t2]) (tvs:=[(none,.ref v),(none,.ref fv)]) (stF:=rD) (sep:=Str.ofString ".") (Ec _ _ ha) hi (Ec _ _ hW) aB u3 (.cons u1 (.cons u2 .nil)) (by simp) Lb (by intro p hp;simp[rD]at hp;rcases hp with rfl|rfl<;>simp) (fun o=>Ld) u4 u5 (by lia) ua ub rfl (.inl ⟨rfl,rfl⟩) (Lf u6 u7 iZ.rM zw) ?_ ?_))
 intro codes ts zqA;obtain⟨lv,rfl⟩:=zqA
 obtain rfl:=Lv.uniq lv (xr iZ)
 have:=uw (ws:=ws)
 exact⟨by lia,by rw[ay];lia,wF lv.nodup ws,by rw[ay];exact h0⟩
 intro fL r b e rs codes ts E6 zqA;obtain⟨lv,rfl⟩:=zqA;intro jx g1 g2 g3 g4
 obtain rfl:=Lv.uniq lv (xr iZ)
 rw[ay]at jx
 have g5:br (λr ys=>iT fL r ys) rs ((heads ws).map (iC bV ws)):=by
  have:=g4.map
  rwa[ab7 lv.nodup h0]at this
 have kA:fL a=some (.inst 1985 (gu gl (.ref W) cD)):=E6 _ _ (off_ne By (Ec _ _ ha))
 have lI:fL Di=some (.list bV):=E6 _ _ (off_ne acY rS)
 have fY:fL Dw=some (.list ws):=E6 _ _ (off_ne acZ qG)
 have E7:=CF E6
 clear E6 u1 u2 u3 u4 u5 u6 u7 rS qG Ec CF Fa Fb Fc qF n0 g4
 refine⟨_,dR,fun aE eN eD mj=>?_⟩
 have hd:=eN.trans hd
 have hv:=eD.trans hv
 have hg:=mj.trans hg
 clear eN eD mj
 refine fU (λυ aR=>Ext fL υ∧aR=[some (.ref a),some (.ref S),some (.ref Di),some (.ref Dw),some (.ref r),none,none,none,none]) ?_ ?_
 by_cases pq:ws=[]
 have hi0:bV=[]:=List.length_eq_zero_iff.mp (h0 (by rw[pq];rfl))
 refine aM (cw (bW (aF (aj hv 3 rfl rfl (bq (aK ⟨aB,λz hz=>ax (.eq (fw (af hz _ _ fY) (ai _ _ _) (bp fY hz) (by rw[pq];exact .nil))) ⟨_,rfl,tt rfl (bW ?_)⟩⟩))))))
 have G1:=af (o:=.list []) hz
 exact aF (aj hv 2 rfl rfl (bq (aK ⟨aB,λz2 iB=>ax (.ne (fw (af iB _ _ (G1 _ _ lI)) (ai _ _ _) (bp (G1 _ _ lI) iB) (by rw[hi0];exact .nil))) ⟨_,rfl,ff rfl (ff rfl (au ⟨G1.trans (af iB),rfl⟩))⟩⟩)))
 exact aM (cw (bW (aF (aj hv 3 rfl rfl (bq (aK ⟨aB,λz hz=>ax (.eq (cU.sX (af hz _ _ fY) (ai _ _ _) (bp fY hz) (by simp;exact pq))) ⟨_,rfl,ff rfl (ff rfl (au ⟨af hz,rfl⟩))⟩⟩))))))
 intro υ aR zqA;obtain⟨E8,rfl⟩:=zqA
 have kA:=E8 _ _ kA
 have lI:=E8 _ _ lI
 have fY:=E8 _ _ fY
 have E7:=E7.trans E8
 have jx:=jx.ext E8
 have g1:=E8 _ _ g1
 have g2:=E8 _ _ g2
 have g3:=g3.ext E8
 have g5:br (λr ys=>iT υ r ys) rs ((heads ws).map (iC bV ws)):=fW g5 λ_ _ h=>h.ext E8
 clear E8
 refine ae (aS hv (gG (cm hg gm ⟨"sorted",rfl,aq (fT hv (XB (w:=w) hv (by rfl) (by rfl)) (.loc (.loc (.cell qY .nil))) aQ (pt:=fun y=>bX) (bq (ar rfl [] rfl ⟨aB,fun l hl=>⟨l,_,ju ws,rfl,ai _ _ _,aB,?_,fun D hD=>aK ?_⟩⟩)))⟩)))
 intro y hy uc F Γc e1 e2 e3
 obtain⟨s,rfl⟩:∃s,y=.str s:=by
  simp only[aY,f9,gB]at hy
  rcases hy with rfl|rfl<;>exact⟨_,rfl⟩
 refine fp.one (aF (ah e2 aD (aj e2 2 rfl rfl (ax (.pJ (dW s) (F _ _ (af hl _ _ fY)) λy hy=>xt (iZ.rM y hy)) ⟨_,rfl,λh=>ah e2 aD ⟨rfl,?_⟩,λh=>⟨rfl,?_⟩⟩))))
 unfold ju;simp only[h,if_true]
 unfold ju;simp only[h];rfl
 have E3:=af (o:=.list [V.str (Str.ofString "m"),.str (Str.ofString "n")]) hl
 rw[(Mi:([V.str (Str.ofString "m"),V.str (Str.ofString "n")]:List V).filterMap (ju ws)=(heads ws).map V.str)]
 refine Op.sorted (ai _ _ _) (Nat.lt_of_le_of_lt uw (by decide)) λH ss hH hp hs=>⟨_,fh,?_⟩
 obtain rfl:=Me hp hs
 have E4:=(E3.trans (af (o:=.list ((heads ws).map V.str)) hD)).trans (af (o:=.list ((heads ws).map V.str)) hH)
 have j2:=ai (upd (upd υ l (.list [V.str (Str.ofString "m"),.str (Str.ofString "n")])) D (.list ((heads ws).map V.str))) H (.list ((heads ws).map V.str))
 have MT:∀nl ys,υ nl=some (.list ys)→nl≠H:=λnl ys e=>bp ((E3.trans (af (o:=.list ((heads ws).map V.str)) hD)) _ _ e) hH
 obtain⟨nv,nl,m1,m2,m3⟩:=g3
 have hnH:=MT _ _ m3
 revert E4 j2;refine gen (upd (upd (upd υ l (.list [V.str (Str.ofString "m"),.str (Str.ofString "n")])) D (.list ((heads ws).map V.str))) H (.list ((heads ws).map V.str))) ?_;intro eI E4 j2
 have kA:=E4 _ _ kA
 have lI:=E4 _ _ lI
 have fY:=E4 _ _ fY
 have E7:=E7.trans E4
 have jx:=jx.ext E4
 have g1:=E4 _ _ g1
 have g2:=E4 _ _ g2
 have m1:=E4 _ _ m1
 have m2:=E4 _ _ m2
 have m3:=E4 _ _ m3
 have g5:br (λr ys=>iT eI r ys) rs ((heads ws).map (iC bV ws)):=fW g5 λ_ _ h=>h.ext E4
 have hhl:=uw (ws:=ws)
 clear E3 E4 MT
 have dle:∀h,(iC bV ws h).length≤1000000:=λh=>by
  rw[Cp,ay]
  refine dO (og _ _) ?_
  rw[kG];lia
 refine ae (aT.Mb hv (abO (w:=w) hv (by rfl) (by rfl)) (.loc (.own (.cell (ne_str (by rfl')) qX (.cell (ne_str (by rfl')) qY .nil)))) (pt:=λy=>.there (.here AK)) kj (by rfl') (aj hv 5 rfl rfl ⟨H,_,rfl,j2,λD hD=>⟨acW ws bV eI D,⟨eI,[],hD,.refl _,rfl,rfl,by simp;exact .nil,(λx hx=>by cases hx)⟩,?_,?_,?_⟩⟩))
 (intro i ys τ zqA;obtain⟨υ,da,h1,h2,rfl,_⟩:=zqA);exact af h1 _ _ (h2 _ _ j2)
 intro i ys τ y zqA;obtain⟨υ,da,h1,h2,rfl,rfl,h3,h4⟩:=zqA;intro hy Γc e1 e2 e3
 obtain⟨h,hh,rfl⟩:∃s,(heads ws)[i]? =some s∧V.str s=y:=by simpa using hy
 have hi:=(cp.mp hh).1
 have F:Ext eI (upd υ D (.list (da.map V.ref))):=h2.trans (af h1)
 refine dE ⟨λ_=>ak.qf e2 (XG (w:=w) e2 (by rfl) (by rfl)) (.loc (.loc (.cell aD (.cell qX (.cell qY .nil))))) aQ (pt:=λy=>.there (.here pW)) e3 aN (cj e3 aQ (aj e2 2 rfl rfl ⟨Di,bV,rfl,F _ _ lI,zi,bV.length,λi=>if dW h (cC ws (i % ws.length))=true then some (cC bV i)else none,rfl,zi,?_,λD2 jU=>?_⟩)),tf⟩
 intro k hk uc F2 Γd c1 c2 c3
 have e2:=c2
 have e3:=c3
 have CH:0<ws.length:=by
  rcases Nat.eq_zero_or_pos ws.length with h|h
  have:=h0 h;lia
  exact h
 have nK:=i7 k CH
 have Cj:=iZ.rM _ (cS (iY (xs:=ws) (i:=k % ws.length) nK))
 refine fp.one (aF (bo (aj e2 4 rfl rfl (bC (ah e2 aD (cj e3 aN (aj e2 4 rfl rfl ⟨Dw,ws,rfl,F2 _ _ (F _ _ fY),zw,fC (by lia) (eh (F2 _ _ (F _ _ fY)) (fq _ _) (iY nK) zw (aj e2 2 rfl rfl (ax (.eq (xt Cj)) ⟨_,rfl,λt=>bo (aj e2 3 rfl rfl (ah e2 aD (bO (F2 _ _ (F _ _ lI)) (iY hk) zi ⟨rfl,?_⟩))),λt=>⟨rfl,?_⟩⟩)))⟩)))))))
 simp only[t,if_true]
 simp only[t];rfl
 have qH:(List.range bV.length).filterMap (λi=>if dW h (cC ws (i % ws.length))=true then some (cC bV i)else none)=iC bV ws h:=rfl
 rw[qH]
 obtain⟨k1,k2⟩:=hole h1 (af (o:=.list (iC bV ws h)) jU)
 have ac0:D2≠D:=Ne.symm (bp (ai _ _ _) jU)
 have ac1:eI D2=none:=F.none jU
 refine⟨af jU _ _ (ai _ _ _),?_,off (upd (upd υ D (.list (da.map V.ref))) D2 (.list (iC bV ws h))) D,da++[D2],dA,h2.trans k1,?_,by simp,?_,?_⟩
 rw[ay,br.len h3,ay,eZ];lia
 rw[k2,dk,←k2]
 rw[eY,hh,df]
 exact br.app (kC.ext h3 k1) (.cons (off_ne ac0 (ai _ _ _)) .nil)
 intro x hx
 rcases cq.mp hx with hx|hx
 exact h4 x hx
 rw[dm.mp hx];exact ac1
 intro ys τ zqA;obtain⟨υ,da,h1,h2,rfl,rfl,h3,h4⟩:=zqA
 rw[ay,fM]at h3
 have hDn:eI D=none:=hD
 have F:=h2.trans (af (o:=.list (da.map V.ref)) h1)
 have h3:kC (upd υ D (.list (da.map V.ref))) da ((heads ws).map (iC bV ws)):=h3.ext (af h1)
 have fy:=ai υ D (.list (da.map V.ref))
 revert F h3 fy;refine gen (upd υ D (.list (da.map V.ref))) ?_;intro rO F h3 fy
 have kA:=F _ _ kA
 have lI:=F _ _ lI
 have fY:=F _ _ fY
 have E7:=E7.trans F
 have jx:=jx.ext F
 have Km:=g1
 have g2':=g2
 have g1:=F _ _ g1
 have g2:=F _ _ g2
 have m1:=F _ _ m1
 have m2:=F _ _ m2
 have m3:=F _ _ m3
 have hH8:=F _ _ j2
 have g58:br (λr ys=>iT rO r ys) rs ((heads ws).map (iC bV ws)):=fW g5 λ_ _ h=>h.ext F
 refine⟨_,eB,?_⟩
 refine fU (λnR aR=>Ext rO nR∧aR=[some (.ref a),some (.ref S),some (.ref Di),some (.ref Dw),some (.ref r),some (.ref H),some (.ref D),some (.bool (decide (0<ws.length∧bV.length % ws.length≠0))),none]) ?_ ?_
 by_cases pq:ws=[]
 have hu:decide (0<ws.length∧bV.length % ws.length≠0)=false:=by rw[pq];rfl
 rw[hu]
 exact aS hv (fQ (h_ (dP (aj hv 3 rfl rfl (bq (aK ⟨aB,λz hz=>ax (.ne (fw (af hz _ _ fY) (ai _ _ _) (bp fY hz) (by rw[pq];exact .nil))) ⟨_,.bool,ff rfl ⟨_,gV,af hz,rfl⟩⟩⟩))))))
 have CH:0<ws.length:=vd.mpr pq
 refine aS hv (fQ (h_ (dP (aj hv 3 rfl rfl (bq (aK ⟨aB,λz hz=>ax (.ne (cU.sX (af hz _ _ fY) (ai _ _ _) (bp fY hz) (by simp;exact pq))) ⟨_,.bool,tt rfl (iK ?_)⟩⟩))))))
 have G1:=af (o:=.list []) hz
 refine dP (bC (cj hg kj (aj hv 2 rfl rfl ⟨Di,bV,rfl,G1 _ _ lI,zi,cj hg kj (aj hv 3 rfl rfl ⟨Dw,ws,rfl,G1 _ _ fY,zw,fC (by lia) (aW (ax (.ne .ii) ⟨_,gV,G1,?_⟩))⟩)⟩)))
 have hu:(!((bV.length:Int).fmod (ws.length:Int)==0))=decide (0<ws.length∧bV.length % ws.length≠0):=by
  rw[fq]
  by_cases h:bV.length % ws.length=0
  rw[h];simp
  rw[i6 ⟨CH,h⟩]
  have:(((bV.length % ws.length:Nat):Int)==0)=false:=jB.mpr (by lia)
  rw[this];rfl
 rw[hu]
 intro nR aR zqA;obtain⟨G,rfl⟩:=zqA
 have kA:=G _ _ kA
 have E7:=E7.trans G
 have jx:=jx.ext G
 revert jx;refine genE (decide (0<ws.length∧bV.length % ws.length≠0)) ?_;intro u hu jx
 refine fU (λxD aR=>∃eN,Ext nR xD∧xD eN=some (.list (if u=true then [V.str oZ]else []))∧aR=[some (.ref a),some (.ref S),some (.ref Di),some (.ref Dw),some (.ref r),some (.ref H),some (.ref D),some (.bool u),some (.ref eN)]) ?_ ?_
 cases u with
 |false=>
  refine aT.Mm hv (JR (w:=w) hv (by rfl) (by rfl)) (.loc (.loc (.loc .nil))) iO (by rfl') (aU (ah hv .here (bF kA iO (cz w) (tW w) rfl ⟨W,[],rfl,jx.1 rfl,λDh rT=>⟨λi ys τ=>τ=upd nR Dh (.list []),rfl,?_,⟨λi ys τ y _ hy=>by cases hy⟩,?_⟩⟩)))
  rintro i ys τ rfl;exact af rT _ _ (jx.1 rfl)
  rintro ys τ rfl
  exact⟨_,je,Dh,af rT,ai _ _ _,rfl⟩
 |true=>
  obtain⟨t,iz,iW⟩:=jx.2 rfl
  refine aT.Mm hv (JR (w:=w) hv (by rfl) (by rfl)) (.loc (.loc (.loc .nil))) iO (by rfl') (aU (ah hv .here (bF kA iO (cz w) (tW w) rfl ⟨W,[.ref t],rfl,iz,λDh rT=>⟨λi ys τ=>(i=0∧ys=[]∧τ=upd nR Dh (.list []))∨(i=1∧ys=[V.str oZ]∧τ=upd nR Dh (.list [.str oZ])),.inl ⟨rfl,rfl,rfl⟩,?_,⟨?_⟩,?_⟩⟩)))
  rintro i ys τ (⟨_,_,rfl⟩|⟨_,_,rfl⟩)<;>exact af rT _ _ iz
  rintro i ys τ y (⟨rfl,rfl,rfl⟩|⟨rfl,_⟩) hy
  cases hy
  refine⟨t,_,[none,some (V.str oZ),some .none],rfl,af rT _ _ iW,.cons bX (.cons eL .nil),(λz k u l=>?_),fun Γc e1 e2 e3=>?_⟩
  have l:=((l.inv.resolve_left λe=>nomatch e.2).inv.resolve_left λe=>nomatch e.2).inv.resolve_left λe=>nomatch e.2
  cases l
  exact dE ⟨λ_=>ah e2 aD ⟨ai _ _ _,aB,.inr ⟨rfl,rfl,by rw[dk];rfl⟩⟩,tf⟩
  cases hy
  rintro ys τ (⟨h,_⟩|⟨_,rfl,rfl⟩)
  cases h
  exact⟨_,je,Dh,af rT,ai _ _ _,rfl⟩
 intro xD aR zqA;obtain⟨eN,G2,xE,rfl⟩:=zqA
 have E7:=E7.trans G2
 have G3:=G.trans G2
 refine fU (λrU aR=>Ext xD rU∧aR=[some (.ref a),some (.ref S),some (.ref Di),some (.ref Dw),some (.ref r),some (.ref H),some (.ref D),some (.bool u),some (.ref eN)]) ?_ ?_
 cases u with
 |false=>exact aM (aF (aj hv 8 rfl rfl (gS (c8 (aj hv 7 rfl rfl ⟨_,.bool,ff rfl (bq (aK ⟨aB,λz hz=>ax (.ne (fw (af hz _ _ xE) (ai _ _ _) (bp xE hz) .nil)) ⟨_,rfl,ff rfl (au ⟨af hz,rfl⟩)⟩⟩))⟩)))))
 |true=>exact aM (aF (aj hv 8 rfl rfl (gS (c8 (aj hv 7 rfl rfl ⟨_,.bool,tt rfl (bq (ar rfl [] rfl ⟨aB,λz hz=>ax (.ne (fw (af hz _ _ xE) (ai _ _ _) (bp xE hz) (rJ [oZ]))) ⟨_,rfl,ff rfl (au ⟨af hz,rfl⟩)⟩⟩))⟩)))))
 intro rU aR zqA;obtain⟨G4,rfl⟩:=zqA
 have G5:=G3.trans G4
 have E7:=E7.trans G4
 have xF:br (λr ys=>iT rU r ys) rs ((heads ws).map (iC bV ws)):=fW g58 λ_ _ h=>h.ext G5
 have wI:rs.length≤1000000:=by rw[xF.len,ay];lia
 have MU:=g5
 obtain⟨ls,f1,f2,f3⟩:=ab8 xF
 refine ae (a_ (fQ (h_ (dP (fT hv (XO (w:=w) hv (by rfl) (by rfl)) (.loc (.loc .nil)) aQ (pt:=λy=>bX) (aU (aj hv 4 rfl rfl (vi (G5 _ _ g1) ⟨b,rs.map .ref,nQ rU,rfl,G5 _ _ g2,by rw[ay];exact wI,?_,λo ho=>aj hv 6 rfl rfl (ax (.eq (fw (n:=2) (ai _ _ _) (af ho _ _ (G5 _ _ fy)) (Ne.symm (bp (G5 _ _ fy) ho)) ?_)) ⟨true,.bool,λ_=>iK ?_,(tf)⟩)⟩))))))))
 intro y hy υ F Γc e1 e2 e3
 refine bZ hy λr' Ca=>?_
 obtain⟨k,hk⟩:=gN.mp Ca
 have fH:k<((heads ws).map (iC bV ws)).length:=by rw[←xF.len];exact(cp.mp hk).1
 obtain⟨r2,jY,l2,i1,i2⟩:=xF.get (bL fH)
 rw[hk]at jY;cases jY
 exact dE ⟨λ_=>aU (ah e2 aD (vi (F _ _ i1) ⟨rfl,qz i1⟩)),tf⟩
 rw[f1]
 refine ab9 (kC.ext f2 (af ho)) (kC.ext (kC.ext h3 G5) (af ho)) (λl hl d hd=>?_) (λys hy x hx=>?_)
 intro e
 subst e
 have MV:=h4 _ hd
 obtain⟨k,hk⟩:=gN.mp hl
 have hkr:k<rs.length:=by
  have:=(cp.mp hk).1
  rw[←f3.len]at this
  exact this
 have hkh:k<((heads ws).map (iC bV ws)).length:=by rw[←MU.len];exact hkr
 obtain⟨r2,jY,l2,i1,i2⟩:=MU.get (bL hkh)
 have hit:nQ rU (.ref r2)=some (.ref l2):=qz ((F.trans G5) _ _ i1)
 obtain⟨r3,MW,i3⟩:=f3.get hk
 rw[jY]at MW
 cases MW
 rw[hit]at i3
 cases i3
 rw[i2]at MV;cases MV
 obtain⟨h,_,rfl⟩:=cF.mp hy
 rw[Cp]at hx
 refine bZ hx λi hi=>?_
 have hi:=iD.mp (jE.mp hi).1
 exact CE _ (cS (iY hi))
 have G6:=G5.trans (af (o:=.list ((rs.map V.ref).filterMap (nQ rU))) ho)
 refine dP (aU (bo (aU (aj hv 4 rfl rfl (va (G6 _ _ g1) (bu (tN (G6 _ _ m1) (by simp[keyOf]) (vi (G6 _ _ m2) (aj hv 5 rfl rfl (ax (.eq (fw (G6 _ _ m3) (G6 _ _ hH8) hnH (rJ (heads ws)))) ?_))))))))))
 exact q _ (E7.trans (af ho))
end
theorem ac2 {w:World}{A:Around}{Q:PySem.Fin→Shared→Prop}{X:VP}{h:Heap}{g:Array GenState}{d:Drawn}{tk:Nat}{os:OsState}{t:Addr}{items:Array Value}{n:Nat}{x:Value}{e:Value→Bool}{j:Nat}(hl:h.get? t=some {cls:=.type "tuple",data:=.seq items n})
  (he:∀y,y∈items→EqAt A ⟨h,g,d,tk,os⟩ y x (e y))(hj:j<items.size)(hit:e items[j]=true)(nO:∀m (hm:m<items.size),m<j→e items[m]=false)
  (q:Q (.done (.ret (.int j tk))) ⟨h,g,d,tk+1,os⟩):
  wpAny (model aC w) A (Builtin.«tuple.index» ⟨[.ref t,x],[]⟩) Q X ⟨h,g,d,tk,os⟩:=by
 unfold Builtin.«tuple.index»
 simp only[Std.Legacy.Range.forIn_eq_forIn_range']
 have key:∀r k i:Nat,i+k=j→i+(r+k+1)=items.size→∀(E:VP) (K:Option PySem.Fin×PUnit→Shared→Prop),(∀r,K (some (PySem.Fin.done (.ret (.int j tk))),r) ⟨h,g,d,tk+1,os⟩)→
   wpAny (model aC w) A (forIn (List.range' i (r+k+1) 1) ((none,⟨⟩):Option PySem.Fin×PUnit) λ(i:Nat) __s=>match items[i]? with
      |some y=>do
       let CI←eqBool y x
       if CI=true then do
         let CI←retInt ↑i
         pure (ForInStep.done (some CI,⟨⟩))
        else pure (ForInStep.yield (none,⟨⟩))
      |x=>pure (ForInStep.yield (none,⟨⟩))) K E ⟨h,g,d,tk,os⟩:=by
  intro r k
  induction k with
  |zero=>
   intro i hk hs E K hK
   subst hk
   rw[List.range'_succ,List.forIn_cons,Array.getElem?_eq_getElem hj]
   refine aP (aP (he _ (Array.getElem_mem hj) aC w _ _ ?_))
   rw[hit]
   exact aP (aP (wpAny_mkInt (bY (bY (bY (hK _))))))
  |succ k ih=>
   intro i hk hs E K hK
   have dQ:i<j:=hk▸Nat.lt_add_of_pos_right (Nat.succ_pos k)
   have jR:=Nat.lt_trans dQ hj
   rw[List.range'_succ,List.forIn_cons,Array.getElem?_eq_getElem jR]
   refine aP (aP (he _ (Array.getElem_mem jR) aC w _ _ ?_))
   rw[nO i jR dQ]
   exact bY (ih (i+1) (by rw[←hk,Nat.add_right_comm];rfl) (by rw[←hs,Nat.add_right_comm];rfl) E K hK)
 wp_walk using wpAny_loadPart' hl
 have hr:0+(items.size-j-1+j+1)=items.size:=(Nat.zero_add _).trans (Nat.sub_add_cancel hj)
 have hs:List.range' 0 [:min items.size items.size].size=List.range' 0 (items.size-j-1+j+1) 1:=by simp[Std.Legacy.Range.size];lia
 have key:=key _ j 0 (Nat.zero_add j) hr
 rw[←hs]at key
 refine key _ _ λr=>?_
 exact bY q
section
variable{w:World}{Γ:Ctx}{σ:Hp}{ρ:LO}{Q:PQ}
theorem Op.ac3 {l:Addr}{xs:List V}{x:V}{j:Nat}(hl:σ l=some (.tup xs))(f:V→Bool)(he:∀y∈xs,cU σ 3 y x (f y))(hj:j<xs.length)(hit:f xs[j]=true)(nO:∀m (hm:m<xs.length),m<j→f xs[m]=false)(q:Q (.int j) σ):
  ∀as:List Value,as.map er=[.ref l,x]→Op w Γ (PySem.call (.builtin "tuple.index") as) σ ρ Q:=by
 intro as ea S s D k X hk
 obtain⟨a,b,rfl,e1,e2⟩:=args_2 ea
 refine bJ e1 ?_
 obtain⟨n,vs,hv,ev⟩:=D.hr.at_ _ _ hl
 obtain⟨hp,g,d,tk,os⟩:=s
 have sz:vs.size=xs.length:=by rw[←ev,ay,Array.length_toList]
 have at_:∀m (hm:m<vs.size),er vs[m]=xs[m]'(by lia):=λm hm=>by
  have:(vs.toList.map er)[m]'(by rw[ay,Array.length_toList];exact hm)=xs[m]'(by lia):=by simp only[ev]
  rw[←this,qT,Array.getElem_toList]
 refine wpAny_call (codeAny_call_builtin F.slot_tuple_index.plain F.entry_tuple_index (F.slot_tuple_index.check _ _ _ _ _ _ _ _ (⟨_,hv,rfl⟩:(⟨hp,g,d,tk,os⟩:Shared).TypeIs (.ref l) "tuple") (F.args_tuple_index_2 _ _) ?_))
 refine ac2 (e:=λv=>f (er v)) hv (λy hy=>((he _ (ev▸cB (sj.mpr hy))).at D.hr (A:=Γ.A.in1) (by show Γ.A.units+1+3<_;exact S.u3 (n:=4)) rfl e2).1) (j:=j) (by lia) ?_ (λm hm h=>?_) ?_
 rw[at_ j (by lia)];exact hit
 rw[at_ m hm];exact nO m (by lia) h
 exact hk _ _ σ q (D.grow (λ_ _ e=>e) rfl rfl)
theorem ak.ac4 {o name apos args pos}(h:ak w Γ o σ ρ fun ov aH=>∃(a:Addr)(xs:List V)(id:String),ov=.ref a∧aH a=some (.tup xs)∧Slot "tuple" name id∧typeOf (.builtin id)=pure (.type "method_descriptor")∧
   eC w Γ pos args aH ρ λvs aZ=>∀as,as.map er=.ref a::vs→Op w Γ (PySem.call (.builtin id) as) aZ ρ Q)
  (m7:∀env,attributeBase o name env (eval o env)=eval o env:=by intro _;rfl)
  (m8:∀env,((backTo pos (starEach args env)).all (λx=> !x.1)&&(backToKw pos (keywordEach [] env)).all (λx=>x.1.isSome)&&decide (args.length+([]:List Keyword).length+(if([]:List Keyword).isEmpty then 0 else 1)<30))=true:=by intro _;rfl)
  (eG:(apos.endLine==pos.line)=true:=by rfl)(hp:∀env,(backTo pos (starEach args env)).any (·.1)=false:=by intro _;rfl):ak w Γ (.Call (.Attribute o name apos) args [] pos) σ ρ Q:=by
 refine⟨λS s D k X hk=>wpAny_Call_method_late (m7 _) (m8 _) eG rfl (h.run S s D _ X λov av aH q aL=>?_)⟩
 obtain⟨a,xs,id,eo,sa,sl,ty,q⟩:=q
 refine bJ eo ?_
 obtain⟨n,vs,e,_⟩:=aL.hr.at_ _ _ sa
 refine⟨"tuple",id,F.plainAttrs_tuple,sl,ty,⟨_,e,rfl⟩,fun b eb=>by cases eb;exact⟨_,e,rfl⟩,callWith_builtin (hp _) (lU (hp _) (q.run S av aL _ X fun vs aG aZ b_ aA=>?_))⟩
 exact b_ (.ref a::vs) rfl S aG aA k X hk
end
noncomputable def kindS:List Str:=[Str.ofString "NULL",Str.ofString "logical",Str.ofString "integer",Str.ofString "double",Str.ofString "character",Str.ofString "list",Str.ofString "expression"]
noncomputable def my (k:Str):V→Bool
 |.str s=>s==k
 |_=>false
noncomputable def xG (k:Str)(j:Nat):Prop:=(k=Str.ofString "logical"∧j=1)∨(k=Str.ofString "integer"∧j=2)
theorem MX {σ:Hp}{k:Str}:∀y∈kindS.map V.str,cU σ 3 y (.str k) (my k y):=λy hy=>by
 refine bZ hy λs _=>?_
 exact .ss
theorem kind_any {k:Str}{j:Nat}(h:xG k j):(kindS.map V.str).any (my k)=true∧j<(kindS.map V.str).length∧∀(hj:j<(kindS.map V.str).length),my k (kindS.map V.str)[j]=true∧∀m (hm:m<(kindS.map V.str).length),m<j→my k (kindS.map V.str)[m]=false:=by
 rcases h with⟨rfl,rfl⟩|⟨rfl,rfl⟩
 refine⟨by simp[kindS,my],by simp[kindS],λhj=>⟨by simp[kindS,my],λm hm dQ=>?_⟩⟩
 have:m=0:=by lia
 subst this;rfl'
 refine⟨by simp[kindS,my],by simp[kindS],λhj=>⟨by simp[kindS,my],λm hm dQ=>?_⟩⟩
 have:m=0∨m=1:=by lia
 rcases this with rfl|rfl<;>rfl'
section
variable{w:World}{Γ:Ctx}{ρ:LO}{d:Nat}{σ:Hp}{Q:PQ}{a:Addr}{kind items attrs gl cD:V}{gls:LV}
theorem ac5 {k:Str}{j:Nat}(h:xG k j)(q:Q (.int j) σ):Call w (d+1) (.ref 715) [.str k] σ Q:=by
 obtain⟨h1,h2,h3⟩:=kind_any h
 refine jn ?_
 refine S8 fun Γ hd hv hg=>?_
 refine ae (aS hv (fD (ar rfl [] rfl ⟨aB,λT hT=>⟨_,bX,?_⟩⟩)))
 have uH:=ai σ T (.tup (kindS.map V.str))
 refine ae (aM (aF (ah hv .here (ah hv aD (ax (.vE (my k) uH MX) ⟨_,rfl,tt h1 (ae (a_ (ak.ac4 (ah hv aD ⟨T,_,"tuple.index",rfl,uH,F.slot_tuple_index,F.type_tuple_index,ar hv [0] rfl ?_⟩))))⟩)))))
 exact Op.ac3 uH (my k) MX h2 (h3 h2).1 (h3 h2).2 ⟨σ,af hT,q⟩
inductive ac6 (L:Addr)(ks:List (Str×Nat))(T:Addr)(τ:Hp)(i:Nat)(υ:Hp)(ρ:LO):Prop
 |mk (cQ:υ=τ) (o:Option V) (cR:ρ=[some (.ref L),some (.ref T),some (.int (((ks.take i).foldl (λm p=>max m p.2) 0:Nat):Int)),o])
theorem ac7 {L:Addr}{k:Str}{j:Nat}{ks:List (Str×Nat)}(hL:σ L=some (.list (ks.map λp=>.str p.1)))(hz:ks.length≤1000000)(hk:∀p∈ks,xG p.1 p.2)(hj:ks.foldl (λm p=>max m p.2) 0=j)(h:xG k j)(q:Q (.str k) σ):Call w (d+2) (.ref 722) [.ref L] σ Q:=by
 refine jn ?_
 refine S9 fun Γ hd hv hg=>?_
 refine ae (aS hv (fD (ar rfl [] rfl ⟨aB,λT hT=>⟨_,bX,?_⟩⟩)))
 have E:=af (o:=.tup (kindS.map V.str)) hT
 have uH:=ai σ T (.tup (kindS.map V.str))
 generalize hτ:upd σ T (.tup (kindS.map V.str))=τ at*
 have ac8:upd σ T (.tup ([Str.ofString "NULL",Str.ofString "logical",Str.ofString "integer",Str.ofString "double",Str.ofString "character",Str.ofString "list",Str.ofString "expression"].map V.str))=τ:=hτ
 refine ae (aS hv (aW ⟨_,eL,ae ?_⟩))
 refine fF hv (ah hv .here ⟨L,ks.map λp=>.str p.1,ac6 L ks T τ,rfl,⟨ac8,_,rfl⟩,?_,?_,?_⟩)
 (intro i υ ρ zqA;obtain⟨rfl,_⟩:=zqA);exact E _ _ hL
 intro i υ ρ y zqA;obtain⟨rfl,o,rfl⟩:=zqA;intro hy
 obtain⟨p,hp,rfl⟩:∃p,ks[i]? =some p∧V.str p.1=y:=by simpa using hy
 refine⟨_,eM,λown=>?_⟩
 obtain⟨hd,hv,hg⟩:=dF own hd hv hg
 refine ae (aS hv (gG (cm hg aN ⟨"max",rfl,aq (aj hv 2 rfl rfl (aq (aw hd hg aQ (by rfl') (ar hv [3] rfl ?_))))⟩)))
 refine ac5 (hk p (cS hp)) (aK (Op.max2 ⟨_,eL,au ⟨rfl,some (.str p.1),?_⟩⟩))
 rw[eY,hp]
 simp only[Option.toList,List.foldl_append,oh,List.foldl_nil]
 have e:∀m:Nat,(if(p.2:Int)>(m:Int)then(p.2:Int)else(m:Int))=((max m p.2:Nat):Int):=λm=>by split<;>lia
 rw[e]
 intro υ ρ zqA;obtain⟨rfl,o,rfl⟩:=zqA
 rw[ay,fM,hj]
 have cM:(kindS.map V.str)[j]? =some (.str k):=by
  rcases h with⟨rfl,rfl⟩|⟨rfl,rfl⟩<;>rfl
 exact ae (a_ (bo (ah hv aD (aj hv 2 rfl rfl (tO uH cM (by simp[kindS]) ⟨σ,E,q⟩)))))
end
theorem CJ (w:World):gE w 422=true:=by rfl'
theorem ac9 (w:World):bP w 422 "kind"=true:=by rfl'
theorem ac_ (w:World):bP w 422 "name"=true:=by rfl'
theorem ada (w:World):bP w 422 "attrs"=true:=by rfl'
theorem uI (w:World):gE w 444=true:=by rfl'
theorem adb (w:World):bP w 444 "kind"=true:=by rfl'
theorem ade (w:World):bP w 444 "items"=true:=by rfl'
theorem adf (w:World):bP w 444 "tags"=true:=by rfl'
theorem adg (w:World):bP w 444 "attrs"=true:=by rfl'
theorem adh (w:World):bP w 444 "code"=true:=by rfl'
theorem lJ (w:World):gE w 465=true:=by rfl'
theorem uJ (w:World):bP w 465 "kind"=true:=by rfl'
theorem adi (w:World):bP w 465 "name"=true:=by rfl'
theorem adj (w:World):bP w 465 "special"=true:=by rfl'
theorem MY (w:World):bP w 465 "fn"=true:=by rfl'
theorem adk (w:World):bP w 465 "group"=true:=by rfl'
theorem adl (w:World):bP w 465 "attrs"=true:=by rfl'
noncomputable abbrev uK (name fn group:V):List (Str×Option V):=[(Str.ofString "kind",some (.str (Str.ofString "builtin"))),(Str.ofString "name",some name),(Str.ofString "special",some (.bool false)),(Str.ofString "fn",some fn),(Str.ofString "group",some group),(Str.ofString "attrs",some .none)]
section
variable{w:World}{Γ:Ctx}{ρ:LO}{d:Nat}{σ:Hp}{Q:PQ}{a:Addr}{kind items attrs gl cD:V}{gls:LV}
theorem MZ {x:V}(q:∀τ e,Ext σ τ→Q (.ref e) τ):Call w (d+2) (.ref 422) [x] σ Q:=by
 refine Call.cls (fI:=419) (by rfl') (by rfl') (by rfl') λa bQ=>?_
 have ha:(upd σ a (.inst 422 [])) a=some (.inst 422 []):=ai _ _ _
 have E:Ext σ (upd σ a (.inst 422 [])):=af bQ
 generalize upd σ a (.inst 422 [])=τ at*
 refine SI fun Γ hd hv hg=>?_
 refine ae (cJ (bu (ah hv .here ⟨a,422,_,_,rfl,ha,(.nil),bG,CJ w,ac9 w,λτ e=>?_⟩)))
 obtain⟨E,ha,k⟩:=su e (E) bQ
 refine ae (cJ (ah hv aD (ah hv .here ⟨a,422,_,_,rfl,ha,(oE (by rfl')),bG,CJ w,ac_ w,λτ e=>?_⟩)))
 obtain⟨E,ha,k⟩:=su e (E) bQ
 refine ae (cJ (bg (ah hv .here ⟨a,422,_,_,rfl,ha,(oF (by rfl')),bG,CJ w,ada w,λτ e=>?_⟩)))
 obtain⟨E,ha,k⟩:=su e (E) bQ
 exact au ⟨rfl,q _ _ E⟩
theorem adm {x y:V}(q:∀τ e,Ext σ τ→Q (.ref e) τ):Call w (d+2) (.ref 444) [x,y] σ Q:=by
 refine Call.cls (fI:=441) (by rfl') (by rfl') (by rfl') λa bQ=>?_
 have ha:(upd σ a (.inst 444 [])) a=some (.inst 444 []):=ai _ _ _
 have E:Ext σ (upd σ a (.inst 444 [])):=af bQ
 generalize upd σ a (.inst 444 [])=τ at*
 refine SJ fun Γ hd hv hg=>?_
 refine ae (cJ (bu (ah hv .here ⟨a,444,_,_,rfl,ha,(.nil),bG,uI w,adb w,λτ e=>?_⟩)))
 obtain⟨E,ha,k⟩:=su e (E) bQ
 refine ae (cJ (ah hv aD (ah hv .here ⟨a,444,_,_,rfl,ha,(oE (by rfl')),bG,uI w,ade w,λτ e=>?_⟩)))
 obtain⟨E,ha,k⟩:=su e (E) bQ
 refine ae (cJ (aj hv 2 rfl rfl (ah hv .here ⟨a,444,_,_,rfl,ha,(oF (by rfl')),bG,uI w,adf w,λτ e=>?_⟩)))
 obtain⟨E,ha,k⟩:=su e (E) bQ
 refine ae (cJ (aj hv 3 rfl rfl (ah hv .here ⟨a,444,_,_,rfl,ha,(q_ (by rfl')),bG,uI w,adg w,λτ e=>?_⟩)))
 obtain⟨E,ha,k⟩:=su e (E) bQ
 refine ae (cJ (bg (ah hv .here ⟨a,444,_,_,rfl,ha,(s9 (by rfl')),bG,uI w,adh w,λτ e=>?_⟩)))
 obtain⟨E,ha,k⟩:=su e (E) bQ
 exact au ⟨rfl,q _ _ E⟩
theorem adn {x f g:V}(q:∀τ e,Ext σ τ→σ e=none→τ e=some (.inst 465 (uK x f g))→Q (.ref e) τ):Call w (d+2) (.ref 465) [x,.bool false,f,g] σ Q:=by
 refine Call.cls (fI:=462) (by rfl') (by rfl') (by rfl') λa bQ=>?_
 have ha:(upd σ a (.inst 465 [])) a=some (.inst 465 []):=ai _ _ _
 have E:Ext σ (upd σ a (.inst 465 [])):=af bQ
 generalize upd σ a (.inst 465 [])=τ at*
 refine SK fun Γ hd hv hg=>?_
 refine ae (cJ (gS (c8 (aj hv 2 rfl rfl ⟨_,.bool,ff rfl (bu (ah hv .here ⟨a,465,_,_,rfl,ha,(.nil),bG,lJ w,uJ w,λτ e=>?_⟩))⟩))))
 obtain⟨E,ha,k⟩:=su e (E) bQ
 refine ae (cJ (ah hv aD (ah hv .here ⟨a,465,_,_,rfl,ha,(oE (by rfl')),bG,lJ w,adi w,λτ e=>?_⟩)))
 obtain⟨E,ha,k⟩:=su e (E) bQ
 refine ae (cJ (aj hv 2 rfl rfl (ah hv .here ⟨a,465,_,_,rfl,ha,(oF (by rfl')),bG,lJ w,adj w,λτ e=>?_⟩)))
 obtain⟨E,ha,k⟩:=su e (E) bQ
 refine ae (cJ (aj hv 3 rfl rfl (ah hv .here ⟨a,465,_,_,rfl,ha,(q_ (by rfl')),bG,lJ w,MY w,λτ e=>?_⟩)))
 obtain⟨E,ha,k⟩:=su e (E) bQ
 refine ae (cJ (aj hv 4 rfl rfl (ah hv .here ⟨a,465,_,_,rfl,ha,(s9 (by rfl')),bG,lJ w,adk w,λτ e=>?_⟩)))
 obtain⟨E,ha,k⟩:=su e (E) bQ
 refine ae (cJ (bg (ah hv .here ⟨a,465,_,_,rfl,ha,(vM (by rfl')),bG,lJ w,adl w,λτ e=>?_⟩)))
 obtain⟨E,ha,k⟩:=su e (E) bQ
 exact au ⟨rfl,q _ _ E bQ ha⟩
theorem ado {n:V}(q:∀τ r b,Ext σ τ→σ r=none→σ b=none→τ r=some (.inst 401 (aV (.str "integer") (.ref b) .none))→τ b=some (.list [n])→Q (.ref r) τ):Call w (d+3) (.ref 588) [n] σ Q:=by
 refine SU fun Γ hd hv hg=>?_
 refine ae (a_ (aw hd hg aN (by rfl') (aq (bu (aq (bq (ar hv [0] rfl ⟨aB,λb hb=>aK ?_⟩)))))))
 refine mW λr hr=>q _ r b ((af hb).trans (af hr)) ((af hb).none hr) hb (ai _ _ _) (af hr _ _ (ai _ _ _))
theorem adp {v:V}(q:Q v σ):Call w (d+1) (.ref 818) [v,.none] σ Q:=by
 refine S_ fun Γ hd hv hg=>?_
 exact ae (aM (aF (ah hv aD (bg (ax .d7 ⟨_,rfl,ff rfl (au (ae (a_ (ah hv .here q))))⟩)))))
theorem adq {l:Addr}{k:Str}{xs:List V}{ads:V}(ha:σ a=some (.inst 401 (aV (.str k) (.ref l) .none)))(hl:σ l=some (.list xs))(hz:xs.length≤1000000)(k1:(k==Str.ofString "language")=false)(k2:(k==Str.ofString "environment")=false)
  (q:∀τ r b,Ext σ τ→τ r=some (.inst 401 (aV (.str k) (.ref b) .none))→τ b=some (.list xs)→Q (.ref r) τ):Call w (d+4) (.ref 823) [.ref a,.str k,ads] σ Q:=by
 refine Ta fun Γ hd hv hg=>?_
 refine ae (aM (dJ.not (c8 (gG (cm hg aN ⟨"isinstance",rfl,aq (ah hv .here (aq (cm hg aQ (aK (Op.v5 ha (v9 w) ⟨true,.bool,ff rfl (au ?_)⟩)))))⟩)))))
 refine ae (aS hv (aU (ah hv .here (vi ha ⟨_,eM,?_⟩))))
 refine ae (aM (aF (aU (ah hv .here (vk ha (ah hv aD (ax (.ne .ss) ⟨_,rfl,ff (by simp) (au ?_)⟩)))))))
 refine ae (a_ (aw hd hg cY (by rfl') (aq (aw hd hg aQ (by rfl') (aq (ah hv aD (aq (ak.list1 hg fG (aj hv 3 rfl rfl ⟨l,xs,rfl,.inl hl,hz,λb hb=>aK ?_⟩)))))))))
 have E1:=af (o:=.list xs) hb
 refine mW λr hr=>?_
 have E2:=E1.trans (af (o:=.inst 401 (aV (.str k) (.ref b) .none)) hr)
 refine aq (aw hd hg gm (by rfl') (ar hv [0] rfl ?_))
 refine Bp (E2 _ _ ha) k1 k2 .none .none (aK (adp (q _ r b E2 (ai _ _ _) (af hr _ _ (ai _ _ _)))))
end
noncomputable def SV (σ:Hp)(dx:V)(v x:V):Prop:=(v=.none∧x=dx)∨∃a l,v=.ref a∧σ a=some (.inst 401 (aV (.str (Str.ofString "integer")) (.ref l) .none))∧σ l=some (.list [x])
theorem SV.ext {σ τ:Hp}{dx v x:V}(h:SV σ dx v x)(E:Ext σ τ):SV τ dx v x:=by
 rcases h with h|⟨a,l,h1,h2,h3⟩
 exact .inl h
 exact .inr ⟨a,l,h1,E _ _ h2,E _ _ h3⟩
noncomputable def xH (v:V):Option V:=if bB v=true then none else some (.str (Str.ofString "integer"))
noncomputable def kD (dv v:V):Option V:=some (if bB v=true then dv else v)
noncomputable def nV (σ:Hp)(v:V):Option V:=match nQ σ v with
 |some (.ref l)=>(match σ l with|some (.list (x::_))=>some x|_=>none)
 |_=>none
theorem kd_list:∀vs:List V,∃m,vs.filterMap xH=List.replicate m (V.str (Str.ofString "integer"))∧m≤vs.length
 | []=>⟨0,rfl,dp _⟩
 |v::r=>by
  obtain⟨m,h,hm⟩:=kd_list r
  by_cases e:bB v=true
  exact⟨m,by rw[gz];simp only[xH,e,if_true];exact h,by simp;lia⟩
  exact⟨m+1,by rw[gz];simp only[xH,e,jC,if_false];rw[List.replicate_succ];exact gf _ h,by simp;lia⟩
theorem adt (m:Nat):(((Str.ofString "logical",1)::List.replicate m (Str.ofString "integer",2)++[(Str.ofString "integer",2)]):List (Str×Nat)).foldl (fun m p=>max m p.2) 0=2:=by
 rw[sr,oh,List.foldl_append]
 have:∀(n k:Nat),k≤2→(List.replicate n (Str.ofString "integer",2)).foldl (fun m (p:Str×Nat)=>max m p.2) k≤2:=by
  intro n
  induction n with
  |zero=>intro k hk;exact hk
  |succ n ih=>intro k hk;rw[List.replicate_succ,oh];exact ih _ (by simp;lia)
 have:=this m (max 0 1) (by simp)
 simp only[oh,List.foldl_nil]
 lia
section
variable{w:World}{Γ:Ctx}{ρ:LO}{d:Nat}{σ:Hp}{Q:PQ}{a:Addr}{kind items attrs gl cD:V}{gls:LV}
inductive adu (σ:Hp)(L:Addr)(i:Nat)(υ:Hp)(ρ:LO):Prop
 |mk (cQ:υ=σ) (o:Option V) (cR:ρ=[some (.ref L),o])
theorem adv {L:Addr}{vs:List V}(hL:σ L=some (.list vs))(jZ:∀v∈vs,∃x,SV σ .none v x)(q:Q (.bool true) σ):Call w (d+2) (.ref 1665) [.ref L] σ Q:=by
 refine Ui fun Γ hd hv hg=>?_
 refine ae (fF hv (ah hv .here ⟨L,vs,adu σ L,rfl,⟨rfl,_,rfl⟩,?_,?_,?_⟩))
 (intro i υ ρ zqA;obtain⟨rfl,_⟩:=zqA);exact hL
 intro i υ ρ y zqA;obtain⟨rfl,o,rfl⟩:=zqA;intro hy
 obtain⟨x,hx⟩:=jZ y (cS hy)
 refine⟨_,bX,λown=>?_⟩
 obtain⟨hd,hv,hg⟩:=dF own hd hv hg
 refine ae (aM (cw (bW (aF (ah hv aD (bg (ax .d7 ⟨_,rfl,λe=>bW ?_,λe=>ff rfl (au (au ⟨rfl,some y,rfl⟩))⟩)))))))
 rcases hx with⟨rfl,_⟩|⟨b,l,rfl,h1,h2⟩
 cases e
 refine cw (dK (dJ.not (c8 (aw hd hg aN (by rfl') (ar hv [1] rfl ?_)))))
 refine rp h1 (.inr (.inl rfl)) ⟨_,.bool,ff rfl (dK (aF (aw hd hg aQ (by rfl') (ar hv [1] rfl ?_))))⟩
 exact gn rfl h1 h2 aB (aW (ax (.ne .ii) ⟨_,rfl,ff rfl (kU (ff rfl (ff rfl (au (au ⟨rfl,_,rfl⟩)))))⟩))
 intro υ ρ zqA;obtain⟨rfl,o,rfl⟩:=zqA
 exact ae (a_ (gR q))
end
theorem CK {σ:Hp}{a l:Addr}{k at_ x:V}(h1:σ a=some (.inst 401 (aV k (.ref l) at_)))(h2:σ l=some (.list [x])):nV σ (.ref a)=some x:=by
 unfold nV
 rw[qz h1]
 dsimp only
 rw[h2]
theorem adw {σ:Hp}{dv dl:Addr}{dx:V}(h1:σ dv=some (.inst 401 (aV (.str (Str.ofString "integer")) (.ref dl) .none)))(h2:σ dl=some (.list [dx])){vs xs:List V}(h:br (SV σ dx) vs xs):(vs.filterMap (kD (.ref dv))).filterMap (nV σ)=xs:=by
 induction h with
 |nil=>rfl
 |cons h _ ih=>
  rewrite [gz]
  simp only[kD]
  rcases h with⟨rfl,rfl⟩|⟨a,l,rfl,g1,g2⟩
  simp only[bB,if_true]
  rw[gz,CK h1 h2]
  exact gf _ ih
  simp only[bB,jC,if_false]
  rw[gz,CK g1 g2]
  exact gf _ ih
theorem M0 {σ:Hp}{dx:V}{vs xs:List V}(h:br (SV σ dx) vs xs):∀v∈vs,∃x,SV σ dx v x:=h.ex
section
variable{w:World}{Γ:Ctx}{ρ:LO}{d:Nat}{σ:Hp}{Q:PQ}{a:Addr}{kind items attrs gl cD:V}{gls:LV}
theorem adx {L dv dl:Addr}{vs xs:List V}{fig:Int}(hL:σ L=some (.list vs))(hz:vs.length≤1000)(mz:σ dv=some (.inst 401 (aV (.str (Str.ofString "integer")) (.ref dl) .none)))(lF:σ dl=some (.list [.int fig]))(h:br (SV σ (.int fig)) vs xs)
  (q:∀τ r b,Ext σ τ→σ r=none→σ b=none→τ r=some (.inst 401 (aV (.str (Str.ofString "integer")) (.ref b) .none))→τ b=some (.list xs)→Q (.ref r) τ):Call w (d+6) (.ref 1670) [.ref L,.ref dv] σ Q:=by
 have hsv:=M0 h
 obtain⟨m,xI,q7⟩:=kd_list vs
 refine Uj fun Γ hd hv hg=>?_
 refine ae (aS hv (bC (bq (ar rfl [] rfl ⟨aB,λb hb=>fT hv (W5 (w:=w) hv (by rfl) (by rfl)) (.loc (.loc .nil)) aQ (pt:=λy=>bX) (ah hv .here ⟨L,vs,xH,rfl,(af hb) _ _ hL,by lia,?_,λD hD=>?_⟩)⟩))))
 intro y hy τ F Γc e1 e2 e3
 obtain⟨x,⟨rfl,_⟩|⟨a,l,rfl,g1,g2⟩⟩:=hsv y hy
 exact fp.one (aF (ah e2 aD (bg (ax .d7 ⟨_,rfl,(ft),λ_=>⟨rfl,rfl⟩⟩))))
 exact fp.one (aF (ah e2 aD (bg (ax .d7 ⟨_,rfl,(λ_=>aU (ah e2 aD (vk (F _ _ ((af hb) _ _ g1)) ⟨rfl,rfl⟩))),tf⟩))))
 rw[xI]
 refine Op.v7 (af hD _ _ (ai _ _ _)) (ai _ _ _) (by simp;lia) λK hK=>⟨_,eL,?_⟩
 have E:=((af (o:=.list [.str (Str.ofString "logical")]) hb).trans (af (o:=.list (List.replicate m (V.str (Str.ofString "integer")))) hD)).trans (af (o:=.list ([.str (Str.ofString "logical")]++List.replicate m (V.str (Str.ofString "integer")))) hK)
 have hK1:=((af (o:=.list [.str (Str.ofString "logical")]) hb).trans (af (o:=.list (List.replicate m (V.str (Str.ofString "integer")))) hD)).none hK
 have hKK:=ai (upd (upd σ b (.list [.str (Str.ofString "logical")])) D (.list (List.replicate m (V.str (Str.ofString "integer"))))) K (.list ([.str (Str.ofString "logical")]++List.replicate m (V.str (Str.ofString "integer"))))
 generalize upd (upd (upd σ b (.list [.str (Str.ofString "logical")])) D (.list (List.replicate m (V.str (Str.ofString "integer"))))) K (.list ([.str (Str.ofString "logical")]++List.replicate m (V.str (Str.ofString "integer"))))=cA at*
 refine ae (aM (cw (dK (aF (ah hv aD (bg (ax .bB ⟨_,rfl,ff rfl (dK ?_)⟩)))))))
 refine aF (bo (aU (ah hv aD (vi (E _ _ mz) (aW (bO (i:=0) (E _ _ lF) rfl aB (fD (aq (bg (aq (fD (ar rfl [] rfl ⟨aB,λt2 iW=>aK ⟨aB,λt1 iz=>?_⟩⟩))))))))))))
 have M1:=(af (o:=.tup [.int 0,.int 0]) iW).trans (af (o:=.tup [.none,.ref t2]) iz)
 refine ax (.vE (λ_=>false) (ai _ _ _) λy hy=>?_) ⟨_,rfl,ff rfl (kU (ff rfl ?_))⟩
 simp only[aY,f9,gB]at hy
 rcases hy with rfl|rfl
 exact .ni
 exact .ti (af iz _ _ (ai _ _ _))
 have E2:=E.trans M1
 have M3:=M1 _ _ hKK
 generalize upd (upd cA t2 (.tup [.int 0,.int 0])) t1 (.tup [.none,.ref t2])=bU at*
 refine ae (eH (aj hv 2 rfl rfl ⟨K,rfl,⟨_,M3⟩,aU (ah hv aD (vk (E2 _ _ mz) ⟨_,M3,by simp;lia,au ?_⟩))⟩))
 have E3:Ext σ (upd bU K (.list ([V.str (Str.ofString "logical")]++List.replicate m (V.str (Str.ofString "integer"))++[V.str (Str.ofString "integer")]))):=fun x o hx=>by
  have:x≠K:=λe=>by rw[e,hK1]at hx;cases hx
  rw[aJ this];exact E2 _ _ hx
 have hK3:=ai bU K (.list ([V.str (Str.ofString "logical")]++List.replicate m (V.str (Str.ofString "integer"))++[V.str (Str.ofString "integer")]))
 generalize upd bU K (.list ([V.str (Str.ofString "logical")]++List.replicate m (V.str (Str.ofString "integer"))++[V.str (Str.ofString "integer")]))=cH at*
 refine ae (aT.wj hv (W9 (w:=w) hv (by rfl) (by rfl)) (.loc (.loc (.cell aD .nil))) aQ (pt:=λy=>bX) cY (by rfl') (ah hv .here ⟨L,vs,kD (.ref dv),rfl,E3 _ _ hL,by lia,?_,λT hT=>⟨_,eM,?_⟩⟩))
 intro y hy τ F Γc e1 e2 e3
 refine dE ⟨λ_=>gS (aF (ah e2 aD (bg (ax .bB ⟨_,rfl,(λc=>aj e2 2 rfl rfl ⟨rfl,?_⟩),λc=>ah e2 aD ⟨rfl,?_⟩⟩)))),tf⟩
 unfold kD;rw[ck c]
 unfold kD;rw[bK (by rw[c];simp)]
 have E4:=E3.trans (af (o:=.list (vs.filterMap (kD (.ref dv)))) hT)
 have CL:=ai cH T (.list (vs.filterMap (kD (.ref dv))))
 have CM:=af (o:=.list (vs.filterMap (kD (.ref dv)))) hT _ _ hK3
 revert E4 CL CM;refine gen (upd cH T (.list (vs.filterMap (kD (.ref dv))))) ?_;intro eP E4 CL CM
 refine ae (aS hv (aw hd hg aQ (by rfl') (ar hv [2] rfl ?_)))
 refine ac7 (k:=Str.ofString "integer") (j:=2) (ks:=(Str.ofString "logical",1)::List.replicate m (Str.ofString "integer",2)++[(Str.ofString "integer",2)]) (by rw[CM];simp) (by simp;lia) (fun p hp=>?_) (adt m) (.inr ⟨rfl,rfl⟩) ⟨_,Ez,?_⟩
 simp only[sr,aY,cq,List.mem_replicate,f9,gB]at hp
 rcases hp with rfl|⟨_,rfl⟩|rfl
 exact .inl ⟨rfl,rfl⟩
 exact .inr ⟨rfl,rfl⟩
 exact .inr ⟨rfl,rfl⟩
 have h4:br (SV eP (.int fig)) vs xs:=fW h λ_ _ g=>g.ext E4
 have hlen:(vs.filterMap (kD (.ref dv))).length≤1000000:=dO (uY _ _) (by lia)
 refine ae (a_ (aw hd hg aN (by rfl') (aq (aj hv 4 rfl rfl (aq (fT hv (Xc (w:=w) hv (by rfl) (by rfl)) (.loc (.loc (.cell sO .nil))) aQ (pt:=λy=>bX) (aj hv 3 rfl rfl ⟨T,vs.filterMap (kD (.ref dv)),nV eP,rfl,CL,hlen,?_,λB hB=>aK ?_⟩)))))))
 intro y hy τ F Γc e1 e2 e3
 refine dE ⟨λ_=>ak.forget ?_,tf⟩
 obtain⟨v,CN,pd⟩:=i4.mp hy
 have key:∃a l x,y=.ref a∧eP a=some (.inst 401 (aV (.str (Str.ofString "integer")) (.ref l) .none))∧eP l=some (.list [x]):=by
  simp only[kD,Option.some.injEq]at pd
  obtain⟨x,hx⟩:=M0 h4 v CN
  rcases hx with⟨rfl,_⟩|⟨a,l,rfl,g1,g2⟩
  exact⟨dv,dl,_,by rw[←pd];rfl,E4 _ _ mz,E4 _ _ lF⟩
  exact⟨a,l,x,by rw[←pd];rfl,g1,g2⟩
 obtain⟨a,l,x,rfl,g1,g2⟩:=key
 refine bo (aU (aw (e1.trans hd) e3 aN (by rfl') (aq (ah e2 aD (aq (aj e2 2 rfl rfl (aq (bq (aK ⟨aB,λN hN=>aK ?_⟩)))))))))
 refine adq (af hN _ _ (F _ _ g1)) (af hN _ _ (F _ _ g2)) aB rfl rfl λbf r b E' r1 r2=>vi r1 (aW (bO (i:=0) r2 rfl aB ⟨τ,(af hN).trans E',rfl,CK g1 g2⟩))
 rw[adw (E4 _ _ mz) (E4 _ _ lF) h4]
 refine mW λr hr=>q _ r B (E4.trans ((af hB).trans (af hr))) ((E4.trans (af hB)).none hr) (E4.none hB) (ai _ _ _) (af hr _ _ (ai _ _ _))
end
noncomputable def oC:Obj:=⟨.type "code",none,.fields #[.str "_law_default_right" 3050,.str "_law_default_right" 3051,.str "/claim/cut.py" 3052,.int 2228 0,.int 2 0,.int 0 0,.int 0 0,.int 3 0,.ref 2040,.bool true,.int 181 0,.ref 2041,.none,.ref 2042,.ref 2043,.ref 2044,.int 3062 0,.int 2228 0,.str "/claim/cut.py" 3063],#[]⟩
theorem lC (w:World):lk (Fin w) 2045=some oC:=by rfl'
theorem ady {h:Heap}(e:h.get? 2045=some oC):CodeHd h 2045 2041:=⟨oC,_,_,_,_,_,_,_,_,e,rfl,rfl,rfl,rfl,rfl,rfl,rfl,rfl,by decide⟩
theorem adz (w:World):(hF w.params).nsMap mainGlobals "__builtins__"=some (.ref 4):=by rfl'
theorem adA (w:World):lk (Fin w) 4=some (boot_o_4 w.params):=by rfl'
theorem CO (w:World):(boot_o_4 w.params).cls=.type "module"∧(boot_o_4 w.params).dict=some builtinsNs∧(boot_o_4 w.params).data=.plain:=⟨rfl,rfl,rfl⟩
theorem Known.bat {w:World}{h:Heap}(k:Known w h):h.BuiltinsAt ((hF w.params).nsMap mainGlobals) 2041:=
 ⟨4,_,adz w,by decide,by decide,by decide,k.at (adA w),(CO w).1,(CO w).2.1,(CO w).2.2⟩
theorem Known.mg {w:World}{h:Heap}(k:Known w h):h.Ns mainGlobals ((hF w.params).nsMap mainGlobals):=by
 have f3:h.get? mainGlobals=(hF w.params).get? mainGlobals:=(k.at (a:=3) (o:=oq w.params) (by rfl')).trans rfl
 rw[←jI f3];exact Heap.Ns.of_isNs ((iF f3).trans (qW _))
noncomputable def lst:Stmt:=(bodyOf (ao 271)).getD 1 (.Pass kP)
theorem uL:(bz lst).kind=.function∧(bz lst).isCoroutine=false∧(bz lst).isGenerator=false:=⟨by rfl',by rfl',by rfl'⟩
section
variable{M:Model}{A:Around}{E:VP}{s:Shared}
theorem rV {h:Heap}{o:Obj}{n:Nat}(e:n≤h.objs.size):n≤(h.push o).objs.size:=by rw[jF];exact Nat.le_succ_of_le e
theorem adB {h:Heap}{o:Obj}:h.objs.size<(h.push o).objs.size:=by rw[jF];exact Nat.lt_succ_self _
theorem adC {ctx:CodeContext}{name qualname:Str}{firstLine adD adE adF flags:Nat}{free:List Str}{isFunction:Bool}{parse:Option Nat}{l:List Str×List Str}{fd:FuncData}{Q:VP}
  (hQ:∀c h' tk o,(∀b ob,s.heap.get? b=some ob→h'.get? b=some ob)→s.heap.objs.size≤c→c<h'.objs.size→h'.get? c=some o→o.dict=none→(∃vs t,o.data=.fields vs∧vs[1]? =some (.str qualname t))→Q (.ref c) {s with heap:=h',toks:=tk}):
  wpAny M A (newCode ctx name qualname firstLine adD adE adF flags free isFunction parse (some l) (some fd)) Q E s:=by
 unfold newCode
 refine aP (wpAny_mkText (aP (wpAny_mkText (aP (wpAny_mkText (aP (wpAny_mkStrs λfs=>aP (wpAny_newObjAsIs_type (aP (wpAny_alloc ?_))))))))))
 refine aP (wpAny_mkStrs λa=>aP (wpAny_newObjAsIs_type (aP (wpAny_mkStrs λb=>aP (wpAny_newObjAsIs_type
   (aP (aP (wpAny_alloc (bY (aP (wpAny_fresh (aP (wpAny_mkText (wpAny_newObj_type ?_ (by size_fits)))))))))))))))
 refine hQ _ _ _ _ (λb o e=>dy _ (dy _ (dy _ (dy _ (dy _ (dy _ e)))))) (rV (rV (rV (rV (rV (dp _)))))) adB (jA _ rfl) rfl ⟨_,_,rfl,rfl⟩
theorem adG {env:Env}{c P:Addr}{pos:Pos}{firstLine:Nat}{name qualname:Str}{p:Arguments}{scope:Scope}{body:FuncBody}{Q:VP}(hl:(localNames p scope body).isSome=true)(hc:env.code=.ref c)(C:CodeHd s.heap c P)(hP:s.heap.get? P=some (tabObj #[]))
  (hQ:∀c' h' tk o,Heap.ExtBut P s.heap h'→s.heap.objs.size≤c'→c'<h'.objs.size→h'.get? c'=some o→o.dict=none→(∃vs t,o.data=.fields vs∧vs[1]? =some (.str qualname t))→h'.get? P=some (tabObj #[rawInt pos.line,rawInt pos.col,.ref c'])→Q (.ref c') {s with heap:=h',toks:=tk}):
  wpAny M A (functionCode env pos firstLine name qualname p scope body) Q E s:=by
 obtain⟨o,vs,file,tf,flags,tg,inF,text,tt,ho,_,hd,_,h11,h2,h7,h9,h10,b8⟩:=C
 unfold functionCode codeAt
 rw[hc,bK (Bool.false_ne_true:¬((Value.ref c==Value.none)=true))]
 refine aP (wpAny_fieldsOf ho hd ?_)
 rw[h11]
 refine aP (wpAny_fieldsOf hP rfl ?_)
 rw[(rfl:codeAmong pos (#[]:Array Value).toList=none),h2,h7,h9,h10]
 obtain⟨l,hl⟩:=r8.mp hl
 rw[hl]
 refine aP (adC λc' h' tk oc hk uM dQ mA rW n8=>?_)
 have M4:=hk _ _ hP
 refine aP (wpAny_updateFieldsOfTheText M4 rfl ?_)
 have nU:=kE (h:=h') (Obj.mapFields (λvs=>if(codeAmong pos vs.toList).isSome=true then vs else vs++ #[rawInt pos.line,rawInt pos.col,.ref c'])) M4 rfl
 refine aP (wpAny_fieldsOf nU rfl ?_)
 have hcP:c'≠P:=kN (sq (f_ hP) uM)
 have hca:codeAmong pos (if(codeAmong pos (#[]:Array Value).toList).isSome=true then(#[]:Array Value)else #[]++ #[rawInt pos.line,rawInt pos.col,.ref c']).toList=some (.ref c'):=by
  show codeAmong pos [rawInt pos.line,rawInt pos.col,.ref c']=_
  simp[codeAmong,rawInt]
 rw[hca]
 refine bY (hQ _ _ _ oc (λb ob hb e=>(j4 _ _ (Ne.symm hb)).trans (hk b ob e)) uM (by rw[Heap.size_after_update];exact dQ) ((j4 _ _ (Ne.symm hcP)).trans mA) rW n8 nU)
end
section
variable{M:Model}{A:Around}{E:VP}{s:Shared}
theorem adH {name qual:Str}{params:Arguments}{body:List Stmt}{scope:Scope}{env:Env}{c P:Addr}{pos:Pos}{firstLine:Nat}{mg:Str→Option Value}{q0:Str×Addr}{r0:List (Str×Addr)}{Q:VP}
  (hl:(localNames params scope (.stmts body)).isSome=true)(et:closureFor scope env=pure (q0::r0))(adI:env.globals=mainGlobals)(hg:s.heap.Ns mainGlobals mg)(uN:env.code=.ref c)(C:CodeHd s.heap c P)(hP:s.heap.get? P=some (tabObj #[]))(hgP:mainGlobals≠P)(hb:s.heap.BuiltinsAt mg P)(adJ:docOf body=none)
  (h:∀c' cZ h' tk oc,Heap.ExtBut P s.heap h'→s.heap.objs.size≤c'→c'<h'.objs.size→h'.get? c'=some oc→oc.dict=none→(∃vs t,oc.data=.fields vs∧vs[1]? =some (.str qual t))→h'.get? P=some (tabObj #[rawInt pos.line,rawInt pos.col,.ref c'])→
   Q (.ref h'.objs.size) {s with heap:=h'.push (fnMade name qual params body scope (q0::r0) .none ((mg "__name__").getD .none) c' cZ),toks:=tk}):
  wpAny M A (makeFunction name qual params (.stmts body) scope env [] [] [] pos firstLine) Q E s:=by
 rw[makeFunction_eq]
 simp only[List.zip_nil_right,List.filterMap_nil,List.isEmpty_nil,if_true,pure_bind]
 obtain⟨bm,ob,y_,adK,_,adL,hbo,adM,adN,adO⟩:=hb
 unfold makeTail
 rw[et,adI]
 refine aP (bY ?_)
 simp only[List.isEmpty_cons,jC,if_false]
 refine aP (wpAny_newTextTuple ?_)
 refine aP (adG hl uN (C.keeps λb o e=>dy _ e) (dy _ hP) λc' h' tk oc hx qH dQ mA rW n8 mB=>?_)
 have mj:=(hg.push _).extBut hx hgP
 have tv:Heap.ExtBut P s.heap h':=λb o cg e=>hx b o cg (dy _ e)
 have adP:s.heap.objs.size≤c':=dO (rV (dp _)) qH
 refine aP (wpAny_builtinsFor mj y_ adK (tv _ _ adL hbo) adM adN adO ?_)
 refine aP (wpAny_nsGet mj ?_)
 rw[adJ]
 exact aP (bY (wpAny_newObj_type (h c' _ h' tk oc tv adP dQ mA rW n8 mB) (by size_fits)))
end
section
variable{w:World}{Γ:Ctx}{s:Shared}{σ:Hp}{ρ:LO}{QT:PF}{vars:KV}
noncomputable abbrev hJ (cc c':Addr)(qual:Str)(pm cZ:Value):Obj:=fnMade (nameOf lst) qual (sE lst) (bodyOf lst) (bz lst) [(("heard":Str),cc)] .none pm c' cZ
theorem M5:(bz lst).names=([("inner",.local),("args",.local),("env",.local),("heard",.free),("len",.globalImplicit),("whole",.globalImplicit),("sum",.globalImplicit)]:SN):=by rfl'
theorem adQ:lst=.FunctionDef (nameOf lst) (sE lst) (bodyOf lst) [] none [] (bz lst) none (nameOf lst) ⟨2231,4,2233,43⟩:=by rfl'
theorem adR {env:Env}{cc:Addr}(h:env.cells.lookup ("heard":Str)=some cc):closureFor (bz lst) env=pure [(("heard":Str),cc)]:=by
 rw[AR λn hn=>?_]
 rw[M5]
 simp[cV,h]
 rw[M5]at hn
 simp only[aY,kL,reduceCtorEq,and_false,and_true,f9,gB,false_or]at hn
 exact⟨cc,by rw[hn];exact h⟩
theorem aT.nest (hv:Γ.vars=vars)(uN:Γ.env.code=.ref 2045){cc:Addr}(eA:Γ.env.cells.lookup ("heard":Str)=some cc)(hP:σ 2041=some (.raw (tabObj #[]) none))
  (q:∀f c' qual pm cZ gK oc,σ f=none→σ c'=none→c'≠f→c'≠2041→f≠2041→(∃vs t,oc.data=.fields vs∧vs[1]? =some (.str qual t))→
   ∃bj,Pt vars ρ (nameOf lst) (.ref f) bj∧QT .next (upd (upd (upd σ 2041 (.raw (tabObj gK) none)) c' (.raw oc none)) f (.raw (hJ cc c' qual pm cZ) none)) bj):
  aT w Γ lst σ ρ QT:=by
 subst hv
 refine⟨λS s D k X hk=>?_⟩
 have KN:=D.known S
 obtain⟨pv,_⟩:=D.hr.at_ _ _ hP
 rw[adQ]
 refine nestDef_K (by rfl') (by rfl') rfl ?_
 refine adH (by rfl') (adR eA) S.eg KN.mg uN (ady (KN.at (lC w))) pv (by decide) KN.bat (by rfl') λc' cZ h' tk oc hx qH dQ mA rW n8 mB=>?_
 have M6:=f_ pv
 have ne1:c'≠2041:=kN (sq M6 qH)
 have ne2:c'≠h'.objs.size:=oj dQ
 have ne3:h'.objs.size≠2041:=kN (sq M6 (dO qH (Nat.le_of_lt dQ)))
 have T1:=kE (h:=s.heap) (λ_=>tabObj #[rawInt (2231:Nat),rawInt (4:Nat),.ref c']) pv rfl
 have T2:∀b,b≠2041→(s.heap.update 2041 λ_=>tabObj #[rawInt (2231:Nat),rawInt (4:Nat),.ref c']).get? b=s.heap.get? b:=λb hb=>j4 _ _ (Ne.symm hb)
 have D1:=D.set (s':={s with heap:=s.heap.update 2041 λ_=>tabObj #[rawInt (2231:Nat),rawInt (4:Nat),.ref c']}) hP (bD.mpr (.inl rfl)) T2 (At.raw T1 rfl) (by show foot _ _=foot _ _;rw[jv T1,jv pv];rfl) rfl rfl
 generalize hH1:s.heap.update 2041 (λ_=>tabObj #[rawInt (2231:Nat),rawInt (4:Nat),.ref c'])=H1 at*
 have G1:∀b o,H1.get? b=some o→h'.get? b=some o:=λb o e=>by
  by_cases hb:b=2041
  rw[hb,T1]at e;cases e;rw[hb];exact mB
  exact hx b o hb ((T2 b hb).symm.trans e)
 have n1:H1.get? c'=none:=by rw[T2 c' ne1];exact jz qH
 obtain⟨D2,f1⟩:=az.new (s':={s with heap:=h',toks:=tk}) D1 G1 (At.raw mA (zg rW)) (λb hb=>by
  have hb:b∈foot h' c':=hb
  rw[jv mA,zg rW]at hb
  have:b=c':=by simpa using hb
  rw[this];exact n1) rfl rfl
 have uO:(h'.push (hJ cc c' (qualnameIn Γ.env (nameOf lst) (nameOf lst)) (((hF w.params).nsMap mainGlobals "__name__").getD .none) cZ)).get? h'.objs.size=some (hJ cc c' (qualnameIn Γ.env (nameOf lst) (nameOf lst)) (((hF w.params).nsMap mainGlobals "__name__").getD .none) cZ):=jA _ rfl
 obtain⟨D3,f2⟩:=az.new (s':={s with heap:=h'.push (hJ cc c' (qualnameIn Γ.env (nameOf lst) (nameOf lst)) (((hF w.params).nsMap mainGlobals "__name__").getD .none) cZ),toks:=tk}) D2 (fun b o e=>dy _ e) (At.raw uO rfl) (fun b hb=>by
  have hb:b∈foot (h'.push (hJ cc c' (qualnameIn Γ.env (nameOf lst) (nameOf lst)) (((hF w.params).nsMap mainGlobals "__name__").getD .none) cZ)) h'.objs.size:=hb
  rw[jv uO]at hb
  have:b=h'.objs.size:=by simpa [eK]using hb
  rw[this];exact jz (dp _)) rfl rfl
 have f1':σ c'=none:=by rw[aJ ne1]at f1;exact f1
 have f2':σ h'.objs.size=none:=by rw[aJ (Ne.symm ne2),aJ ne3]at f2;exact f2
 obtain⟨bj,pt,qq⟩:=q _ c' _ (((hF w.params).nsMap mainGlobals "__name__").getD .none) cZ _ oc f2' f1' ne2 ne1 ne3 n8
 exact mP S D3 pt λgi jh=>hk .next gi _ bj qq jh
end
theorem adS (w:World):(i9 w "whole").map er=some (.ref 588):=by
 unfold i9
 rewrite [(by rfl':(hF w.params).nsMap mainGlobals "whole"=some (.ref 588))]
 rfl
noncomputable abbrev uP:KV:=[("inner",.loc),("args",.loc),("env",.loc),("heard",.free)]
noncomputable abbrev uQ:LV:=[("len",V.cK (Value.builtin "len")),("whole",V.ref 588),("sum",V.cK (Value.builtin "sum"))]
theorem adT (w:World):∀p∈uQ,(i9 w p.1).map er=some p.2:=λp hp=>by
 have h:=vP w (gls:=[(("len":Str),V.cK (Value.builtin "len")),(("sum":Str),V.cK (Value.builtin "sum"))]) [9,80] (by rfl')
 simp only[bx,List.map_nil,jD,and_true]at h
 simp only[aY,f9,gB]at hp
 rcases hp with rfl|rfl|rfl
 exact h.1
 exact adS w
 exact h.2
theorem Lk.of {P:Str→VK→V→Prop}{vs:KV}{ρ:LO}{x:Str}{k:VK}{v:V}(h:Lk vs ρ x k v)(a:br (λ(p:Str×VK)(o:Option V)=>∀v,o=some v→P p.1 p.2 v) vs ρ):P x k v:=by
 induction h with
 |here=>cases a with|cons h _=>exact h _ rfl
 |there _ ih=>cases a with|cons _ t=>exact ih t
section
variable{w:World}{d:Nat}{σ:Hp}{Q:PQ}
theorem Call.clo {f cc c':Addr}{qual:Str}{pm cZ lv:Value}{oc dc:Obj}{x1 x2 x3:V}(hf:σ f=some (.raw (hJ cc c' qual pm cZ) none))(mA:σ c'=some (.raw oc none))(n8:∃vs t,oc.data=.fields vs∧vs[1]? =some (.str qual t))(eA:σ cc=some (.raw dc none))(pM:dc.data=.cell (some lv))
  (body:∀Γ:Ctx,Γ.d=d→Γ.vars=uP→Γ.gls=uQ→dj w Γ (bodyOf lst) (off σ cc) [some x1,some x2,some x3,some (er lv)] λfl σ' _=>σ' cc=none→Q (rv fl) (upd σ' cc (.raw dc none))):Call w (d+1) (.ref f) [x1,x2,x3] σ Q:=by
 refine⟨fun Γ hd ρ fv args jK ez S s D k X hk=>?_⟩
 refine bJ jK ?_
 obtain⟨a1,a2,a3,rfl,e1,e2,e3⟩:=args_3 ez
 have q6:Known w s.heap:=D.known S
 obtain⟨news,N,oy,lR⟩:=D.news
 obtain⟨mf,F⟩:=D.fr
 obtain⟨FG,BG,iI,lv'⟩:=groundX (R:=λr s'=>match r with|.ok (.ret v)=>k v s'|.ok _=>False|.error e=>X e s') S.B F N S.hA S.hf S.hk
 generalize hG:hideAll s.heap (news.map (·.1))=G at FG BG iI lv'
 have zx:Γ.A.depth<recursionLimit:=by have:=S.dep;lia
 obtain⟨uO,_⟩:=D.hr.at_ _ _ hf
 obtain⟨jb,_⟩:=D.hr.at_ _ _ mA
 obtain⟨et,Ed⟩:=D.hr.at_ _ _ eA
 have M7:eK dc=none:=by unfold eK;rw[pM]
 obtain⟨vs,t,CN,pd⟩:=n8
 refine codeAny_call_def (fd:=fnX (nameOf lst) qual (sE lst) (bodyOf lst) (bz lst) [(("heard":Str),cc)] .none .none .none pm none (.ref c') cZ) (body:=bodyOf lst) (binds:=[("inner",a1),("args",a2),("env",a3)]) zx uO rfl q6.nolimit ⟨c',oc,vs,t,rfl,jb,CN,pd⟩ rfl (BindsTo.of_eq (by rfl')) (fun x hx=>?_) (fun x hx=>?_) (fun h₁ hV kT=>?_) uL.2.1 uL.2.2 uL.1
 have:=ew.mp (by rfl':((bz lst).names.all λx=> !(x.2==NameKind.cell))=true) x hx
 exact λe=>absurd this (by rw[e];decide)
 show(bz lst).names.lookup x.1=some .local
 exact eq_of_beq (ew.mp (by rfl':((["inner","args","env"]:List Str).all fun n=>(bz lst).names.lookup n==some .local)=true) x.1 (cB (f:=Prod.fst) hx))
 have q5:∀b o,G.get? b=some o→s.heap.get? b=some o:=λb o e=>of_hideAll _ (hG▸e)
 have vB:∀b∈news.map (·.1),G.get? b=none:=λb hb=>by rw[←hG];exact hideAll_none _ hb
 have pG:G.objs.size=s.heap.objs.size:=by rw[←hG];exact hideAll_size _ _
 have kS:∀b o,s.heap.get? b=some o→b∉news.map (·.1)→G.get? b=some o:=λb o e n=>by rw[←hG];exact mE _ e n
 have dQ:∀a o,σ a=some o→∀b∈foot s.heap a,b<s.heap.objs.size:=λa o sa b hb=>by
  obtain⟨z,hz⟩:=(D.hr.at_ a o sa).live b hb
  exact f_ hz
 have KG:Known w G:=S.K.keeps iI
 have uR:cc<s.heap.objs.size:=dQ cc _ eA cc (bD.mpr (.inl rfl))
 have adU:G.get? cc=none:=vB cc (oy cc _ eA cc (bD.mpr (.inl rfl)))
 let E:Env:=envX qual (bz lst) s.heap.objs.size f (.ref c') [(("heard":Str),cc)]
 let aE:Ctx:={A₀:=Γ.A,A:=Γ.A.deeper E,base:=Γ.base,h₀:=G,outer:=Γ.iG::Γ.outer,iG:=E,FL:=s.heap.objs.size,env:=E,kp:=[(cc,dc)],vars:=uP,gls:=uQ,fm:=none,d:=d,os:=Γ.os}
 have zz:∀b,s.heap.objs.size≤b→G.get? b=none:=λb hb=>by
  cases e:G.get? b with
  |none=>rfl
  |some o=>exact absurd (f_ e) (by rw[pG];exact Nat.not_lt.mpr hb)
 have sT:∀b∈aE.bM,b=s.heap.objs.size∨b=cc:=by
  intro b hb
  have hb:b∈s.heap.objs.size::s.heap.objs.size::([cc]++[cc]):=hb
  simp only[aY,cq,f9,gB]at hb
  rcases hb with h|h|h|h
  exact .inl h
  exact .inl h
  exact .inr h
  exact .inr h
 have Ek:∀y,E.kindOf y=(bz lst).names.lookup y:=λy=>rfl
 have CP:∀x b,E.cells.lookup x=some b→x="heard"∧b=cc:=fun x b h=>by
  have h:([(("heard":Str),cc)]:List (Str×Addr)).lookup x=some b:=h
  have:=mem_of_lookup h
  simp only[dm,kL]at this
  exact this
 have S':bt w aE:=by
  refine⟨S.hh,λp hp=>?_,λp hp=>?_,BG,Around.frames_deeper S.hA,rfl,uL.1,uL.1,rfl,rfl,rfl,λp hp=>?_,z6 (f:=hs) (vO (by rfl')),λx y b hx hy=>(CP x b hx).1.trans (CP y b hy).1.symm,λx b hb=>?_,λh=>?_,λh=>?_,λp hp=>?_,λp hp=>?_,λ_=>rfl,λb hb=>?_,KG,?_,?_⟩
  have:=ew.mp (by rfl':(uP.all fun p=> !(p.1==("__debug__":Str))&& !(p.1==("__classdict__":Str)))=true) p hp
  simpa using this
  have hp:p∈uQ:=hp
  have e:=adT w p hp
  have:=ew.mp (by rfl':(uQ.all fun p=>(bz lst).names.lookup p.1==some .globalImplicit&& !(p.1==("__debug__":Str)))=true) p hp
  rw[mC]at this
  exact⟨eq_of_beq this.1,by simpa using this.2,eJ.mp e⟩
  have:=ew.mp (by rfl':(uP.all λp=>match p.2 with|.loc=>(bz lst).names.lookup p.1==some .local|.free=>(bz lst).names.lookup p.1==some .free|.cell=>false)=true) p hp
  obtain⟨y,j⟩:=p
  cases j with
  |cell=>cases this
  |_=>exact eq_of_beq this
  obtain⟨_,rfl⟩:=CP x b hb
  refine⟨oj uR,oj uR,λhm=>?_⟩
  have hm:(x,VK.cell)∈uP:=hm
  simp at hm
  have h:s.heap.objs.size∈[cc]:=h
  exact kN uR (by simpa using h)
  have h:s.heap.objs.size∈[cc]:=h
  exact kN uR (by simpa using h)
  have hp:p∈[(("heard":Str),cc)]:=hp
  rw[dm.mp hp]
  exact oj uR
  have hp:p∈[(("heard":Str),cc)]:=hp
  rw[dm.mp hp]
  rfl
  rcases sT b hb with rfl|rfl
  exact zz _ (dp _)
  exact adU
  have:=S.dep
  show Γ.A.depth+1+6*d<_
  lia
  have:=S.un
  show Γ.A.units+3+40*d+40<_
  lia
 have zB:∀a o,σ a=some o→foot h₁ a=foot s.heap a:=λa o sa=>by
  obtain⟨z,hz⟩:=(D.hr.at_ a o sa).live a (bD.mpr (.inl rfl))
  exact ey (by rw[hz];exact kT _ _ hz)
 have HG:=D.hr.grow kT
 have adV:∀{a:Addr}{o:MO},off σ cc a=some o→a≠cc:=λh q=>by rw[q,dA]at h;cases h
 have D':az w aE {s with heap:=h₁,toks:=s.toks+3} (off σ cc) [some x1,some x2,some x3,some (er lv)]:=by
  refine⟨⟨_,⟨hV,λb o e=>kT b o (q5 b o e),Nat.le_of_eq pG⟩⟩,⟨λa o h=>HG.at_ a o (c_ _ _ h),λa b oa ob ha hb=>HG.apart a b oa ob (c_ _ _ ha) (c_ _ _ hb),?_⟩,λa o sa b hb=>?_,λp hp=>?_,λp hp=>?_,⟨_,hV,λy j v hx=>?_⟩,D.gens,D.os,λf e=>(nomatch e)⟩
  obtain⟨l,hl⟩:=D.hr.fin
  exact⟨l,λa o h=>hl a o (c_ _ _ h)⟩
  have jJ:=c_ _ _ sa
  have cg:b∈foot s.heap a:=zB a o jJ▸hb
  refine⟨vB b (oy a o jJ b cg),λhp=>?_⟩
  rcases sT b hp with rfl|rfl
  exact absurd (dQ a o jJ _ cg) (Nat.lt_irrefl _)
  exact D.hr.apart a b o _ jJ eA (adV sa) b cg (bD.mpr (.inl rfl))
  have hp:p∈[(cc,dc)]:=hp
  rw[dm.mp hp]
  exact kT _ _ et
  have hp:p∈[(("heard":Str),cc)]:=hp
  rw[dm.mp hp]
  exact⟨_,dc,kT _ _ et,pM⟩
  refine Lk.of (P:=λy j v=>DP _ _ _ y v j) hx (.cons (λ_ e=>?_) (.cons (λ_ e=>?_) (.cons (λ_ e=>?_) (.cons (λ_ e=>?_) .nil))))
  exact⟨a1,rfl,e1.trans (j7 e)⟩
  exact⟨a2,rfl,e2.trans (j7 e)⟩
  exact⟨a3,rfl,e3.trans (j7 e)⟩
  exact⟨cc,lv,rfl,⟨dc,kT _ _ et,pM⟩,j7 e⟩
 refine(body aE rfl rfl rfl).run S' _ D' _ _ λfl aG aZ dz hq aA=>?_
 have nu:aG.heap.get? cc=some dc:=aA.kp (cc,dc) bA
 have qI:foot aG.heap cc=[cc]:=by rw[jv nu,M7];rfl
 have low:∀{b ob},upd aZ cc (.raw dc none) b=some ob→b≠cc→aZ b=some ob:=λh hb=>by rwa[aJ hb]at h
 have H3:HR w aG.heap (upd aZ cc (.raw dc none)):=by
  refine⟨λb ob sb=>?_,λb c ob oc sb sc ne y yb yc=>?_,?_⟩
  by_cases hb:b=cc
  subst hb;rw[ai]at sb;cases sb;exact At.raw nu M7
  exact aA.hr.at_ b ob (low sb hb)
  by_cases hb:b=cc
  subst hb
  rw[qI]at yb
  have:y=b:=by simpa using yb
  subst this
  exact(aA.free c oc (low sc (Ne.symm ne)) y yc).2 (by show y∈s.heap.objs.size::s.heap.objs.size::([y]++[y]);simp)
  by_cases hc:c=cc
  subst hc
  rw[qI]at yc
  have:y=c:=by simpa using yc
  subst this
  exact(aA.free b ob (low sb hb) y yb).2 (by show y∈s.heap.objs.size::s.heap.objs.size::([y]++[y]);simp)
  exact aA.hr.apart b c ob oc (low sb hb) (low sc hc) ne y yb yc
  obtain⟨l,hl⟩:=aA.hr.fin
  refine⟨cc::l,λb ob sb=>?_⟩
  by_cases hb:b=cc
  rw[hb];exact bA
  exact bw _ (hl b ob (low sb hb))
 have bN:az w Γ aG (upd aZ cc (.raw dc none)) ρ:=by
  obtain⟨m₂,pH⟩:=aA.fr
  refine D.move (λb o e off=>pH.keep b o (kS b o e λhb=>?_)) H3 (λa o sa b hb=>?_) (aA.gens.trans D.gens.symm) (aA.os.trans D.os.symm)
  obtain⟨p,hp,rfl⟩:=cF.mp hb
  obtain⟨a,o',sa,cg⟩:=lR p hp
  exact off a o' sa cg
  by_cases ha:a=cc
  subst ha
  rw[qI]at hb
  have:b=a:=by simpa using hb
  subst this
  exact .inl ⟨b,_,eA,bD.mpr (.inl rfl)⟩
  have hn:=(aA.free a o (low sa ha) b hb).1
  cases e:s.heap.get? b with
  |none=>exact .inr rfl
  |some ob=>
   by_cases cg:b∈news.map (·.1)
   refine bZ cg λp hp=>?_
   obtain⟨a',o',jJ,sU⟩:=lR p hp
   exact .inl ⟨a',o',jJ,sU⟩
   have:=kS b ob e cg
   rw[(rfl:aE.h₀=G),this]at hn
   cases hn
 have hn:aZ cc=none:=by
  cases q:aZ cc with
  |none=>rfl
  |some o=>exact absurd (by show cc∈s.heap.objs.size::s.heap.objs.size::([cc]++[cc]);simp:cc∈aE.bM) (aA.free cc o q cc (bD.mpr (.inl rfl))).2
 cases fl<;>exact hk _ aG _ (hq hn) bN
end
noncomputable def Ctx.bare (Γ:Ctx)(vl:KV):Ctx:={Γ with env:={Γ.env with cells:=[]},vars:=vl,gls:=[]}
theorem Lk.adW {vl:KV}{ρl:LO}{x:Str}{k:VK}{v:V}(h:Lk vl ρl x k v)(vr:KV)(n9:LO):Lk (vl++vr) (ρl++n9) x k v:=by
 induction h with
 |here=>exact .here
 |there _ ih=>exact .there ih
theorem Lk.split {vl:KV}:∀{ρl:LO}{vr:KV}{n9:LO}{x:Str}{k:VK}{v:V},vl.length=ρl.length→Lk (vl++vr) (ρl++n9) x k v→Lk vl ρl x k v∨Lk vr n9 x k v:=by
 induction vl with
 |nil=>
  intro ρl vr n9 x k v hl h
  cases ρl with
  |nil=>exact .inr h
  |cons _ _=>cases hl
 |cons p vs ih=>
  intro ρl vr n9 x k v hl h
  cases ρl with
  |nil=>cases hl
  |cons o M8=>
   have hl:vs.length=M8.length:=by simpa using hl
   rcases h.inv with⟨e1,e2⟩|h
   exact .inl (e1▸e2▸.here)
   exact(ih hl h).imp .there id
theorem Lk.M9 {vr:KV}{n9:LO}{x:Str}{k:VK}{v:V}(h:Lk vr n9 x k v):∀{vl:KV}{ρl:LO},vl.length=ρl.length→Lk (vl++vr) (ρl++n9) x k v
 | [],[],_=>h
 | [],_::_,hl=>by cases hl
 |_::_,[],hl=>by cases hl
 |_::vs,_::M8,hl=>.there (h.M9 (by simpa using hl))
section
variable{w:World}{Γ:Ctx}{σ:Hp}{ρ:LO}{Q:PQ}{vars:KV}{gls:LV}{n:Nat}
theorem ak.adX {x np pos args}(h:ak w Γ (.Name x np) σ ρ λfv aH=>∃a,fv=.ref a∧keepIn (Kc w) (.ref a)=true∧eC w Γ pos args aH ρ λvs aZ=>∀as,as.map er=vs→Op w Γ (PySem.call (.ref a) as) aZ ρ Q)
  (hp:∀env,(backTo pos (starEach args env)).any (·.1)=false:=by intro _;rfl):ak w Γ (.Call (.Name x np) args [] pos) σ ρ Q:=by
 refine⟨λS s D k X hk=>qS (h.run S s D _ X λf av aH q aL=>?_)⟩
 obtain⟨a,e,pP,q⟩:=q
 refine bJ e ?_
 have gX:(backTo pos (starEach args Γ.env)).any (·.1)=false:=hp _
 refine callWith_of (P:=(Kc w).In) (by rw[gX];rfl) (λh kY=>keeps_K pP h kY) (lU gX (q.run S av aL _ X λvs aG aZ c aA=>⟨ji (aA.known S),?_⟩))
 exact c vs rfl S aG aA k X hk
theorem Call.lend {cc a:Addr}{vl:KV}{ρl:LO}{v:V}{vs:List V}(hd:n≤Γ.d)(et:Γ.env.cells=[(("heard":Str),cc)])(hv:Γ.vars=vl++[(("heard":Str),VK.cell)])(tG:∀p∈vl,p.2=.loc)(hlen:vl.length=ρl.length)(i_:ρ=ρl++[some v])
  (h:∀(dc:Obj)(lv:Value),dc.data=.cell (some lv)→er lv=v→σ cc=none→Call w n (.ref a) vs (upd σ cc (.raw dc none)) λu σ'=>σ' cc=some (.raw dc none)∧Q u (off σ' cc)):∀as,as.map er=vs→Op w Γ (PySem.call (.ref a) as) σ ρ Q:=by
 intro as ha S s D k X hk
 subst i_
 obtain⟨ml,hl,hh⟩:=D.loc
 obtain⟨c',lv,uM,⟨dc,ho,lG⟩,M_⟩:=hh "heard" .cell v (by rw[hv];exact Lk.M9 .here hlen)
 rw[et]at uM
 have adY:c'=cc:=by
  have:=mem_of_lookup uM
  simpa using this
 subst adY
 have pE:Γ.env.cells.lookup ("heard":Str)=some c':=by rw[et];rfl
 have mi:c'∈Γ.bM:=eS pE
 obtain⟨n1,n2,n3⟩:=S.lc _ _ pE
 have n3:=n3 (by rw[hv];exact jy _ bA)
 have hσ:σ c'=none:=by
  cases q:σ c' with
  |none=>rfl
  |some o=>exact absurd mi (D.free c' o q c' (bD.mpr (.inl rfl))).2
 have Nc:eK dc=none:=by unfold eK;rw[lG]
 have qI:foot s.heap c'=[c']:=by rw[jv ho,Nc];rfl
 have low:∀{σ':Hp} {b ob},upd σ' c' (.raw dc none) b=some ob→b≠c'→σ' b=some ob:=λh hb=>by rwa[aJ hb]at h
 have ep:∀b,b∈(Γ.bare vl).bM→b=Γ.FL∨b=Γ.env.locals∨b∈Γ.kp.map (·.1):=λb hb=>by
  have hb:b∈Γ.FL::Γ.env.locals::([]++Γ.kp.map (·.1)):=hb
  simpa using hb
 have Nf:∀b,b∈(Γ.bare vl).bM→b∈Γ.bM:=λb hb=>by
  rcases ep b hb with rfl|rfl|h
  exact Γ.dG
  exact Γ.fP
  refine bZ h λp hp=>?_;exact iH hp
 have S':bt w (Γ.bare vl):=by
  obtain⟨a1,a2,a3,a4,a5,a6,a7,a8,a9,d_,eT,gk,gF,ia,ib,kZ,k_,oH,oI,lV,iM,kh,lW,lX⟩:=S
  refine⟨a1,λp hp=>a2 p (by rw[hv];exact gO _ hp),λp hp=>(nomatch hp),a4,a5,a6,a7,a8,a9,d_,eT,λp hp=>?_,?_,λx y c h=>(nomatch h),λx c h=>(nomatch h),kZ,k_,λp hp=>(nomatch hp),λp hp=>(nomatch hp),lV,λb hb=>iM b (Nf b hb),kh,lW,lX⟩
  have h1:=gk p (by rw[hv];exact gO _ hp)
  have h2:=tG p hp
  unfold DQ at h1 ⊢
  rw[h2]at h1 ⊢
  exact h1
  rw[hv,df]at gF
  exact(List.nodup_append.mp gF).1
 have H1:HR w s.heap (upd σ c' (.raw dc none)):=by
  refine⟨λb ob sb=>?_,λb c ob oc sb sc ne y yb yc=>?_,?_⟩
  by_cases hb:b=c'
  subst hb;rw[ai]at sb;cases sb;exact At.raw ho Nc
  exact D.hr.at_ b ob (low sb hb)
  by_cases hb:b=c'
  subst hb
  rw[qI]at yb
  have:y=b:=by simpa using yb
  subst this
  exact(D.free c oc (low sc (Ne.symm ne)) y yc).2 mi
  by_cases hc:c=c'
  subst hc
  rw[qI]at yc
  have:y=c:=by simpa using yc
  subst this
  exact(D.free b ob (low sb hb) y yb).2 mi
  exact D.hr.apart b c ob oc (low sb hb) (low sc hc) ne y yb yc
  obtain⟨l,hl⟩:=D.hr.fin
  refine⟨c'::l,λb ob sb=>?_⟩
  by_cases hb:b=c'
  rw[hb];exact bA
  exact bw _ (hl b ob (low sb hb))
 have D':az w (Γ.bare vl) s (upd σ c' (.raw dc none)) ρl:=by
  refine⟨D.fr,H1,λa o sa b hb=>?_,D.kp,λp hp=>(nomatch hp),⟨ml,hl,λx k u hx=>?_⟩,D.gens,D.os,D.fm⟩
  by_cases ha:a=c'
  subst ha
  rw[qI]at hb
  have:b=a:=by simpa using hb
  subst this
  refine⟨S.new _ mi,λhp=>?_⟩
  rcases ep b hp with h|h|h
  exact n1 h
  exact n2 h
  exact n3 h
  have:=D.free a o (low sa ha) b hb
  exact⟨this.1,λhp=>this.2 (Nf b hp)⟩
  have h1:=hh x k u (by rw[hv];exact hx.adW _ _)
  have h2:=tG _ hx.mem
  have h2:k=.loc:=h2
  subst h2
  exact h1
 refine wpAny_call ((h dc lv lG M_ hσ).run (Γ.bare vl) hd ρl (.ref a) as rfl ha S' s D' (λu s'=>k u s') X λu aG aZ q aA=>?_)
 obtain⟨q1,q2⟩:=q
 obtain⟨Ng,_⟩:=aA.hr.at_ _ _ q1
 obtain⟨m2,jR,hh2⟩:=aA.loc
 refine hk u aG _ q2 ⟨aA.fr,⟨λa o h=>aA.hr.at_ a o (c_ _ _ h),λa b oa ob ha hb=>aA.hr.apart a b oa ob (c_ _ _ ha) (c_ _ _ hb),?_⟩,λa o sa b hb=>?_,aA.kp,λp hp=>?_,⟨m2,jR,λx k u hx=>?_⟩,aA.gens,aA.os,aA.fm⟩
 obtain⟨l,hl⟩:=aA.hr.fin
 exact⟨l,λa o h=>hl a o (c_ _ _ h)⟩
 have jJ:=c_ _ _ sa
 have sH:a≠c':=λe=>by rw[e,dA]at sa;cases sa
 have:=aA.free a o jJ b hb
 refine⟨this.1,λhp=>?_⟩
 have hp:b∈Γ.FL::Γ.env.locals::(Γ.env.cells.map (·.2)++Γ.kp.map (·.1)):=hp
 rw[et]at hp
 simp only[bx,List.map_nil,aY,cq,f9,gB]at hp
 rcases hp with h|h|h|h
 exact this.2 (by rw[h];exact(Γ.bare vl).dG)
 exact this.2 (by rw[h];exact(Γ.bare vl).fP)
 subst h
 exact aA.hr.apart a b _ _ jJ q1 sH b hb (bD.mpr (.inl rfl))
 obtain⟨p,wQ,rfl⟩:=cF.mp h
 exact this.2 (iH (Γ:=Γ.bare vl) wQ)
 rw[et]at hp
 rw[dm.mp hp]
 exact⟨_,dc,Ng,lG⟩
 rw[hv]at hx
 rcases Lk.split hlen hx with h|h
 have h1:=hh2 x k u h
 have h2:k=.loc:=tG _ h.mem
 subst h2
 exact h1
 cases h with
 |here=>exact⟨c',lv,pE,⟨dc,Ng,lG⟩,M_⟩
 |there h=>cases h
end
section
variable{w:World}{Γ:Ctx}{σ:Hp}{ρ:LO}{Q:PQ}{QT:PF}
theorem ak.adZ {o name apos pw args pos}(h:ak w Γ o σ ρ λov aH=>∃(a C f:Addr)(fs:List (Str×Option V)),ov=.ref a∧aH a=some (.inst C fs)∧(name,some (V.ref f))∈fs∧gE w C=true∧bP w C name=true∧(∃cc c' qual pm cZ,aH f=some (.raw (hJ cc c' qual pm cZ) none))∧
   eC w Γ pos (pw::args) aH ρ λvs aZ=>(∃cc c' qual pm cZ,aZ f=some (.raw (hJ cc c' qual pm cZ) none))∧Call w Γ.d (.ref f) vs aZ Q)
  (m7:∀env,attributeBase o name env (eval o env)=eval o env:=by intro _;rfl)
  (m8:∀env,((backTo pos (starEach (pw::args) env)).all (λx=> !x.1)&&(backToKw pos (keywordEach [] env)).all (λx=>x.1.isSome)&&decide ((pw::args).length+([]:List Keyword).length+(if([]:List Keyword).isEmpty then 0 else 1)<30))=true:=by intro _;rfl)
  (eG:(apos.endLine==pos.line)=true:=by rfl)(hp:∀env,(backTo pos (starEach (pw::args) env)).any (·.1)=false:=by intro _;rfl):ak w Γ (.Call (.Attribute o name apos) (pw::args) [] pos) σ ρ Q:=by
 refine⟨λS s D k X hk=>?_⟩
 rw[arm_eval_Call,m7]
 refine aP (h.run S s D _ X λov av aH q aL=>?_)
 obtain⟨a,C,f,fs,eo,ha,hm,hc,hf,⟨cc,c',qual,pm,cZ,uO⟩,q⟩:=q
 refine bJ eo ?_
 obtain⟨d,es,n,sl,e,I,e2,ff,nd⟩:=(aL.hr.at_ _ _ ha).s8
 obtain⟨u,hu,qp⟩:=fB.getL ff nd hm
 obtain rfl:=vx qp
 unfold gE at hc
 simp only[fN]at hc
 obtain⟨⟨⟨c1,c2⟩,c3⟩,c4⟩:=hc
 have rR:=ji (aL.known S)
 refine aP (j8 ?_)
 have AJ:methodCallForm ((pw::args).length+([]:List Keyword).length) (backTo pos (starEach (pw::args) Γ.env)) (backToKw pos (keywordEach [] Γ.env))=true:=m8 _
 have gH:methodCallPos true o Γ.env apos pos=pure pos:=by unfold methodCallPos;simp[eG]
 unfold methodCall
 rw[AJ]
 refine aP (gA (method_usual (K:=Kc w) rR I (plainGet_of (name:="kind") c1).1 (plainGet_of (name:="kind") c1).2 (vK hf) rfl ?_))
 refine get_value rR I (plainGet_of (name:="kind") c1).1 (findObj_own c2 (vK hf) rfl (by rw[lookIn_dict];exact hu)) rfl ?_
 refine aP (wpAny_of_eq gH ?_)
 have gX:(backTo pos (starEach (pw::args) Γ.env)).any (·.1)=false:=hp _
 have fnAt:∀{h:Heap}{σ':Hp} {cc c' qual pm cZ},HR w h σ'→σ' f=some (.raw (hJ cc c' qual pm cZ) none)→FnAt f h:=λH hh=>⟨_,_,_,_,(H.at_ _ _ hh).1⟩
 refine callWith_of (P:=FnAt f) (by rw[gX];rfl) (λh kY=>keeps_F h kY) (lU gX (q.run S _ (aL.toks _) _ X λvs aG aZ c aA=>?_))
 obtain⟨⟨cc2,c2',afy,pm2,afz,ad0⟩,c⟩:=c
 exact⟨fnAt aA.hr ad0,c.ok (dp _) (args:=vs) rfl rfl S aG aA k X hk⟩
theorem aT.ad1 {body h₀ hs xJ fs pos}(h:dj w Γ body σ ρ λfl aH bj=>dj w Γ (xJ::fs) aH bj λqJ aZ dz=>match qJ with|.next=>QT fl aZ dz|qJ=>QT qJ aZ dz):aT w Γ (.Try body (h₀::hs) [] (xJ::fs) pos) σ ρ QT:=by
 have fin:∀(S:bt w Γ) (f:Flow) (av:Shared) (aH:Hp) (bj:LO) (q:dj w Γ (xJ::fs) aH bj λqJ aZ dz=>match qJ with|.next=>QT (sQ f) aZ dz|qJ=>QT qJ aZ dz) (aL:az w Γ av aH bj) (k:Flow→Shared→Prop) (X:VP),
   (∀a s' σ' aR,QT (sQ a) σ' aR→az w Γ s' σ' aR→k a s')→wpAny (model aC w) Γ.A (execs (xJ::fs) Γ.env) (λg s'=>match g with|.next=>k f s'|g=>k g s') X av:=by
  intro S f av aH bj q aL k X hk
  refine q.run S av aL _ X λg aG aZ dz b_ aA=>?_
  cases g with
  |next=>exact hk f aG aZ dz b_ aA
  |brk=>exact hk _ aG aZ dz b_ aA
  |cont=>exact hk _ aG aZ dz b_ aA
  |ret v=>exact hk _ aG aZ dz b_ aA
 refine⟨λS s D k X hk=>wpAny_Try_except_finally (h.run S s D _ _ λfl av aH bj q aL=>?_)⟩
 cases fl with
 |next=>exact qU (fin S .next av aH bj q aL k _ hk)
 |brk=>exact fin S .brk av aH bj q aL k _ hk
 |cont=>exact fin S .cont av aH bj q aL k _ hk
 |ret v=>exact fin S (.ret v) av aH bj q aL k _ hk
end
inductive j3 (σ:Hp)(f L:Addr)(hs:List V):Prop
 |mk (cc:Addr) (c':Addr) (qual:Str) (pm:Value) (cZ:Value) (oc:Obj) (dc:Obj) (lv:Value) (h1:σ f=some (.raw (hJ cc c' qual pm cZ) none)) (h2:σ c'=some (.raw oc none)) (h3:(∃vs t,oc.data=.fields vs∧vs[1]? =some (.str qual t))) (h4:σ cc=some (.raw dc none)) (h5:dc.data=.cell (some lv)) (h6:er lv=.ref L) (h7:σ L=some (.list hs))
section
variable{w:World}{d:Nat}{σ:Hp}{Q:PQ}
theorem ad2 {f Lh L t r l:Addr}{hs:List V}{ns:List Nat}{i e x0:V}(hC:j3 σ f Lh hs)(hz:hs.length≤1000)(hL:σ L=some (.list [.ref t]))(ht:σ t=some (.tup [x0,.ref r]))(hr:σ r=some (.inst 401 (aV (.str "integer") (.ref l) .none)))(hl:σ l=some (.list (ns.map vI)))(uS:ns.sum≤1000000)(n1:L≠Lh)(n2:l≠Lh)
  (q:∀τ v b,Ext (off σ Lh) τ→σ v=none→σ b=none→τ Lh=some (.list (hs++[.int 1]))→τ v=some (.inst 401 (aV (.str "integer") (.ref b) .none))→τ b=some (.list [.int ((ns.sum:Nat):Int)])→Q (.ref v) τ):Call w (d+4) (.ref f) [i,.ref L,e] σ Q:=by
 obtain⟨cc,c',qual,pm,cZ,oc,dc,lv,h1,h2,h3,h4,h5,h6,h7⟩:=hC
 refine Call.clo h1 h2 h3 h4 h5 fun Γ hd hv hg=>?_
 rw[h6]
 have nc:∀{x:Addr}{xs:List V},σ x=some (.list xs)→x≠cc:=λh e=>by rw[e,h4]at h;cases h
 have hcL:cc≠Lh:=λe=>by rw[e,h7]at h4;cases h4
 have g7:=off_ne (nc h7) h7
 have gL:=off_ne (nc hL) hL
 have gt:=off_ne (D:=cc) (λe=>by rw[e,h4]at ht;cases ht) ht
 have gr:=off_ne (D:=cc) (λe=>by rw[e,h4]at hr;cases hr) hr
 have gl:=off_ne (nc hl) hl
 refine ae (eH (aj hv 3 rfl rfl ⟨Lh,rfl,⟨_,g7⟩,cj hg aN (ah hv aD ⟨L,_,rfl,gL,aB,hs,g7,by lia,?_⟩)⟩))
 have g7':=ai (off σ cc) Lh (.list (hs++[V.int ((([V.ref t]:List V).length:Nat):Int)]))
 have nx:∀{x:Addr}{o:MO},x≠Lh→off σ cc x=some o→upd (off σ cc) Lh (.list (hs++[V.int ((([V.ref t]:List V).length:Nat):Int)])) x=some o:=λh e=>(aJ h).trans e
 have gt':=nx (λe=>by rw[e,h7]at ht;cases ht) gt
 have gr':=nx (λe=>by rw[e,h7]at hr;cases hr) gr
 refine ae (a_ (aw hd hg aQ (by rfl') (aq (gG (cm hg cn ⟨"sum",rfl,aq (aU (bo (bo (ah hv aD (aW (bO (i:=0) (nx n1 gL) rfl aB (aW (tO (i:=1) gt' rfl aB (vi gr' (aK (Op.sum (nx n2 gl) uS (aK ?_))))))))))))⟩)))))
 have fresh:∀{τ:Hp}{x:Addr}{o:MO},τ x=some o→τ cc=none→upd (off σ cc) Lh (.list (hs++[V.int ((([V.ref t]:List V).length:Nat):Int)])) x=none→σ x=none:=λ{τ x o} h1 hn h=>by
  have lK:x≠Lh:=λe=>by rw[e,ai]at h;cases h
  have uT:x≠cc:=λe=>by rw[e,hn]at h1;cases h1
  rw[aJ lK]at h
  cases q:σ x with
  |none=>rfl
  |some z=>rw[off_ne uT q]at h;cases h
 refine ado λτ v b E f1 f2 k1 k2 hn=>q _ v b (λx o hx=>?_) (fresh k1 hn f1) (fresh k2 hn f2) ?_ ?_ ?_
 have lK:x≠Lh:=λe=>by rw[e,dA]at hx;cases hx
 have hx:=c_ _ _ hx
 by_cases uT:x=cc
 subst uT;rw[h4]at hx;cases hx;exact ai _ _ _
 rw[aJ uT];exact E _ _ (nx lK (off_ne uT hx))
 rw[aJ (Ne.symm hcL)];exact E _ _ g7'
 rw[aJ (λe=>by rw[e,hn]at k1;cases k1)];exact k1
 rw[aJ (λe=>by rw[e,hn]at k2;cases k2)];exact k2
end
theorem ad3 (w:World):ki w 1985 "call_builtin" 1938=true:=by rfl'
noncomputable abbrev Nh (gl W cD cur:V):List (Str×Option V):=[(Str.ofString "limit",none),(Str.ofString "most_frames",none),(Str.ofString "steps",none),(Str.ofString "next_number",none),(Str.ofString "base",none),(Str.ofString "globals",some gl),(Str.ofString "frames",none),(Str.ofString "out",none),(Str.ofString "warnings",some W),(Str.ofString "handlers",none),(Str.ofString "restarts",none),(Str.ofString "targets",none),(Str.ofString "visible",some cD),(Str.ofString "current",some cur),(Str.ofString "dispatcher",some .none),(Str.ofString "signaller",none),(Str.ofString "warner",some .none),(Str.ofString "deparser",none),(Str.ofString "s4",none)]
theorem j3.of {σ τ:Hp}{f L:Addr}{hs lQ:List V}(h:j3 σ f L hs)(k:∀x o od,σ x=some (.raw o od)→τ x=some (.raw o od))(hL:τ L=some (.list lQ)):j3 τ f L lQ:=by
 obtain⟨cc,c',qual,pm,cZ,oc,dc,lv,h1,h2,h3,h4,h5,h6,h7⟩:=h
 exact⟨cc,c',qual,pm,cZ,oc,dc,lv,k _ _ _ h1,k _ _ _ h2,h3,k _ _ _ h4,h5,h6,hL⟩
theorem j3.fn {σ:Hp}{f L:Addr}{hs:List V}(h:j3 σ f L hs):∃cc c' qual pm cZ,σ f=some (.raw (hJ cc c' qual pm cZ) none):=by
 obtain⟨cc,c',qual,pm,cZ,oc,dc,lv,h1,_⟩:=h
 exact⟨cc,c',qual,pm,cZ,h1⟩
theorem j3.at {σ:Hp}{f L:Addr}{hs:List V}(h:j3 σ f L hs):σ L=some (.list hs):=by
 obtain⟨cc,c',qual,pm,cZ,oc,dc,lv,h1,h2,h3,h4,h5,h6,h7⟩:=h
 exact h7
section
variable{w:World}{Γ:Ctx}{ρ:LO}{d:Nat}{σ:Hp}{Q:PQ}{a:Addr}{kind items attrs gl:V}{gls:LV}
theorem ad4 {l ix j I:Addr}{xs:List V}{qs:List Nat}{ip e:V}(ha:σ a=some (.inst 401 (aV (.str "integer") (.ref l) .none)))(hl:σ l=some (.list xs))(hx:xs.length≤1000000)
  (hI:σ I=some (.list [.ref ix]))(rA:σ ix=some (.inst 401 (aV (.str "integer") (.ref j) .none)))(hj:σ j=some (.list (qs.map vI)))(hz:qs.length≤1000000)(hq:∀p∈qs,1≤p∧p≤xs.length)
  (q:∀τ r b,Ext σ τ→σ r=none→σ b=none→τ r=some (.inst 401 (aV (.str "integer") (.ref b) .none))→τ b=some (.list (pick xs qs))→Q (.ref r) τ):Call w (d+6) (.ref 1539) [ip,.ref a,.ref I,e] σ Q:=by
 refine Ua fun Γ hd hv hg=>?_
 refine ae (aM (c8 (aw hd hg aN (by rfl') (ar hv [1] rfl ?_))))
 refine Le ha rfl ⟨_,.bool,ff rfl (au (ae (a_ (aw hd hg fG (by rfl') (ar hv [1,2] rfl ?_)))))⟩
 exact KC ha hl hx .none .none .none hI rA hj hz hq q
theorem ad5 {W:V}{B f Lh L t r l:Addr}{hs:List V}{ns:List Nat}{c e x0 nm:V}(ha:σ a=some (.inst 1985 (gu gl W (.bool true))))(hB:σ B=some (.inst 465 (uK nm (.ref f) (.str Str.empty))))(hC:j3 σ f Lh hs)(hz:hs.length≤1000)
  (hL:σ L=some (.list [.ref t]))(ht:σ t=some (.tup [x0,.ref r]))(hr:σ r=some (.inst 401 (aV (.str "integer") (.ref l) .none)))(hl:σ l=some (.list (ns.map vI)))(uS:ns.sum≤1000000)(n1:L≠Lh)(n2:l≠Lh)
  (q:∀τ v b,Ext (off σ Lh) τ→σ v=none→σ b=none→τ Lh=some (.list (hs++[.int 1]))→τ v=some (.inst 401 (aV (.str "integer") (.ref b) .none))→τ b=some (.list [.int ((ns.sum:Nat):Int)])→Q (.ref v) τ):Call w (d+5) (.ref 1938) [.ref a,.ref B,c,.ref L,e] σ Q:=by
 have uU:a≠Lh:=λe=>by rw[e,hC.at]at ha;cases(ha)
 refine Uo fun Γ hd hv hg=>?_
 refine ae (aS hv (aU (ah hv .here (bF ha (AO) (cz w) (tY w) rfl ⟨_,fh,?_⟩))))
 refine ae (cJ (aj hv 2 rfl rfl (ah hv .here ⟨a,1985,_,_,rfl,ha,((EM (by rfl'))),bG,cz w,tY w,λcA e1=>?_⟩)))
 have k1:∀{x:Addr}{o:MO},x≠a→σ x=some o→cA x=some o:=λh e=>by rw[e1];exact(aJ h).trans e
 have gY:cA a=some (.inst 1985 (Nh gl W (.bool true) c)):=by rw[e1];exact ai _ _ _
 refine ae (aT.ad1 (ae (aM (cw (bW (aF (aU (ah hv .here (bF gY (tB) (cz w) (Ku w) rfl (bg (ax .d7 ⟨_,rfl,ff rfl (ff rfl (au ?_))⟩)))))))))))
 refine ae (cJ (gR (ah hv .here ⟨a,1985,_,_,rfl,gY,((vL (by rfl'))),bG,cz w,tX w,λbU e2=>?_⟩)))
 have e3:bU=cA:=by rw[e2,e1,dk]
 clear e2
 subst e3
 have nB:B≠a:=λe=>by rw[e,ha]at hB;cases(hB)
 have CQ:j3 bU f Lh hs:=hC.of (λx o od h=>k1 (λe=>by rw[e,ha]at h;cases(h)) h) (k1 (Ne.symm uU) hC.at)
 refine ae (a_ (ak.adZ (ah hv aD ⟨B,465,f,_,rfl,k1 nB hB,(cY),lJ w,MY w,CQ.fn,ar hv [0,3,4] rfl ⟨CQ.fn,?_⟩⟩)))
 rw[hd]
 refine ad2 CQ hz (k1 (λe=>by rw[e,ha]at hL;cases(hL)) hL) (k1 (λe=>by rw[e,ha]at ht;cases(ht)) ht) (k1 (λe=>by rw[e,ha]at hr;cases(hr)) hr) (k1 (λe=>by rw[e,ha]at hl;cases(hl)) hl) uS n1 n2 λτ v b E f1 f2 g1 g2 g3=>?_
 have fr:∀{x:Addr},bU x=none→σ x=none:=λ{x} h=>by
  cases q:σ x with
  |none=>rfl
  |some z=>
   have qg:x≠a:=λe=>by rw[e,gY]at h;cases(h)
   rw[k1 qg q]at h;cases(h)
 have l9:τ a=some (.inst 1985 (Nh gl W (.bool true) c)):=E _ _ (off_ne uU gY)
 refine ae (cJ (aj hv 5 rfl rfl (ah hv .here ⟨a,1985,_,_,rfl,l9,((EM (by rfl'))),bG,cz w,tY w,λcH e3=>?_⟩)))
 have k3:∀{x:Addr}{o:MO},x≠a→τ x=some o→cH x=some o:=λh e=>by rw[e3];exact(aJ h).trans e
 refine au (q cH v b (λx o hx=>?_) (fr f1) (fr f2) (k3 (Ne.symm uU) g1) (k3 (λe=>by rw[e,l9]at g2;cases(g2)) g2) (k3 (λe=>by rw[e,l9]at g3;cases(g3)) g3))
 have lK:x≠Lh:=λe=>by rw[e,dA]at hx;cases(hx)
 have hx:=c_ _ _ hx
 by_cases qg:x=a
 subst qg;rw[ha]at hx;cases(hx);rw[e3];exact ai _ _ _
 exact k3 qg (E _ _ (off_ne lK (k1 qg hx)))
theorem ad6 {W:V}{B f Lh L t r l:Addr}{hs:List V}{ns:List Nat}{e x0 nm:V}(ha:σ a=some (.inst 1985 (gu gl W (.bool true))))(hB:σ B=some (.inst 465 (uK nm (.ref f) (.str Str.empty))))(hC:j3 σ f Lh hs)(hz:hs.length≤1000)
  (hL:σ L=some (.list [.ref t]))(ht:σ t=some (.tup [x0,.ref r]))(hr:σ r=some (.inst 401 (aV (.str "integer") (.ref l) .none)))(hl:σ l=some (.list (ns.map vI)))(uS:ns.sum≤1000000)(n1:L≠Lh)(n2:l≠Lh)
  (q:∀τ v b,Ext (off σ Lh) τ→σ v=none→σ b=none→τ Lh=some (.list (hs++[.int 1]))→τ v=some (.inst 401 (aV (.str "integer") (.ref b) .none))→τ b=some (.list [.int ((ns.sum:Nat):Int)])→Q (.ref v) τ):Call w (d+6) (.ref 1975) [.ref a,.ref B,.ref L,e] σ Q:=by
 refine Up fun Γ hd hv hg=>?_
 refine ae (aM (aF (aU (ah hv aD (bF hB (aN) (lJ w) (uJ w) rfl (bu (ax (.eq .ss) ⟨_,rfl,ff rfl (au ?_)⟩)))))))
 refine ae (aM (aF (aj hv 4 rfl rfl (bg (ax .bB ⟨_,rfl,tt rfl ?_⟩)))))
 refine ae (aS hv (aw hd hg aQ (by rfl') (aq (bq (aq (aw hd hg cn (by rfl') (ar rfl [] rfl ?_)))))))
 refine MZ λcA s1 E1=>aq (aw hd hg cn (by rfl') (ar rfl [] rfl ?_))
 refine MZ λbU s2 E2=>aK ⟨aB,λI hI=>aq (bq (ar rfl [] rfl ⟨aB,λT hT=>aK ?_⟩))⟩
 refine adm λcH c E3=>⟨_,dR,au ?_⟩
 have E:Ext σ cH:=((E1.trans E2).trans ((af hI).trans (af hT))).trans E3
 refine ae (aM (aF (aU (ah hv aD (bF (E _ _ hB) (aN) (lJ w) (uJ w) rfl (bu (ax (.eq .ss) ⟨_,rfl,ff rfl (au ?_)⟩)))))))
 refine ae (aM (aF (aU (ah hv aD (bF (E _ _ hB) (aN) (lJ w) (uJ w) rfl (bu (ax (.ne .ss) ⟨_,rfl,ff rfl (au ?_)⟩)))))))
 refine ae (a_ (ak.own (ah hv .here ⟨a,1985,1938,_,rfl,E _ _ ha,cz w,ad3 w,lB (by rfl'),ar hv [1,4,2,3] rfl ?_⟩)))
 rw[hd]
 refine ad5 (E _ _ ha) (E _ _ hB) (hC.of (λx o od h=>E _ _ h) (E _ _ hC.at)) hz (E _ _ hL) (E _ _ ht) (E _ _ hr) (E _ _ hl) uS n1 n2 λτ v b E4 f1 f2=>q τ v b (λx o hx=>?_) (E.none f1) (E.none f2)
 have lK:x≠Lh:=λe=>by rw[e,dA]at hx;cases(hx)
 exact E4 _ _ (off_ne lK (E _ _ (c_ _ _ hx)))
end
theorem ad7 (w:World):ki w 1985 "call_value" 1975=true:=by rfl'
noncomputable def Ni (ns qs:List Nat):Nat:=(qs.map λp=>ns[p]?.getD 0).sum
noncomputable def GV (τ:Hp)(L:Addr)(ns:List Nat)(v:V)(qs:List Nat):Prop:=(qs=[]∧v=.none)∨(qs≠[]∧∃r b,v=.ref r∧b≠L∧τ r=some (.inst 401 (aV (.str (Str.ofString "integer")) (.ref b) .none))∧τ b=some (.list [.int ((Ni ns qs:Nat):Int)]))
noncomputable def cnt (l:List (List Nat)):Nat:=(l.filter λq=> !q.isEmpty).length
noncomputable def Nj:V→Option V
 |.int i=>some (.int (i+1))
 |_=>none
theorem ad8 (qs:List Nat):(qs.map vI).filterMap Nj=(qs.map (·+1)).map vI:=by
 induction qs with
 |nil=>rfl
 |cons p r ih=>simp only[bx,gz];exact gf _ ih
theorem ad9 {ns qs:List Nat}(h:∀p∈qs,p<ns.length):pick (ns.map vI) (qs.map (·+1))=(qs.map λp=>ns[p]?.getD 0).map vI:=by
 unfold pick
 rw[kM,kM]
 refine sm λp hp=>?_
 have:=h p hp
 simp only[Function.comp,Nat.add_sub_cancel,dI,bL this,Option.map_some,Option.getD_some]
theorem Nk {f:Nat→Nat}{m:Nat}(h:∀p,f p≤m):∀qs:List Nat,(qs.map f).sum≤qs.length*m
 | []=>by simp
 |p::r=>by
  have:=Nk h r
  have:=h p
  simp only[bx,List.sum_cons,List.length_cons,Nat.add_mul];lia
theorem GV.mono {τ bf:Hp}{L:Addr}{ns qs:List Nat}{v:V}(h:GV τ L ns v qs)(k:∀x o,x≠L→τ x=some o→bf x=some o){hs:List V}(hL:τ L=some (.list hs)):GV bf L ns v qs:=by
 rcases h with h|⟨h0,r,b,h1,h2,h3,h4⟩
 exact .inl h
 exact .inr ⟨h0,r,b,h1,h2,k r _ (λe=>by rw[e,hL]at h3;cases h3) h3,k b _ h2 h4⟩
section
variable{w:World}{Γ:Ctx}{ρ:LO}{d:Nat}{σ:Hp}{Q:PQ}{a:Addr}{kind items attrs gl:V}{gls:LV}
inductive ad_ (a B Lh v g M:Addr)(ns:List Nat)(e:V)(D:Addr)(cA:Hp)(pss:List (List Nat))(k:Nat)(υ:Hp)(ρ:LO):Prop
 |mk (vs:List V) (dY:Hp) (o1:Option V) (o2:Option V) (cQ:υ=upd dY D (.list vs)) (cR:dY D=none) (eO:Ext (off (off cA D) Lh) dY) (fV:dY Lh=some (.list (List.replicate (cnt (pss.take k)) (.int 1)))) (lr:br (GV dY Lh ns) vs (pss.take k)) (tR:ρ=[some (.ref a),some (.ref v),some (.ref g),some (.ref B),some (.ref M),some e,some (.ref D),o1,o2])
theorem aea {W:V}{B f Lh v l g M:Addr}{codes:List V}{ts:List Str}{ns:List Nat}{e nm:V}(ha:σ a=some (.inst 1985 (gu gl W (.bool true))))(hB:σ B=some (.inst 465 (uK nm (.ref f) (.str Str.empty))))(hC:j3 σ f Lh [])
  (ik:σ v=some (.inst 401 (aV (.str "integer") (.ref l) .none)))(hl:σ l=some (.list (ns.map vI)))(hM:σ M=some (.list []))(hF:cX σ g codes ts)(ok:fX codes ts.length)(hn:ts.length≤100)(Nl:0<ts.length)(et:codes.length=ns.length)(hz:ns.length≤100)(hV:∀p:Nat,ns[p]?.getD 0≤1000)(nl:l≠Lh)(nM:M≠Lh)
  (q:∀τ F vs,Ext (off σ Lh) τ→τ F=some (.list vs)→br (GV τ Lh ns) vs (dw ts.length (cf codes) id codes.length)→F≠Lh→τ Lh=some (.list (List.replicate (cnt (dw ts.length (cf codes) id codes.length)) (.int 1)))→Q (.ref F) τ):Call w (d+7) (.ref 1658) [.ref a,.ref v,.ref g,.ref B,.ref M,e] σ Q:=by
 have gM:=hC.at
 refine Uh fun Γ hd hv hg=>?_
 refine ae (aS hv (bq (aK ⟨aB,λD hD=>⟨_,eB,ae ?_⟩⟩)))
 have ED:=af (o:=.list []) hD
 have CR:D≠Lh:=Ne.symm (bp gM hD)
 have ej:=jW (n:=ts.length) (f:=cf codes) (g:=id) (k:=codes.length)
 refine fF hv (aw hd hg aN (by rfl') (ar hv [2] rfl ?_))
 refine Bv (hF.ext ED) (by lia) (by lia) ok λcA G bs hG=>?_
 obtain⟨h2,h3⟩:=hole hD hG.1
 have Np:G≠D:=λe=>by
  have h4:=hG.2.1
  have h5:=hG.1 D _ (ai _ _ _)
  rw[e,h5]at h4
  have:bs.map V.ref=[]:=by injection h4 with h4;injection h4 with h4;exact h4.symm
  have hb:=hG.len
  rw[ej]at hb
  have:bs=[]:=List.map_eq_nil_iff.mp this
  rw[this]at hb
  simp at hb;lia
 have iS:off cA D Lh=some (.list []):=h2 _ _ gM
 have BC:G≠Lh:=λe=>by
  have h4:=hG.2.1
  rw[e,c_ _ _ iS]at h4
  have:bs.map V.ref=[]:=by injection h4 with h4;injection h4 with h4;exact h4.symm
  have hb:=hG.len
  rw[ej,List.map_eq_nil_iff.mp this]at hb
  simp at hb;lia
 have mh:∀qs∈dw ts.length (cf codes) id codes.length,(∀p∈qs,p<ns.length)∧qs.length≤100:=λqs hq=>by
  refine bZ hq λj _=>?_
  rw[List.map_id]
  refine⟨λp hp=>?_,?_⟩
  have:=(jE.mp hp).1
  rw[iD]at this;lia
  have:=og (λi=>cf codes i==some j) (List.range codes.length)
  rw[kG]at this;lia
 revert q ej hG mh;refine gen (dw ts.length (cf codes) id codes.length) ?_;intro pss q ej hG mh
 have aeb:∀l:List (List Nat),cnt l≤l.length:=λl=>og _ _
 refine⟨G,bs.map .ref,ad_ a B Lh v g M ns e D cA pss,rfl,⟨[],off cA D,none,none,h3,dA,c_,iS,.nil,rfl⟩,?_,?_,?_⟩
 intro k υ ρ zqA;obtain⟨vs,dY,o1,o2,rfl,rX,E0,_⟩:=zqA
 exact(aJ Np).trans (E0 _ _ (off_ne BC (off_ne Np hG.2.1)))
 intro k υ ρ y zqA;obtain⟨vs,dY,o1,o2,rfl,rX,E0,qK,hA,rfl⟩:=zqA;intro hy
 have hk:k<pss.length:=by
  have:=(cp.mp hy).1
  rw[ay,hG.len]at this;exact this
 obtain⟨b,gq,jr,g8⟩:=hG.at (bL hk)
 rw[jr]at hy
 cases hy
 obtain⟨xK,Nq⟩:=mh _ (hO hk)
 have ky:pss.take (k+1)=pss.take k++[pss[k]]:=by rw[eY,bL hk];rfl
 revert g8 xK Nq ky;refine gen (pss[k]) ?_;intro qs g8 xK Nq ky
 have xM:=hG.2.2.2.2.1 b (cS gq)
 have iu:b≠D:=λe=>by rw[e,ai]at xM;cases xM
 have BD:b≠Lh:=λe=>by rw[e,ED _ _ gM]at xM;cases xM
 have Nr:vs.length≤1000:=by rw[hA.len,eZ];lia
 have K0:∀x o,x≠Lh→σ x=some o→dY x=some o:=λx o hx h=>E0 _ _ (off_ne hx (h2 _ _ h))
 have KD:∀x o,dY x=some o→upd dY D (.list vs) x=some o:=λx o h=>(aJ (λe=>by rw[e,rX]at h;cases h)).trans h
 have Nt:upd dY D (.list vs) b=some (.list (qs.map vI)):=KD _ _ (E0 _ _ (off_ne BD (off_ne iu g8)))
 have ug:=KD _ _ qK
 have uV:=ai dY D (.list vs)
 have K1:∀x o,x≠Lh→σ x=some o→upd dY D (.list vs) x=some o:=λx o hx h=>KD _ _ (K0 x o hx h)
 have hm:cnt (pss.take k)≤100:=dO (aeb _) (by rw[eZ];lia)
 refine⟨_,gV,λown=>?_⟩
 obtain⟨hd,hv,hg⟩:=dF own hd hv hg
 refine ae (aM (aF (cj hg aQ (aj hv 7 rfl rfl ⟨b,_,rfl,Nt,by rw[ay];lia,aW (ax (.eq .ii) ⟨_,rfl,λc=>?_,λc=>?_⟩)⟩))))
 have xN:qs=[]:=by simpa using c
 subst xN
 refine ae (eH (aj hv 6 rfl rfl ⟨D,rfl,⟨_,uV⟩,bg ⟨vs,uV,by lia,au (au ⟨vs++[.none],dY,_,_,dk,rX,E0,?_,?_,rfl⟩)⟩⟩))
 rw[ky,qK];simp[cnt]
 rw[ky];exact hA.app (.cons (.inl ⟨rfl,rfl⟩) .nil)
 have xN:qs≠[]:=λe=>by rw[e]at c;simp at c
 refine ae (aS hv (aw hd hg cn (by rfl') (aq (fT hv (WX (w:=w) hv (by rfl) (by rfl)) (.loc (.loc .nil)) aQ (pt:=λy=>bX) (aj hv 7 rfl rfl ⟨b,qs.map vI,Nj,rfl,Nt,by rw[ay];lia,?_,λR hR=>aK ?_⟩)))))
 intro y hy τ F Γc e1 e2 e3
 refine bZ hy λp _=>?_
 exact dE ⟨λ_=>bC (ah e2 aD (aW (Op.jd ⟨rfl,rfl⟩))),tf⟩
 rw[ad8]
 refine nA (ai _ _ _) (by simp;lia) λbU ix j E2 afA hj0 k1 k2=>⟨_,je,ae ?_⟩
 have E3:Ext (upd dY D (.list vs)) bU:=(af hR).trans E2
 refine eH (aj hv 6 rfl rfl ⟨D,rfl,⟨_,E3 _ _ uV⟩,ak.own (ah hv .here ⟨a,1985,1975,_,rfl,E3 _ _ (K1 _ _ (λe=>by rw[e,gM]at ha;cases ha) ha),cz w,ad7 w,lB (by rfl'),aq (aj hv 3 rfl rfl (aq (bC (bq (aq (fD (aq (bg (aq (aw hd hg cY (by rfl') (aq (ah hv .here (aq (ah hv aD (aq (bq (ar hv [8] rfl ⟨aB,λI hI=>ar hv [5] rfl ?_⟩)))))))))))))))))⟩)⟩)
 have EI:=af (o:=.list [.ref ix]) hI
 have nv:v≠Lh:=λe=>by rw[e,gM]at ik;cases ik
 refine ad4 (xs:=ns.map vI) (qs:=qs.map (·+1)) (EI _ _ (E3 _ _ (K1 _ _ nv ik))) (EI _ _ (E3 _ _ (K1 _ _ nl hl))) (by rw[ay];lia) (ai _ _ _) (EI _ _ k1) (EI _ _ k2) (by rw[ay];lia) (λp hp=>?_) λcH r rb E4 jV aec p1 p2=>aK ⟨aB,λt ht=>aK ⟨aB,λL1 iS=>?_⟩⟩
 refine bZ hp λp' wQ=>?_
 have:=xK p' wQ
 rw[ay];lia
 have E5:Ext (upd dY D (.list vs)) cH:=(E3.trans EI).trans E4
 have E6:=(af (o:=.tup [.none,.ref r]) ht).trans (af (o:=.list [.ref t]) iS)
 refine aj hv 4 rfl rfl (Op.v7 (ai _ _ _) (E6 _ _ (E5 _ _ (K1 _ _ nM hM))) (by simp) λL hL=>ar hv [5] rfl ?_)
 have E7:=E6.trans (af (o:=.list ([.ref t]++[])) hL)
 have E8:=E5.trans E7
 have CS:=ai (upd (upd cH t (.tup [.none,.ref r])) L1 (.list [.ref t])) L (.list ([V.ref t]++[]))
 have CT:=af (o:=.list ([V.ref t]++[])) hL _ _ (af (o:=.list [.ref t]) iS _ _ (ai cH t (.tup [.none,.ref r])))
 have xO:=E8 _ _ ug
 have nL:L≠Lh:=Ne.symm (bp (E6 _ _ (E5 _ _ ug)) hL)
 have nrb:rb≠Lh:=Ne.symm (bp (EI _ _ (E3 _ _ ug)) aec)
 revert E7 E8 CS CT xO;refine gen (upd (upd (upd cH t (.tup [.none,.ref r])) L1 (.list [.ref t])) L (.list ([V.ref t]++[]))) ?_;intro fL E7 E8 CS CT xO
 rw[ad9 xK]at p2
 rw[hd]
 have nr:∀{x:Addr} {o od},σ x=some (.raw o od)→x≠Lh:=λh e=>by rw[e,gM]at h;cases h
 refine ad6 (E8 _ _ (K1 _ _ (λe=>by rw[e,gM]at ha;cases ha) ha)) (E8 _ _ (K1 _ _ (λe=>by rw[e,gM]at hB;cases hB) hB)) (hC.of (λx o od h=>E8 _ _ (K1 _ _ (nr h) h)) xO) (by rw[u_];lia) CS CT (E7 _ _ p1) (E7 _ _ p2) (dO (Nk hV qs) (by lia)) nL nrb λeI v' b' E9 fv fb g1 g2 g3=>?_
 have nD:∀{x:Addr},fL x=none→x≠D:=λh e=>by rw[e,E8 _ _ uV]at h;cases h
 have xP:∀{x:Addr},fL x=none→x≠Lh:=λh e=>by rw[e,xO]at h;cases h
 have K2:∀x o,x≠Lh→dY x=some o→off eI D x=some o:=λx o hx h=>off_ne (λe=>by rw[e,rX]at h;cases h) (E9 _ _ (off_ne hx (E8 _ _ (KD _ _ h))))
 refine⟨vs,E9 _ _ (off_ne CR (E8 _ _ uV)),by lia,au (au ⟨vs++[.ref v'],off eI D,_,_,?_,dA,λx o hx=>?_,?_,?_,rfl⟩)⟩
 funext x
 by_cases hx:x=D
 rw[hx,ai,ai]
 rw[aJ hx,aJ hx]
 unfold off
 rw[bK hx]
 have lK:x≠Lh:=λe=>by rw[e,dA]at hx;cases hx
 exact K2 x o lK (E0 _ _ hx)
 rw[ky,off_ne (Ne.symm CR) g1]
 have:cnt (pss.take k++[qs])=cnt (pss.take k)+1:=by
  cases qs with
  |nil=>exact absurd rfl xN
  |cons p r=>simp[cnt]
 rw[this,List.replicate_succ']
 rw[ky]
 refine(fW hA λv qs h=>h.mono K2 qK).app (.cons (.inr ⟨xN,v',b',rfl,xP fb,off_ne (nD fv) g2,off_ne (nD fb) g3⟩) .nil)
 intro υ ρ zqA;obtain⟨vs,dY,o1,o2,rfl,rX,E0,qK,hA,rfl⟩:=zqA
 have hlen:(bs.map V.ref).length=pss.length:=by rw[ay,hG.len]
 rw[hlen,fM]at hA qK
 have KD:∀x o,dY x=some o→upd dY D (.list vs) x=some o:=λx o h=>(aJ (λe=>by rw[e,rX]at h;cases h)).trans h
 refine ae (a_ (aj hv 6 rfl rfl (q _ D vs (λx o hx=>?_) (ai _ _ _) (fW hA λv qs h=>h.mono (λx o _ h=>KD _ _ h) qK) CR (KD _ _ qK))))
 have lK:x≠Lh:=λe=>by rw[e,dA]at hx;cases hx
 exact KD _ _ (E0 _ _ (off_ne lK (h2 _ _ (c_ _ _ hx))))
end
noncomputable def rY:List Str:=[Str.ofString "X",Str.ofString "INDEX",Str.ofString "FUN",fu,Str.ofString "default",Str.ofString "simplify"]
noncomputable def CU:MS:=([2,2,2,2],[(Str.ofString "default",3),(Str.ofString "X",0),(Str.ofString "INDEX",1),(Str.ofString "FUN",2)])
theorem okD:o_ rY [none,none,none,some (Str.ofString "default")] CU:=⟨([0,0,0,2],[(Str.ofString "default",3)]),by rfl',wZ (by rfl'),by rfl',by rfl',rfl⟩
theorem aed:rY.Nodup:=w0 (by rfl')
theorem aee {v f fn s o:V}:rY.map (valOf CU [(none,v),(none,f),(none,fn),(some (Str.ofString "default"),s)] o)=[v,f,fn,o,s,.none]:=by rfl'
noncomputable def Nu (fig:Int)(ns:List Nat)(pss:List (List Nat)):List V:=pss.map λqs=>if qs.isEmpty=true then .int fig else .int ((Ni ns qs:Nat):Int)
theorem aef {τ:Hp}{L:Addr}{ns:List Nat}{fig:Int}{vs:List V}{pss:List (List Nat)}(h:br (GV τ L ns) vs pss):br (SV τ (.int fig)) vs (Nu fig ns pss):=by
 induction h with
 |nil=>exact .nil
 | @cons v qs _ _ h _ ih=>
  refine .cons ?_ ih
  rcases h with⟨rfl,rfl⟩|⟨h0,r,b,rfl,_,h3,h4⟩
  exact .inl ⟨rfl,rfl⟩
  refine .inr ⟨r,b,rfl,h3,?_⟩
  rw[h4]
  cases qs with
  |nil=>exact absurd rfl h0
  |cons p r=>rfl
theorem GV.sv {τ:Hp}{L:Addr}{ns qs:List Nat}{v:V}(h:GV τ L ns v qs):∃x,SV τ .none v x:=by
 rcases h with⟨_,rfl⟩|⟨_,r,b,rfl,_,h3,h4⟩
 exact⟨_,.inl ⟨rfl,rfl⟩⟩
 exact⟨_,.inr ⟨r,b,rfl,h3,h4⟩⟩
section
variable{w:World}{Γ:Ctx}{ρ:LO}{d:Nat}{σ:Hp}{Q:PQ}{a:Addr}{kind items attrs gl:V}{gls:LV}
inductive aeg (a B v g dv As:Addr)(e:V)(M Rw:Addr)(bU:Hp)(i:Nat)(υ:Hp)(ρ:LO):Prop
 |mk (cQ:υ=bU) (o:Option V) (cR:ρ=[some (.ref a),some (.ref As),some e,some (.ref v),some (.ref g),some (.ref B),some (.ref M),some (.ref dv),some .none,some (.ref Rw),some .none,o,none,none,none,none])
theorem aeh {W:V}{B f Lh v l g dv dl As:Addr}{as:List Addr}{codes:List V}{ts:List Str}{ns:List Nat}{fig:Int}{e nm:V}(ha:σ a=some (.inst 1985 (gu gl W (.bool true))))(hB:σ B=some (.inst 465 (uK nm (.ref f) (.str Str.empty))))(hC:j3 σ f Lh [])
  (hA:σ As=some (.list (as.map .ref)))(ht:br (fun a (p:Option Str×V)=>σ a=some (.tup [dN p.1,p.2])) as [(none,.ref v),(none,.ref g),(none,.ref B),(some (Str.ofString "default"),.ref dv)])
  (ik:σ v=some (.inst 401 (aV (.str "integer") (.ref l) .none)))(hl:σ l=some (.list (ns.map vI)))(nl:l≠Lh)(hF:cX (off σ Lh) g codes ts)(ok:fX codes ts.length)(hn:ts.length≤100)(Nl:0<ts.length)(et:codes.length=ns.length)(hz:ns.length≤100)(hV:∀p:Nat,ns[p]?.getD 0≤1000)
  (mz:σ dv=some (.inst 401 (aV (.str "integer") (.ref dl) .none)))(lF:σ dl=some (.list [.int fig]))(CV:dl≠Lh)
  (q:∀τ r b at_,Ext (off σ Lh) τ→τ r=some (.inst 401 (aV (.str "integer") (.ref b) at_))→τ b=some (.list (Nu fig ns (dw ts.length (cf codes) id codes.length)))→τ Lh=some (.list (List.replicate (cnt (dw ts.length (cf codes) id codes.length)) (.int 1)))→Q (.ref r) τ):Call w (d+8) (.ref 1675) [.ref a,.ref As,e] σ Q:=by
 have gM:=hC.at
 have Nv:=hF.ext c_
 have Nw:=hF
 refine Uk fun Γ hd hv hg=>?_
 refine ae (aT.t6 hv (aw hd hg aN (by rfl') (aq (ah hv aD (aq (bq (ar rfl [] rfl ⟨aB,λF hF=>aK ?_⟩)))))))
 have E0:=af (o:=.list (rY.map .str)) hF
 refine wX (fs:=rY) (ai _ _ _) (E0 _ _ hA) (fW ht λ_ _ h=>E0 _ _ h) (by simp) (by decide) okD aed (by intro p hp;simp[CU]at hp;rcases hp with rfl|rfl|rfl|rfl<;>simp) λτ R o E1 ho hR=>?_
 rw[aee]at hR
 obtain⟨M,rfl,hM,hM0⟩:=ho (by unfold rY;simp)
 refine⟨R,_,_,rfl,.inr hR,.cons eM (.cons dR (.cons fh (.cons eB (.cons gV (.cons je .nil))))),?_⟩
 have E:=E0.trans E1
 have nM:M≠Lh:=Ne.symm (bp (E0 _ _ gM) hM0)
 have aei:=Nv.ext E
 obtain⟨c,e',lv,lt,cl,ct,g1,g2,g3,g4,g5,g6,g7⟩:=id Nw
 have nc:c≠Lh:=λx=>by rw[x,dA]at g2;cases g2
 have ng:g≠Lh:=λx=>by rw[x,dA]at g1;cases g1
 have g1:=c_ _ _ g1
 have g2:=c_ _ _ g2
 refine ae (jg (aw hd hg aQ (by rfl') (ar hv [3] rfl ?_)))
 refine m9 rfl (ae (jg (aw hd hg aQ (by rfl') (ar hv [4] rfl (m9 rfl ?_)))))
 refine ae (aM (aF (aU (aw hd hg aQ (by rfl') (ar hv [5] rfl (m9 rfl ?_))))))
 refine bF (E _ _ hB) (aN) (lJ w) (uJ w) rfl (bu (ax (.eq .ss) ⟨_,rfl,ff rfl (au ?_)⟩))
 refine ae (aS hv (gS (aF (aU (aj hv 4 rfl rfl (vk (E _ _ g1) (bu (ax (.eq .ss) ⟨_,rfl,ff rfl ?_⟩))))))))
 refine bq (aq (aw hd hg cY (by rfl') (ar hv [4] rfl ?_)))
 refine LM aei (aK ⟨aB,λRw CW=>⟨_,vG,?_⟩⟩)
 have E2:=E.trans (af (o:=.list [.ref g]) CW)
 have CX:=ai τ Rw (.list [.ref g])
 have qt:=af (o:=.list [.ref g]) CW _ _ hM
 have nRw:Rw≠Lh:=Ne.symm (bp (E _ _ gM) CW)
 generalize upd τ Rw (.list [.ref g])=bU at*
 have wY:=Nv.ext E2
 refine ae (aS hv (gS (aF (aU (aj hv 4 rfl rfl (vk (E2 _ _ g1) (bu (ax (.eq .ss) ⟨_,rfl,ff rfl (bg ⟨_,vH,?_⟩)⟩))))))))
 refine ae (fF hv (aj hv 9 rfl rfl ⟨Rw,[.ref g],aeg a B v g dv As e M Rw bU,rfl,⟨rfl,_,rfl⟩,?_,?_,?_⟩))
 (intro i υ ρ zqA;obtain⟨rfl,_⟩:=zqA);exact CX
 intro i υ ρ y zqA;obtain⟨rfl,o,rfl⟩:=zqA;intro hy
 obtain rfl:y=.ref g:=by
  have:=cS hy
  simpa using this
 refine⟨_,zE,λown=>?_⟩
 obtain⟨hd,hv,hg⟩:=dF own hd hv hg
 refine ae (aM (aF (aw hd hg gm (by rfl') (ar hv [11] rfl ?_))))
 refine gn rfl (E2 _ _ g1) (E2 _ _ g2) (by lia) (aw hd hg gm (by rfl') (ar hv [3] rfl ?_))
 refine gn rfl (E2 _ _ ik) (E2 _ _ hl) (by rw[ay];lia) (ax (.ne .ii) ⟨_,rfl,ff ?_ (au (au ⟨rfl,_,rfl⟩))⟩)
 rw[ay,et];simp
 intro υ ρ zqA;obtain⟨rfl,o,rfl⟩:=zqA
 refine ae (aS hv (aw hd hg kl (by rfl') (aq (ah hv .here (aq (aj hv 3 rfl rfl (aq (aw hd hg iO (by rfl') (ar hv [9] rfl ?_)))))))))
 refine aa9 CX wY (ar hv [5,6,2] rfl ?_)
 refine aea (E2 _ _ ha) (E2 _ _ hB) (hC.of (λx o od h=>E2 _ _ h) (E2 _ _ gM)) (E2 _ _ ik) (E2 _ _ hl) qt wY ok hn Nl et hz hV nl nM λcH F vs E3 xQ CY nF Nx=>⟨_,Ew,?_⟩
 have K0:∀x o,x≠Lh→υ x=some o→cH x=some o:=λx o hx h=>E3 _ _ (off_ne hx h)
 have K:∀x o,x≠Lh→σ x=some o→cH x=some o:=λx o hx h=>K0 x o hx (E2 _ _ h)
 have KE:Ext (off σ Lh) cH:=λx o h=>K x o (λe=>by rw[e,dA]at h;cases h) (c_ _ _ h)
 have uU:a≠Lh:=λe=>by rw[e,gM]at ha;cases ha
 have xR:=K _ _ uU ha
 have ej:=jW (n:=ts.length) (f:=cf codes) (g:=id) (k:=codes.length)
 have Nr:vs.length≤1000:=by rw[CY.len,ej];lia
 refine ae (cJ (gR (ah hv .here ⟨a,1985,_,_,rfl,xR,((vL (by rfl'))),bG,cz w,tX w,λeP e4=>?_⟩)))
 have e4:eP=cH:=e4.trans (Bx xR)
 subst e4
 refine ae (aM (cw (bW (c8 (aw hd hg ri (by rfl') (ar hv [8] rfl ?_))))))
 refine w5 ⟨_,.bool,tt rfl (bW (c8 (aw hd hg v_ (by rfl') (ar hv [12] rfl ?_))))⟩
 refine adv xQ (λx hx=>by obtain⟨qs,h⟩:=CY.ex x hx;exact h.sv) ⟨_,.bool,tt rfl (jL (tt rfl ?_))⟩
 have CZ:=K _ _ (λe=>by rw[e,gM]at mz;cases mz) mz
 have Ny:=K _ _ CV lF
 refine ae (aM (cw (bW (aF (aj hv 7 rfl rfl (bg (ax .d7 ⟨_,rfl,tt rfl (bW (cw (dK (dJ.not (c8 (aw hd hg AM (by rfl') (ar hv [7] rfl ?_)))))))⟩)))))))
 refine rp CZ (.inr (.inl rfl)) ⟨_,.bool,ff rfl (dK (aF (aw hd hg gm (by rfl') (ar hv [7] rfl ?_))))⟩
 refine gn rfl CZ Ny aB (aW (ax (.ne .ii) ⟨_,rfl,ff rfl (kU (ff rfl (ff rfl (au ?_))))⟩))
 refine ae (aS hv (aw hd hg AN (by rfl') (ar hv [12,7] rfl ?_)))
 refine adx xQ Nr CZ Ny (aef CY) λdU r b E5 jV KQ hr hb=>⟨_,zH,au ?_⟩
 have Nz:=E5 _ _ (K0 _ _ nRw CX)
 have FF5:cX dU g codes ts:=by
  obtain⟨c2,e2,nP,rm,cl2,ct2,u1,u2,u3,u4,u5,u6,u7⟩:=Nw
  exact⟨c2,e2,nP,rm,cl2,ct2,E5 _ _ (KE _ _ u1),E5 _ _ (KE _ _ u2),E5 _ _ (KE _ _ u3),E5 _ _ (KE _ _ u4),E5 _ _ (KE _ _ u5),E5 _ _ (KE _ _ u6),E5 _ _ (KE _ _ u7)⟩
 refine ae (aT.ro hv (Xh (w:=w) hv (by rfl) (by rfl)) (.loc (.loc .nil)) aQ (pt:=λy=>bX) tB (by rfl') (aj hv 9 rfl rfl ⟨Rw,[.ref g],rfl,Nz,λD hD=>⟨λi ys τ=>Ext dU τ∧τ D=some (.list ys)∧((i=0∧ys=[])∨(i=1∧∃tb,ys=[.ref tb]∧τ tb=some (.list (ts.map .str)))),⟨af hD,ai _ _ _,.inl ⟨rfl,rfl⟩⟩,λi ys τ h=>h.1 _ _ Nz,?_,?_⟩⟩))
 intro i ys τ y zqA;obtain⟨F1,F2,F3⟩:=zqA;intro hy Γc e1 e2 e3
 have hi:i=0:=by
  have:=(cp.mp hy).1
  simpa using this
 subst hi
 obtain rfl:V.ref g=y:=by simpa using hy
 obtain⟨_,rfl⟩:(0=0∧ys=[]):=by
  rcases F3 with h|⟨h,_⟩
  exact h
  cases h
 refine dE ⟨λ_=>aw (e1.trans hd) e3 aN (by rfl') (ar e2 [1] rfl ?_),tf⟩
 refine oY (FF5.ext F1) (by lia) λtb mB=>⟨af mB _ _ F2,aB,?_⟩
 have nD:tb≠D:=Ne.symm (bp F2 mB)
 exact⟨(F1.trans (af mB)).upd hD,ai _ _ _,.inr ⟨rfl,tb,rfl,(aJ nD).trans (ai _ _ _)⟩⟩
 intro ys fL zqA;obtain⟨E6,C0,h⟩:=zqA
 obtain⟨tb,rfl,mB⟩:∃tb,ys=[.ref tb]∧fL tb=some (.list (ts.map .str)):=by
  rcases h with⟨h,_⟩|⟨_,h⟩
  cases h
  exact h
 refine⟨_,Ex,?_⟩
 refine ae (aS hv (aw hd hg AO (by rfl') (aq (ak.lc hv (Xl (w:=w) hv (by rfl) (by rfl)) (.loc (.loc .nil)) aQ (pt:=fun y=>bX) (aj hv 14 rfl rfl ⟨D,[.ref tb],rfl,C0,fun D3 NA=>⟨fun i ys τ=>Ext fL τ∧τ D3=some (.list ys)∧((i=0∧ys=[])∨(i=1∧∃cv cb,ys=[.ref cv]∧τ cv=some (.inst 401 (aV (.str "character") (.ref cb) .none))∧τ cb=some (.list (ts.map .str)))),⟨af NA,ai _ _ _,.inl ⟨rfl,rfl⟩⟩,fun i ys τ h=>h.1 _ _ C0,?_,?_⟩⟩)))))
 intro i ys τ y zqA;obtain⟨F1,F2,F3⟩:=zqA;intro hy Γc e1 e2 e3
 have hi:i=0:=by
  have:=(cp.mp hy).1
  simpa using this
 subst hi
 obtain rfl:V.ref tb=y:=by simpa using hy
 obtain⟨_,rfl⟩:(0=0∧ys=[]):=by
  rcases F3 with h|⟨h,_⟩
  exact h
  cases h
 refine dE ⟨λ_=>aw (e1.trans hd) e3 aN (by rfl') (ar e2 [1] rfl ?_),tf⟩
 refine jS (F1 _ _ mB) (by rw[ay];lia) λbf cv cb G i0 j0 k1 k2=>⟨G _ _ F2,aB,?_⟩
 have n1:cv≠D3:=Ne.symm (bp F2 i0)
 have n2:cb≠D3:=Ne.symm (bp F2 j0)
 exact⟨(F1.trans G).upd NA,ai _ _ _,.inr ⟨rfl,cv,cb,rfl,(aJ n1).trans k1,(aJ n2).trans k2⟩⟩
 intro ys eI zqA;obtain⟨E7,hD7,h⟩:=zqA
 obtain⟨cv,cb,rfl,hcv,jN⟩:∃cv cb,ys=[.ref cv]∧eI cv=some (.inst 401 (aV (.str "character") (.ref cb) .none))∧eI cb=some (.list (ts.map .str)):=by
  rcases h with⟨h,_⟩|⟨_,h⟩
  cases h
  exact h
 refine aK ?_
 refine LZ hD7 aB (λx hx=>⟨cv,_,_,_,by simpa using hx,hcv⟩) λrO dn db E8 dn0 db0 m1 m2=>⟨_,Rr,?_⟩
 refine ae (jg (aw hd hg tB (by rfl') (ar hv [15,10] rfl ?_)))
 refine AQ ?_
 have xS:=(E6.trans E7).trans E8
 refine ae (ic (ak.KJ (by rfl') λDd fy=>aw hd hg JC (by rfl') (aq (fT hv (Xp (w:=w) hv (by rfl) (by rfl)) (.loc (.loc .nil)) aQ (pt:=λy=>bX) (aj hv 14 rfl rfl ⟨D,[.ref tb],λ_=>some (.int (ts.length:Int)),rfl,af fy _ _ (E8 _ _ (E7 _ _ C0)),aB,?_,λB4 NB=>aK ?_⟩)))))
 intro y hy τ F1 Γc e1 e2 e3
 obtain rfl:y=V.ref tb:=by simpa using hy
 have hh:=F1 _ _ (af (o:=.dict []) fy _ _ (E8 _ _ (E7 _ _ mB)))
 exact dE ⟨λ_=>cj e3 aN (ah e2 aD ⟨tb,_,rfl,hh,by rw[ay];lia,rfl,by rw[ay]⟩),tf⟩
 refine nA (ai _ _ _) aB λnR ix j E9 i0 j0 k1 k2=>aj hv 15 rfl rfl ⟨?_,?_⟩
 exact E9 _ _ (af NB _ _ (ai _ _ _))
 have EX:=(xS.trans (af (o:=.dict []) fy)).trans ((af (o:=.list ([V.ref tb].filterMap λ_=>some (.int (ts.length:Int)))) NB).trans E9)
 have nrD:r≠Dd:=bp (xS _ _ hr) fy
 have nbD:b≠Dd:=bp (xS _ _ hb) fy
 have nbr:b≠r:=λe=>by rw[e,hr]at hb;cases hb
 refine aj hv 13 rfl rfl ⟨r,401,_,_,rfl,(aJ nrD).trans (EX _ _ hr),wA,bG,dT w,mV w,?_⟩
 have NC:dU Dd=none:=xS.none fy
 have xP:∀{x:Addr},eP x=none→x≠Lh:=λh e=>by rw[e,Nx]at h;cases h
 refine ae (a_ (aj hv 13 rfl rfl (q _ r b _ ?_ (ai _ _ _) ?_ ?_)))
 exact((KE.trans (E5.trans EX)).upd (KE.none (E5.none NC))).upd (KE.none jV)
 rw[aJ nbr,aJ nbD];exact EX _ _ hb
 rw[aJ (Ne.symm (xP jV)),aJ (Ne.symm (xP (E5.none NC)))];exact EX _ _ (E5 _ _ Nx)
end
noncomputable def aej:SN:=[("interp",.local),("shells",.local),("_law_sum",.local),("total",.local),("first",.local),("figure",.local),("handed_now",.local),("told",.local),("heard",.cell),("Builtin",.globalImplicit),("_law_factor",.globalImplicit),("integer",.globalImplicit),("b_tapply",.globalImplicit)]
theorem aek:(bz (ao 271)).names=aej:=by rfl'
theorem ael (n:Addr):cellsFrom n (bz (ao 271)).names []=[(("heard":Str),n)]:=by rw[aek];rfl
theorem aem:fX [.int 1,.int 2,.int 1] fK.length:=λc hc=>by
 simp only[aY,f9,gB]at hc
 rcases hc with rfl|rfl|rfl
 exact .inr ⟨0,by decide,rfl⟩
 exact .inr ⟨1,by decide,rfl⟩
 exact .inr ⟨0,by decide,rfl⟩
theorem aen:∀p:Nat,([5,6,7]:List Nat)[p]?.getD 0≤1000
 |0=>by decide
 |1=>by decide
 |2=>by decide
 |p+3=>by simp
section
variable{w:World}{Γ:Ctx}{ρ:LO}{d:Nat}{σ:Hp}{Q:PQ}{a:Addr}{kind items attrs gl:V}{gls:LV}
theorem aeo {W:V}{S:Addr}{ns:List Nat}(ha:σ a=some (.inst 1985 (gu gl W (.bool true))))(gD:gW gl=true)(hS:σ S=some (.list (ns.map vI)))(hlen:ns.length=30)(hP:σ 2041=some (.raw (tabObj #[]) none))
  (q:∀τ gK,τ 2041=some (.raw (tabObj gK) none)→(∀x o,x≠2041→σ x=some o→τ x=some o)→Q (.bool true) τ):Call w (d+9) (.ref 2046) [.ref a,.ref S] σ Q:=by
 refine g_.call acF fun Γ hd hv hg hfe he=>?_
 have uN:Γ.env.code=.ref 2045:=by rw[he];rfl
 have ND:Γ.env.cells=[(("heard":Str),Γ.FL+1)]:=by rw[he];exact ael _
 have zS:(ns.map vI).length≤1000000:=by rw[ay];lia
 refine ae (aS hv (bq (aK ⟨aB,λLh gM=>⟨_,Ru,ae ?_⟩⟩)))
 have E1:=af (o:=.list []) gM
 have iS:=ai σ Lh (.list [])
 have nL:Lh≠2041:=Ne.symm (bp hP gM)
 have pv:=E1 _ _ hP
 revert E1 iS pv;refine gen (upd σ Lh (.list [])) ?_;intro rZ E1 iS pv
 refine aT.nest hv uN (cc:=Γ.FL+1) (by rw[ND];rfl) pv λf c' qual pm cZ gK oc hf0 wH n1 n2 n3 n8=>⟨_,eL,?_⟩
 have K1:∀x o,x≠2041→rZ x=some o→(upd (upd (upd rZ 2041 (.raw (tabObj gK) none)) c' (.raw oc none)) f (.raw (hJ (Γ.FL+1) c' qual pm cZ) none)) x=some o:=λx o hx h=>by
  rw[aJ (bp h hf0),aJ (bp h wH),aJ hx];exact h
 have f1:(upd (upd (upd rZ 2041 (.raw (tabObj gK) none)) c' (.raw oc none)) f (.raw (hJ (Γ.FL+1) c' qual pm cZ) none)) f=some (.raw (hJ (Γ.FL+1) c' qual pm cZ) none):=ai _ _ _
 have c1:(upd (upd (upd rZ 2041 (.raw (tabObj gK) none)) c' (.raw oc none)) f (.raw (hJ (Γ.FL+1) c' qual pm cZ) none)) c'=some (.raw oc none):=by rw[aJ n1];exact ai _ _ _
 have C1:(upd (upd (upd rZ 2041 (.raw (tabObj gK) none)) c' (.raw oc none)) f (.raw (hJ (Γ.FL+1) c' qual pm cZ) none)) 2041=some (.raw (tabObj gK) none):=by rw[aJ (Ne.symm n3),aJ (Ne.symm n2)];exact ai _ _ _
 revert K1 f1 c1 C1;refine gen ((upd (upd (upd rZ 2041 (.raw (tabObj gK) none)) c' (.raw oc none)) f (.raw (hJ (Γ.FL+1) c' qual pm cZ) none))) ?_;intro cA K1 f1 c1 C1
 have aep:∀{x C fs},σ x=some (.inst C fs)→x≠2041:=λh e=>by rw[e,hP]at h;cases h
 have gY:=K1 _ _ (aep ha) (E1 _ _ ha)
 have hS1:=K1 S _ (λe=>by rw[e,hP]at hS;cases hS) (E1 _ _ hS)
 have iS:=K1 _ _ nL iS
 refine ae (aS hv (aw hd hg aN (by rfl') (ar hv [2] rfl ?_)))
 refine adn λbU B E2 hB0 hB=>⟨_,eM,?_⟩
 refine ae (aS hv (aw hd hg aQ (by rfl') (aq (bq (ar rfl [] rfl ⟨aB,λC hC=>aK ?_⟩)))))
 refine LR (ai _ _ _) aB λcH g E3 xQ=>⟨_,dR,?_⟩
 have F1:=(E2.trans (af hC)).trans E3
 have cM:ns[29]? =some (ns[29]'(by lia)):=bL _
 have hx:(ns.map vI)[29]? =some (vI (ns[29]'(by lia))):=by rw[dI,cM];rfl
 refine ae (aS hv (bC (bo (ah hv aD (aW (eh (i:=29) (F1 _ _ hS1) rfl hx zS (aW (fC (by decide) ⟨_,fh,?_⟩))))))))
 refine gen (((ns[29]'(by lia):Nat):Int).fmod 100) ?_;intro fig
 refine ae (aS hv (bq (aq (fD (aq (bg (aq (aw hd hg cn (by rfl') (aq (bq (ar rfl [] rfl ⟨aB,λm1 xI=>aK ?_⟩)))))))))))
 refine nA (ai _ _ _) aB λeP v l E4 jZ hl0 ik hl=>aK ⟨aB,λt1 iz=>aq (fD (ar hv [4] rfl ⟨aB,λt2 iW=>aq (fD (ar hv [3] rfl ⟨aB,λt3 xm=>aq (fD (aq (bu (aq (aw hd hg cn (by rfl') (aq (bq (ar hv [5] rfl ⟨aB,λm2 q7=>aK ?_⟩))))))))⟩))⟩))⟩
 refine nA (ai _ _ _) aB λdU dv dl E5 afB aeq mz lF=>aK ⟨aB,λt4 ht4=>aK ⟨aB,λAs kz=>⟨_,eB,?_⟩⟩⟩
 have G4:=(af (o:=.list [.int 5,.int 6,.int 7]) xI).trans E4
 have NF:=af (o:=.tup [.none,.ref v]) iz
 have C2:=af (o:=.tup [.none,.ref g]) iW
 have xT:=af (o:=.tup [.none,.ref B]) xm
 have xU:=(af (o:=.list [.int fig]) q7).trans E5
 have G5:=(NF.trans C2).trans (xT.trans xU)
 have G6a:=af (o:=.tup [.str "default",.ref dv]) ht4
 have xV:=af (o:=.list [.ref t1,.ref t2,.ref t3,.ref t4]) kz
 have G6:=G6a.trans xV
 have rH:=F1 _ _ iS
 have nl:l≠Lh:=Ne.symm (bp (af xI _ _ rH) hl0)
 have CV:dl≠Lh:=Ne.symm (bp (af q7 _ _ (xT _ _ (C2 _ _ (NF _ _ (G4 _ _ rH))))) aeq)
 have C3:=(C2.trans (xT.trans (xU.trans G6))) _ _ (ai eP t1 (.tup [.none,.ref v]))
 have pf:=(xT.trans (xU.trans G6)) _ _ (ai (upd eP t1 (.tup [.none,.ref v])) t2 (.tup [.none,.ref g]))
 have C4:=(xU.trans G6) _ _ (ai (upd (upd eP t1 (.tup [.none,.ref v])) t2 (.tup [.none,.ref g])) t3 (.tup [.none,.ref B]))
 have C5:=xV _ _ (ai dU t4 (.tup [.str "default",.ref dv]))
 have C6:=ai (upd dU t4 (.tup [.str "default",.ref dv])) As (.list [.ref t1,.ref t2,.ref t3,.ref t4])
 have uW:=G4.trans (G5.trans G6)
 have C7:=(G5.trans G6) _ _ ik
 have C8:=(G5.trans G6) _ _ hl
 have C9:=G6 _ _ mz
 have C_:=G6 _ _ lF
 revert xV G6 C3 pf C4 C5 C6 uW C7 C8 C9 C_;refine gen (upd (upd dU t4 (.tup [.str "default",.ref dv])) As (.list [.ref t1,.ref t2,.ref t3,.ref t4])) ?_;intro fL xV G6 C3 pf C4 C5 C6 uW C7 C8 C9 C_
 have F6:=F1.trans uW
 have hB6:=(((af hC).trans E3).trans uW) _ _ hB
 have NG:=F6 _ _ gY
 refine ae (aS hv (ak.adX (cm hg cY ⟨1675,rfl,by rfl',aq (ah hv .here (aq (aj hv 6 rfl rfl (aq (aU (ah hv .here (bF NG (gm) (cz w) (rz w) gD (aK ?_))))))))⟩)))
 refine Call.lend (n:=d+8) (by lia) ND (vl:=[("interp",.loc),("shells",.loc),("_law_sum",.loc),("total",.loc),("first",.loc),("figure",.loc),("handed_now",.loc),("told",.loc)]) (hv.trans rfl) (by intro p hp;simp only[aY,f9,gB]at hp;rcases hp with rfl|rfl|rfl|rfl|rfl|rfl|rfl|rfl<;>rfl) (ρl:=[some (.ref a),some (.ref S),some (.ref f),some (.ref B),some (.ref g),some (.int fig),some (.ref As),none]) rfl rfl fun dc lv mA ku eA=>?_
 have Ec:=af (o:=.raw dc none) eA
 have iq:=ai fL (Γ.FL+1) (.raw dc none)
 revert Ec iq;refine gen (upd fL (Γ.FL+1) (.raw dc none)) ?_;intro eI Ec iq
 have NH:=Ec _ _ (F6 _ _ iS)
 have xW:Γ.FL+1≠Lh:=λe=>by rw[e,NH]at iq;cases iq
 have aer:cX (off eI Lh) g [.int 1,.int 2,.int 1] fK:=xQ.ext λx o h=>by
  have nx:x≠Lh:=λe=>by
   unfold new at h
   rw[e,af hC _ _ (E2 _ _ iS)]at h
   cases h
  refine off_ne nx (Ec _ _ (uW _ _ ?_))
  unfold new at h
  split at h
  exact h
  cases h
 refine aeh (W:=W) (gl:=gl) (as:=[t1,t2,t3,t4]) (ns:=[5,6,7]) (fig:=fig) (nm:=.str "total") (Ec _ _ NG) (Ec _ _ hB6) ⟨Γ.FL+1,c',qual,pm,cZ,oc,dc,lv,Ec _ _ (F6 _ _ f1),Ec _ _ (F6 _ _ c1),n8,iq,mA,ku,NH⟩ (Ec _ _ C6)
  (.cons (Ec _ _ C3) (.cons (Ec _ _ pf) (.cons (Ec _ _ C4) (.cons (Ec _ _ C5) .nil)))) (Ec _ _ C7) (Ec _ _ C8) nl aer aem (by decide) (by decide) rfl (by decide) aen (Ec _ _ C9) (Ec _ _ C_) CV λτ r b at_ E8 hr hb aes=>?_
 have k8:∀x o,x≠Lh→eI x=some o→τ x=some o:=λx o hx h=>E8 _ _ (off_ne hx h)
 have nrc:r≠Γ.FL+1:=λe=>by rw[e,k8 _ _ xW iq]at hr;cases hr
 have nbc:b≠Γ.FL+1:=λe=>by rw[e,k8 _ _ xW iq]at hb;cases hb
 refine⟨k8 _ _ xW iq,_,gV,?_⟩
 have Df:=off_ne nrc hr
 have r5:=off_ne nbc hb
 have uX:=off_ne (Ne.symm xW) aes
 have K9:∀x o,x≠2041→σ x=some o→off τ (Γ.FL+1) x=some o:=λx o hx h=>by
  have h6:=F6 _ _ (K1 _ _ hx (E1 _ _ h))
  exact off_ne (bp h6 eA) (k8 _ _ (bp h gM) (Ec _ _ h6))
 have t9:off τ (Γ.FL+1) 2041=some (.raw (tabObj gK) none):=by
  have h6:=F6 _ _ C1
  exact off_ne (bp h6 eA) (k8 _ _ (Ne.symm nL) (Ec _ _ h6))
 have r5:off τ (Γ.FL+1) b=some (.list [.int 12,.int 6,.int fig]):=r5
 have uX:off τ (Γ.FL+1) Lh=some (.list [.int 1,.int 1]):=uX
 revert Df K9 t9 r5 uX;refine gen (off τ (Γ.FL+1)) ?_;intro nR Df K9 t9 r5 uX
 refine ae (a_ (fQ (h_ (dP (aU (aj hv 7 rfl rfl (vi Df (bq (ar hv [5] rfl ⟨aB,λz1 nT=>?_⟩)))))))))
 refine ax (.eq (fw (af nT _ _ r5) (ai _ _ _) (bp r5 nT) (.cons mn (.cons mn (.cons mn .nil))))) ⟨true,.bool,tt rfl (iK (dP (aj hv 8 rfl rfl (bq (ar rfl [] rfl ⟨aB,λz2 iB=>?_⟩)))))⟩
 have NI:=af (o:=.list [.int 12,.int 6,.int fig]) nT _ _ uX
 refine ax (.eq (fw (af iB _ _ NI) (ai _ _ _) (bp NI iB) (.cons mn (.cons mn .nil)))) (q _ gK ?_ λx o hx h=>?_)
 exact af iB _ _ (af nT _ _ t9)
 exact af iB _ _ (af nT _ _ (K9 _ _ hx h))
end
inductive Dg (o:Obj)(xs:List V):Prop
 |mk (vs:Array Value) (n:Nat) (h1:o={cls:=.type "list",data:=.seq vs n}) (h2:vs.toList.map er=xs)
section
variable{w:World}{Γ:Ctx}{ρ:LO}{d:Nat}{σ:Hp}{Q:PQ}{QT:PF}{a:Addr}
theorem ak.aet {value hi p pos}(h:ak w Γ value σ ρ λo aH=>ak w Γ hi aH ρ λi aZ=>∃(l:Addr)(ob:Obj)(xs:List V)(a:Nat),o=.ref l∧i=.int a∧aZ l=some (.raw ob none)∧Dg ob xs∧xs.length≤1000000∧∀b,aZ b=none→Q (.ref b) (upd aZ b (.list (xs.take a))))
  (ht:∀o r,letTemporaryGo value o r=pure ():=by intro _ _;rfl):ak w Γ (.Subscript value (.Slice none (some hi) none p) pos) σ ρ Q:=by
 refine⟨λS s D k X hk=>wpAny_Subscript_list_slice (h.run S s D _ X λo av aH q aL=>?_) ht⟩
 rw[evalPart_none]
 refine bY ?_
 rw[evalPart_some]
 refine q.run S av aL _ X λi aG aZ b_ aA=>?_
 obtain⟨l,ob,xs,a,eo,ei,hl,⟨vs,n,rfl,ig⟩,hz,qq⟩:=b_
 refine bJ eo ?_
 refine cL ei λt=>?_
 obtain⟨pe,_⟩:=aA.hr.at_ _ _ hl
 refine⟨l,vs,none,some (a:Int),rfl,⟨_,pe,rfl,n,rfl⟩,?_,.none,.int _ _,?_⟩
 rw[fg ig];exact mR hz
 have aL:az w Γ {aG with heap:=aG.heap.push {cls:=.type "slice",data:=.fields #[.none,.int a t,.none]}} aZ ρ:=aA.grow (fun b o e=>dy _ e) rfl rfl
 have cM:At w ((aG.heap.push {cls:=.type "slice",data:=.fields #[.none,.int a t,.none]}).push {cls:=.type "list",data:=.seq (slicePick vs none (some (a:Int)) none)}) (aG.heap.push {cls:=.type "slice",data:=.fields #[.none,.int a t,.none]}).objs.size (.list (xs.take a)):=
  ⟨0,_,oB,by rw[YG vs a];subst ig;simp[List.map_take]⟩
 obtain⟨bN,fr⟩:=aL.push rfl rfl cM aG.toks
 have:=hk (.ref _) _ _ (qq _ fr) bN
 rw[jF]at this
 exact this
inductive aeu (S D:Addr)(υ:Hp)(n:Nat)(τ:Hp)(ρ:LO):Prop
 |mk (ns:List Nat) (o1:Option V) (t:Nat) (cQ:n=30-ns.length) (cR:ns.length≤30) (eO:t≤10000) (fV:τ=upd υ D (.list (ns.map vI))) (lr:ρ=[some (.ref S),some (.ref D),o1,some (.int t)])
inductive aev (S D:Addr)(υ τ:Hp)(ρ:LO):Prop
 |mk (ns:List Nat) (o1:Option V) (o2:Option V) (cQ:τ=upd υ D (.list (ns.map vI))) (cR:ns.length=30) (eO:ρ=[some (.ref S),some (.ref D),o1,o2])
inductive aew (σ:Hp)(S:Addr)(zs:List Int)(D b:Addr)(k:Nat)(τ:Hp)(ρ:LO):Prop
 |mk (υ:Hp) (ns:List Nat) (o:Option V) (cQ:υ D=none) (cR:Ext σ υ) (eO:υ b=some (.list ((zs.map V.int).take 30))) (fV:τ=upd υ D (.list (ns.map vI))) (lr:ns.length=k) (tR:k≤((zs.map V.int).take 30).length) (J_:ρ=[some (.ref S),some (.ref D),o,none])
inductive aex (σ:Hp)(S D:Addr)(τ:Hp)(ρ:LO):Prop
 |mk (υ:Hp) (ns:List Nat) (o:Option V) (cQ:υ D=none) (cR:Ext σ υ) (eO:τ=upd υ D (.list (ns.map vI))) (fV:ns.length≤30) (lr:ρ=[some (.ref S),some (.ref D),o,none])
theorem aey {S:Addr}{ob:Obj}{zs:List Int}(hS:σ S=some (.raw ob none))(mM:Dg ob (zs.map .int))(hz:zs.length≤1000000)(q:∀(τ:Hp)(b:Addr)(ns:List Nat),Ext σ τ→τ b=some (.list (ns.map vI))→ns.length=30→Q (.ref b) τ):Call w (d+1) (.ref 2010) [.ref S] σ Q:=by
 have zS:(zs.map V.int).length≤1000000:=by rw[ay];exact hz
 refine Uq fun Γ hd hv hg=>?_
 refine ae (aS hv (bq (aK ⟨aB,λD hD=>⟨_,bX,?_⟩⟩)))
 refine fU (aex σ S D) ?_ ?_
 refine fF hv (ak.aet (ah hv .here (aW ⟨S,ob,_,30,rfl,rfl,af hD _ _ hS,mM,zS,λb hb=>⟨b,(zs.map V.int).take 30,aew σ S zs D b,rfl,?_,?_,?_,?_⟩⟩)))
 obtain⟨h1,h2⟩:=hole hD (af (o:=.list ((zs.map V.int).take 30)) hb)
 have iu:b≠D:=Ne.symm (bp (ai _ _ _) hb)
 exact⟨_,[],_,dA,h1,off_ne iu (ai _ _ _),h2,rfl,j9 _,rfl⟩
 (intro k τ ρ zqA;obtain⟨υ,ns,o,h1,h2,h3,rfl,_⟩:=zqA);exact af h1 _ _ h3
 intro k τ ρ y zqA;obtain⟨υ,ns,o,h1,h2,h3,rfl,h4,_,rfl⟩:=zqA;intro hy
 have hk:=(cp.mp hy).1
 obtain⟨z,rfl⟩:∃z,y=.int z:=by
  have:=List.mem_of_mem_take (cS hy)
  refine bZ this λz _=>?_;exact⟨z,rfl⟩
 refine⟨_,eL,λown=>?_⟩
 obtain⟨hd,hv,hg⟩:=dF own hd hv hg
 refine ae (eH (ah hv aD ⟨D,rfl,⟨_,ai _ _ _⟩,bC (gG (cm hg aN ⟨"abs",rfl,aq (ak.oP (cm hg aQ ⟨"int",rfl,ar hv [2] rfl (Op.abA (aK (Op.abz (aW (fC (by decide) ⟨_,ai _ _ _,?_,au ⟨υ,ns++[z.natAbs % 5005],_,h1,h2,h3,?_,by simp[h4],hk,rfl⟩⟩)))))⟩))⟩))⟩))
 rw[ay,h4];rw[eZ]at hk;lia
 rw[dk,show(5005:Int)=((5005:Nat):Int)from rfl,fq,df];rfl
 intro τ ρ zqA;obtain⟨υ,ns,o,h1,h2,h3,rfl,h4,_,rfl⟩:=zqA
 refine⟨υ,ns,_,h1,h2,rfl,?_,rfl⟩
 rw[h4,eZ];lia
 intro τ ρ zqA;obtain⟨υ,ns,o,h1,h2,rfl,h4,rfl⟩:=zqA
 have zn:∀ms:List Nat,ms.length≤30→(ms.map vI).length≤1000000:=λms h=>by rw[ay];lia
 refine ae (aS hv (bC (aW (cj hg cn (ah hv aD ⟨D,_,rfl,ai _ _ _,zn _ h4,Op.jd ⟨_,eM,?_⟩⟩)))))
 rw[ay]
 refine fU (aev S D υ) ?_ ?_
 refine aT.wo (aeu S D υ) _ ⟨ns,_,21+ns.length,rfl,h4,by lia,rfl,by rw[(by lia:((21+ns.length:Nat):Int)=21+(ns.length:Int))]⟩ ?_
 intro n τ ρ zqA;obtain⟨ns,o1,t,rfl,hn,ht,rfl,rfl⟩:=zqA
 refine aF (cj hg cn (ah hv aD ⟨D,_,rfl,ai _ _ _,zn _ hn,aW (ax .ltI ⟨_,rfl,λc=>?_,λc=>?_⟩)⟩))
 have c:ns.length<30:=by have:=mD c;rw[ay]at this;lia
 have e:((t:Int)*71+1213).fmod 5003=(((t*71+1213) % 5003:Nat):Int):=by
  rw[(by lia:((t:Int)*71+1213)=((t*71+1213:Nat):Int)),show(5003:Int)=((5003:Nat):Int)from rfl,fq]
 refine ae (aS hv (bC (bC (bC (aj hv 3 rfl rfl (aW (Op.q8 ?_ (aW (Op.jd (aW (fC (by decide) ⟨_,eM,?_⟩)))))))))))
 lia
 rw[e]
 refine ae (eH (ah hv aD ⟨D,rfl,⟨_,ai _ _ _⟩,aj hv 3 rfl rfl ⟨_,ai _ _ _,zn _ hn,au ⟨_,?_,ns++[(t*71+1213) % 5003],_,_,rfl,?_,?_,?_,rfl⟩⟩⟩))
 rw[j6];simp;lia
 rw[j6];simp;lia
 have:=i7 (t*71+1213) (by decide:5003>0);lia (config:={})
 rw[dk,df];rfl
 have c:¬ns.length<30:=by have:=qQ c;rw[ay]at this;lia
 exact⟨ns,_,_,rfl,by lia,rfl⟩
 intro τ ρ zqA;obtain⟨ns,o1,o2,rfl,hn,rfl⟩:=zqA
 exact ae (a_ (ah hv aD (q _ D ns (h2.trans (af h1)) (ai _ _ _) hn)))
end
section
variable{w:World}{Γ:Ctx}{ρ:LO}{d:Nat}{σ:Hp}{Q:PQ}{QT:PF}
theorem mx.aez {x rest body pos p1 p2}(h:nZ w Γ x σ ρ λv aH=>v=.bool true∧∀aE:Ctx,aE.d=Γ.d→aE.vars=Γ.vars→aE.gls=Γ.gls→hY w aE .Or rest aH ρ λb aZ=>b=false∧QT .next aZ ρ)
  (he:∀env whole,isTrue x env whole=(do let v←whole;standAt x.pos;holding [v] (truthy v)):=by intro _ _;rfl):mx w Γ (.If (.BoolOp .Or (.UnaryOp .Not x p1::rest) p2) body [] pos) σ ρ QT:=by
 refine⟨λS K s D k X hk=>wpAny_If (wpAny_isTrue_BoolOp (wpAny_allTrue_Or_cons (wpAny_isTrue_Not (wpAny_isTrue_value (h.run S K s D _ X λv av aH q T=>?_) (he _ _)))))⟩
 obtain⟨e,q⟩:=q
 obtain rfl:=mK e
 obtain⟨h₁,T1,S1,D1⟩:=T
 refine wpAny_truthy_bool ?_
 simp only[Bool.not_true,jC,if_false]
 refine(q (Γ.re h₁) rfl rfl rfl).run S1 av D1 _ X λb aG aZ b_ aA=>?_
 obtain⟨rfl,b_⟩:=b_
 simp only[jC,if_false]
 exact qU (hk .next aG aZ ρ b_ ⟨h₁,T1,S1,aA⟩)
theorem aeA {l:Addr}{ob:Obj}{zs:List Int}(hd:Γ.d=d+13)(hv:Γ.vars=vT)(hg:Γ.gls=vU)(hl:σ l=some (.raw ob none))(mM:Dg ob (zs.map .int))(hz:zs.length≤1000000)(hP:σ 2041=some (.raw (tabObj #[]) none))(b8:l≠2041):
  jw w Γ (bodyOf (ao 272)) σ [some (.ref l),none,none] λfl τ _=>fl=.ret (.bool true)∧τ l=some (.raw ob none)∧∃gK,τ 2041=some (.raw (tabObj gK) none):=by
 refine jw.cons (aS hv (aw hd hg aN (by rfl') (ar hv [0] rfl ?_)))
 refine aey hl mM hz λcA S ns E1 hS hn=>⟨_,bX,rfl,?_⟩
 refine jw.cons (aS hv (aw hd hg aQ (by rfl') (ar rfl [] rfl ?_)))
 refine xl λbU a1 g1 W1 E2 d_ W10 nWa gY qv=>⟨_,eL,rfl,?_⟩
 refine jw.CA (mx.aez (nZ.fn hd hg cn (by rfl') (ar hv [2,1] rfl ?_)))
 refine acX gY rfl rfl qv (E2 _ _ hS) hn λcH E3=>⟨rfl,fun aE e1 e2 e3=>?_⟩
 have k1:∀x o,cA x=some o→cH x=some o:=λx o h=>E3 _ _ (off_ne (bp h W10) (E2 _ _ h))
 have hd:=e1.trans hd
 have hv:=e2.trans hv
 have hg:=e3.trans hg
 refine dK (dJ.not (c8 (aw hd hg cY (by rfl') (aq (aw hd hg aQ (by rfl') (ar rfl [] rfl ?_))))))
 refine xl λeP a2 g2 W2 E4 lV W20 afC l9 n0=>ar hv [1] rfl ?_
 refine abD l9 rfl rfl n0 (E4 _ _ (k1 _ _ hS)) hn λdU E5=>⟨_,.bool,ff rfl (kU ⟨rfl,fun aE e1 e2 e3=>?_⟩)⟩
 have k2:∀x o,cA x=some o→dU x=some o:=λx o h=>E5 _ _ (off_ne (bp (k1 _ _ h) W20) (E4 _ _ (k1 _ _ h)))
 clear hd hv hg
 rename Γ.d=d+13=>hd
 rename Γ.vars=vT=>hv
 rename Γ.gls=vU=>hg
 have hd:=e1.trans hd
 have hv:=e2.trans hv
 have hg:=e3.trans hg
 refine ae (a_ (fQ (h_ (aw hd hg fG (by rfl') (aq (aw hd hg aQ (by rfl') (ar rfl [] rfl ?_)))))))
 refine xl λfL a3 g3 W3 E6 a30 W30 afD xR qG=>ar hv [1] rfl ?_
 refine ab0 xR rfl (E6 _ _ (k2 _ _ hS)) hn λeI E7=>⟨true,.bool,tt rfl (iK (aw hd hg gm (by rfl') (aq (aw hd hg aQ (by rfl') (ar rfl [] rfl ?_)))))⟩
 refine xl λrO a4 g4 W4 E8 a40 W40 afE ha4 xu=>ar hv [1] rfl ?_
 have k3:∀x o,cA x=some o→rO x=some o:=λx o h=>E8 _ _ (E7 _ _ (E6 _ _ (k2 _ _ h)))
 exact aeo ha4 rfl (k3 _ _ hS) hn (k3 _ _ (E1 _ _ hP)) λτ gK t k=>⟨rfl,k _ _ b8 (k3 _ _ (E1 _ _ hl)),gK,t⟩
end
theorem aeB {w:World}{x1:V}{σ:Hp}{args:List Value}(ez:args.map er=[x1]){s:Shared}{news:List Addr}(hr:HR w s.heap σ)(oy:∀a o,σ a=some o→∀b∈foot s.heap a,b∈news)(KG:Known w (hideAll s.heap news))(ou:s.gens= #[]){R:Result→Shared→Prop}
  (body:∀(aE:Ctx)(s':Shared),aE.d=13→aE.vars=vT→aE.gls=vU→aE.iG=aE.env→aE.outer=[]→aE.base=hideAll s.heap news→aE.h₀=hideAll s.heap news→aE.os=s.os→bt w aE→az w aE s' σ [some x1,none,none]→
   wpAny (model aC w) aE.A (execs (bodyOf (ao 272)) aE.env) (λfl aG=>R (.ok (.ret (match fl with|.ret v=>v|_=>.none))) aG)
    (λe aG=>wpAny (model aC w) aE.A (leaving aE.env e) (λ_ bI=>R (.error e) bI) (λe' bI=>R (.error e') bI) aG) s'):
  codeAny (model aC w) callerA (.call (.ref 2053) ⟨args,[]⟩) R s:=by
 exact D_ ((Ux w).d1 λ_ _=>.of_eq (by rfl')) ez hr oy KG (below_caller _) rfl rfl ou rfl (by decide) (by decide) fun aE s' e1 e2 e3 e4 e5 e6 e7 _ e9 _ _ _ S' D'=>body aE s' e1 e2 e3 e4 e5 e6 e7 e9 S' D'
theorem aeC (w:World):lk (Fin w) 2041=some (tabObj #[]):=by rfl'
theorem NJ {R:WRecords}{cl:Str→Option Addr}{P:Params}{ord:List DictEntry→List DictEntry}:∀(ns:List Int)(s:Shared),∃vals tk,layAllW R cl P ord (ns.map WData.int) s=some (vals,{s with toks:=tk})∧vals.map er=ns.map V.int
 | [],s=>⟨[],s.toks,rfl,rfl⟩
 |n::ns,s=>by
  obtain⟨vals,tk,h1,h2⟩:=NJ (R:=R) (cl:=cl) (P:=P) (ord:=ord) ns {s with toks:=s.toks+1}
  refine⟨.int n s.toks::vals,tk,?_,by rw[bx,h2];rfl⟩
  simp only[bx,layAllW,layW,h1]
theorem NK:∀{xs:List WData},(∀d∈xs,∃i,d=.int i)→∃ns:List Int,xs=ns.map WData.int
 | [],_=>⟨[],rfl⟩
 |d::xs,h=>by
  obtain⟨i,rfl⟩:=h d bA
  obtain⟨ns,rfl⟩:=NK λd hd=>h d (bw _ hd)
  exact⟨i::ns,rfl⟩
theorem aeD {ns:List Int}(x:WTm.holds [] (.and (.not (.lt (.lit (.int 63)) (.len (.arg 0)))) (.lit (.bool true))) {args:=[.list (ns.map .int)]}=true):ns.length≤63:=by
 by_cases h:ns.length≤63
 exact h
 exfalso
 simp only[WTm.holds,WTm.value,List.getElem?_cons_zero,ay]at x
 have e:less? (WData.int 63) (WData.int (ns.length:Int))=some (decide ((63:Int)<(ns.length:Int))):=rfl
 rw[e,i6 (by lia:(63:Int)<(ns.length:Int))]at x
 cases x
noncomputable def pA (ob:Obj):Hp:=λx=>if x=2054 then some (.raw ob none)else if x=2041 then some (.raw (tabObj #[]) none)else none
theorem aeE {ob:Obj}:pA ob 2054=some (.raw ob none):=rfl
theorem aeF {ob:Obj}:pA ob 2041=some (.raw (tabObj #[]) none):=rfl
theorem xX {ob:Obj}{a:Addr}{o:MO}(h:pA ob a=some o):(a=2054∧o=.raw ob none)∨(a=2041∧o=.raw (tabObj #[]) none):=by
 unfold pA at h
 by_cases e:a=2054
 rw[ck e]at h;cases h;exact .inl ⟨e,rfl⟩
 rw[bK e]at h
 by_cases e':a=2041
 rw[ck e']at h;cases h;exact .inr ⟨e',rfl⟩
 rw[bK e']at h;cases h
theorem aeG {w:World}{h:Heap}{ob:Obj}(h1:h.get? 2054=some ob)(hd:eK ob=none)(h2:h.get? 2041=some (tabObj #[])):HR w h (pA ob)∧∀a o,pA ob a=some o→∀b∈foot h a,b=a:=by
 have ft:∀a o,pA ob a=some o→∀b∈foot h a,b=a:=λa o ha b hb=>by
  rcases xX ha with⟨rfl,rfl⟩|⟨rfl,rfl⟩
  rw[jv h1,hd]at hb;simpa using hb
  rw[jv h2]at hb;simpa [eK,tabObj]using hb
 refine⟨⟨λa o ha=>?_,λa b oa fO ha hb ne x xa xb=>ne ((ft a oa ha x xa).symm.trans (ft b fO hb x xb)),[2054,2041],λa o ha=>?_⟩,ft⟩
 rcases xX ha with⟨rfl,rfl⟩|⟨rfl,rfl⟩
 exact At.raw h1 hd
 exact At.raw h2 rfl
 rcases xX ha with⟨rfl,rfl⟩|⟨rfl,rfl⟩<;>simp
theorem aeH (a b:List WData):i8.post a (.bool true) b=true:=by
 show(WShape.has [] (.bool true) .bool&&WTm.holds [] (.eq .res (.lit (.bool true))) {args:=a,res:=some (.bool true),after:=b})=true
 rw[(by decide+kernel:WShape.has [] (.bool true) .bool=true),Bool.true_and]
 simp only[WTm.holds,WTm.value]
 rw[(by decide+kernel:same (.bool true) (.bool true)=true)]
theorem aeI (w:World)(bH av:Shared)(os:OsState)(k:Kn bH 2054 3074 bh os (Fin w))(k1:bH.heap.get? 1=some (boot_o_1 w.params))(args:List WData)(vs:List Value)(as:List Addr)
  (vv:i8.pre args=true)(ze:WData.layableAll args=true)(L:Laid [] w bH av args vs as):
  wpAny (model aC w) callerA (PySem.call (.ref 2053) vs) (λv s'=>GoodWG i8 (classAt bH.heap) (ExcName.means bH.heap) args av (.ok (.ret v)) s')
   (λe s'=>GoodWG i8 (classAt bH.heap) (ExcName.means bH.heap) args av (.error e) s') av:=by
 obtain⟨hsh,mi⟩:=pre_splitW vv
 obtain⟨d,r,rfl,hd,hr⟩:=hasAllW_cons hsh
 obtain rfl:=hasAllW_nil hr
 obtain⟨xs,rfl,hi⟩:=hasW_list hd
 obtain⟨ns,rfl⟩:=NK λd hd=>hasW_int (hasItemsW_at hi d hd)
 have h63:ns.length≤63:=aeD mi
 obtain⟨ord,_,hl⟩:=L.laid
 obtain⟨vals,tk,h1,h2⟩:=NJ (R:=[]) (cl:=classAt bH.heap) (P:=w.params) (ord:=ord) ns bH
 simp only[layAllW,layW,h1,Option.some.injEq,kL]at hl
 obtain⟨rfl,iU⟩:=hl
 have l5:bH.heap.objs.size=2054:=k.n
 have hH:av.heap=bH.heap.push {cls:=.type "list",data:=.seq vals.toArray}:=by rw[←iU]
 have Dj:av.heap.get? 2054=some {cls:=.type "list",data:=.seq vals.toArray}:=by rw[hH,←l5];exact jA _ rfl
 have keep:=L.keeps
 have NL:av.heap.get? 2041=some (tabObj #[]):=keep _ _ (k.fs (2041,_) (vf (aeC w)))
 clear iU
 rw[l5]
 generalize mM:({cls:=.type "list",data:=.seq vals.toArray}:Obj)=ob at Dj
 have lG:eK ob=none:=by rw[←mM];rfl
 obtain⟨HR1,ft⟩:=aeG (w:=w) Dj lG NL
 have low:∀b o,bH.heap.get? b=some o→b≠2054:=λb o e q=>by
  have:=f_ e
  rw[l5,q]at this
  exact Nat.lt_irrefl _ this
 have KG:Known w (hideAll av.heap [2041,2054]):=by
  refine⟨λp hp hn=>mE _ (keep _ _ (k.fs p hp)) ?_,mE _ (keep _ _ k1) (by decide)⟩
  have:=low _ _ (k.fs p hp)
  simp[hn,this]
 refine wpAny_call (aeB (x1:=.ref 2054) (σ:=pA ob) (news:=[2041,2054]) rfl HR1 (λa o ha b hb=>?_) KG L.gens fun aE s' e1 e2 e3 e4 e5 e6 e7 e8 S' D'=>?_)
 obtain rfl:=ft a o ha b hb
 rcases xX ha with⟨rfl,_⟩|⟨rfl,_⟩<;>simp
 refine(aeA (d:=0) (l:=2054) (ob:=ob) (zs:=ns) e1 e2 e3 aeE ⟨vals.toArray,0,mM.symm,by simpa using h2⟩ (by lia) aeF (by decide)).run S' (by rw[e6];exact KG) s' D' _ _ λfl aG aZ dz q T=>?_
 obtain⟨q1,q2,gK,q3⟩:=q
 obtain⟨h₁,T1,S1,D1⟩:=T
 have iw:fl=.ret (.bool true):=by
  cases fl with
  |ret v=>
   have:er v=.bool true:=by injection q1
   rw[mK this]
  |next=>cases q1
  |brk=>cases q1
  |cont=>cases q1
 subst iw
 obtain⟨m,F⟩:=D1.fr
 have aeJ:dC aE.outer=[]:=by rw[e5];rfl
 have kp:∀b o,av.heap.get? b=some o→b≠2041→b≠2054→aG.heap.get? b=some o:=λb o e n1 n2=>by
  refine F.keep b o (T1.other b o ?_ (by rw[aeJ];simp))
  rw[e7]
  exact mE _ e (by simp[n1,n2])
 obtain⟨NM,_⟩:=D1.hr.at_ _ _ q2
 obtain⟨NN,_⟩:=D1.hr.at_ _ _ q3
 refine⟨.inl ⟨.bool true,.bool true,[],rfl,λ_=>rfl,.bool true,aeH _ _,λ_=>⟨kK,λa ha=>(nomatch ha)⟩⟩,⟨λb o e=>?_,λb o e=>?_⟩,D1.os.trans e8,.of_eq D1.gens⟩
 by_cases n1:b=2041
 subst n1
 rw[NL]at e;cases e
 refine .inr (.inl ⟨⟨2045,oC,_,keep _ _ (k.fs (2045,_) (vf (lC w))),rfl,rfl,rfl⟩,rfl,#[],gK,rfl,?_⟩)
 rw[NN]
 simp[tabObj]
 by_cases n2:b=2054
 subst n2;rw[Dj]at e;cases e;exact .inl NM
 exact .inl (kp b o e n1 n2)
 by_cases n1:b=2041
 exact⟨_,n1▸NN⟩
 by_cases n2:b=2054
 exact⟨_,n2▸NM⟩
 exact⟨_,kp b o e n1 n2⟩
noncomputable abbrev r6:List Str:=["law","_law_default_right","_law_undone_right","_law_factor","_law_combined_right","_law_split_right","_law_said","_law_shells"]
theorem aeK:dq.own=r6:=by
 rfl'
theorem aeL:decide (dq.foot≤(behindTheImports dq.prog).length)=true:=by rfl'
theorem aeM:dq.footing.all footLine=true:=by
 rw[Fast.te10501279942588096481];rfl'
theorem aeN:noClassBlock dq.prog dq.footing=true:=by
 rw[Fast.te8179353310426384613];rfl'
theorem aeO:defStands dq.about dq.above=true:=by
 rw[Fast.te9558739934217749035];rfl'
theorem aeP:dq.namesIt=true:=by
 show dq.reads "b_split"=true
 unfold OpenLaw.reads
 rw[Fast.te13343964577679436407];rfl'
theorem aeQ:(["type","isinstance","issubclass","getattr","hasattr"]:List Str).all (fun n=>dq.about !=[n])=true:=by rfl'
theorem aeR:(dq.prog.main.body.flatMap importedNames)=[]:=by rfl'
theorem aeS:namesMeet dq.prog dq.footing (fun sc n=>(!(["type","isinstance","issubclass","getattr","hasattr"]:List Str).contains n||sc.names.lookup n==some .globalImplicit)&&
  (dq.may !=some n||sc.kind==.module||sc.names.lookup n==some .globalImplicit))=true:=by
 rw[Fast.te17119622794617984870];rfl'
theorem aeT:namesMeet dq.prog dq.footing (λsc n=>sc.kind==.module||sc.names.lookup n !=some .globalExplicit)=true:=by
 rw[Fast.te17119622794617984870];rfl'
theorem aeU:r6.contains "law"=true:=by rfl'
theorem aeV:(r6.eraseDups.length==r6.length)=true:=by rfl'
theorem aeW:r6.all (λn=> !builtinNamed n)=true:=by
 rw[Fast.named_eq];rfl'
theorem aeX:noRoadLSs {strict:=true,foot:=some dq.bound',writes:=dq.writes,may:=dq.may} dq.footing=true:=by
 rw[Fast.te8326940854005059898,Fast.te797321630700447069];rfl'
theorem aeY:dq.bound'.all (λn=> !builtinNamed n||dq.about==[n]|| !dq.reads n)=true:=by
 unfold OpenLaw.reads
 rw[Fast.named_eq,Fast.te797321630700447069,Fast.te13343964577679436407];rfl'
theorem aeZ:sreFenced aC.main=true:=(dD Fast.te11788848310118352699 _).trans (by rfl')
theorem ae0:(moduleNames aC.main.body).isEmpty=true:=by
 rw[Fast.te9807087744658564304];rfl'
theorem ae1:namesResolve aC=true:=(dD Fast.te8377067652309620493 _).trans (by rfl')
theorem ae2:aC.boundNames.all (λn=> !worldNames.contains n)=true:=by
 rw[Fast.te18344453789297297638,Fast.te14412699480532031325];rfl'
theorem ae3:(importedModules aC.main.body).all cThrough.contains=true:=by rfl'
theorem ae4:readsOut aC aC.main.body "vars"=false:=by
 rw[Fast.te13343964577679436407];rfl'
theorem ae5:readsOut aC aC.main.body "dir"=false:=by
 rw[Fast.te13343964577679436407];rfl'
theorem ae6:readsOut aC aC.main.body "locals"=false:=by
 rw[Fast.te13343964577679436407];rfl'
noncomputable abbrev r7:Look:={strict:=false,foot:=none,bare:=[]}
theorem ae7:noRoadLSs r7 (aC.main.body.take 50)=true:=by
 rw[Fast.te8326940854005059898];rfl'
theorem ae8:noRoadLSs r7 ((aC.main.body.drop 50).take 100)=true:=by
 rw[Fast.te8326940854005059898];rfl'
theorem ae9:noRoadLSs r7 ((aC.main.body.drop 50).drop 100)=true:=by
 rw[Fast.te8326940854005059898];rfl'
theorem Dk {lk:Look}:∀{a b:List Stmt},noRoadLSs lk a=true→noRoadLSs lk b=true→noRoadLSs lk (a++b)=true
 | [],_,_,h=>h
 |s::r,b,h,h'=>by
  have h:=mC.mp h
  exact mC.mpr ⟨h.1,Dk h.2 h'⟩
theorem ae_:noRoadLSs r7 aC.main.body=true:=by
 rw[←n_ 50 aC.main.body]
 refine Dk ae7 ?_
 rw[←n_ 100 (aC.main.body.drop 50)]
 exact Dk ae8 ae9
theorem afa:namesMeet aC aC.main.body (λ_ n=>attrL n)=true:=by
 rw[Fast.te17119622794617984870,Fast.te17868728402115742887];rfl'
theorem afb:namesMeet aC dq.above (λ_ n=> !r6.contains n)=true:=by
 rw[Fast.te17119622794617984870,Fast.sDec_eq];rfl'
theorem afc {a b c d:Bool}(ha:a=true)(hb:b=false)(hc:c=false)(hd:d=false){f:Str→Bool}(eb:f "vars"=b)(ec:f "dir"=c)(ed:f "locals"=d):(({strict:= !a,foot:=none,bare:=(["vars","dir","locals"]:List Str).filter f}:Look))=r7:=by
 subst ha hb hc hd
 simp only[List.filter,eb,ec,ed]
 rfl
theorem afd:(({strict:= !(importedModules aC.main.body).all cThrough.contains,foot:=none,bare:=(["vars","dir","locals"]:List Str).filter (readsOut aC aC.main.body)}:Look))=r7:=afc ae3 rfl rfl rfl ae4 ae5 ae6
theorem afe:looksOpen aC=true:=by
 unfold looksOpen
 rw[afd]
 refine c6 (c6 (c6 (c6 (c6 aeZ ?_) ae1) ae2) ae_) afa
 rw[ae0];rfl
theorem aff:dq.row.partSaid=true:=by
 unfold OpenRow.partSaid
 refine c6 (c6 (c6 (c6 (c6 (c6 (c6 (c6 (c6 (c6 (c6 (c6 (c6 afe ?_) ?_) ?_) ?_) ?_) ?_) ?_) ?_) ?_) ?_) ?_) ?_) ?_
 all_goals first|rfl|decide+kernel|rfl'
theorem afg:aC.boundNames.contains "law"=true:=by
 rw[Fast.te18344453789297297638];rfl'
theorem afh:(!startupNames.contains "law")=true:=by
 rw[Fast.te12749700546528644094];rfl'
theorem afi:dq.row.wellSaid=true:=by
 unfold OpenRow.wellSaid
 exact c6 (c6 aff afg) afh
theorem afj:dq.wellSaid=true:=by
 unfold OpenLaw.wellSaid
 rw[aeR,aeK]
 exact c6 (c6 (c6 (c6 (c6 (c6 (c6 (c6 (c6 (c6 (c6 (c6 (c6 (c6 (c6 (c6 (c6 (c6 afi aeL) aeM) aeN) rfl) rfl) aeX) aeO) aeP) aeQ) aeY) rfl) rfl) aeS) aeU) aeV) aeW) afb) aeT
end Mine
theorem PySem.Challenge.cw_pq1440_01_holds : PySem.Challenge.rw_pq1440_01.Holds :=
  holds_law Mine.afj fun zd=>Mine.QH zd Mine.aeI
