/- Part of the proof in YtnfgokmecllpbaaGreatDoorMParses6. -/
import Derived.Test.YtnfgokmecllpbaaGreatDoorProg
import Derived.Below
import Derived.Deep.Draws
import Derived.Deep.AppendLies
import Derived.Maps.AppendAt
import Derived.OwnWalk
import Derived.Laws.BytesArg
import Derived.Laws.MakeOwn
import Derived.Laws.OwnMore
import Derived.Deep.OwnRows
import Derived.Tactics
import Derived.Lib.ConvBytes
import Derived.Laws.Slices
import Derived.WalkKit
import Derived.KernelRfl
import Derived.RowKit3
import Derived.Deep.LoopGhost
import Derived.Deep.QuietTactic
import Derived.BigQuiet
import Derived.WideLaws
import Derived.Deep.DeepCutAuto
import Derived.Deep.CutBlock
import Derived.Deep.RegionHeld3
import Derived.Laws.Rows
import Derived.Lib.AppendStr
import Derived.ArgAppend
import Derived.Laws.IdiomCopy
import Derived.OrdersHeld
import Derived.Laws.BitsLemmas
import Derived.RowKit
import Derived.Shelf.Strings.Builder1
import Derived.Shelf.Strings.Builder2
import Derived.Shelf.Strings.Trim
import Derived.Shelf.Small.Utf8
import Derived.Shelf.Small.Strs
import Derived.Shelf.Small.Wraps
import Derived.Shelf.Strings.BuilderF
import Derived.Shelf.Strings.BuilderK
import Derived.Shelf.Strings.Builder2Cap
import Derived.Shelf.Strconv.Atoi
import Derived.Shelf.Strconv.Itoa0
import Derived.Shelf.Strconv.Itoa1
import Derived.Shelf.LaysM
import Derived.Shelf.Strconv.Itoa2
import Derived.Shelf.Strconv.Itoa3
import Derived.Shelf.Strconv.AtoiErrFast
import Derived.Shelf.Strconv.ParseIntEmpty
import Derived.Shelf.Strconv.AtoiFail
import Derived.Shelf.Strconv.Clone
import Derived.Shelf.Strconv.SyntaxError
import Derived.Shelf.LaysC
import Derived.Shelf.Strconv.ToError
import Derived.Shelf.Strconv.Lower
import Derived.Shelf.Strconv.ParseUint10
import Derived.Shelf.Strconv.ParseUint10Empty
import Derived.Shelf.Strconv.ParseUint10Any
import Derived.Shelf.Strconv.ParseInt10
import Derived.Shelf.Strconv.AtoiLong
import Derived.Shelf.Strconv.AtoiInnerAll
import Derived.Shelf.Strconv.RangeError
import Derived.Shelf.Strconv.ToErrorRange
import Derived.Shelf.Strconv.AtoiAll
import Derived.Shelf.Strconv.ParseUintEmpty
import Derived.Shelf.Strconv.ParseUint10b64
import Derived.Shelf.Strconv.ParseUint10b32
import Derived.Shelf.Strconv.ParseUint10b16
import Derived.Shelf.Strconv.ParseUint10b8
import Derived.Shelf.Strconv.ParseUint10At
import Derived.Shelf.Strconv.ParseInt10At64
import Derived.Shelf.Strconv.ParseInt10At32
import Derived.Shelf.Strconv.ParseInt10At16
import Derived.Shelf.Strconv.ParseInt10At8
import Derived.Shelf.Strconv.ParseInt10All
import Derived.Shelf.Strconv.ParseIntPublic10
import Derived.Ground.MpProg
import Derived.Shelf.Pu.ParseUintPublic10
import Derived.Shelf.Strings.Search1
import Derived.Shelf.Strings.Search2
import Derived.Shelf.Strings.Search3
import Derived.Shelf.Strings.Cut
import Derived.Shelf.Strings.Count
import Derived.Shelf.Strings.Shaped
import Derived.Shelf.Strings.Prefix
import Derived.Shelf.Strings.Split
import Derived.Shelf.Strings.SplitShaped
import Derived.Shelf.Strings.Runes
import Derived.Shelf.Strings.IndexAny
import Derived.Shelf.Strings.AsciiSet
import Derived.Shelf.Strings.IndexAnyAll
import Derived.Shelf.Bits.Mul64
import Derived.Shelf.Strings.Repeat
import Derived.Shelf.Unicode.DecodeSlow
import Derived.Shelf.Unicode.DecodeAny
import Derived.Shelf.Strings.BuilderCap
import Derived.Shelf.Slices.Turned
import Derived.Lib.SmallJoins
import Derived.RangeFuncBox
import Derived.RangeFuncLeaves
import Derived.RangeFuncNested
import Derived.RangeFuncBound
import Derived.RangeFuncCalls
import Derived.Shelf.Abstract
import Derived.Shelf.RegionOpen
import Derived.OwnWalkIn
import Derived.TacticsInMore
import Derived.LoopNIn
import Derived.LoopIn
import Derived.OrdersIn
import Derived.TacticsIn
import Derived.BigRegionIn
import Derived.Lib.AppendIntMem
import Derived.Lib.Hide
import Derived.Lib.OthersKept
import Derived.Test.YtnfgokmecllpbaaGreatDoorMParses1
set_option linter.unusedVariables false
set_option linter.unusedSimpArgs false
set_option maxHeartbeats 8000000
set_option maxRecDepth 100000
section
namespace Go.Proofs.YtnfgokmecllpbaaGreatDoor.Print
open Go.RowKit Go.Proofs.YtnfgokmecllpbaaGreatDoorW.PrintWords Go.Proofs.YtnfgokmecllpbaaGreatDoorW.PrintLast Go.Proofs.YtnfgokmecllpbaaGreatDoorW.PrintMore
attribute [local go_sem] max2_int min2_int max_two min_two max_three min_three max_four min_four
def errW:Option Int→Value
 |none=> .nilIface
 |some c=> .iface 212 (.int .i64 c)
theorem errW_none:errW none= .nilIface:=rfl
theorem errW_some (c:Int):errW (some c)= .iface 212 (.int .i64 c):=rfl
theorem info3:(Tryz.prog.info? 3).map (fun i=>(i.zero,i.size,i.bytes))=some (some (.int .i64 0),1,8):=by kernel_rfl
theorem info156:(Tryz.prog.info? 156).map (fun i=>(i.zero,i.size,i.bytes))=some (some (.int .u64 0),1,8):=by kernel_rfl
end Go.Proofs.YtnfgokmecllpbaaGreatDoor.Print
end
section
namespace Go.Proofs.YtnfgokmecllpbaaGreatDoor.Print
open Go.RowKit Go.Proofs.YtnfgokmecllpbaaGreatDoorW.PrintWords Go.Proofs.YtnfgokmecllpbaaGreatDoorW.PrintLast Go.Proofs.YtnfgokmecllpbaaGreatDoorW.PrintMore
theorem Zb {α β:Type} {x:Option α} {g:α→Option β} {r:β} (h:x.bind g=some r): ∃a,Aside0 (x=some a)∧g a=some r:=by
  obtain⟨a,h1,h2⟩ :=Option.bind_eq_some_iff.mp h;exact⟨a,⟨h1⟩,h2⟩
theorem Zg {P:Program} {ops:Array Oper} {Q:Exit→Act→World→Prop} {rest:List Oper} {oi:Oper} {a:Act} {w:World} (N:Option Tmp) {f:FuncId} {fn:Func} {as_:Array Operand} {ts:Array TypeId} (hf:P.funcs[f]? =some fn) (args:Array Value)
    (h:Calls P f args w fun e w'=> ∃v,e= .returned v∧wpList P ops Q rest (a.put N v) w') (hd:oi.dst=N:=by rfl) (hg:oi.guard=none:=by rfl) (hname:(fn.name== "runtime.NumGoroutine")=false:=by kernel_rfl) (hb:fn.body.isSome=true:=by rfl)
    (hop:oi.op= .call {callee:= .value (.func f),args:=as_,argTypes:=ts}:=by rfl) (hargs:as_.map a.eval=args:=by(try simp only[List.map_toArray,List.map_cons,List.map_nil]);first|done|rfl| (simp only[List.length_drop,List.length_take];rfl)):wpList P ops Q (oi::rest) a w:=goesL_ N hd hg hf hname hb args hop hargs h
theorem Zn {w W w2:World} (hb:Below W.heap.size W w2) (h:Below w.heap.size w W:=by repeat(first| (with_reducible first|exact HB.out|apply below_alloc|apply pw_below_drewN|apply below_drew1)|exact HB.out)):Aside0 (Below w.heap.size w w2):=Aside0.mk (below_step h hb)
theorem Zc {P:Program} {ops:Array Oper} {Q:Exit→Act→World→Prop} {rest:List Oper} {oi:Oper} {a:Act} {w:World} {N:Option Tmp} {f:FuncId} {fn:Func} {as_:Array Operand} {ts:Array TypeId} {args:Array Value} {R:Ending→World→Prop} (hf:P.funcs[f]? =some fn) (hc:Calls P f args w R)
    (h: ∀e w',R e w'→∃v,e= .returned v∧wpList P ops Q rest (a.put N v) w') (hop:oi.op= .call {callee:= .value (.func f),args:=as_,argTypes:=ts}:=by rfl) (hd:oi.dst=N:=by rfl) (hg:oi.guard=none:=by rfl) (hname:(fn.name== "runtime.NumGoroutine")=false:=by kernel_rfl) (hb:fn.body.isSome=true:=by rfl)
    (hargs:as_.map a.eval=args:=by(try simp only[List.map_toArray,List.map_cons,List.map_nil]);first|done|rfl| (simp only[List.length_drop,List.length_take];rfl)):wpList P ops Q (oi::rest) a w:=goesL_ N hd hg hf hname hb args hop hargs (hc.mono h)
theorem Zq {P:Program} {ops:Array Oper} {Q:Exit→Act→World→Prop} {rest:List Oper} {oi:Oper} {a:Act} {w:World} {N:Option Tmp} {f:FuncId} {fn:Func} {as_:Array Operand} {ts:Array TypeId} {args:Array Value} {v:Value} (hf:P.funcs[f]? =some fn) (hc:Calls P f args w fun e w'=>e= .returned v∧Drawn0 w w')
    (h: ∀nd,wpList P ops Q rest (a.put N v) (w.drewN nd)) (hop:oi.op= .call {callee:= .value (.func f),args:=as_,argTypes:=ts}:=by rfl) (hd:oi.dst=N:=by rfl) (hg:oi.guard=none:=by rfl) (hname:(fn.name== "runtime.NumGoroutine")=false:=by kernel_rfl) (hb:fn.body.isSome=true:=by rfl)
    (hargs:as_.map a.eval=args:=by(try simp only[List.map_toArray,List.map_cons,List.map_nil]);first|done|rfl| (simp only[List.length_drop,List.length_take];rfl)):wpList P ops Q (oi::rest) a w:=
  goesL_ N hd hg hf hname hb args hop hargs (hc.mono fun e w' ⟨he,nd,hw⟩ => ⟨v,he,hw ▸ h nd⟩)
theorem Zm {P:Program} {ops:Array Oper} {Q:Exit→Act→World→Prop} {rest:List Oper} {oi:Oper} {a:Act} {w:World} {N:Option Tmp} {f:FuncId} {fn:Func} {as_:Array Operand} {ts:Array TypeId} {args:Array Value} {v:Value} {R:World→Prop} (hf:P.funcs[f]? =some fn) (hc:Calls P f args w fun e w'=>e= .returned v∧R w')
    (h: ∀w',R w'→wpList P ops Q rest (a.put N v) w') (hop:oi.op= .call {callee:= .value (.func f),args:=as_,argTypes:=ts}:=by rfl) (hd:oi.dst=N:=by rfl) (hg:oi.guard=none:=by rfl) (hname:(fn.name== "runtime.NumGoroutine")=false:=by kernel_rfl) (hb:fn.body.isSome=true:=by rfl)
    (hargs:as_.map a.eval=args:=by(try simp only[List.map_toArray,List.map_cons,List.map_nil]);first|done|rfl| (simp only[List.length_drop,List.length_take];rfl)):wpList P ops Q (oi::rest) a w:=
  goesL_ N hd hg hf hname hb args hop hargs (hc.mono fun e w' ⟨he,hr⟩ => ⟨v,he,h w' hr⟩)
theorem Zh {P:Prop} (h:P:=by first| (go_simp;done)| (go_simp;rfl)):P:=h
section
variable {α:Type} {p:Prop} [Decidable p] {a b:Option α} {r:α}
theorem XI (h:(if p then a else b)=some r):a=some r∧p∨b=some r∧¬p:=by
  by_cases c:p
  ·rw[if_pos c] at h;exact .inl ⟨h,c⟩
  ·rw[if_neg c] at h;exact .inr ⟨h,c⟩
theorem XkI (h:(if p then a else none)=some r):a=some r∧p:=by
  by_cases c:p
  ·rw[if_pos c] at h;exact⟨h,c⟩
  ·rw[if_neg c] at h;cases h
theorem Xd (h:(if p then a else b)=some r):a=some r∧decide p=true∨b=some r∧decide p=false:=by
  by_cases c:p
  ·rw[if_pos c] at h;exact .inl ⟨h,decide_eq_true c⟩
  ·rw[if_neg c] at h;exact .inr ⟨h,decide_eq_false c⟩
theorem XD (h:(if p then a else b)=some r):a=some r∧decide p=true∧p∨b=some r∧decide p=false∧¬p:=by
  by_cases c:p
  ·rw[if_pos c] at h;exact .inl ⟨h,decide_eq_true c,c⟩
  ·rw[if_neg c] at h;exact .inr ⟨h,decide_eq_false c,c⟩
theorem Xkd (h:(if p then a else none)=some r):a=some r∧decide p=true:=by
  by_cases c:p
  ·rw[if_pos c] at h;exact⟨h,decide_eq_true c⟩
  ·rw[if_neg c] at h;cases h
theorem XkD (h:(if p then a else none)=some r):a=some r∧decide p=true∧p:=by
  by_cases c:p
  ·rw[if_pos c] at h;exact⟨h,decide_eq_true c,c⟩
  ·rw[if_neg c] at h;cases h
theorem Xkt (h:(if p then a else none)=some r):a=some r∧p=True∧decide p=true:=by
  by_cases c:p
  ·rw[if_pos c] at h;exact⟨h,eq_true c,decide_eq_true c⟩
  ·rw[if_neg c] at h;cases h
theorem XkT (h:(if p then a else none)=some r):a=some r∧p=True∧decide p=true∧p:=by
  by_cases c:p
  ·rw[if_pos c] at h;exact⟨h,eq_true c,decide_eq_true c,c⟩
  ·rw[if_neg c] at h;cases h
end
section
variable {α β:Type} {x y:β} [BEq β] [LawfulBEq β] [Decidable (x=y)] {a b:Option α} {r:α}
theorem XE (h:(if x=y then a else b)=some r):a=some r∧(x==y)=true∧(x !=y)=false∧x=y∨b=some r∧(x==y)=false∧(x !=y)=true∧¬x=y:=by
  by_cases c:x=y
  ·rw[if_pos c] at h;exact .inl ⟨h,beq_iff_eq.mpr c,bne_eq_false_iff_eq.mpr c,c⟩
  ·rw[if_neg c] at h;exact .inr ⟨h,beq_eq_false_iff_ne.mpr c,bne_iff_ne.mpr c,c⟩
theorem XqE (h:(if x=y then none else b)=some r):b=some r∧(x==y)=false∧(x !=y)=true∧¬x=y:=by
  by_cases c:x=y
  ·rw[if_pos c] at h;cases h
  ·rw[if_neg c] at h;exact⟨h,beq_eq_false_iff_ne.mpr c,bne_iff_ne.mpr c,c⟩
end
theorem Zy {α β:Type} {e:α} {g:α→Option β} {r:β} (h:(some e).bind g=some r): ∃y,Aside0 (y=e)∧g y=some r:= ⟨e,⟨rfl⟩,h⟩
theorem Zi {k:IntKind} {w:World} {A:Option Addr} {n:Nat} {xs:List Int} (h:(Kd.int k).C w A n xs) (i:Int) (h0:0≤i:=by exact of_decide_eq_true (by first| (with_reducible assumption)|assumption)) (h1:i<n:=by exact of_decide_eq_true (by first| (with_reducible assumption)|assumption)):
    ∃ad,A=some ad∧w.cell? (ad.add i.toNat)=some (.int k (rd xs i))∧(0≤i)=True∧(i<n)=True:=by
  obtain⟨ad,e,h2⟩ :=Kd.at_int h i h0 h1;exact⟨ad,e,h2,eq_true h0,eq_true h1⟩
theorem Z0 {P:Prop} (h:P:=by(with_reducible repeat(first|refine blk_drewN ?_ _|refine blk_drew ?_|refine blk_alloc ?_ _));refine blk_far ?_ NB387_388.out _;(with_reducible repeat(first|refine blk_drewN ?_ _|refine blk_drew ?_|refine blk_alloc ?_ _));refine blk_far ?_ NB387_388.out _;(with_reducible repeat(first|refine blk_drewN ?_ _|refine blk_drew ?_|refine blk_alloc ?_ _));refine blk_put (cs:=#[.bool t379,.slice none 0 0]) ?_ 1 _ rfl;(with_reducible repeat(first|refine blk_drewN ?_ _|refine blk_drew ?_|refine blk_alloc ?_ _));refine blk_put (cs:=#[.bool false,.slice none 0 0]) ?_ 0 _ rfl;(with_reducible repeat(first|refine blk_drewN ?_ _|refine blk_drew ?_|refine blk_alloc ?_ _));exact BK387.out):P:=h
theorem Z1 {P:Prop} (h:P:=by(with_reducible repeat(first|refine blk_drewN ?_ _|refine blk_drew ?_|refine blk_alloc ?_ _));refine blk_put (cs:=#[.bool t383,.slice none 0 0]) ?_ 1 _ rfl;(with_reducible repeat(first|refine blk_drewN ?_ _|refine blk_drew ?_|refine blk_alloc ?_ _));refine blk_put (cs:=#[.bool false,.slice none 0 0]) ?_ 0 _ rfl;(with_reducible repeat(first|refine blk_drewN ?_ _|refine blk_drew ?_|refine blk_alloc ?_ _));refine blk_far ?_ NB388_387.out _;(with_reducible repeat(first|refine blk_drewN ?_ _|refine blk_drew ?_|refine blk_alloc ?_ _));refine blk_far ?_ NB388_387.out _;(with_reducible repeat(first|refine blk_drewN ?_ _|refine blk_drew ?_|refine blk_alloc ?_ _));exact BK388.out):P:=h
theorem Z2 {P:Prop} (h:P:=by(with_reducible repeat(first|refine blk_drewN ?_ _|refine blk_drew ?_|refine blk_alloc ?_ _));refine blk_put (cs:=#[.slice none 0 0]) ?_ 0 _ rfl;(with_reducible repeat(first|refine blk_drewN ?_ _|refine blk_drew ?_|refine blk_alloc ?_ _));exact BK153.out):P:=h
theorem Z3 {P:Prop} (h:P:=by rw[←hq_];exact(by repeat(first| (with_reducible first|exact HB.out|apply below_alloc|apply pw_below_drewN|apply below_drew1|refine below_set ?_ GE152.out|refine below_set ?_ GE153.out)|exact HB.out))):P:=h
theorem Z4 {P:Prop} (h:P:=by rw[←hq_];exact(by repeat(first| (with_reducible first|exact HB.out|apply below_alloc|apply pw_below_drewN|apply below_drew1|refine below_set ?_ GE387.out|refine below_set ?_ GE388.out)|exact HB.out))):P:=h
theorem Z5 {P:Prop} (h:P:=by rw[hw];exact(by repeat(first| (with_reducible first|exact HB.out|apply below_alloc|apply pw_below_drewN|apply below_drew1|refine below_set ?_ GE223.out|refine below_set ?_ GE224.out)|exact HB.out))):P:=h
theorem Z6 {P:Prop} (h:P:=by(try simp only[hl0_1]);(with_reducible repeat(first|apply Kd.V_alloc|apply Kd.V_drewN|apply Kd.V_drew));exact Kd.V_mono HO_153000.out (fun _ hk=> ⟨hk.1.1,⟨hk.1.2.1,⟨hk.1.2.2.1,hk.1.2.2.2⟩⟩⟩)):P:=h
theorem Z7 {P:Prop} (h:P:=by(try simp only[hl0_1]);(with_reducible repeat(first|apply Kd.V_alloc|apply Kd.V_drewN|apply Kd.V_drew));exact Kd.V_mono HO_0.out (fun _ hk=> ⟨hk.1.1,⟨hk.1.2.1,⟨hk.1.2.2.1,hk.1.2.2.2⟩⟩⟩)):P:=h
theorem Z8 {P:Prop} (h:P:=by repeat(first| (with_reducible first|exact HB.out|apply below_alloc|apply pw_below_drewN|apply below_drew1|refine below_set ?_ GE351.out|refine below_set ?_ GE352.out)|exact HB.out)):P:=h
theorem Z9 {P:Prop} (h:P:=by repeat(first|exact(Kd.V_reads' HO_153000.out).2.2| (with_reducible refine Kd.C_alloc ?_ _)| (with_reducible refine Kd.C_drewN ?_ _)| (with_reducible refine Kd.C_drew ?_))):P:=h
theorem Z10 {P:Prop} (h:P:=by repeat(first|exact(Kd.C_below HR1.out HB.out)| (with_reducible refine Kd.C_alloc ?_ _)| (with_reducible refine Kd.C_drewN ?_ _)| (with_reducible refine Kd.C_drew ?_))):P:=h
theorem Z11 {P:Prop} (h:P:=by repeat(first|exact(Kd.V_reads' HO_13.out).2.2| (with_reducible refine Kd.C_alloc ?_ _)| (with_reducible refine Kd.C_drewN ?_ _)| (with_reducible refine Kd.C_drew ?_))):P:=h
theorem Z12 {P:Prop} (h:P:=by repeat(first|exact(Kd.V_reads' HO600.out).2.2| (with_reducible refine Kd.C_alloc ?_ _)| (with_reducible refine Kd.C_drewN ?_ _)| (with_reducible refine Kd.C_drew ?_))):P:=h
theorem Z13 {P:Prop} (h:P:=by repeat(first|exact(Kd.V_reads' HO603.out).2.2| (with_reducible refine Kd.C_alloc ?_ _)| (with_reducible refine Kd.C_drewN ?_ _)| (with_reducible refine Kd.C_drew ?_))):P:=h
theorem Z14 {P:Prop} (h:P:=by repeat(first|exact(Kd.V_reads' HO_16.out).2.2| (with_reducible refine Kd.C_alloc ?_ _)| (with_reducible refine Kd.C_drewN ?_ _)| (with_reducible refine Kd.C_drew ?_))):P:=h
theorem Z15 {P:Prop} (h:P:=by repeat(first|exact(Kd.R_reads' HO612.out).2.2| (with_reducible refine Kd.C_alloc ?_ _)| (with_reducible refine Kd.C_drewN ?_ _)| (with_reducible refine Kd.C_drew ?_))):P:=h
theorem Z16 {P:Prop} (h:P:=by repeat(first|exact(Kd.V_reads' HO618.out).2.2| (with_reducible refine Kd.C_alloc ?_ _)| (with_reducible refine Kd.C_drewN ?_ _)| (with_reducible refine Kd.C_drew ?_))):P:=h
theorem Z17 {P:Prop} (h:P:=by repeat(first|exact(Kd.V_reads' HO_17.out).2.2| (with_reducible refine Kd.C_alloc ?_ _)| (with_reducible refine Kd.C_drewN ?_ _)| (with_reducible refine Kd.C_drew ?_))):P:=h
theorem Z18 {P:Prop} (h:P:=by repeat(first|exact(Kd.V_reads' HO615.out).2.2| (with_reducible refine Kd.C_alloc ?_ _)| (with_reducible refine Kd.C_drewN ?_ _)| (with_reducible refine Kd.C_drew ?_))):P:=h
theorem Z19 {P:Prop} (h:P:=by repeat(first|exact(Kd.V_reads' HO621.out).2.2| (with_reducible refine Kd.C_alloc ?_ _)| (with_reducible refine Kd.C_drewN ?_ _)| (with_reducible refine Kd.C_drew ?_))):P:=h
theorem Z20 {P:Prop} (h:P:=by repeat(first|exact(Kd.V_reads' HO677.out).2.2| (with_reducible refine Kd.C_alloc ?_ _)| (with_reducible refine Kd.C_drewN ?_ _)| (with_reducible refine Kd.C_drew ?_))):P:=h
theorem Z21 {P:Prop} (h:P:=by repeat(first|exact(Kd.V_reads' HO680.out).2.2| (with_reducible refine Kd.C_alloc ?_ _)| (with_reducible refine Kd.C_drewN ?_ _)| (with_reducible refine Kd.C_drew ?_))):P:=h
theorem Z22 {P:Prop} (h:P:=by repeat(first|exact(Kd.V_reads' HO_5.out).2.2| (with_reducible refine Kd.C_alloc ?_ _)| (with_reducible refine Kd.C_drewN ?_ _)| (with_reducible refine Kd.C_drew ?_))):P:=h
theorem Z23 {P:Prop} (h:P:=by repeat(first|exact(Kd.V_reads' HO_7.out).2.2| (with_reducible refine Kd.C_alloc ?_ _)| (with_reducible refine Kd.C_drewN ?_ _)| (with_reducible refine Kd.C_drew ?_))):P:=h
theorem Z24 {P:Prop} (h:P:=by first|rfl| (simp[errW_none,errW_some] <;> rfl)| (simp only[←hji3];first|rfl| (simp[errW_none,errW_some] <;> rfl))| (simp[*,errW_none,errW_some] <;> rfl)):P:=h
theorem Z25 {P:Prop} (h:P:=by repeat(first| (with_reducible first|exact HB.out|apply below_alloc|apply pw_below_drewN|apply below_drew1|refine below_set ?_ GE155.out)|exact HB.out)):P:=h
theorem Z26 {P:Prop} (h:P:=by repeat(first| (with_reducible first|exact HB.out|apply below_alloc|apply pw_below_drewN|apply below_drew1|refine below_set ?_ GE152.out)|exact HB.out)):P:=h
theorem Z27 {P:Prop} (h:P:=by repeat(first| (with_reducible first|exact HB.out|apply below_alloc|apply pw_below_drewN|apply below_drew1|refine below_set ?_ GE223.out)|exact HB.out)):P:=h
theorem Z28 {P:Prop} (h:P:=by repeat(first| (with_reducible first|exact HB.out|apply below_alloc|apply pw_below_drewN|apply below_drew1|refine below_set ?_ GE387.out)|exact HB.out)):P:=h
theorem Z29 {P:Prop} (h:P:=by repeat(first| (with_reducible first|exact HB.out|apply below_alloc|apply pw_below_drewN|apply below_drew1|refine below_set ?_ GE351.out)|exact HB.out)):P:=h
theorem Z30 {P:Prop} (h:P:=by(try simp only[hl0_1]);(with_reducible repeat(first|apply Kd.R_alloc|apply Kd.R_drewN|apply Kd.R_drew));exact Kd.R_mono HO_154000.out (fun _ hk=>hk.1)):P:=h
theorem Z31 {P:Prop} (h:P:=by(try simp only[hl0_1]);(with_reducible repeat(first|refine blk_drewN ?_ _|refine blk_drew ?_|refine blk_alloc ?_ _));exact BK152.out):P:=h
theorem Z32 {P:Prop} (h:P:=by(try simp only[hl0_1]);(with_reducible repeat(first|refine blk_drewN ?_ _|refine blk_drew ?_|refine blk_alloc ?_ _));exact BK153.out):P:=h
theorem Z33 {P:Prop} (h:P:=by rw[←hq_];exact(by(with_reducible repeat(first|refine blk_drewN ?_ _|refine blk_drew ?_|refine blk_alloc ?_ _));exact BK152.out)):P:=h
theorem Z34 {P:Prop} (h:P:=by rw[←hq_];exact(by(with_reducible repeat(first|refine blk_drewN ?_ _|refine blk_drew ?_|refine blk_alloc ?_ _));exact BK153.out)):P:=h
theorem Z35 {P:Prop} (h:P:=by(try simp only[List.map_toArray,List.map_cons,List.map_nil]);first|done|rfl| (simp only[List.length_drop,List.length_take];rfl)):P:=h
theorem Z36 {P:Prop} (h:P:=by repeat(first| (with_reducible first|exact HB.out|apply below_alloc|apply pw_below_drewN|apply below_drew1)|exact HB.out)):P:=h
theorem Z37 {P:Prop} (h:P:=by(try simp only[hl0_1]);(with_reducible repeat(first|apply Kd.V_alloc|apply Kd.V_drewN|apply Kd.V_drew));exact HO191.out):P:=h
theorem Z38 {P:Prop} (h:P:=by(with_reducible repeat(first|refine blk_drewN ?_ _|refine blk_drew ?_|refine blk_alloc ?_ _));exact BK155.out):P:=h
theorem Z39 {P:Prop} (h:P:=by(with_reducible repeat(first|refine blk_drewN ?_ _|refine blk_drew ?_|refine blk_alloc ?_ _));exact BK223.out):P:=h
theorem Z40 {P:Prop} (h:P:=by(with_reducible repeat(first|refine blk_drewN ?_ _|refine blk_drew ?_|refine blk_alloc ?_ _));exact BK224.out):P:=h
theorem Z41 {P:Prop} (h:P:=by(with_reducible repeat(first|refine blk_drewN ?_ _|refine blk_drew ?_|refine blk_alloc ?_ _));exact BK387.out):P:=h
theorem Z42 {P:Prop} (h:P:=by(with_reducible repeat(first|refine blk_drewN ?_ _|refine blk_drew ?_|refine blk_alloc ?_ _));exact BK388.out):P:=h
theorem Z43 {P:Prop} (h:P:=by(with_reducible repeat(first|refine blk_drewN ?_ _|refine blk_drew ?_|refine blk_alloc ?_ _));exact BK351.out):P:=h
theorem Z44 {P:Prop} (h:P:=by(with_reducible repeat(first|refine blk_drewN ?_ _|refine blk_drew ?_|refine blk_alloc ?_ _));exact BK352.out):P:=h
theorem Z45 {P:Prop} (h:P:=by(with_reducible repeat(first|apply Kd.V_alloc|apply Kd.V_drewN|apply Kd.V_drew));exact HO_153000.out):P:=h
theorem Z46 {P:Prop} (h:P:=by(with_reducible repeat(first|apply Kd.R_alloc|apply Kd.R_drewN|apply Kd.R_drew));exact HO_154000.out):P:=h
theorem Z47 {P:Prop} (h:P:=by(with_reducible repeat(first|apply Kd.V_alloc|apply Kd.V_drewN|apply Kd.V_drew));exact HO_224001.out):P:=h
theorem Z48 {P:Prop} (h:P:=by(with_reducible repeat(first|apply Kd.V_alloc|apply Kd.V_drewN|apply Kd.V_drew));exact HO_225001.out):P:=h
theorem Z49 {P:Prop} (h:P:=by(with_reducible repeat(first|apply Kd.R_alloc|apply Kd.R_drewN|apply Kd.R_drew));exact HO172.out):P:=h
theorem Z50 {P:Prop} (h:P:=by(with_reducible repeat(first|apply Kd.V_alloc|apply Kd.V_drewN|apply Kd.V_drew));exact HO218.out):P:=h
theorem Z51 {P:Prop} (h:P:=by(with_reducible repeat(first|apply Kd.V_alloc|apply Kd.V_drewN|apply Kd.V_drew));exact HO222.out):P:=h
theorem Z52 {P:Prop} (h:P:=by(with_reducible repeat(first|apply Kd.V_alloc|apply Kd.V_drewN|apply Kd.V_drew));exact HO_10.out):P:=h
theorem Z53 {P:Prop} (h:P:=by(with_reducible repeat(first|apply Kd.R_alloc|apply Kd.R_drewN|apply Kd.R_drew));exact HO233.out):P:=h
theorem Z54 {P:Prop} (h:P:=by(with_reducible repeat(first|apply Kd.V_alloc|apply Kd.V_drewN|apply Kd.V_drew));exact HO382.out):P:=h
theorem Z55 {P:Prop} (h:P:=by(with_reducible repeat(first|apply Kd.V_alloc|apply Kd.V_drewN|apply Kd.V_drew));exact HO386.out):P:=h
theorem Z56 {P:Prop} (h:P:=by(with_reducible repeat(first|apply Kd.V_alloc|apply Kd.V_drewN|apply Kd.V_drew));exact HO346.out):P:=h
theorem Z57 {P:Prop} (h:P:=by(with_reducible repeat(first|apply Kd.V_alloc|apply Kd.V_drewN|apply Kd.V_drew));exact HO350.out):P:=h
theorem Z58 {P:Prop} (h:P:=by(with_reducible repeat(first|apply Kd.V_alloc|apply Kd.V_drewN|apply Kd.V_drew));exact HO454.out):P:=h
theorem Z59 {P:Prop} (h:P:=by(with_reducible repeat(first|apply Kd.V_alloc|apply Kd.V_drewN|apply Kd.V_drew));exact HO457.out):P:=h
theorem Z60 {P:Prop} (h:P:=by(with_reducible repeat(first|apply Kd.V_alloc|apply Kd.V_drewN|apply Kd.V_drew));exact HO460.out):P:=h
theorem Z61 {P:Prop} (h:P:=by(with_reducible repeat(first|apply Kd.R_alloc|apply Kd.R_drewN|apply Kd.R_drew));exact HO463.out):P:=h
theorem Z62 {P:Prop} (h:P:=by(with_reducible repeat(first|apply Kd.V_alloc|apply Kd.V_drewN|apply Kd.V_drew));exact HO600.out):P:=h
theorem Z63 {P:Prop} (h:P:=by(with_reducible repeat(first|apply Kd.V_alloc|apply Kd.V_drewN|apply Kd.V_drew));exact HO_16.out):P:=h
theorem Z64 {P:Prop} (h:P:=by(with_reducible repeat(first|apply Kd.V_alloc|apply Kd.V_drewN|apply Kd.V_drew));exact HO_17.out):P:=h
theorem Z65 {P:Prop} (h:P:=by(with_reducible repeat(first|apply Kd.R_alloc|apply Kd.R_drewN|apply Kd.R_drew));exact HO612.out):P:=h
theorem Z66 {P:Prop} (h:P:=by(with_reducible repeat(first|apply Kd.V_alloc|apply Kd.V_drewN|apply Kd.V_drew));exact HO615.out):P:=h
theorem Z67 {P:Prop} (h:P:=by(with_reducible repeat(first|apply Kd.V_alloc|apply Kd.V_drewN|apply Kd.V_drew));exact HO618.out):P:=h
theorem Z68 {P:Prop} (h:P:=by(with_reducible repeat(first|apply Kd.V_alloc|apply Kd.V_drewN|apply Kd.V_drew));exact HO621.out):P:=h
theorem Z69 {P:Prop} (h:P:=by(with_reducible repeat(first|apply Kd.V_alloc|apply Kd.V_drewN|apply Kd.V_drew));exact HO677.out):P:=h
theorem Z70 {P:Prop} (h:P:=by(with_reducible repeat(first|apply Kd.V_alloc|apply Kd.V_drewN|apply Kd.V_drew));exact HO680.out):P:=h
theorem Z71 {P:Prop} (h:P:=by(with_reducible repeat(first|apply Kd.V_alloc|apply Kd.V_drewN|apply Kd.V_drew));exact HO_0.out):P:=h
theorem Z72 {P:Prop} (h:P:=by(with_reducible repeat(first|apply Kd.R_alloc|apply Kd.R_drewN|apply Kd.R_drew));exact HO_5.out):P:=h
theorem Z73 {P:Prop} (h:P:=by(with_reducible repeat(first|apply Kd.V_alloc|apply Kd.V_drewN|apply Kd.V_drew));exact HO_5.out):P:=h
theorem Z74 {P:Prop} (h:P:=by(with_reducible repeat(first|apply Kd.V_alloc|apply Kd.V_drewN|apply Kd.V_drew));exact HO_9.out):P:=h
theorem Z75 {P:Prop} (h:P:=by(with_reducible repeat(first|apply Kd.V_alloc|apply Kd.V_drewN|apply Kd.V_drew));exact HO_4.out):P:=h
theorem Z76 {P:Prop} (h:P:=by(with_reducible repeat(first|apply Kd.R_alloc|apply Kd.R_drewN|apply Kd.R_drew));exact HO_3.out):P:=h
theorem Z77 {P:Prop} (h:P:=by(with_reducible repeat(first|apply Kd.R_alloc|apply Kd.R_drewN|apply Kd.R_drew));exact HO_9.out):P:=h
theorem Z78 {P:Prop} (h:P:=by(with_reducible repeat(first|apply Kd.V_alloc|apply Kd.V_drewN|apply Kd.V_drew));exact HO_7.out):P:=h
theorem Z79 {P:Prop} (h:P:=by(with_reducible repeat(first|apply Kd.R_alloc|apply Kd.R_drewN|apply Kd.R_drew));exact HO_6.out):P:=h
theorem Z80 {P:Prop} (h:P:=by(with_reducible repeat(first|apply Kd.V_alloc|apply Kd.V_drewN|apply Kd.V_drew));exact HO0.out):P:=h
theorem Z81 {P:Prop} (h:P:=by first|rfl| (simp[errW_none,errW_some] <;> rfl)| (simp[*,errW_none,errW_some] <;> rfl)):P:=h
theorem Z82 {P:Prop} (h:P:=by repeat(first|exact Drawn0.refl _|apply Drawn0.step)):P:=h
theorem Z83 {P:Prop} (h:P:=by have:=HK1.out;first|omega|exact Nat.le_refl _):P:=h
theorem Z84 {P:Prop} (h:P:=by have:=HJ2.out;first|omega|exact Nat.le_refl _):P:=h
theorem Z85 {P:Prop} (h:P:=by first| (with_reducible assumption)|assumption):P:=h
theorem Z86 {P:Prop} (h:P:=by first|rfl| (simp;done)| (simp[*];done)):P:=h
theorem Z87 {P:Prop} (h:P:=by have:=HK1.out;have:=HK2.out;omega):P:=h
theorem Z88 {P:Prop} (h:P:=by first|omega|exact Nat.le_refl _):P:=h
theorem Z89 {P:Prop} (h:P:=by have:=HK1.out;omega):P:=h
theorem Z90 {P:Prop} (h:P:=by kernel_rfl):P:=h
theorem Z91 {P:Prop} (h:P:=by decide):P:=h
theorem Z92 {P:Prop} (h:P:=by omega):P:=h
theorem Z93 {P:Prop} (h:P:=by simp):P:=h
theorem Z94 {P:Prop} (h:P:=by repeat(first| (with_reducible first|exact HB.out|apply below_alloc|apply pw_below_drewN|apply below_drew1|refine below_set ?_ GE152.out|refine below_set ?_ GE153.out)|exact HB.out)):P:=h
theorem Z95 {P:Prop} (h:P:=by repeat(first| (with_reducible first|exact HB.out|apply below_alloc|apply pw_below_drewN|apply below_drew1|refine below_set ?_ GE223.out|refine below_set ?_ GE224.out)|exact HB.out)):P:=h
theorem Z96 {P:Prop} (h:P:=by repeat(first| (with_reducible first|exact HB.out|apply below_alloc|apply pw_below_drewN|apply below_drew1|refine below_set ?_ GE387.out|refine below_set ?_ GE388.out)|exact HB.out)):P:=h
theorem Z97 {P:Prop} (h:P:=by(with_reducible repeat(first|refine blk_drewN ?_ _|refine blk_drew ?_|refine blk_alloc ?_ _));exact BK152.out):P:=h
theorem Z98 {P:Prop} (h:P:=by(with_reducible repeat(first|refine blk_drewN ?_ _|refine blk_drew ?_|refine blk_alloc ?_ _));exact BK153.out):P:=h
end Go.Proofs.YtnfgokmecllpbaaGreatDoor.Print
end
section
namespace Go.Proofs.YtnfgokmecllpbaaGreatDoor.Print
open Go.RowKit Go.Proofs.YtnfgokmecllpbaaGreatDoorW.PrintWords Go.Proofs.YtnfgokmecllpbaaGreatDoorW.PrintLast Go.Proofs.YtnfgokmecllpbaaGreatDoorW.PrintMore
attribute [local go_sem] max2_int min2_int max_two min_two max_three min_three max_four min_four
theorem Y5.calls (a0:ByteArray) (a1:ByteArray) (r:Bool) (w:World) (h:Y5.f a0 a1=some r):
  Calls Tryz.prog 159 #[.string a0,.string a1] w fun e w'=>e= .returned (.bool r)∧Drawn0 w w':=by
 have H:=h;clear h;unfold Y5.f at H;obtain⟨H,c3⟩ | ⟨H,c3⟩ :=XI H
 ·have c3b0:decide ((a1.size:Int)≤(a0.size:Int))=true:=decide_eq_true c3;have c3b1:decide (a1.size≤a0.size)=true:=decide_eq_true (Int.ofNat_le.mp c3);clear c3;obtain⟨H,c4b0,c4b1⟩ :=Xkt H;obtain⟨H,c5b0,c5b1⟩ :=Xkt H;obtain rfl:=Option.some.inj H;go_enter Tryz.func159,Tryz.ntmps159
  go_wp2
  go_ret
  exact⟨Z86,Z82⟩
 ·have c3b0:decide ((a1.size:Int)≤(a0.size:Int))=false:=decide_eq_false c3;have c3b1:decide (a1.size≤a0.size)=false:=decide_eq_false (fun h=>c3 (Int.ofNat_le.mpr h));clear c3;obtain rfl:=Option.some.inj H;go_enter Tryz.func159,Tryz.ntmps159
  go_wp2
  go_ret
  exact⟨Z86,Z82⟩
theorem Y4.calls (a0:ByteArray) (a1:ByteArray) (r1:ByteArray) (r2:Bool) (w:World) (h:Y4.f a0 a1=some (r1,r2)):
  Calls Tryz.prog 162 #[.string a0,.string a1] w fun e w'=>e= .returned (.tuple #[.string r1,.bool r2])∧Drawn0 w w':=by
 have H:=h;clear h;unfold Y4.f at H;obtain⟨t108,A3,H⟩ :=Zb H;try dsimp only at H
 by_cases c4:t108=true
 ·subst c4;rw[if_pos rfl] at H;obtain⟨H,c5b0,c5b1⟩ :=Xkt H;obtain⟨H,c6b0,c6b1⟩ :=Xkt H;simp only[Option.some.injEq,Prod.mk.injEq] at H;obtain⟨rfl,rfl⟩ :=H;go_enter Tryz.func162,Tryz.ntmps162
  go_wp2_with(first| (refine Zq Tryz.func159 (Y5.calls _ _ _ _ A3.out) fun nd=>?_))
  go_ret2
  exact⟨Z86,Z82⟩
 ·replace c4:=Bool.eq_false_iff.mpr c4;subst c4;rw[if_neg (show¬(false=true) by decide)] at H;simp only[Option.some.injEq,Prod.mk.injEq] at H;obtain⟨rfl,rfl⟩ :=H;go_enter Tryz.func162,Tryz.ntmps162
  go_wp2_with(first| (refine Zq Tryz.func159 (Y5.calls _ _ _ _ A3.out) fun nd=>?_))
  go_ret2
  exact⟨Z86,Z82⟩
theorem Y25.calls (a0:ByteArray) (a1:ByteArray) (r1:ByteArray) (r2:Bool) (w:World) (h:Y25.f a0 a1=some (r1,r2)):
  Calls Tryz.prog 101 #[.string a0,.string a1] w fun e w'=>e= .returned (.tuple #[.string r1,.bool r2])∧Drawn0 w w':=by
 have H:=h;clear h;unfold Y25.f at H;obtain⟨⟨t109,t110⟩,A3,H⟩ :=Zb H;try dsimp only at H
 simp only[Option.some.injEq,Prod.mk.injEq] at H;obtain⟨rfl,rfl⟩ :=H;go_enter Tryz.func101,Tryz.ntmps101
 go_wp2_with(first| (refine Zq Tryz.func162 (Y4.calls _ _ _ _ _ A3.out) fun nd=>?_))
 go_ret2
 exact⟨Z86,Z82⟩
end Go.Proofs.YtnfgokmecllpbaaGreatDoor.Print
end
section
namespace Go.Proofs
open Go.Shelf
def Tryz.lays169_ren:Go.Shelf.Ren:= ⟨fun|169=>100|n=>n,fun|70=>110|9=>9|0=>0|72=>112|37=>22|127=>159|3=>3|5=>5|n=>n,fun|n=>n⟩
theorem Tryz.lays169:Go.Proofs.Lays.n169 Tryz.prog Tryz.lays169_ren:={
 mixed:=by kernel_rfl
 f169:=Tryz.func100.trans (congrArg some (by kernel_rfl))
 t0:=Tryz.underlying0
 a0:=Tryz.isAgg0
 z0:=Tryz.sizeOf0
 v0:=Tryz.zeroValue0
 t3:=Tryz.underlying3
 a3:=Tryz.isAgg3
 z3:=Tryz.sizeOf3
 v3:=Tryz.zeroValue3
 t9:=Tryz.underlying9
 a9:=Tryz.isAgg9
 z9:=Tryz.sizeOf9
 v9:=Tryz.zeroValue9
 t37:=Tryz.underlying22
 a37:=Tryz.isAgg22
 z37:=Tryz.sizeOf22
 v37:=Tryz.zeroValue22
 t70:=Tryz.underlying110
 a70:=Tryz.isAgg110
 z70:=Tryz.sizeOf110
 v70:=Tryz.zeroValue110
 t72:=Tryz.underlying112
 a72:=Tryz.isAgg112
 z72:=Tryz.sizeOf112
 v72:=Tryz.zeroValue112
 t127:=Tryz.underlying159
 a127:=Tryz.isAgg159
 z127:=Tryz.sizeOf159
 v127:=Tryz.zeroValue159}
theorem Tryz.Builder_Extra_169:Builder.Extra Tryz.prog Tryz.lays169_ren:={
 sizeBuilder:=by kernel_rfl
 liesBuilder:=by kernel_rfl
 t5:=Tryz.underlying5
 a5:=Tryz.isAgg5
 z5:=Tryz.sizeOf5
 v5:=Tryz.zeroValue5
 infoByte:=by kernel_rfl
 cellsByte:=by kernel_rfl
 sizeByte:=by kernel_rfl
 neB5:=by decide}
def Tryz.lays161_ren:Go.Shelf.Ren:= ⟨fun|161=>167|231=>202|227=>165|233=>203|235=>204|228=>166|197=>220|151=>222|260=>236|152=>163|137=>90|119=>199|224=>200|225=>201|217=>148|266=>195|n=>n,fun|9=>9|4=>4|3=>3|5=>5|117=>163|116=>162|0=>0|124=>193|105=>209|21=>21|119=>232|46=>106|139=>235|138=>234|n=>n,fun|3=>4|4=>5|n=>n⟩
theorem Tryz.lays161:Go.Proofs.Lays.n161 Tryz.prog Tryz.lays161_ren:={
 mixed:=by kernel_rfl
 f119:=Tryz.func199.trans (congrArg some (by kernel_rfl))
 f137:=Tryz.func90.trans (congrArg some (by kernel_rfl))
 f151:=Tryz.func222.trans (congrArg some (by kernel_rfl))
 f152:=Tryz.func163.trans (congrArg some (by kernel_rfl))
 f161:=Tryz.func167.trans (congrArg some (by kernel_rfl))
 f197:=Tryz.func220.trans (congrArg some (by kernel_rfl))
 f217:=Tryz.func148.trans (congrArg some (by kernel_rfl))
 f224:=Tryz.func200.trans (congrArg some (by kernel_rfl))
 f225:=Tryz.func201.trans (congrArg some (by kernel_rfl))
 f227:=Tryz.func165.trans (congrArg some (by kernel_rfl))
 f228:=Tryz.func166.trans (congrArg some (by kernel_rfl))
 f231:=Tryz.func202.trans (congrArg some (by kernel_rfl))
 f233:=Tryz.func203.trans (congrArg some (by kernel_rfl))
 f235:=Tryz.func204.trans (congrArg some (by kernel_rfl))
 f260:=Tryz.func236.trans (congrArg some (by kernel_rfl))
 f266:=Tryz.func195.trans (congrArg some (by kernel_rfl))
 t0:=Tryz.underlying0
 a0:=Tryz.isAgg0
 z0:=Tryz.sizeOf0
 v0:=Tryz.zeroValue0
 t3:=Tryz.underlying3
 a3:=Tryz.isAgg3
 z3:=Tryz.sizeOf3
 v3:=Tryz.zeroValue3
 t4:=Tryz.underlying4
 a4:=Tryz.isAgg4
 z4:=Tryz.sizeOf4
 v4:=Tryz.zeroValue4
 t5:=Tryz.underlying5
 a5:=Tryz.isAgg5
 z5:=Tryz.sizeOf5
 v5:=Tryz.zeroValue5
 t9:=Tryz.underlying9
 a9:=Tryz.isAgg9
 z9:=Tryz.sizeOf9
 v9:=Tryz.zeroValue9
 t21:=Tryz.underlying21
 a21:=Tryz.isAgg21
 z21:=Tryz.sizeOf21
 v21:=Tryz.zeroValue21
 t46:=Tryz.underlying106
 a46:=Tryz.isAgg106
 z46:=Tryz.sizeOf106
 v46:=Tryz.zeroValue106
 t105:=Tryz.underlying209
 a105:=Tryz.isAgg209
 z105:=Tryz.sizeOf209
 v105:=Tryz.zeroValue209
 t116:=Tryz.underlying162
 a116:=Tryz.isAgg162
 z116:=Tryz.sizeOf162
 t117:=Tryz.underlying163
 a117:=Tryz.isAgg163
 z117:=Tryz.sizeOf163
 v117:=Tryz.zeroValue163
 t119:=Tryz.underlying232
 a119:=Tryz.isAgg232
 z119:=Tryz.sizeOf232
 t124:=Tryz.underlying193
 a124:=Tryz.isAgg193
 z124:=Tryz.sizeOf193
 v124:=Tryz.zeroValue193
 t138:=Tryz.underlying234
 a138:=Tryz.isAgg234
 z138:=Tryz.sizeOf234
 v138:=Tryz.zeroValue234
 t139:=Tryz.underlying235
 a139:=Tryz.isAgg235
 z139:=Tryz.sizeOf235
 v139:=Tryz.zeroValue235
 g3:=by kernel_rfl
 g4:=by kernel_rfl}
open Go.RowKit in
theorem Tryz.strings_TrimLeft_one (s:ByteArray) (c:UInt8) (hc:c.toNat<128) (w:World):
  Calls Tryz.prog 167 #[.string s,.string ⟨#[c]⟩] w fun e w'=>e= .returned (.string ⟨(Lib.trimLeftB s.data.toList c).toArray⟩)∧w'=w:=Any.strings_TrimLeft_one Tryz.lays161 s c hc w
def Tryz.lays119_ren:Go.Shelf.Ren:= ⟨fun|119=>199|n=>n,fun|21=>21|4=>4|n=>n,fun|n=>n⟩
theorem Tryz.lays119:Go.Proofs.Lays.n119 Tryz.prog Tryz.lays119_ren:={
 mixed:=by kernel_rfl
 f119:=Tryz.func199.trans (congrArg some (by kernel_rfl))
 t4:=Tryz.underlying4
 a4:=Tryz.isAgg4
 z4:=Tryz.sizeOf4
 v4:=Tryz.zeroValue4
 t21:=Tryz.underlying21
 a21:=Tryz.isAgg21
 z21:=Tryz.sizeOf21
 v21:=Tryz.zeroValue21}
theorem Tryz.utf8_ValidRune (r:Int) (w:World):
  Calls Tryz.prog 199 #[.int .i32 r] w fun e w'=>e= .returned (.bool (Lib.validRune r))∧w'=w:=Any.utf8_ValidRune Tryz.lays119 r w
def Tryz.lays137_ren:Go.Shelf.Ren:= ⟨fun|137=>90|217=>148|266=>195|n=>n,fun|9=>9|5=>5|3=>3|n=>n,fun|n=>n⟩
theorem Tryz.lays137:Go.Proofs.Lays.n137 Tryz.prog Tryz.lays137_ren:={
 mixed:=by kernel_rfl
 f137:=Tryz.func90.trans (congrArg some (by kernel_rfl))
 f217:=Tryz.func148.trans (congrArg some (by kernel_rfl))
 f266:=Tryz.func195.trans (congrArg some (by kernel_rfl))
 t3:=Tryz.underlying3
 a3:=Tryz.isAgg3
 z3:=Tryz.sizeOf3
 v3:=Tryz.zeroValue3
 t5:=Tryz.underlying5
 a5:=Tryz.isAgg5
 z5:=Tryz.sizeOf5
 v5:=Tryz.zeroValue5
 t9:=Tryz.underlying9
 a9:=Tryz.isAgg9
 z9:=Tryz.sizeOf9
 v9:=Tryz.zeroValue9}
open Go.RowKit in
theorem Tryz.strings_IndexByte (s:ByteArray) (c:Int) (w:World):
  Calls Tryz.prog 90 #[.string s,.int .u8 c] w fun e w'=>e= .returned (.int .i64 (Lib.indexByte s.data.toList c.toNat.toUInt8))∧w'=w:=Any.strings_IndexByte Tryz.lays137 s c w
open Go.RowKit in
theorem Tryz.Builder_String_any_k (B b:Nat) (l:List UInt8) (w:World) (h:Lib.IsBuilderF 112 5 B b (Lib.byteCells l) w) (hBw:B≤w.heap.size):
  Calls Tryz.prog 100 #[.pointer (some ⟨b,0,none⟩)] w fun e w'=>e= .returned (.string ⟨l.toArray⟩)∧(Lib.IsBuilderF 112 5 B b (Lib.byteCells l) w'∧Below B w w'∧Lib.OthersKept 5 (some b) w w'):=Any.Builder_String_any_k Tryz.lays169 Tryz.Builder_Extra_169 B b l w h hBw
def Tryz.lays172_ren:Go.Shelf.Ren:= ⟨fun|172=>170|244=>205|245=>206|247=>218|279=>223|280=>224|281=>225|282=>226|287=>231|316=>237|171=>122|205=>238|321=>244|322=>245|243=>178|246=>210|283=>227|284=>228|285=>229|286=>230|129=>240|317=>239|318=>241|319=>242|320=>243|337=>247|338=>248|n=>n,fun|9=>9|3=>3|75=>115|76=>116|4=>4|5=>5|167=>212|37=>22|0=>0|85=>184|2=>2|168=>213|53=>156|175=>200|46=>106|210=>224|127=>159|145=>238|143=>236|21=>21|171=>216|173=>219|212=>227|51=>153|20=>20|213=>228|232=>240|233=>241|80=>118|n=>n,fun|15=>1|16=>2|17=>3|18=>6|19=>7|n=>n⟩
theorem Tryz.lays172:Go.Proofs.Lays.n172 Tryz.prog Tryz.lays172_ren:={
 mixed:=by kernel_rfl
 f129:=Tryz.func240.trans (congrArg some (by kernel_rfl))
 f171:=Tryz.func122.trans (congrArg some (by kernel_rfl))
 f172:=Tryz.func170.trans (congrArg some (by kernel_rfl))
 f205:=Tryz.func238.trans (congrArg some (by kernel_rfl))
 f243:=Tryz.func178.trans (congrArg some (by kernel_rfl))
 f244:=Tryz.func205.trans (congrArg some (by kernel_rfl))
 f245:=Tryz.func206.trans (congrArg some (by kernel_rfl))
 f246:=Tryz.func210.trans (congrArg some (by kernel_rfl))
 f247:=Tryz.func218.trans (congrArg some (by kernel_rfl))
 f279:=Tryz.func223.trans (congrArg some (by kernel_rfl))
 f280:=Tryz.func224.trans (congrArg some (by kernel_rfl))
 f281:=Tryz.func225.trans (congrArg some (by kernel_rfl))
 f282:=Tryz.func226.trans (congrArg some (by kernel_rfl))
 f283:=Tryz.func227.trans (congrArg some (by kernel_rfl))
 f284:=Tryz.func228.trans (congrArg some (by kernel_rfl))
 f285:=Tryz.func229.trans (congrArg some (by kernel_rfl))
 f286:=Tryz.func230.trans (congrArg some (by kernel_rfl))
 f287:=Tryz.func231.trans (congrArg some (by kernel_rfl))
 f316:=Tryz.func237.trans (congrArg some (by kernel_rfl))
 f317:=Tryz.func239.trans (congrArg some (by kernel_rfl))
 f318:=Tryz.func241.trans (congrArg some (by kernel_rfl))
 f319:=Tryz.func242.trans (congrArg some (by kernel_rfl))
 f320:=Tryz.func243.trans (congrArg some (by kernel_rfl))
 f321:=Tryz.func244.trans (congrArg some (by kernel_rfl))
 f322:=Tryz.func245.trans (congrArg some (by kernel_rfl))
 f337:=Tryz.func247.trans (congrArg some (by kernel_rfl))
 f338:=Tryz.func248.trans (congrArg some (by kernel_rfl))
 t0:=Tryz.underlying0
 a0:=Tryz.isAgg0
 z0:=Tryz.sizeOf0
 v0:=Tryz.zeroValue0
 t2:=Tryz.underlying2
 a2:=Tryz.isAgg2
 z2:=Tryz.sizeOf2
 v2:=Tryz.zeroValue2
 t3:=Tryz.underlying3
 a3:=Tryz.isAgg3
 z3:=Tryz.sizeOf3
 v3:=Tryz.zeroValue3
 t4:=Tryz.underlying4
 a4:=Tryz.isAgg4
 z4:=Tryz.sizeOf4
 v4:=Tryz.zeroValue4
 t5:=Tryz.underlying5
 a5:=Tryz.isAgg5
 z5:=Tryz.sizeOf5
 v5:=Tryz.zeroValue5
 t9:=Tryz.underlying9
 a9:=Tryz.isAgg9
 z9:=Tryz.sizeOf9
 v9:=Tryz.zeroValue9
 t20:=Tryz.underlying20
 a20:=Tryz.isAgg20
 z20:=Tryz.sizeOf20
 v20:=Tryz.zeroValue20
 t21:=Tryz.underlying21
 a21:=Tryz.isAgg21
 z21:=Tryz.sizeOf21
 v21:=Tryz.zeroValue21
 t37:=Tryz.underlying22
 a37:=Tryz.isAgg22
 z37:=Tryz.sizeOf22
 v37:=Tryz.zeroValue22
 t46:=Tryz.underlying106
 a46:=Tryz.isAgg106
 z46:=Tryz.sizeOf106
 v46:=Tryz.zeroValue106
 t51:=Tryz.underlying153
 a51:=Tryz.isAgg153
 z51:=Tryz.sizeOf153
 v51:=Tryz.zeroValue153
 t53:=Tryz.underlying156
 a53:=Tryz.isAgg156
 z53:=Tryz.sizeOf156
 v53:=Tryz.zeroValue156
 t75:=Tryz.underlying115
 a75:=Tryz.isAgg115
 z75:=Tryz.sizeOf115
 v75:=Tryz.zeroValue115
 t76:=Tryz.underlying116
 a76:=Tryz.isAgg116
 z76:=Tryz.sizeOf116
 v76:=Tryz.zeroValue116
 t85:=Tryz.underlying184
 a85:=Tryz.isAgg184
 z85:=Tryz.sizeOf184
 v85:=Tryz.zeroValue184
 t127:=Tryz.underlying159
 a127:=Tryz.isAgg159
 z127:=Tryz.sizeOf159
 v127:=Tryz.zeroValue159
 t143:=Tryz.underlying236
 a143:=Tryz.isAgg236
 z143:=Tryz.sizeOf236
 v143:=Tryz.zeroValue236
 t145:=Tryz.underlying238
 a145:=Tryz.isAgg238
 z145:=Tryz.sizeOf238
 v145:=Tryz.zeroValue238
 t167:=Tryz.underlying212
 a167:=Tryz.isAgg212
 z167:=Tryz.sizeOf212
 v167:=Tryz.zeroValue212
 t168:=Tryz.underlying213
 a168:=Tryz.isAgg213
 z168:=Tryz.sizeOf213
 v168:=Tryz.zeroValue213
 t171:=Tryz.underlying216
 a171:=Tryz.isAgg216
 z171:=Tryz.sizeOf216
 v171:=Tryz.zeroValue216
 t173:=Tryz.underlying219
 a173:=Tryz.isAgg219
 z173:=Tryz.sizeOf219
 v173:=Tryz.zeroValue219
 t175:=Tryz.underlying200
 a175:=Tryz.isAgg200
 z175:=Tryz.sizeOf200
 v175:=Tryz.zeroValue200
 t210:=Tryz.underlying224
 a210:=Tryz.isAgg224
 z210:=Tryz.sizeOf224
 v210:=Tryz.zeroValue224
 t212:=Tryz.underlying227
 a212:=Tryz.isAgg227
 z212:=Tryz.sizeOf227
 v212:=Tryz.zeroValue227
 t213:=Tryz.underlying228
 a213:=Tryz.isAgg228
 z213:=Tryz.sizeOf228
 t232:=Tryz.underlying240
 a232:=Tryz.isAgg240
 z232:=Tryz.sizeOf240
 v232:=Tryz.zeroValue240
 t233:=Tryz.underlying241
 a233:=Tryz.isAgg241
 z233:=Tryz.sizeOf241
 v233:=Tryz.zeroValue241
 g15:=by kernel_rfl
 g16:=by kernel_rfl
 g17:=by kernel_rfl
 g18:=by kernel_rfl
 g19:=by kernel_rfl}
open Go.RowKit in
theorem Tryz.strconv_Atoi (s:ByteArray) (n:Int) (hl:s.size≤18) (h:Lib.atoi s.data.toList=some n) (w:World):
  Calls Tryz.prog 170 #[.string s] w fun e w'=>e= .returned (.tuple #[.int .i64 n,.nilIface])∧∃t,w'=Lib.bytesWorld w 5 t:=Any.strconv_Atoi Tryz.lays172 s n hl h w
def Tryz.lays283_ren:Go.Shelf.Ren:= ⟨fun|283=>227|n=>n,fun|3=>3|9=>9|4=>4|n=>n,fun|n=>n⟩
theorem Tryz.lays283:Go.Proofs.Lays.n283 Tryz.prog Tryz.lays283_ren:={
 mixed:=by kernel_rfl
 f283:=Tryz.func227.trans (congrArg some (by kernel_rfl))
 t3:=Tryz.underlying3
 a3:=Tryz.isAgg3
 z3:=Tryz.sizeOf3
 v3:=Tryz.zeroValue3
 t4:=Tryz.underlying4
 a4:=Tryz.isAgg4
 z4:=Tryz.sizeOf4
 v4:=Tryz.zeroValue4
 t9:=Tryz.underlying9
 a9:=Tryz.isAgg9
 z9:=Tryz.sizeOf9
 v9:=Tryz.zeroValue9}
open Go.Lib in
theorem Tryz.internal_strconv_small (i:Nat) (h:i<100) (w:World):
  Calls Tryz.prog 227 #[.int .i64 i] w fun e w'=>e= .returned (.string ⟨(Lib.decDigits i).toArray⟩)∧w'=w:=Any.internal_strconv_small Tryz.lays283 i h w
def Tryz.laysM284_ren:Go.Shelf.Ren:= ⟨fun|284=>228|129=>240|317=>239|318=>241|n=>n,fun|53=>156|3=>3|212=>227|0=>0|4=>4|46=>106|5=>5|9=>9|n=>n,fun|17=>3|n=>n⟩
theorem Tryz.laysM284:Go.Proofs.LaysM.n284 Tryz.prog Tryz.laysM284_ren:={
 mixed:=by kernel_rfl
 f129:=Tryz.func240.trans (congrArg some (by kernel_rfl))
 f284:=Tryz.func228.trans (congrArg some (by kernel_rfl))
 f317:=Tryz.func239.trans (congrArg some (by kernel_rfl))
 f318:=Tryz.func241.trans (congrArg some (by kernel_rfl))
 t0:=Tryz.underlying0
 a0:=Tryz.isAgg0
 z0:=Tryz.sizeOf0
 v0:=Tryz.zeroValue0
 t3:=Tryz.underlying3
 a3:=Tryz.isAgg3
 z3:=Tryz.sizeOf3
 v3:=Tryz.zeroValue3
 t4:=Tryz.underlying4
 a4:=Tryz.isAgg4
 z4:=Tryz.sizeOf4
 v4:=Tryz.zeroValue4
 t5:=Tryz.underlying5
 a5:=Tryz.isAgg5
 z5:=Tryz.sizeOf5
 v5:=Tryz.zeroValue5
 t9:=Tryz.underlying9
 a9:=Tryz.isAgg9
 z9:=Tryz.sizeOf9
 v9:=Tryz.zeroValue9
 t46:=Tryz.underlying106
 a46:=Tryz.isAgg106
 z46:=Tryz.sizeOf106
 v46:=Tryz.zeroValue106
 t53:=Tryz.underlying156
 a53:=Tryz.isAgg156
 z53:=Tryz.sizeOf156
 v53:=Tryz.zeroValue156
 t212:=Tryz.underlying227
 a212:=Tryz.isAgg227
 z212:=Tryz.sizeOf227
 v212:=Tryz.zeroValue227
 g17:=by kernel_rfl
 i0:=by kernel_rfl
 i3:=by kernel_rfl
 i4:=by kernel_rfl
 i5:=by kernel_rfl
 i9:=by kernel_rfl
 i46:=by kernel_rfl
 i53:=by kernel_rfl
 i212:=by kernel_rfl
 m17:=by kernel_rfl}
open Go.Lib in
theorem Tryz.internal_strconv_numDigits (u:Nat) (h1:1≤u) (h2:u<18446744073709551616) (w:World) (htab:Lib.TabIs Tryz.prog w "internal/strconv.uint64pow10" .u64 Lib.pow10Tab):
  Calls Tryz.prog 228 #[.int .u64 u] w fun e w'=>e= .returned (.int .i64 (Lib.nDigits u))∧w'=w:=Any.internal_strconv_numDigits Tryz.laysM284 u h1 h2 w htab
def Tryz.lays285_ren:Go.Shelf.Ren:= ⟨fun|285=>229|n=>n,fun|37=>22|53=>156|3=>3|4=>4|51=>153|9=>9|5=>5|0=>0|n=>n,fun|n=>n⟩
theorem Tryz.lays285:Go.Proofs.Lays.n285 Tryz.prog Tryz.lays285_ren:={
 mixed:=by kernel_rfl
 f285:=Tryz.func229.trans (congrArg some (by kernel_rfl))
 t0:=Tryz.underlying0
 a0:=Tryz.isAgg0
 z0:=Tryz.sizeOf0
 v0:=Tryz.zeroValue0
 t3:=Tryz.underlying3
 a3:=Tryz.isAgg3
 z3:=Tryz.sizeOf3
 v3:=Tryz.zeroValue3
 t4:=Tryz.underlying4
 a4:=Tryz.isAgg4
 z4:=Tryz.sizeOf4
 v4:=Tryz.zeroValue4
 t5:=Tryz.underlying5
 a5:=Tryz.isAgg5
 z5:=Tryz.sizeOf5
 v5:=Tryz.zeroValue5
 t9:=Tryz.underlying9
 a9:=Tryz.isAgg9
 z9:=Tryz.sizeOf9
 v9:=Tryz.zeroValue9
 t37:=Tryz.underlying22
 a37:=Tryz.isAgg22
 z37:=Tryz.sizeOf22
 v37:=Tryz.zeroValue22
 t51:=Tryz.underlying153
 a51:=Tryz.isAgg153
 z51:=Tryz.sizeOf153
 v51:=Tryz.zeroValue153
 t53:=Tryz.underlying156
 a53:=Tryz.isAgg156
 z53:=Tryz.sizeOf156
 v53:=Tryz.zeroValue156}
open Go.RowKit Go.Sort Go.Lib in
theorem Tryz.internal_strconv_formatBase10 (blk off cap:Nat) (u:Nat) (d:Array UInt8) (w:World) (hH:Holds (fun(b:UInt8)=>Value.int .u8 (b.toNat:Int)) w blk off d) (hu:u<10 ^ d.size) (hu64:u<18446744073709551616) (hsz:d.size<4611686018427387904):
  Calls Tryz.prog 229 #[.slice (some ⟨blk,off,none⟩) d.size cap,.int .u64 u] w fun e w'=>
   e= .returned (.tuple #[])∧∃(n v':Nat) (dk:Array UInt8),w'= (putRow (fun(b:UInt8)=>Value.int .u8 (b.toNat:Int)) w blk off dk).drewN n∧FmtInv d.size u 0 v' dk:=Any.internal_strconv_formatBase10 Tryz.lays285 blk off cap u d w hH hu hu64 hsz
def Tryz.laysM171_ren:Go.Shelf.Ren:= ⟨fun|171=>122|243=>178|246=>210|283=>227|284=>228|285=>229|286=>230|129=>240|317=>239|318=>241|319=>242|320=>243|337=>247|338=>248|n=>n,fun|3=>3|9=>9|2=>2|4=>4|171=>216|0=>0|53=>156|37=>22|5=>5|173=>219|212=>227|51=>153|20=>20|213=>228|46=>106|232=>240|233=>241|n=>n,fun|17=>3|18=>6|19=>7|n=>n⟩
theorem Tryz.laysM171:Go.Proofs.LaysM.n171 Tryz.prog Tryz.laysM171_ren:={
 mixed:=by kernel_rfl
 f129:=Tryz.func240.trans (congrArg some (by kernel_rfl))
 f171:=Tryz.func122.trans (congrArg some (by kernel_rfl))
 f243:=Tryz.func178.trans (congrArg some (by kernel_rfl))
 f246:=Tryz.func210.trans (congrArg some (by kernel_rfl))
 f283:=Tryz.func227.trans (congrArg some (by kernel_rfl))
 f284:=Tryz.func228.trans (congrArg some (by kernel_rfl))
 f285:=Tryz.func229.trans (congrArg some (by kernel_rfl))
 f286:=Tryz.func230.trans (congrArg some (by kernel_rfl))
 f317:=Tryz.func239.trans (congrArg some (by kernel_rfl))
 f318:=Tryz.func241.trans (congrArg some (by kernel_rfl))
 f319:=Tryz.func242.trans (congrArg some (by kernel_rfl))
 f320:=Tryz.func243.trans (congrArg some (by kernel_rfl))
 f337:=Tryz.func247.trans (congrArg some (by kernel_rfl))
 f338:=Tryz.func248.trans (congrArg some (by kernel_rfl))
 t0:=Tryz.underlying0
 a0:=Tryz.isAgg0
 z0:=Tryz.sizeOf0
 v0:=Tryz.zeroValue0
 t2:=Tryz.underlying2
 a2:=Tryz.isAgg2
 z2:=Tryz.sizeOf2
 v2:=Tryz.zeroValue2
 t3:=Tryz.underlying3
 a3:=Tryz.isAgg3
 z3:=Tryz.sizeOf3
 v3:=Tryz.zeroValue3
 t4:=Tryz.underlying4
 a4:=Tryz.isAgg4
 z4:=Tryz.sizeOf4
 v4:=Tryz.zeroValue4
 t5:=Tryz.underlying5
 a5:=Tryz.isAgg5
 z5:=Tryz.sizeOf5
 v5:=Tryz.zeroValue5
 t9:=Tryz.underlying9
 a9:=Tryz.isAgg9
 z9:=Tryz.sizeOf9
 v9:=Tryz.zeroValue9
 t20:=Tryz.underlying20
 a20:=Tryz.isAgg20
 z20:=Tryz.sizeOf20
 v20:=Tryz.zeroValue20
 t37:=Tryz.underlying22
 a37:=Tryz.isAgg22
 z37:=Tryz.sizeOf22
 v37:=Tryz.zeroValue22
 t46:=Tryz.underlying106
 a46:=Tryz.isAgg106
 z46:=Tryz.sizeOf106
 v46:=Tryz.zeroValue106
 t51:=Tryz.underlying153
 a51:=Tryz.isAgg153
 z51:=Tryz.sizeOf153
 v51:=Tryz.zeroValue153
 t53:=Tryz.underlying156
 a53:=Tryz.isAgg156
 z53:=Tryz.sizeOf156
 v53:=Tryz.zeroValue156
 t171:=Tryz.underlying216
 a171:=Tryz.isAgg216
 z171:=Tryz.sizeOf216
 v171:=Tryz.zeroValue216
 t173:=Tryz.underlying219
 a173:=Tryz.isAgg219
 z173:=Tryz.sizeOf219
 v173:=Tryz.zeroValue219
 t212:=Tryz.underlying227
 a212:=Tryz.isAgg227
 z212:=Tryz.sizeOf227
 v212:=Tryz.zeroValue227
 t213:=Tryz.underlying228
 a213:=Tryz.isAgg228
 z213:=Tryz.sizeOf228
 t232:=Tryz.underlying240
 a232:=Tryz.isAgg240
 z232:=Tryz.sizeOf240
 v232:=Tryz.zeroValue240
 t233:=Tryz.underlying241
 a233:=Tryz.isAgg241
 z233:=Tryz.sizeOf241
 v233:=Tryz.zeroValue241
 g17:=by kernel_rfl
 g18:=by kernel_rfl
 g19:=by kernel_rfl
 i0:=by kernel_rfl
 i2:=by kernel_rfl
 i3:=by kernel_rfl
 i4:=by kernel_rfl
 i5:=by kernel_rfl
 i9:=by kernel_rfl
 i20:=by kernel_rfl
 i37:=by kernel_rfl
 i46:=by kernel_rfl
 i51:=by kernel_rfl
 i53:=by kernel_rfl
 i171:=by kernel_rfl
 i173:=by kernel_rfl
 i212:=by kernel_rfl
 i232:=by kernel_rfl
 i233:=by kernel_rfl
 m17:=by kernel_rfl
 m18:=by kernel_rfl
 m19:=by kernel_rfl}
open Go.RowKit Go.Sort Go.Lib in
theorem Tryz.strconv_Itoa (n:Int) (h0:-9223372036854775808≤n) (h1:n≤9223372036854775807) (w:World) (htab:Lib.TabIs Tryz.prog w "internal/strconv.uint64pow10" .u64 Lib.pow10Tab):
  Calls Tryz.prog 122 #[.int .i64 n] w fun e w'=>e= .returned (.string ⟨(Lib.itoa n).toArray⟩)∧∃k os,w'=grow (w.drewN k) os:=Any.strconv_Itoa Tryz.laysM171 n h0 h1 w htab
def Tryz.laysPu14_ren:Go.Shelf.Ren:= ⟨fun|14=>211|16=>231|17=>206|19=>244|20=>245|21=>223|22=>224|23=>225|24=>226|25=>237|27=>122|26=>238|28=>178|29=>210|30=>227|31=>228|32=>229|33=>230|35=>240|34=>239|36=>241|37=>242|38=>243|39=>247|40=>248|n=>n,fun|9=>9|3=>3|22=>156|24=>115|25=>200|4=>4|34=>212|5=>5|36=>106|37=>22|0=>0|39=>213|21=>21|44=>224|47=>159|50=>238|48=>236|2=>2|52=>216|55=>219|59=>227|60=>153|20=>20|61=>228|65=>240|66=>241|67=>118|n=>n,fun|0=>1|1=>2|2=>3|3=>6|4=>7|n=>n⟩
theorem Tryz.laysPu14:Go.Proofs.LaysPu.n14 Tryz.prog Tryz.laysPu14_ren:={
 mixed:=by kernel_rfl
 f14:=Tryz.func211.trans (congrArg some (by kernel_rfl))
 f16:=Tryz.func231.trans (congrArg some (by kernel_rfl))
 f17:=Tryz.func206.trans (congrArg some (by kernel_rfl))
 f19:=Tryz.func244.trans (congrArg some (by kernel_rfl))
 f20:=Tryz.func245.trans (congrArg some (by kernel_rfl))
 f21:=Tryz.func223.trans (congrArg some (by kernel_rfl))
 f22:=Tryz.func224.trans (congrArg some (by kernel_rfl))
 f23:=Tryz.func225.trans (congrArg some (by kernel_rfl))
 f24:=Tryz.func226.trans (congrArg some (by kernel_rfl))
 f25:=Tryz.func237.trans (congrArg some (by kernel_rfl))
 f26:=Tryz.func238.trans (congrArg some (by kernel_rfl))
 f27:=Tryz.func122.trans (congrArg some (by kernel_rfl))
 f28:=Tryz.func178.trans (congrArg some (by kernel_rfl))
 f29:=Tryz.func210.trans (congrArg some (by kernel_rfl))
 f30:=Tryz.func227.trans (congrArg some (by kernel_rfl))
 f31:=Tryz.func228.trans (congrArg some (by kernel_rfl))
 f32:=Tryz.func229.trans (congrArg some (by kernel_rfl))
 f33:=Tryz.func230.trans (congrArg some (by kernel_rfl))
 f34:=Tryz.func239.trans (congrArg some (by kernel_rfl))
 f35:=Tryz.func240.trans (congrArg some (by kernel_rfl))
 f36:=Tryz.func241.trans (congrArg some (by kernel_rfl))
 f37:=Tryz.func242.trans (congrArg some (by kernel_rfl))
 f38:=Tryz.func243.trans (congrArg some (by kernel_rfl))
 f39:=Tryz.func247.trans (congrArg some (by kernel_rfl))
 f40:=Tryz.func248.trans (congrArg some (by kernel_rfl))
 t0:=Tryz.underlying0
 a0:=Tryz.isAgg0
 z0:=Tryz.sizeOf0
 v0:=Tryz.zeroValue0
 i0:=by kernel_rfl
 t2:=Tryz.underlying2
 a2:=Tryz.isAgg2
 z2:=Tryz.sizeOf2
 v2:=Tryz.zeroValue2
 i2:=by kernel_rfl
 t3:=Tryz.underlying3
 a3:=Tryz.isAgg3
 z3:=Tryz.sizeOf3
 v3:=Tryz.zeroValue3
 i3:=by kernel_rfl
 t4:=Tryz.underlying4
 a4:=Tryz.isAgg4
 z4:=Tryz.sizeOf4
 v4:=Tryz.zeroValue4
 i4:=by kernel_rfl
 t5:=Tryz.underlying5
 a5:=Tryz.isAgg5
 z5:=Tryz.sizeOf5
 v5:=Tryz.zeroValue5
 i5:=by kernel_rfl
 t9:=Tryz.underlying9
 a9:=Tryz.isAgg9
 z9:=Tryz.sizeOf9
 v9:=Tryz.zeroValue9
 i9:=by kernel_rfl
 t20:=Tryz.underlying20
 a20:=Tryz.isAgg20
 z20:=Tryz.sizeOf20
 v20:=Tryz.zeroValue20
 i20:=by kernel_rfl
 t21:=Tryz.underlying21
 a21:=Tryz.isAgg21
 z21:=Tryz.sizeOf21
 v21:=Tryz.zeroValue21
 i21:=by kernel_rfl
 t22:=Tryz.underlying156
 a22:=Tryz.isAgg156
 z22:=Tryz.sizeOf156
 v22:=Tryz.zeroValue156
 i22:=by kernel_rfl
 t24:=Tryz.underlying115
 a24:=Tryz.isAgg115
 z24:=Tryz.sizeOf115
 v24:=Tryz.zeroValue115
 i24:=by kernel_rfl
 t25:=Tryz.underlying200
 a25:=Tryz.isAgg200
 z25:=Tryz.sizeOf200
 v25:=Tryz.zeroValue200
 i25:=by kernel_rfl
 t34:=Tryz.underlying212
 a34:=Tryz.isAgg212
 z34:=Tryz.sizeOf212
 v34:=Tryz.zeroValue212
 i34:=by kernel_rfl
 c34:=by kernel_rfl
 t36:=Tryz.underlying106
 a36:=Tryz.isAgg106
 z36:=Tryz.sizeOf106
 v36:=Tryz.zeroValue106
 i36:=by kernel_rfl
 t37:=Tryz.underlying22
 a37:=Tryz.isAgg22
 z37:=Tryz.sizeOf22
 v37:=Tryz.zeroValue22
 i37:=by kernel_rfl
 t39:=Tryz.underlying213
 a39:=Tryz.isAgg213
 z39:=Tryz.sizeOf213
 v39:=Tryz.zeroValue213
 i39:=by kernel_rfl
 t44:=Tryz.underlying224
 a44:=Tryz.isAgg224
 z44:=Tryz.sizeOf224
 v44:=Tryz.zeroValue224
 i44:=by kernel_rfl
 t47:=Tryz.underlying159
 a47:=Tryz.isAgg159
 z47:=Tryz.sizeOf159
 v47:=Tryz.zeroValue159
 i47:=by kernel_rfl
 t48:=Tryz.underlying236
 a48:=Tryz.isAgg236
 z48:=Tryz.sizeOf236
 v48:=Tryz.zeroValue236
 i48:=by kernel_rfl
 t50:=Tryz.underlying238
 a50:=Tryz.isAgg238
 z50:=Tryz.sizeOf238
 v50:=Tryz.zeroValue238
 i50:=by kernel_rfl
 t52:=Tryz.underlying216
 a52:=Tryz.isAgg216
 z52:=Tryz.sizeOf216
 v52:=Tryz.zeroValue216
 i52:=by kernel_rfl
 t55:=Tryz.underlying219
 a55:=Tryz.isAgg219
 z55:=Tryz.sizeOf219
 v55:=Tryz.zeroValue219
 i55:=by kernel_rfl
 t59:=Tryz.underlying227
 a59:=Tryz.isAgg227
 z59:=Tryz.sizeOf227
 v59:=Tryz.zeroValue227
 i59:=by kernel_rfl
 t60:=Tryz.underlying153
 a60:=Tryz.isAgg153
 z60:=Tryz.sizeOf153
 v60:=Tryz.zeroValue153
 i60:=by kernel_rfl
 t61:=Tryz.underlying228
 a61:=Tryz.isAgg228
 z61:=Tryz.sizeOf228
 t65:=Tryz.underlying240
 a65:=Tryz.isAgg240
 z65:=Tryz.sizeOf240
 v65:=Tryz.zeroValue240
 i65:=by kernel_rfl
 t66:=Tryz.underlying241
 a66:=Tryz.isAgg241
 z66:=Tryz.sizeOf241
 v66:=Tryz.zeroValue241
 i66:=by kernel_rfl
 t67:=Tryz.underlying118
 a67:=Tryz.isAgg118
 z67:=Tryz.sizeOf118
 v67:=Tryz.zeroValue118
 i67:=by kernel_rfl
 g0:=by kernel_rfl
 m0:=by kernel_rfl
 g1:=by kernel_rfl
 m1:=by kernel_rfl
 g2:=by kernel_rfl
 m2:=by kernel_rfl
 g3:=by kernel_rfl
 m3:=by kernel_rfl
 g4:=by kernel_rfl
 m4:=by kernel_rfl}
open Go.RowKit in
theorem Tryz.strconv_ParseUint_10_at64_ok (s:ByteArray) (hmax:s.size≤9223372036854775806) (u:Nat) (h:Lib.parseUintB 64 s.data.toList= .ok u) (w:World):
  Calls Tryz.prog 211 #[.string s,.int .i64 10,.int .i64 64] w fun e w'=>e= .returned (.tuple #[.int .u64 u,.nilIface])∧(w'=w∨w'=Lib.bytesWorld w 5 s):=Any.strconv_ParseUint_10_at64_ok Tryz.laysPu14 s hmax u h w
def Tryz.lays145_ren:Go.Shelf.Ren:= ⟨fun|145=>142|220=>190|219=>217|217=>148|225=>201|224=>200|267=>235|266=>195|314=>246|n=>n,fun|9=>9|4=>4|59=>145|3=>3|5=>5|46=>106|146=>154|51=>153|n=>n,fun|1=>0|n=>n⟩
theorem Tryz.lays145:Go.Proofs.Lays.n145 Tryz.prog Tryz.lays145_ren:={
 mixed:=by kernel_rfl
 f145:=Tryz.func142.trans (congrArg some (by kernel_rfl))
 f217:=Tryz.func148.trans (congrArg some (by kernel_rfl))
 f219:=Tryz.func217.trans (congrArg some (by kernel_rfl))
 f220:=Tryz.func190.trans (congrArg some (by kernel_rfl))
 f224:=Tryz.func200.trans (congrArg some (by kernel_rfl))
 f225:=Tryz.func201.trans (congrArg some (by kernel_rfl))
 f266:=Tryz.func195.trans (congrArg some (by kernel_rfl))
 f267:=Tryz.func235.trans (congrArg some (by kernel_rfl))
 f314:=Tryz.func246.trans (congrArg some (by kernel_rfl))
 t3:=Tryz.underlying3
 a3:=Tryz.isAgg3
 z3:=Tryz.sizeOf3
 v3:=Tryz.zeroValue3
 t4:=Tryz.underlying4
 a4:=Tryz.isAgg4
 z4:=Tryz.sizeOf4
 v4:=Tryz.zeroValue4
 t5:=Tryz.underlying5
 a5:=Tryz.isAgg5
 z5:=Tryz.sizeOf5
 v5:=Tryz.zeroValue5
 t9:=Tryz.underlying9
 a9:=Tryz.isAgg9
 z9:=Tryz.sizeOf9
 v9:=Tryz.zeroValue9
 t46:=Tryz.underlying106
 a46:=Tryz.isAgg106
 z46:=Tryz.sizeOf106
 v46:=Tryz.zeroValue106
 t51:=Tryz.underlying153
 a51:=Tryz.isAgg153
 z51:=Tryz.sizeOf153
 v51:=Tryz.zeroValue153
 t59:=Tryz.underlying145
 a59:=Tryz.isAgg145
 z59:=Tryz.sizeOf145
 v59:=Tryz.zeroValue145
 t146:=Tryz.underlying154
 a146:=Tryz.isAgg154
 z146:=Tryz.sizeOf154
 v146:=Tryz.zeroValue154
 g1:=by kernel_rfl}
open Go.RowKit Go.Lib in
theorem Tryz.strings_Cut (s sep:ByteArray) (m:Int) (w:World) (hs:s.size<4294967281) (hm:w.cell? ⟨0,0,none⟩ =some (.int .i64 m)):
  Calls Tryz.prog 142 #[.string s,.string sep] w fun e w'=>e= .returned (.tuple #[.string ⟨(Lib.cut s.data.toList sep.data.toList).1.toArray⟩,.string ⟨(Lib.cut s.data.toList sep.data.toList).2.1.toArray⟩,.bool (Lib.cut s.data.toList sep.data.toList).2.2])∧∃n,w'=w.drewN n:=Any.strings_Cut Tryz.lays145 s sep m w hs hm
def Tryz.lays152_ren:Go.Shelf.Ren:= ⟨fun|152=>163|137=>90|119=>199|224=>200|225=>201|217=>148|266=>195|n=>n,fun|9=>9|21=>21|3=>3|4=>4|5=>5|0=>0|46=>106|n=>n,fun|n=>n⟩
theorem Tryz.lays152:Go.Proofs.Lays.n152 Tryz.prog Tryz.lays152_ren:={
 mixed:=by kernel_rfl
 f119:=Tryz.func199.trans (congrArg some (by kernel_rfl))
 f137:=Tryz.func90.trans (congrArg some (by kernel_rfl))
 f152:=Tryz.func163.trans (congrArg some (by kernel_rfl))
 f217:=Tryz.func148.trans (congrArg some (by kernel_rfl))
 f224:=Tryz.func200.trans (congrArg some (by kernel_rfl))
 f225:=Tryz.func201.trans (congrArg some (by kernel_rfl))
 f266:=Tryz.func195.trans (congrArg some (by kernel_rfl))
 t0:=Tryz.underlying0
 a0:=Tryz.isAgg0
 z0:=Tryz.sizeOf0
 v0:=Tryz.zeroValue0
 t3:=Tryz.underlying3
 a3:=Tryz.isAgg3
 z3:=Tryz.sizeOf3
 v3:=Tryz.zeroValue3
 t4:=Tryz.underlying4
 a4:=Tryz.isAgg4
 z4:=Tryz.sizeOf4
 v4:=Tryz.zeroValue4
 t5:=Tryz.underlying5
 a5:=Tryz.isAgg5
 z5:=Tryz.sizeOf5
 v5:=Tryz.zeroValue5
 t9:=Tryz.underlying9
 a9:=Tryz.isAgg9
 z9:=Tryz.sizeOf9
 v9:=Tryz.zeroValue9
 t21:=Tryz.underlying21
 a21:=Tryz.isAgg21
 z21:=Tryz.sizeOf21
 v21:=Tryz.zeroValue21
 t46:=Tryz.underlying106
 a46:=Tryz.isAgg106
 z46:=Tryz.sizeOf106
 v46:=Tryz.zeroValue106}
open Go.RowKit Go.Lib in
theorem Tryz.strings_IndexRune_ascii (s:ByteArray) (r:Int) (w:World) (h0:0≤r) (h1:r<128):
  Calls Tryz.prog 163 #[.string s,.int .i32 r] w fun e w'=>e= .returned (.int .i64 (Lib.indexByte s.data.toList r.toNat.toUInt8))∧w'=w:=Any.strings_IndexRune_ascii Tryz.lays152 s r w h0 h1
def Tryz.lays226_ren:Go.Shelf.Ren:= ⟨fun|226=>164|n=>n,fun|3=>3|4=>4|n=>n,fun|n=>n⟩
theorem Tryz.lays226:Go.Proofs.Lays.n226 Tryz.prog Tryz.lays226_ren:={
 mixed:=by kernel_rfl
 f226:=Tryz.func164.trans (congrArg some (by kernel_rfl))
 t3:=Tryz.underlying3
 a3:=Tryz.isAgg3
 z3:=Tryz.sizeOf3
 v3:=Tryz.zeroValue3
 t4:=Tryz.underlying4
 a4:=Tryz.isAgg4
 z4:=Tryz.sizeOf4
 v4:=Tryz.zeroValue4}
open Go.RowKit Go.Lib in
theorem Tryz.strings_shouldUseASCIISet (n:Int) (w:World):
  Calls Tryz.prog 164 #[.int .i64 n] w fun e w'=>e= .returned (.bool (decide (8<n)))∧w'=w:=Any.strings_shouldUseASCIISet Tryz.lays226 n w
def Tryz.lays153_ren:Go.Shelf.Ren:= ⟨fun|153=>102|152=>163|226=>164|227=>165|228=>166|137=>90|119=>199|224=>200|225=>201|217=>148|266=>195|n=>n,fun|9=>9|3=>3|4=>4|5=>5|21=>21|117=>163|116=>162|0=>0|46=>106|124=>193|n=>n,fun|n=>n⟩
theorem Tryz.lays153:Go.Proofs.Lays.n153 Tryz.prog Tryz.lays153_ren:={
 mixed:=by kernel_rfl
 f119:=Tryz.func199.trans (congrArg some (by kernel_rfl))
 f137:=Tryz.func90.trans (congrArg some (by kernel_rfl))
 f152:=Tryz.func163.trans (congrArg some (by kernel_rfl))
 f153:=Tryz.func102.trans (congrArg some (by kernel_rfl))
 f217:=Tryz.func148.trans (congrArg some (by kernel_rfl))
 f224:=Tryz.func200.trans (congrArg some (by kernel_rfl))
 f225:=Tryz.func201.trans (congrArg some (by kernel_rfl))
 f226:=Tryz.func164.trans (congrArg some (by kernel_rfl))
 f227:=Tryz.func165.trans (congrArg some (by kernel_rfl))
 f228:=Tryz.func166.trans (congrArg some (by kernel_rfl))
 f266:=Tryz.func195.trans (congrArg some (by kernel_rfl))
 t0:=Tryz.underlying0
 a0:=Tryz.isAgg0
 z0:=Tryz.sizeOf0
 v0:=Tryz.zeroValue0
 t3:=Tryz.underlying3
 a3:=Tryz.isAgg3
 z3:=Tryz.sizeOf3
 v3:=Tryz.zeroValue3
 t4:=Tryz.underlying4
 a4:=Tryz.isAgg4
 z4:=Tryz.sizeOf4
 v4:=Tryz.zeroValue4
 t5:=Tryz.underlying5
 a5:=Tryz.isAgg5
 z5:=Tryz.sizeOf5
 v5:=Tryz.zeroValue5
 t9:=Tryz.underlying9
 a9:=Tryz.isAgg9
 z9:=Tryz.sizeOf9
 v9:=Tryz.zeroValue9
 t21:=Tryz.underlying21
 a21:=Tryz.isAgg21
 z21:=Tryz.sizeOf21
 v21:=Tryz.zeroValue21
 t46:=Tryz.underlying106
 a46:=Tryz.isAgg106
 z46:=Tryz.sizeOf106
 v46:=Tryz.zeroValue106
 t116:=Tryz.underlying162
 a116:=Tryz.isAgg162
 z116:=Tryz.sizeOf162
 t117:=Tryz.underlying163
 a117:=Tryz.isAgg163
 z117:=Tryz.sizeOf163
 v117:=Tryz.zeroValue163
 t124:=Tryz.underlying193
 a124:=Tryz.isAgg193
 z124:=Tryz.sizeOf193
 v124:=Tryz.zeroValue193}
open Go.RowKit Go.Lib in
theorem Tryz.strings_IndexAny_long (hv116: ∀w,(zeroValue 162).run Tryz.prog w= .ok (.agg (Array.replicate 256 (.bool false))) w) (s chars:ByteArray) (w:World) (h2:2≤chars.size) (h8:8<s.size) (hs:s.size<4294967281) (hcs:chars.size<4294967281) (hascii: ∀(j:Nat) b,chars.data.toList[j]? =some b→b.toNat<128):
  Calls Tryz.prog 102 #[.string s,.string chars] w fun e w'=>e= .returned (.int .i64 (Lib.indexAny s.data.toList chars.data.toList))∧w'= ((w.alloc (.cells (Lib.setCells chars.data.toList) 162)).alloc (.cells (Lib.setCells chars.data.toList) 162)):=Any.strings_IndexAny_long Tryz.lays153 hv116 (by kernel_rfl) s chars w h2 h8 hs hcs hascii
def Tryz.lays105_ren:Go.Shelf.Ren:= ⟨fun|105=>27|212=>95|99=>96|165=>97|166=>98|170=>99|169=>100|263=>157|264=>158|206=>159|240=>160|241=>161|276=>197|277=>198|n=>n,fun|9=>9|3=>3|4=>4|20=>20|0=>0|46=>106|109=>107|5=>5|72=>112|76=>116|51=>153|146=>154|53=>156|148=>157|70=>110|37=>22|75=>115|127=>159|164=>188|80=>118|n=>n,fun|n=>n⟩
theorem Tryz.lays105:Go.Proofs.Lays.n105 Tryz.prog Tryz.lays105_ren:={
 mixed:=by kernel_rfl
 f99:=Tryz.func96.trans (congrArg some (by kernel_rfl))
 f105:=Tryz.func27.trans (congrArg some (by kernel_rfl))
 f165:=Tryz.func97.trans (congrArg some (by kernel_rfl))
 f166:=Tryz.func98.trans (congrArg some (by kernel_rfl))
 f169:=Tryz.func100.trans (congrArg some (by kernel_rfl))
 f170:=Tryz.func99.trans (congrArg some (by kernel_rfl))
 f206:=Tryz.func159.trans (congrArg some (by kernel_rfl))
 f212:=Tryz.func95.trans (congrArg some (by kernel_rfl))
 f240:=Tryz.func160.trans (congrArg some (by kernel_rfl))
 f241:=Tryz.func161.trans (congrArg some (by kernel_rfl))
 f263:=Tryz.func157.trans (congrArg some (by kernel_rfl))
 f264:=Tryz.func158.trans (congrArg some (by kernel_rfl))
 f276:=Tryz.func197.trans (congrArg some (by kernel_rfl))
 f277:=Tryz.func198.trans (congrArg some (by kernel_rfl))
 t0:=Tryz.underlying0
 a0:=Tryz.isAgg0
 z0:=Tryz.sizeOf0
 v0:=Tryz.zeroValue0
 t3:=Tryz.underlying3
 a3:=Tryz.isAgg3
 z3:=Tryz.sizeOf3
 v3:=Tryz.zeroValue3
 t4:=Tryz.underlying4
 a4:=Tryz.isAgg4
 z4:=Tryz.sizeOf4
 v4:=Tryz.zeroValue4
 t5:=Tryz.underlying5
 a5:=Tryz.isAgg5
 z5:=Tryz.sizeOf5
 v5:=Tryz.zeroValue5
 t9:=Tryz.underlying9
 a9:=Tryz.isAgg9
 z9:=Tryz.sizeOf9
 v9:=Tryz.zeroValue9
 t20:=Tryz.underlying20
 a20:=Tryz.isAgg20
 z20:=Tryz.sizeOf20
 v20:=Tryz.zeroValue20
 t37:=Tryz.underlying22
 a37:=Tryz.isAgg22
 z37:=Tryz.sizeOf22
 v37:=Tryz.zeroValue22
 t46:=Tryz.underlying106
 a46:=Tryz.isAgg106
 z46:=Tryz.sizeOf106
 v46:=Tryz.zeroValue106
 t51:=Tryz.underlying153
 a51:=Tryz.isAgg153
 z51:=Tryz.sizeOf153
 v51:=Tryz.zeroValue153
 t53:=Tryz.underlying156
 a53:=Tryz.isAgg156
 z53:=Tryz.sizeOf156
 v53:=Tryz.zeroValue156
 t70:=Tryz.underlying110
 a70:=Tryz.isAgg110
 z70:=Tryz.sizeOf110
 v70:=Tryz.zeroValue110
 t72:=Tryz.underlying112
 a72:=Tryz.isAgg112
 z72:=Tryz.sizeOf112
 v72:=Tryz.zeroValue112
 t75:=Tryz.underlying115
 a75:=Tryz.isAgg115
 z75:=Tryz.sizeOf115
 v75:=Tryz.zeroValue115
 t76:=Tryz.underlying116
 a76:=Tryz.isAgg116
 z76:=Tryz.sizeOf116
 v76:=Tryz.zeroValue116
 t109:=Tryz.underlying107
 a109:=Tryz.isAgg107
 z109:=Tryz.sizeOf107
 v109:=Tryz.zeroValue107
 t127:=Tryz.underlying159
 a127:=Tryz.isAgg159
 z127:=Tryz.sizeOf159
 v127:=Tryz.zeroValue159
 t146:=Tryz.underlying154
 a146:=Tryz.isAgg154
 z146:=Tryz.sizeOf154
 v146:=Tryz.zeroValue154
 t148:=Tryz.underlying157
 a148:=Tryz.isAgg157
 z148:=Tryz.sizeOf157
 v148:=Tryz.zeroValue157
 t164:=Tryz.underlying188
 a164:=Tryz.isAgg188
 z164:=Tryz.sizeOf188
 v164:=Tryz.zeroValue188}
theorem Tryz.Builder_Extra_105:Builder.Extra Tryz.prog Tryz.lays105_ren:={
 sizeBuilder:=by kernel_rfl
 liesBuilder:=by kernel_rfl
 t5:=Tryz.underlying5
 a5:=Tryz.isAgg5
 z5:=Tryz.sizeOf5
 v5:=Tryz.zeroValue5
 infoByte:=by kernel_rfl
 cellsByte:=by kernel_rfl
 sizeByte:=by kernel_rfl
 neB5:=by decide}
open Go.RowKit Go.Lib in
theorem Tryz.strings_Repeat (s:ByteArray) (c:Nat) (w:World) (hc:c≤9223372036854775807) (hlen:s.size * c≤140737488355328):
  Calls Tryz.prog 27 #[.string s,.int .i64 c] w fun e w'=>e= .returned (.string ⟨(Lib.repeatL s.data.toList c).toArray⟩)∧Below w.heap.size w w':=Any.strings_Repeat Tryz.lays105 Tryz.Builder_Extra_105 s c w hc hlen
end Go.Proofs
end
section
namespace Go.Proofs.YtnfgokmecllpbaaGreatDoor.Print
open Go.RowKit Go.Proofs.YtnfgokmecllpbaaGreatDoorW.PrintWords Go.Proofs.YtnfgokmecllpbaaGreatDoorW.PrintLast Go.Proofs.YtnfgokmecllpbaaGreatDoorW.PrintMore
theorem gv_drawn {w w':World} (h:w'=w):Drawn0 w w':=by subst h;exact Drawn0.refl _
theorem gv_below {w w':World} (h:w'=w):Below w.heap.size w w':=by subst h;exact Below.refl _ _
theorem Y27.calls (a0:ByteArray) (a1:Int) (r:Int) (w:World) (h:Y27.f a0 a1=some r):
  Calls Tryz.prog 90 #[.string a0,.int .u8 a1] w fun e w'=>e= .returned (.int .i64 r)∧Drawn0 w w':=by
 obtain rfl:=Option.some.inj h;exact(Tryz.strings_IndexByte a0 a1 w).mono fun e w' ⟨he,hw⟩ => ⟨he,gv_drawn hw⟩
theorem Y82.calls (a0 a1:ByteArray) (r1 r2:ByteArray) (r3:Bool) (w:World) (hGL:GL w) (h:Y82.f a0 a1=some (r1,r2,r3)):
  Calls Tryz.prog 142 #[.string a0,.string a1] w fun e w'=>e= .returned (.tuple #[.string r1,.string r2,.bool r3])∧Drawn0 w w':=by
 unfold Y82.f at h;split at h
 ·rename_i hs
  simp only[Option.some.injEq,Prod.mk.injEq] at h;obtain⟨rfl,rfl,rfl⟩ :=h;obtain⟨m,hm⟩ :=hGL.maxLen;exact(Tryz.strings_Cut a0 a1 m w hs hm).mono fun e w' ⟨he,hw⟩ => ⟨he,⟨hw⟩⟩
 ·cases h
theorem Y38.calls (a0 a1:ByteArray) (r:ByteArray) (w:World) (h:Y38.f a0 a1=some r):
  Calls Tryz.prog 167 #[.string a0,.string a1] w fun e w'=>e= .returned (.string r)∧Drawn0 w w':=by
 unfold Y38.f at h;split at h
 ·rename_i hs
  subst hs;obtain rfl:=Option.some.inj h;exact(Tryz.strings_TrimLeft_one a0 48 Z91 w).mono fun e w' ⟨he,hw⟩ => ⟨he,gv_drawn hw⟩
 ·cases h
theorem Y36.calls (a0:Int) (r:ByteArray) (w:World) (hGL:GL w) (h:Y36.f a0=some r):
  Calls Tryz.prog 122 #[.int .i64 a0] w fun e w'=>e= .returned (.string r)∧Below w.heap.size w w':=by
 unfold Y36.f at h;split at h
 ·rename_i hs
  obtain rfl:=Option.some.inj h;exact(Tryz.strconv_Itoa a0 hs.1 hs.2 w hGL.pow10).mono fun e w' ⟨he,k,os,hw⟩ => ⟨he,by rw[hw];exact Lib.below_grow _ _ (Nat.le_refl _) _ _⟩
 ·cases h
theorem Y35.calls (a0:ByteArray) (r1:Int) (r2:Option Int) (w:World) (h:Y35.f a0=some (r1,r2)):
  Calls Tryz.prog 170 #[.string a0] w fun e w'=>e= .returned (.tuple #[.int .i64 r1,errW r2])∧Below w.heap.size w w':=by
 unfold Y35.f at h;split at h
 ·rename_i hs
  obtain⟨n,hn,e⟩ :=Option.map_eq_some_iff.1 h;simp only[Prod.mk.injEq] at e;obtain⟨rfl,rfl⟩ :=e;exact(Tryz.strconv_Atoi a0 n hs hn w).mono fun e w' ⟨he,t,hw⟩ => ⟨he,by rw[hw];exact Joins.below_bytesWorld _ _ _ _ (Nat.le_refl _)⟩
 ·cases h
theorem Y3.calls (a0:ByteArray) (a1 a2:Int) (r1:Int) (r2:Option Int) (w:World) (h:Y3.f a0 a1 a2=some (r1,r2)):
  Calls Tryz.prog 211 #[.string a0,.int .i64 a1,.int .i64 a2] w fun e w'=>e= .returned (.tuple #[.int .u64 r1,errW r2])∧Below w.heap.size w w':=by
 unfold Y3.f at h;split at h
 ·rename_i hs
  obtain⟨h1,rfl,rfl⟩ :=hs;split at h
  ·rename_i u hu
   simp only[Option.some.injEq,Prod.mk.injEq] at h;obtain⟨rfl,rfl⟩ :=h;exact(Tryz.strconv_ParseUint_10_at64_ok a0 h1 u hu w).mono fun e w' ⟨he,hw⟩ => ⟨he,by
    rcases hw with hw|hw
    ·exact gv_below hw
    ·rw[hw];exact Joins.below_bytesWorld _ _ _ _ (Nat.le_refl _)⟩
  ·cases h
 ·cases h
theorem Y58.calls (a0:ByteArray) (a1:Int) (r:ByteArray) (w:World) (h:Y58.f a0 a1=some r):
  Calls Tryz.prog 27 #[.string a0,.int .i64 a1] w fun e w'=>e= .returned (.string r)∧Below w.heap.size w w':=by
 unfold Y58.f at h;split at h
 ·rename_i hs
  obtain⟨h1,h2,h3⟩ :=hs;obtain rfl:=Option.some.inj h;obtain⟨c,rfl⟩ :=Int.eq_ofNat_of_zero_le h1;exact Tryz.strings_Repeat a0 c w Z92 h3
 ·cases h
end Go.Proofs.YtnfgokmecllpbaaGreatDoor.Print
end
section
namespace Go.Proofs.YtnfgokmecllpbaaGreatDoor.Print
open Go.RowKit Go.Proofs.YtnfgokmecllpbaaGreatDoorW.PrintWords Go.Proofs.YtnfgokmecllpbaaGreatDoorW.PrintLast Go.Proofs.YtnfgokmecllpbaaGreatDoorW.PrintMore
attribute [local go_sem] max2_int min2_int max_two min_two max_three min_three max_four min_four
theorem Y54.calls (k:Nat) (a0:ByteArray) (r1:ByteArray) (r2:Bool) (w:World) (h:Y54.f k a0=some (r1,r2)):
  Calls Tryz.prog 103 #[.string a0] w fun e w'=>e= .returned (.tuple #[.string r1,.bool r2])∧Drawn0 w w':=by
 have H:=h;clear h;unfold Y54.f at H;obtain⟨H,c2b0,c2b1,-⟩ | ⟨H,c2b0,c2b1,c2⟩ :=XE H
 ·simp only[Option.some.injEq,Prod.mk.injEq] at H;obtain⟨rfl,rfl⟩ :=H;go_enter Tryz.func103,Tryz.ntmps103
  go_wp2
  go_ret2
  exact⟨Z86,Z82⟩
 ·have H':=Aside0.mk H;clear H;go_enter Tryz.func103,Tryz.ntmps103
  go_wp2
  go_loopg [9] k (fun kq v9 w'=> ∃(x9_1:Int),v9= .int .i64 x9_1∧Aside0 (Y54.l0 kq a0 (a0.size:Int) x9_1=some (r1,r2))∧Aside0 (kq≤k)∧Drawn0 w w')
  case atStart=>exact⟨(0),Z86,H',⟨Nat.le_refl _⟩,Z82⟩
  case round=>
   clear H';obtain⟨x9_1,rfl,HA,HK1,⟨m1,rfl⟩⟩ :=hrel;cases gk with
   |zero=>exact absurd HA.out (by simp[Y54.l0])
   |succ k1=>
    have H:=HA.out;clear HA;simp only[Y54.l0] at H;obtain⟨H,c3b0⟩ | ⟨H,c3b0⟩ :=Xd H
    ·obtain⟨H,c4b0⟩ :=Xkd H;obtain⟨H,c5b0⟩ :=Xkd H;obtain⟨H,c7b0⟩ | ⟨H,c7b0⟩ :=Xd H
     ·simp only[Option.some.injEq,Prod.mk.injEq] at H;obtain⟨rfl,rfl⟩ :=H;have p6:0≤(x9_1:Int):=of_decide_eq_true Z85;have q6:x9_1< (a0.size:Int):=of_decide_eq_true Z85;have hx6:=bt_at a0 x9_1;replace p6:=eq_true p6;replace q6:=eq_true q6;(go_wp2);(go_ret2);exact⟨Z86,Z82⟩
     ·obtain⟨H,c9⟩ | ⟨H,c9⟩ :=XI H
      ·have c9b0:decide (57< (bt a0 x9_1))=true:=decide_eq_true c9;clear c9;simp only[Option.some.injEq,Prod.mk.injEq] at H;obtain⟨rfl,rfl⟩ :=H;have p6:0≤(x9_1:Int):=of_decide_eq_true Z85;have q6:x9_1< (a0.size:Int):=of_decide_eq_true Z85;have hx6:=bt_at a0 x9_1;replace p6:=eq_true p6;replace q6:=eq_true q6;have p8:0≤(x9_1:Int):=of_decide_eq_true Z85;have q8:x9_1< (a0.size:Int):=of_decide_eq_true Z85;have hx8:=bt_at a0 x9_1;replace p8:=eq_true p8;replace q8:=eq_true q8;(go_wp2);(go_ret2);exact⟨Z86,Z82⟩
      ·have c9b0:decide (57< (bt a0 x9_1))=false:=decide_eq_false c9;clear c9;have H':=Aside0.mk H;clear H;have p6:0≤(x9_1:Int):=of_decide_eq_true Z85;have q6:x9_1< (a0.size:Int):=of_decide_eq_true Z85;have hx6:=bt_at a0 x9_1;replace p6:=eq_true p6;replace q6:=eq_true q6;have p8:0≤(x9_1:Int):=of_decide_eq_true Z85;have q8:x9_1< (a0.size:Int):=of_decide_eq_true Z85;have hx8:=bt_at a0 x9_1;replace p8:=eq_true p8;replace q8:=eq_true q8;(go_wp2);go_roundg k1
       case measure=>have:=HK1.out;omega
       case rel=>exact⟨(wrap64 (x9_1+1)),Z86,H',⟨Z89⟩,Z82⟩
    ·obtain⟨t112,A10,H⟩ :=Zb H;(try dsimp only at H);obtain⟨H,c11b0,c11b1,-⟩ | ⟨H,c11b0,c11b1,c11⟩ :=XE H
     ·simp only[Option.some.injEq,Prod.mk.injEq] at H;obtain⟨rfl,rfl⟩ :=H;(go_wp2_with(first| (refine Zq Tryz.func167 (Y38.calls _ _ t112 _ A10.out) fun nd=>?_)));(go_ret2);exact⟨Z86,Z82⟩
     ·simp only[Option.some.injEq,Prod.mk.injEq] at H;obtain⟨rfl,rfl⟩ :=H;(go_wp2_with(first| (refine Zq Tryz.func167 (Y38.calls _ _ t112 _ A10.out) fun nd=>?_)));(go_ret2);exact⟨Z86,Z82⟩
theorem Y26.calls (a0:ByteArray) (a1:ByteArray) (r:Bool) (w:World) (h:Y26.f a0 a1=some r):
  Calls Tryz.prog 96 #[.string a0,.string a1] w fun e w'=>e= .returned (.bool r)∧Drawn0 w w':=by
 have H:=h;clear h;unfold Y26.f at H;obtain⟨t105,A3,H⟩ :=Zb H;try dsimp only at H
 obtain rfl:=Option.some.inj H;go_enter Tryz.func96,Tryz.ntmps96
 go_wp2_with(first| (refine Zq Tryz.func159 (Y5.calls _ _ _ _ A3.out) fun nd=>?_))
 go_ret
 exact⟨Z86,Z82⟩
theorem Y69.calls (a0:ByteArray) (r:Int) (w:World) (h:Y69.f a0=some r):
  Calls Tryz.prog 114 #[.string a0] w fun e w'=>e= .returned (.int .i64 r)∧Drawn0 w w':=by
 have H:=h;clear h;unfold Y69.f at H;obtain⟨H,c2b0,c2b1,-⟩ | ⟨H,c2b0,c2b1,c2⟩ :=XE H
 ·obtain rfl:=Option.some.inj H;go_enter Tryz.func114,Tryz.ntmps114
  go_wp2
  go_ret
  exact⟨Z86,Z82⟩
 ·obtain⟨t113,A3,H⟩ :=Zb H;try dsimp only at H
  by_cases c4:t113=true
  ·subst c4;rw[if_pos rfl] at H;obtain rfl:=Option.some.inj H;(go_enter Tryz.func114,Tryz.ntmps114);(go_wp2_with(first| (refine Zq Tryz.func96 (Y26.calls _ _ _ _ A3.out) fun nd=>?_)));(go_ret);exact⟨Z86,Z82⟩
  ·replace c4:=Bool.eq_false_iff.mpr c4;subst c4;rw[if_neg (show¬(false=true) by decide)] at H;obtain rfl:=Option.some.inj H;(go_enter Tryz.func114,Tryz.ntmps114);(go_wp2_with(first| (refine Zq Tryz.func96 (Y26.calls _ _ _ _ A3.out) fun nd=>?_)));(go_ret);exact⟨Z86,Z82⟩
theorem Y80.calls (a0:ByteArray) (r:ByteArray) (w:World) (h:Y80.f a0=some r):
  Calls Tryz.prog 104 #[.string a0] w fun e w'=>e= .returned (.string r)∧Drawn0 w w':=by
 have H:=h;clear h;unfold Y80.f at H;obtain⟨t114,A2,H⟩ :=Zb H;try dsimp only at H
 obtain⟨H,c3b0,c3b1,-⟩ | ⟨H,c3b0,c3b1,c3⟩ :=XE H
 ·obtain⟨H,c4b0,c4b1,c4⟩ :=XkT H;try have c4b2:(9223372036854775807<1+a0.size)=False:=eq_false (Nat.not_lt.2 c4)
  obtain rfl:=Option.some.inj H;go_enter Tryz.func104,Tryz.ntmps104
  go_wp2_with(first| (refine Zq Tryz.func114 (Y69.calls _ _ _ A2.out) fun nd=>?_))
  go_ret
  exact⟨Z86,Z82⟩
 ·obtain⟨H,c5b0,c5b1,-⟩ | ⟨H,c5b0,c5b1,c5⟩ :=XE H
  ·obtain⟨H,c6b0,c6b1⟩ :=Xkt H;obtain rfl:=Option.some.inj H;(go_enter Tryz.func104,Tryz.ntmps104);(go_wp2_with(first| (refine Zq Tryz.func114 (Y69.calls _ _ _ A2.out) fun nd=>?_)));(go_ret);exact⟨Z86,Z82⟩
  ·obtain rfl:=Option.some.inj H;(go_enter Tryz.func104,Tryz.ntmps104);(go_wp2_with(first| (refine Zq Tryz.func114 (Y69.calls _ _ _ A2.out) fun nd=>?_)));(go_ret);exact⟨Z86,Z82⟩
theorem Y67.calls (a0:ByteArray) (a1:ByteArray) (r:ByteArray) (w:World) (h:Y67.f a0 a1=some r):
  Calls Tryz.prog 125 #[.string a0,.string a1] w fun e w'=>e= .returned (.string r)∧Drawn0 w w':=by
 have H:=h;clear h;unfold Y67.f at H;obtain⟨H,c3b0,c3b1,-⟩ | ⟨H,c3b0,c3b1,c3⟩ :=XE H
 ·obtain rfl:=Option.some.inj H;go_enter Tryz.func125,Tryz.ntmps125
  go_wp2
  go_ret
  exact⟨Z86,Z82⟩
 ·obtain⟨H,c4b0,c4b1,c4⟩ :=XkT H;try have c4b2:(9223372036854775807<a0.size+1)=False:=eq_false (Nat.not_lt.2 c4)
  obtain⟨H,c5b0,c5b1,c5⟩ :=XkT H;try have c5b2:(9223372036854775807< (a0++ (⟨#[47]⟩ :ByteArray)).size+a1.size)=False:=eq_false (Nat.not_lt.2 c5)
  obtain rfl:=Option.some.inj H;go_enter Tryz.func125,Tryz.ntmps125
  go_wp2
  go_ret
  exact⟨Z86,Z82⟩
theorem Y72.calls (k:Nat) (P0_:Nat→Prop) (A0:Option Addr) (c0:Nat) (l0:List Int) (r:List Int) (w:World) (hs0:Kd.V (Kd.int .u64) 156 w w.heap.size (fun k_=>P0_ k_) (.slice A0 l0.length c0) l0) (h:Y72.f k l0=some r):
  Calls Tryz.prog 212 #[.slice A0 l0.length c0] w fun e w'=> ∃v0_:Value,e= .returned (v0_)∧Kd.V (Kd.int .u64) 156 w' w.heap.size (fun k_=>(P0_ k_∨w.heap.size≤k_)) v0_ r∧Below w.heap.size w w':=by
 have HO0:=Aside0.mk (show Kd.V (Kd.int .u64) 156 w w.heap.size (fun k_=>(P0_ k_∨w.heap.size≤k_)) (.slice A0 l0.length c0) l0 from Kd.V_mono hs0 (fun k_ hk=> .inl hk));have HB:=Aside0.mk (Below.refl w.heap.size w);have H:=h;clear h;unfold Y72.f at H;have H':=Aside0.mk H;clear H;go_enter Tryz.func212,Tryz.ntmps212
 go_wp2
 go_loopg [0] k (fun kq v0 w'=> ∃(x0_1:List Int),Aside0 (Y72.l0 kq x0_1=some r)∧Aside0 (kq≤k)∧Aside0 (Kd.V (Kd.int .u64) 156 w' w.heap.size (fun k_=>(P0_ k_∨w.heap.size≤k_)) v0 x0_1)∧Aside0 (Below w.heap.size w w'))
 case atStart=>exact⟨(l0),H',⟨Nat.le_refl _⟩,⟨Z80⟩,⟨Z36⟩⟩
 case round=>
  clear H';obtain⟨x0_1,HA,HK1,HO_0,HB⟩ :=hrel;cases gk with
  |zero=>exact absurd HA.out (by simp[Y72.l0])
  |succ k1=>
   have H:=HA.out;clear HA;simp only[Y72.l0] at H;obtain⟨H,c2⟩ | ⟨H,c2⟩ :=XI H
   ·have c2b0:decide (0< (x0_1.length:Int))=true:=decide_eq_true c2;have c2b1:decide (0<x0_1.length)=true:=decide_eq_true Z92;clear c2;generalize hji3:(wrap64 ((x0_1.length:Int) - 1))=ji3 at H;have hji3w:(IntKind.i64.wrap ((x0_1.length:Int) - 1))=ji3:=(i64_w _).trans hji3;obtain⟨H,c4b0⟩ :=Xkd H;obtain⟨H,c5b0⟩ :=Xkd H;obtain⟨H,c6b0,c6b1,-⟩ | ⟨H,c6b0,c6b1,c6⟩ :=XE H
    ·have c7b0:=eq_true (of_decide_eq_true Z85:0≤(ji3));obtain⟨H,c8b0,c8b1⟩ :=Xkt H;obtain⟨y150,hy150⟩ : ∃y_:List Int,y_= (x0_1.take ((ji3):Int).toNat):= ⟨_,rfl⟩
     (try rw[←hy150] at H);have Ny150:=Aside0.mk hy150;clear hy150;have H':=Aside0.mk H;clear H;obtain⟨Ao9,co9,eo9⟩ :=Kd.V_slice HO_0.out;subst eo9;have p149:0≤((ji3):Int):=of_decide_eq_true Z85;have q149:(ji3)< (x0_1.length:Int):=of_decide_eq_true Z85;obtain⟨ad149,e149,hx149_0⟩ :=Kd.at_int (Kd.V_reads' HO_0.out).2.2 (ji3) p149 q149;cases e149;replace p149:=eq_true p149;replace q149:=eq_true q149;have q10:((ji3):Int)≤((x0_1.length:Int):Int):=of_decide_eq_true Z85;obtain⟨i010,hi010,_,hsz10,_⟩ :=info_parts info156;have hroom10:x0_1.length≤co9:=(Kd.V_reads' HO_0.out).2.1;have hC10:Kd.F (Kd.int .u64) _ _ (some ad149) x0_1.length x0_1:=(Kd.V_at (base:=w.heap.size) HO_0.out).2.2;have hcut10:=cut_to (P:=Tryz.prog) 172 156 .i64 Tryz.underlying172 hi010 (some ad149) x0_1.length co9 (ji3) (of_decide_eq_true Z85) q10 hroom10;have hr10:=Kd.F_take (m:=((ji3):Int).toNat) hC10 Z92;have hy10:y150.length= ((ji3):Int).toNat:=(by rw[Ny150.out,List.length_take];omega)
     rw[←Ny150.out] at hr10;rw[←hy10] at hcut10;have HO154:=Aside0.mk (show Kd.V (Kd.int .u64) 156 _ w.heap.size _ (.slice (some ad149) y150.length co9) y150 from Kd.V_mk Z92 hr10);have HC154:=Aside0.mk (show y150.length≤co9 from by omega);clear hr10 hC10 hroom10 hi010 hsz10;have KY10:=Aside0.mk hy10;clear hy10;replace q10:=eq_true q10;(go_wp2);go_roundg k1
     case measure=>have:=HK1.out;omega
     case rel=>exact⟨(y150),H',⟨Z89⟩,⟨by(with_reducible repeat(first|apply Kd.V_alloc|apply Kd.V_drewN|apply Kd.V_drew));exact HO154.out⟩,⟨Z36⟩⟩
    ·obtain rfl:=Option.some.inj H;obtain⟨Ao11,co11,eo11⟩ :=Kd.V_slice HO_0.out;subst eo11;have p149:0≤((ji3):Int):=of_decide_eq_true Z85;have q149:(ji3)< (x0_1.length:Int):=of_decide_eq_true Z85;obtain⟨ad149,e149,hx149_0⟩ :=Kd.at_int (Kd.V_reads' HO_0.out).2.2 (ji3) p149 q149;cases e149;replace p149:=eq_true p149;replace q149:=eq_true q149;(go_wp2);(go_ret);exact⟨_,Z24,Z71,Z36⟩
   ·have c2b0:decide (0< (x0_1.length:Int))=false:=decide_eq_false c2;have c2b1:decide (0<x0_1.length)=false:=decide_eq_false Z92;clear c2;obtain rfl:=Option.some.inj H;obtain⟨Ao12,co12,eo12⟩ :=Kd.V_slice HO_0.out;subst eo12;(go_wp2);(go_ret);exact⟨_,Z81,Z71,Z36⟩
def Y70.T6:Bool×List (List Nat×List Nat):=(true,[([],[]),([],[]),([1],[1]),([0,2],[0,2]),([],[]),([],[]),([4,5],[4,5]),([3,3,0,1,2,3],[0,3]),([6,7,0,1,2,3,4,5,6,7],[4,6])])
def Y70.B6:List Nat:=[0,0,2,7,0,0,48,15,255]
theorem Y70.tab6:rtab .any (opsOf Tryz.f179 6)=Y70.T6:=by kernel_rfl
theorem Y70.bits6:waitsOk Y70.T6.2 Y70.B6=true:=by kernel_rfl
theorem Y70.calls (k:Nat) (a0:ByteArray) (r1:Bool) (r2:List Int) (w:World) (h:Y70.f k a0=some (r1,r2)):
  Calls Tryz.prog 179 #[.string a0] w fun e w'=> ∃v1_:Value,e= .returned (.agg #[.bool r1,v1_])∧Kd.V (Kd.int .u64) 156 w' w.heap.size (fun k_=>(w.heap.size≤k_)) v1_ r2∧Below w.heap.size w w':=by
 have hu174:=Tryz.underlying174;have HB:=Aside0.mk (Below.refl w.heap.size w);have H:=h;clear h;unfold Y70.f at H;obtain⟨⟨t156,t157⟩,A2,H⟩ :=Zb H;try dsimp only at H
 generalize hji3:(wrap64 ((wrap64 ((t156.size:Int) / 9))+1))=ji3 at H;(try rw[hji3] at A2);have hji3w:(IntKind.i64.wrap ((wrap64 ((t156.size:Int) / 9))+1))=ji3:=(i64_w _).trans hji3;obtain⟨H,c4b0,c4b1⟩ :=Xkt H;obtain⟨H,c5b0,c5b1⟩ :=Xkt H;obtain⟨y158,hy158⟩ : ∃y_:List Int,y_= (([]:List Int)):= ⟨_,rfl⟩
 try rw[←hy158] at H
 have Ny158:=Aside0.mk hy158;clear hy158;have H':=Aside0.mk H;clear H;go_enter Tryz.func179,Tryz.ntmps179
 go_wp2_with(first| ((with_reducible refine gate_dst (N:=2) rfl ?_);refine box_event rfl (N:=2) rfl (cs:=#[.bool false,.slice none 0 0]) (t:=174) Zh ?_;intro gb155 hg w6 hbox hb;have BK155:=Aside0.mk (hbox);have GW155:=Aside0.mk ((by rw[hg];exact(below_size Z36):w.heap.size≤gb155));have GE155:=Aside0.mk ((by rw[hg];exact(below_size Z36):w.heap.size≤gb155));replace HB:=Aside0.mk (below_step Z36 hb);clear hb hbox hg)| (refine Zq Tryz.func101 (Y25.calls _ _ _ _ _ A2.out) fun nd=>?_)| ((with_reducible refine gate_dst (N:=18) rfl ?_);refine Kd.R_makecap (Kd.int .u64) _ 156 rfl (N:=18) rfl 172 _ _ rfl ji3 rfl rfl Tryz.underlying172 (.int .u64 0) 8 info156 rfl Z91 Z92 0 (ok:=fun _=>True) (okp:=fun _=>True) rfl (fun _ hk=>hk) trivial (of_decide_eq_true Z85) (Nat.le_trans (Nat.mul_le_mul_right _ (of_decide_eq_true Z85:ji3.toNat≤35184372088832)) Z92) (Below.refl _ _) (Nat.le_refl _) ?_;intro v159 w7 ho8 hb hg_ hnew_;clear hg_ hnew_;(first|rw[←Ny158.out] at ho8| (simp only[Int.reduceToNat] at ho8;rw[←Ny158.out] at ho8));have HO160:=Aside0.mk (Kd.R_lower (Kd.R_newM (M:=fun k_=>(w.heap.size≤k_)) ho8 (below_size Z25) (fun k_ h_=>h_)) (below_size Z25));replace BK155:=Aside0.mk (blk_below (g:=gb155) (o:= .cells #[.bool false,.slice none 0 0] 174 (0,0)) Z38 hb);replace HB:=Aside0.mk (below_step Z25 hb);clear hb ho8))
 go_loopg [3,5] k (fun kq v3 v5 w'=> ∃(x3_1:ByteArray) (x5_1:List Int),v3= .string x3_1∧Aside0 (Y70.l0 kq x3_1 t157 x5_1=some (r1,r2))∧Aside0 (kq≤k)∧Aside0 (Kd.R (Kd.int .u64) 156 w' w.heap.size (fun k_=>(w.heap.size≤k_)) v5 x5_1)∧Aside0 (w'.heap[gb155]? =some (.cells #[.bool false,(.slice none 0 0)] 174 (0,0)))∧Aside0 (Below w.heap.size w w'))
 case atStart=>exact⟨(t156),(y158),Z86,H',⟨Nat.le_refl _⟩,⟨by(with_reducible repeat(first|apply Kd.R_alloc|apply Kd.R_drewN|apply Kd.R_drew));exact Kd.R_mono HO160.out (fun _ hk=>hk.1)⟩,⟨Z38⟩,⟨Z25⟩⟩
 case round=>
  clear H';obtain⟨x3_1,x5_1,rfl,HA,HK1,HO_5,BK155,HB⟩ :=hrel;cases gk with
  |zero=>exact absurd HA.out (by simp[Y70.l0])
  |succ k1=>
   have H:=HA.out;clear HA;simp only[Y70.l0] at H;obtain⟨H,c9⟩ | ⟨H,c9⟩ :=XI H
   ·have c9b0:decide (0< (x3_1.size:Int))=true:=decide_eq_true c9;have c9b1:decide (0<x3_1.size)=true:=decide_eq_true Z92;clear c9;generalize hji10:(mx (wrap64 ((x3_1.size:Int) - 9)) 0)=ji10 at H;have hji10_:(if(wrap64 ((x3_1.size:Int) - 9))<0 then 0 else(wrap64 ((x3_1.size:Int) - 9)))=ji10:=hji10;obtain⟨H,c11b0,c11b1⟩ :=Xkt H;obtain⟨H,c12b0,c12b1⟩ :=Xkt H;obtain⟨⟨t161,t162⟩,A13,H⟩ :=Zb H;(try dsimp only at H);obtain⟨H,c14⟩ :=XkI H;have LMc14:=Aside0.mk c14;clear c14;obtain⟨y163,hy163⟩ : ∃y_:List Int,y_= (x5_1++ [t161]):= ⟨_,rfl⟩
    (try rw[←hy163] at H);have Ny163:=Aside0.mk hy163;clear hy163;have c15b0:=eq_true (of_decide_eq_true Z85:0≤(ji10));have c16b0:=eq_true (of_decide_eq_true Z85:(ji10)≤(x3_1.size:Int));have H':=Aside0.mk H;clear H;(try go_wp2_with(first| ((with_reducible refine gate_callee (f:=211) rfl ?_);refine goesL_ (some 30) rfl rfl Tryz.func211 Z90 rfl #[.string (x3_1.extract ((ji10):Int).toNat x3_1.size),.int .i64 10,.int .i64 64] rfl (by(try simp only[List.map_toArray,List.map_cons,List.map_nil]);first|done| (simp only[hji10];rfl)|rfl| (simp only[List.length_drop,List.length_take];rfl)) ?_;(with_reducible refine(Y3.calls _ _ _ _ t162 _ A13.out).mono ?_);rintro e w17 ⟨rfl,hb⟩;refine⟨_,rfl,?_⟩;replace HO_5:=Aside0.mk (Kd.R_below Z72 hb);replace BK155:=Aside0.mk (blk_below (g:=gb155) (o:= .cells #[.bool false,.slice none 0 0] 174 (0,0)) Z38 hb);replace HB:=Aside0.mk (below_step Z25 hb);try clear hb;(try simp only[errW_none,errW_some]))));have n0_:=Aside0.mk (Kd.R_drew HO_5.out);have n1_:=Aside0.mk (blk_drew BK155.out);have n2_:=Aside0.mk (below_drew1 HB.out);clear HO_5;clear BK155;clear HB;have HO_5:=n0_;have BK155:=n1_;have HB:=n2_;clear n0_ n1_ n2_;refine start_ (n:=9) (S:=fun w'=>True) (ds:=[]) #[false,false,false,false,false,false,false,false,false] Z90 rfl rfl trivial (fun hHeld=>?_);refine with_tabW Y70.tab6 Y70.bits6 (fun HT_ HW_=>?_);generalize w17.drew=w18 at HO_5 BK155 HB hHeld⊢;refine pure_ (i:=0) (N:=some 33) (v:=?_) (a':=?_) #[true,false,false,false,false,false,false,false,false] rfl rfl (any_of HT_.out Z90) (fun _ _ _ h=>h) (Or.inl ⟨by rfl,?_⟩) ?_ ?_;rotate_left
    ·intro w';(go_simp);with_reducible rfl
    rotate_left
    ·simp only[Act.put,List.setIfInBounds_toArray,List.set_cons_zero,List.set_cons_succ,i64_w,i32_w];rfl
    refine pure_ (i:=1) (N:=some 34) (v:=?_) (a':=?_) #[true,true,false,false,false,false,false,false,false] rfl rfl (any_of HT_.out Z90) (fun _ _ _ h=>h) (Or.inl ⟨by rfl,?_⟩) ?_ ?_;rotate_left
    ·intro w';(go_simp);with_reducible rfl
    rotate_left
    ·simp only[Act.put,List.setIfInBounds_toArray,List.set_cons_zero,List.set_cons_succ,i64_w,i32_w];rfl
    refine pure_ (i:=4) (N:=some 37) (v:=?_) (a':=?_) #[true,true,false,false,true,false,false,false,false] rfl rfl (any_of HT_.out Z90) (fun _ _ _ h=>h) (Or.inl ⟨by rfl,?_⟩) ?_ ?_;rotate_left
    ·intro w';(go_simp);with_reducible rfl
    rotate_left
    ·simp only[Act.put,List.setIfInBounds_toArray,List.set_cons_zero,List.set_cons_succ,i64_w,i32_w];rfl
    refine pure_ (i:=5) (N:=some 38) (v:=?_) (a':=?_) #[true,true,false,false,true,true,false,false,false] rfl rfl (any_of HT_.out Z90) (fun _ _ _ h=>h) (Or.inl ⟨by rfl,?_⟩) ?_ ?_;rotate_left
    ·intro w';(go_simp);with_reducible rfl
    rotate_left
    ·simp only[Act.put,List.setIfInBounds_toArray,List.set_cons_zero,List.set_cons_succ,i64_w,i32_w];rfl
    refine pure_ (i:=6) (N:=some 39) (v:=?_) (a':=?_) #[true,true,false,false,true,true,true,false,false] rfl rfl (any_of HT_.out Z90) (fun _ _ _ h=>h) (Or.inl ⟨by rfl,?_⟩) ?_ ?_;rotate_left
    ·intro w';(go_simp);with_reducible rfl
    rotate_left
    ·simp only[Act.put,List.setIfInBounds_toArray,List.set_cons_zero,List.set_cons_succ,i64_w,i32_w];rfl
    refine one_ (i:=2) (N:=some 35) #[true,true,true,false,true,true,true,false,false] rfl rfl (one_of HT_.out Z90) Z91 (fun K hK=>?_);refine value_ (w1:=?_) (v:=?_) (by rfl) rfl ?_ ?_;rotate_left 2
    ·(go_simp);constructor
     ·rfl
     ·rfl
    refine hK.out _ _ trivial (fun hHeld=>?_);clear hK K;refine norm_ (a':=?_) ?_ ?_;rotate_left
    ·show Act.put _ (some 35) _=_
     simp only[Act.put,List.setIfInBounds_toArray,List.set_cons_zero,List.set_cons_succ,i64_w,i32_w];rfl
    refine one_ (i:=3) (N:=some 36) #[true,true,true,true,true,true,true,false,false] rfl rfl (one_of HT_.out Z90) Z91 (fun K hK=>?_);refine Kd.R_append_step (Kd.int .u64) (w0:=w) w.heap.size (by rfl) (.tmp 33) (.tmp 35) 172 156 (.int .u64 0) 8 rfl Tryz.underlying172 info156 rfl Z91 Z92 u5 x5_1 t161 [.int .u64 t161] (fun k_=>(w.heap.size≤k_)) (fun _=>False) rfl rfl ?aP (fun _ hk=>hk.elim) ?aF ?aO ?aB ?aS ?aL ?_
    (case aP=>exact rfl)
    (case aB=>exact Z25)
    (case aF=>exact(fun k_ hk=>(Nat.le_trans (below_size Z25) hk)))
    (case aO=>exact Z72)
    (case aS=>exact(below_size Z25))
    (case aL=>have:=LMc14.out;omega)
    intro v164 w19 ho hb hg hat;rw[←Ny163.out] at ho;have n0_:=Aside0.mk (blk_grown (g:=gb155) (o:= .cells #[.bool false,.slice none 0 0] 174 (0,0)) Z38 hg (Kd.R_ne HO_5.out BK155.out Z91));have n1_:=Aside0.mk (hb);have n2_:=Aside0.mk (ho);clear BK155;clear HB;clear HO_5;have BK155:=n0_;have HB:=n1_;have HO165:=n2_;clear n0_ n1_ n2_;clear ho hb hg hat;refine hK.out _ _ trivial (fun hHeld=>?_);clear hK K;refine norm_ (a':=?_) ?_ ?_;rotate_left
    ·show Act.put _ (some 36) _=_
     simp only[Act.put,List.setIfInBounds_toArray,List.set_cons_zero,List.set_cons_succ,i64_w,i32_w];rfl
    refine pure_ (i:=7) (N:=some 5) (v:=?_) (a':=?_) #[true,true,true,true,true,true,true,true,false] rfl rfl (any_of HT_.out Z90) (fun _ _ _ h=>h) (Or.inl ⟨by rfl,?_⟩) ?_ ?_;rotate_left
    ·intro w';(go_simp);with_reducible rfl
    rotate_left
    ·simp only[Act.put,List.setIfInBounds_toArray,List.set_cons_zero,List.set_cons_succ,i64_w,i32_w];rfl
    refine pure_ (i:=8) (N:=some 3) (v:=?_) (a':=?_) #[true,true,true,true,true,true,true,true,true] rfl rfl (any_of HT_.out Z90) (fun _ _ _ h=>h) (Or.inl ⟨by rfl,?_⟩) ?_ ?_;rotate_left
    ·intro w';(go_simp);with_reducible rfl
    rotate_left
    ·simp only[Act.put,List.setIfInBounds_toArray,List.set_cons_zero,List.set_cons_succ,i64_w,i32_w];rfl
    refine done_ (done_of HT_.out Z90) ?_;(try go_wp2);go_roundg k1
    case measure=>have:=HK1.out;omega
    case rel=>exact⟨(x3_1.extract 0 ((ji10):Int).toNat),(y163),(by first|rfl| (simp;done)| (simp only[←hji10] <;> (first|rfl|simp))| (simp[*];done)),H',⟨Z89⟩,⟨by(with_reducible repeat(first|apply Kd.R_alloc|apply Kd.R_drewN|apply Kd.R_drew));exact HO165.out⟩,⟨Z38⟩,⟨Z25⟩⟩
   ·have c9b0:decide (0< (x3_1.size:Int))=false:=decide_eq_false c9;have c9b1:decide (0<x3_1.size)=false:=decide_eq_false Z92;clear c9;obtain⟨t166,A20,H⟩ :=Zb H;(try dsimp only at H);simp only[Option.some.injEq,Prod.mk.injEq] at H;obtain⟨rfl,rfl⟩ :=H;obtain⟨Ao21,co21,eo21⟩ :=Kd.R_slice HO_5.out;subst eo21;(go_wp2_with(first| (refine Zc Tryz.func212 (Y72.calls _ (fun k_=>some k_= (.slice Ao21 x5_1.length co21:Value).ownBlock) _ _ _ _ _ (Kd.R_V (Kd.R_tight rfl (Kd.R_types (HO_5.out) BK155.out Z91))) A20.out) ?_;rintro e w22 ⟨v167,rfl,ho0,hb⟩;refine⟨_,rfl,?_⟩;have HO168:=Aside0.mk (Kd.V_lower (Kd.V_mono (ok':=fun k_=>(w.heap.size≤k_)∧k_≠gb155) ho0 (fun k_ hk_=> ⟨Or.elim hk_ (fun hs_=>((Kd.R_types (HO_5.out) BK155.out Z91).1 k_ hs_.symm).1) (fun hn_=>(Nat.le_trans (below_size Z25) hn_)),Or.elim hk_ (fun hs_=>((Kd.R_types (HO_5.out) BK155.out Z91).1 k_ hs_.symm).2) (fun hn_=>(Kd.freshB (g:=gb155) (o:= .cells #[.bool false,.slice none 0 0] 174 (0,0)) Z38 k_ hn_))⟩)) (below_size Z25));replace HO_5:=Aside0.mk (Kd.R_below Z72 hb);replace BK155:=Aside0.mk (blk_below (g:=gb155) (o:= .cells #[.bool false,.slice none 0 0] 174 (0,0)) Z38 hb);replace HB:=Aside0.mk (below_step Z25 hb);try clear hb;(try clear ho0);obtain⟨Ao23,co23,eo23⟩ :=Kd.V_slice HO168.out;subst eo23;have hcz24_0:w22.cell? ⟨gb155,0,none⟩ =some (.bool false):=(blk_cell BK155.out 0).trans rfl;have hcz24_1:w22.cell? ⟨gb155,1,none⟩ =some (.slice none 0 0):=(blk_cell BK155.out 1).trans rfl;have hfz24_0:=blk_frozen BK155.out 0;have hfz24_1:=blk_frozen BK155.out 1)));refine bodyPost_ret (results_cell_row rfl _ _ gb155 174 #[.bool t157,.slice Ao23 t166.length co23] (0,0) _ rfl (by(with_reducible repeat(first|refine blk_drewN ?_ _|refine blk_drew ?_|refine blk_alloc ?_ _));refine blk_put (cs:=#[.bool t157,.slice none 0 0]) ?_ 1 _ rfl;(with_reducible repeat(first|refine blk_drewN ?_ _|refine blk_drew ?_|refine blk_alloc ?_ _));refine blk_put (cs:=#[.bool false,.slice none 0 0]) ?_ 0 _ rfl;(with_reducible repeat(first|refine blk_drewN ?_ _|refine blk_drew ?_|refine blk_alloc ?_ _));exact BK155.out) Tryz.underlying174 rfl Z90) rfl ?_;exact⟨_,Z24,by(with_reducible repeat(first|apply Kd.V_alloc|apply Kd.V_drewN|apply Kd.V_drew));exact Kd.V_mono (Kd.V_far (p:= ⟨gb155,1,none⟩) (Kd.V_far (p:= ⟨gb155,0,none⟩) (Kd.V_mono HO168.out (fun k_ hk=>(⟨hk,hk.2⟩ :_∧k_≠gb155))) (fun _ hk=>hk.2) (.bool t157)) (fun _ hk=>hk.2) (.slice Ao23 t166.length co23)) (fun _ hk=>hk.1.1),Z25⟩
theorem Y59.calls (k:Nat) (A0:Option Addr) (c0:Nat) (l0:List Int) (A1:Option Addr) (c1:Nat) (l1:List Int) (r:List Int) (w:World) (hr0:Kd.C (Kd.int .u64) w A0 l0.length l0) (hc0:l0.length≤c0) (hr1:Kd.C (Kd.int .u64) w A1 l1.length l1) (hc1:l1.length≤c1) (h:Y59.f k l0 l1=some r):
  Calls Tryz.prog 187 #[.slice A0 l0.length c0,.slice A1 l1.length c1] w fun e w'=> ∃v0_:Value,e= .returned (v0_)∧Kd.V (Kd.int .u64) 156 w' w.heap.size (fun k_=>(w.heap.size≤k_)) v0_ r∧Below w.heap.size w w':=by
 have HR0:=Aside0.mk hr0;have HC0:=Aside0.mk hc0;clear hr0 hc0;have HR1:=Aside0.mk hr1;have HC1:=Aside0.mk hc1;clear hr1 hc1;have HB:=Aside0.mk (Below.refl w.heap.size w);have H:=h;clear h;unfold Y59.f at H;obtain⟨H,c3b0,c3b1⟩ :=Xkt H;obtain⟨H,c4b0,c4b1⟩ :=Xkt H;obtain⟨y173,hy173⟩ : ∃y_:List Int,y_= (([]:List Int)):= ⟨_,rfl⟩
 try rw[←hy173] at H
 have Ny173:=Aside0.mk hy173;clear hy173;have H':=Aside0.mk H;clear H;go_enter Tryz.func187,Tryz.ntmps187
 go_wp2_with(first| ((with_reducible refine gate_dst (N:=12) rfl ?_);refine Kd.R_makecap (Kd.int .u64) _ 156 rfl (N:=12) rfl 172 _ _ rfl (l0.length:Int) rfl rfl Tryz.underlying172 (.int .u64 0) 8 info156 rfl Z91 Z92 0 (ok:=fun _=>True) (okp:=fun _=>True) rfl (fun _ hk=>hk) trivial (of_decide_eq_true Z85) (Nat.le_trans (Nat.mul_le_mul_right _ (of_decide_eq_true Z85:(l0.length:Int).toNat≤35184372088832)) Z92) (Below.refl _ _) (Nat.le_refl _) ?_;intro v174 w5 ho6 hb hg_ hnew_;clear hg_ hnew_;(first|rw[←Ny173.out] at ho6| (simp only[Int.reduceToNat] at ho6;rw[←Ny173.out] at ho6));have HO175:=Aside0.mk (Kd.R_lower (Kd.R_newM (M:=fun k_=>(w.heap.size≤k_)) ho6 (below_size Z36) (fun k_ h_=>h_)) (below_size Z36));replace HB:=Aside0.mk (below_step Z36 hb);clear hb ho6))
 go_loopg [5,6,15] k (fun kq v5 v6 v15 w'=> ∃(x5_1:List Int) (x6_1:Int) (x15_1:Int),v6= .int .u64 x6_1∧v15= .int .i64 x15_1∧Aside0 (Y59.l0 kq l1 x5_1 x6_1 l0 (l0.length:Int) x15_1=some r)∧Aside0 (kq≤k)∧Aside0 (Kd.R (Kd.int .u64) 156 w' w.heap.size (fun k_=>(w.heap.size≤k_)) v5 x5_1)∧Aside0 (Below w.heap.size w w'))
 case atStart=>exact⟨(y173),(0),(0),Z86,Z86,H',⟨Nat.le_refl _⟩,⟨by(with_reducible repeat(first|apply Kd.R_alloc|apply Kd.R_drewN|apply Kd.R_drew));exact Kd.R_mono HO175.out (fun _ hk=>hk.1)⟩,⟨Z36⟩⟩
 case round=>
  clear H';obtain⟨x5_1,x6_1,x15_1,rfl,rfl,HA,HK1,HO_5,HB⟩ :=hrel;cases gk with
  |zero=>exact absurd HA.out (by simp[Y59.l0])
  |succ k1=>
   have H:=HA.out;clear HA;simp only[Y59.l0] at H;obtain⟨H,c7b0⟩ | ⟨H,c7b0⟩ :=Xd H
   ·obtain⟨H,c8b0⟩ :=Xkd H;obtain⟨H,c9b0⟩ :=Xkd H;obtain⟨H,c10b0⟩ | ⟨H,c10b0⟩ :=Xd H
    ·obtain⟨H,c11b0⟩ | ⟨H,c11b0⟩ :=Xd H
     ·obtain⟨H,c12⟩ :=XkI H;have LMc12:=Aside0.mk c12;clear c12;obtain⟨y181,hy181⟩ : ∃y_:List Int,y_= (x5_1++ [IntKind.u64.wrap ((IntKind.u64.wrap ((rd l0 x15_1)+1000000000)) - (IntKind.u64.wrap (x6_1+ (rd l1 x15_1))))]):= ⟨_,rfl⟩
      (try rw[←hy181] at H);have Ny181:=Aside0.mk hy181;clear hy181;have H':=Aside0.mk H;clear H;obtain⟨ad179,e179,hx179_0,p179,q179⟩ :=Zi HR0.out x15_1;cases e179;replace hx179_0:=(HB.out.cell (World.block_lt_of_cell? w _ hx179_0)).trans hx179_0;obtain⟨ad180,e180,hx180_0,p180,q180⟩ :=Zi HR1.out x15_1;cases e180;replace hx180_0:=(HB.out.cell (World.block_lt_of_cell? w _ hx180_0)).trans hx180_0;(go_wp2_with(first| ((with_reducible refine gate_builtin (b:= .append) (xs:=#[.tmp 36,.tmp 40]) rfl ?_);at_builtin;refine Kd.R_append (Kd.int .u64) (w0:=w) w.heap.size rfl (.tmp 36) (.tmp 40) 172 156 (.int .u64 0) 8 rfl Tryz.underlying172 info156 rfl Z91 Z92 u5 x5_1 (IntKind.u64.wrap ((IntKind.u64.wrap ((rd l0 x15_1)+1000000000)) - (IntKind.u64.wrap (x6_1+ (rd l1 x15_1))))) [.int .u64 (IntKind.u64.wrap ((IntKind.u64.wrap ((rd l0 x15_1)+1000000000)) - (IntKind.u64.wrap (x6_1+ (rd l1 x15_1)))))] (fun k_=>(w.heap.size≤k_)) (fun _=>False) rfl rfl ?aP (fun _ hk=>hk.elim) ?aF ?aO ?aB ?aS ?aL ?_;(case aP=>exact rfl);(case aB=>exact Z36);(case aF=>exact(fun k_ hk=>(Nat.le_trans (below_size Z36) hk)));(case aO=>exact Z72);(case aS=>exact(below_size Z36));(case aL=>have:=LMc12.out;omega);intro v182 w13 ho hb hg hat;rw[←Ny181.out] at ho;have n0_:=Aside0.mk (hb);have n1_:=Aside0.mk (ho);clear HB;clear HO_5;have HB:=n0_;have HO183:=n1_;clear n0_ n1_;clear ho hb hg hat)));go_roundg k1
      case measure=>have:=HK1.out;omega
      case rel=>exact⟨(y181),(1),(wrap64 (x15_1+1)),Z86,Z86,H',⟨Z89⟩,⟨by(with_reducible repeat(first|apply Kd.R_alloc|apply Kd.R_drewN|apply Kd.R_drew));exact HO183.out⟩,⟨Z36⟩⟩
     ·obtain⟨H,c14⟩ :=XkI H;have LMc14:=Aside0.mk c14;clear c14;obtain⟨y184,hy184⟩ : ∃y_:List Int,y_= (x5_1++ [IntKind.u64.wrap ((rd l0 x15_1) - (IntKind.u64.wrap (x6_1+ (rd l1 x15_1))))]):= ⟨_,rfl⟩
      (try rw[←hy184] at H);have Ny184:=Aside0.mk hy184;clear hy184;have H':=Aside0.mk H;clear H;obtain⟨ad179,e179,hx179_0,p179,q179⟩ :=Zi HR0.out x15_1;cases e179;replace hx179_0:=(HB.out.cell (World.block_lt_of_cell? w _ hx179_0)).trans hx179_0;obtain⟨ad180,e180,hx180_0,p180,q180⟩ :=Zi HR1.out x15_1;cases e180;replace hx180_0:=(HB.out.cell (World.block_lt_of_cell? w _ hx180_0)).trans hx180_0;(go_wp2_with(first| ((with_reducible refine gate_builtin (b:= .append) (xs:=#[.tmp 36,.tmp 40]) rfl ?_);at_builtin;refine Kd.R_append (Kd.int .u64) (w0:=w) w.heap.size rfl (.tmp 36) (.tmp 40) 172 156 (.int .u64 0) 8 rfl Tryz.underlying172 info156 rfl Z91 Z92 u5 x5_1 (IntKind.u64.wrap ((rd l0 x15_1) - (IntKind.u64.wrap (x6_1+ (rd l1 x15_1))))) [.int .u64 (IntKind.u64.wrap ((rd l0 x15_1) - (IntKind.u64.wrap (x6_1+ (rd l1 x15_1)))))] (fun k_=>(w.heap.size≤k_)) (fun _=>False) rfl rfl ?aP (fun _ hk=>hk.elim) ?aF ?aO ?aB ?aS ?aL ?_;(case aP=>exact rfl);(case aB=>exact Z36);(case aF=>exact(fun k_ hk=>(Nat.le_trans (below_size Z36) hk)));(case aO=>exact Z72);(case aS=>exact(below_size Z36));(case aL=>have:=LMc14.out;omega);intro v185 w15 ho hb hg hat;rw[←Ny184.out] at ho;have n0_:=Aside0.mk (hb);have n1_:=Aside0.mk (ho);clear HB;clear HO_5;have HB:=n0_;have HO186:=n1_;clear n0_ n1_;clear ho hb hg hat)));go_roundg k1
      case measure=>have:=HK1.out;omega
      case rel=>exact⟨(y184),(0),(wrap64 (x15_1+1)),Z86,Z86,H',⟨Z89⟩,⟨by(with_reducible repeat(first|apply Kd.R_alloc|apply Kd.R_drewN|apply Kd.R_drew));exact HO186.out⟩,⟨Z36⟩⟩
    ·obtain⟨H,c16b0⟩ | ⟨H,c16b0⟩ :=Xd H
     ·obtain⟨H,c17⟩ :=XkI H;have LMc17:=Aside0.mk c17;clear c17;obtain⟨y187,hy187⟩ : ∃y_:List Int,y_= (x5_1++ [IntKind.u64.wrap ((IntKind.u64.wrap ((rd l0 x15_1)+1000000000)) - x6_1)]):= ⟨_,rfl⟩
      (try rw[←hy187] at H);have Ny187:=Aside0.mk hy187;clear hy187;have H':=Aside0.mk H;clear H;obtain⟨ad179,e179,hx179_0,p179,q179⟩ :=Zi HR0.out x15_1;cases e179;replace hx179_0:=(HB.out.cell (World.block_lt_of_cell? w _ hx179_0)).trans hx179_0;(go_wp2_with(first| ((with_reducible refine gate_builtin (b:= .append) (xs:=#[.tmp 36,.tmp 40]) rfl ?_);at_builtin;refine Kd.R_append (Kd.int .u64) (w0:=w) w.heap.size rfl (.tmp 36) (.tmp 40) 172 156 (.int .u64 0) 8 rfl Tryz.underlying172 info156 rfl Z91 Z92 u5 x5_1 (IntKind.u64.wrap ((IntKind.u64.wrap ((rd l0 x15_1)+1000000000)) - x6_1)) [.int .u64 (IntKind.u64.wrap ((IntKind.u64.wrap ((rd l0 x15_1)+1000000000)) - x6_1))] (fun k_=>(w.heap.size≤k_)) (fun _=>False) rfl rfl ?aP (fun _ hk=>hk.elim) ?aF ?aO ?aB ?aS ?aL ?_;(case aP=>exact rfl);(case aB=>exact Z36);(case aF=>exact(fun k_ hk=>(Nat.le_trans (below_size Z36) hk)));(case aO=>exact Z72);(case aS=>exact(below_size Z36));(case aL=>have:=LMc17.out;omega);intro v188 w18 ho hb hg hat;rw[←Ny187.out] at ho;have n0_:=Aside0.mk (hb);have n1_:=Aside0.mk (ho);clear HB;clear HO_5;have HB:=n0_;have HO189:=n1_;clear n0_ n1_;clear ho hb hg hat)));go_roundg k1
      case measure=>have:=HK1.out;omega
      case rel=>exact⟨(y187),(1),(wrap64 (x15_1+1)),Z86,Z86,H',⟨Z89⟩,⟨by(with_reducible repeat(first|apply Kd.R_alloc|apply Kd.R_drewN|apply Kd.R_drew));exact HO189.out⟩,⟨Z36⟩⟩
     ·obtain⟨H,c19⟩ :=XkI H;have LMc19:=Aside0.mk c19;clear c19;obtain⟨y190,hy190⟩ : ∃y_:List Int,y_= (x5_1++ [IntKind.u64.wrap ((rd l0 x15_1) - x6_1)]):= ⟨_,rfl⟩
      (try rw[←hy190] at H);have Ny190:=Aside0.mk hy190;clear hy190;have H':=Aside0.mk H;clear H;obtain⟨ad179,e179,hx179_0,p179,q179⟩ :=Zi HR0.out x15_1;cases e179;replace hx179_0:=(HB.out.cell (World.block_lt_of_cell? w _ hx179_0)).trans hx179_0;(go_wp2_with(first| ((with_reducible refine gate_builtin (b:= .append) (xs:=#[.tmp 36,.tmp 40]) rfl ?_);at_builtin;refine Kd.R_append (Kd.int .u64) (w0:=w) w.heap.size rfl (.tmp 36) (.tmp 40) 172 156 (.int .u64 0) 8 rfl Tryz.underlying172 info156 rfl Z91 Z92 u5 x5_1 (IntKind.u64.wrap ((rd l0 x15_1) - x6_1)) [.int .u64 (IntKind.u64.wrap ((rd l0 x15_1) - x6_1))] (fun k_=>(w.heap.size≤k_)) (fun _=>False) rfl rfl ?aP (fun _ hk=>hk.elim) ?aF ?aO ?aB ?aS ?aL ?_;(case aP=>exact rfl);(case aB=>exact Z36);(case aF=>exact(fun k_ hk=>(Nat.le_trans (below_size Z36) hk)));(case aO=>exact Z72);(case aS=>exact(below_size Z36));(case aL=>have:=LMc19.out;omega);intro v191 w20 ho hb hg hat;rw[←Ny190.out] at ho;have n0_:=Aside0.mk (hb);have n1_:=Aside0.mk (ho);clear HB;clear HO_5;have HB:=n0_;have HO192:=n1_;clear n0_ n1_;clear ho hb hg hat)));go_roundg k1
      case measure=>have:=HK1.out;omega
      case rel=>exact⟨(y190),(0),(wrap64 (x15_1+1)),Z86,Z86,H',⟨Z89⟩,⟨by(with_reducible repeat(first|apply Kd.R_alloc|apply Kd.R_drewN|apply Kd.R_drew));exact HO192.out⟩,⟨Z36⟩⟩
   ·obtain⟨t176,A21,H⟩ :=Zb H;(try dsimp only at H);obtain rfl:=Option.some.inj H;obtain⟨Ao22,co22,eo22⟩ :=Kd.R_slice HO_5.out;subst eo22;(go_wp2_with(first| (refine Zc Tryz.func212 (Y72.calls _ (fun k_=>some k_= (.slice Ao22 x5_1.length co22:Value).ownBlock) _ _ _ _ _ (Kd.R_V (Kd.R_tight rfl (HO_5.out))) A21.out) ?_;rintro e w23 ⟨v177,rfl,ho0,hb⟩;refine⟨_,rfl,?_⟩;have HO178:=Aside0.mk (Kd.V_lower (Kd.V_mono (ok':=fun k_=>(w.heap.size≤k_)) ho0 (fun k_ hk_=>Or.elim hk_ (fun hs_=>((HO_5.out).1 k_ hs_.symm)) (fun hn_=>(Nat.le_trans (below_size Z36) hn_)))) (below_size Z36));replace HO_5:=Aside0.mk (Kd.R_below Z72 hb);replace HB:=Aside0.mk (below_step Z36 hb);try clear hb;(try clear ho0))));(go_ret);exact⟨_,Z81,by(with_reducible repeat(first|apply Kd.V_alloc|apply Kd.V_drewN|apply Kd.V_drew));exact HO178.out,Z36⟩
theorem Y60.calls (k:Nat) (A0:Option Addr) (c0:Nat) (l0:List Int) (A1:Option Addr) (c1:Nat) (l1:List Int) (r:Int) (w:World) (hr0:Kd.C (Kd.int .u64) w A0 l0.length l0) (hc0:l0.length≤c0) (hr1:Kd.C (Kd.int .u64) w A1 l1.length l1) (hc1:l1.length≤c1) (h:Y60.f k l0 l1=some r):
  Calls Tryz.prog 182 #[.slice A0 l0.length c0,.slice A1 l1.length c1] w fun e w'=>e= .returned (.int .i64 r)∧Drawn0 w w':=by
 have HR0:=Aside0.mk hr0;have HC0:=Aside0.mk hc0;clear hr0 hc0;have HR1:=Aside0.mk hr1;have HC1:=Aside0.mk hc1;clear hr1 hc1;have H:=h;clear h;unfold Y60.f at H;obtain⟨H,c3b0,c3b1,c3⟩ | ⟨H,c3b0,c3b1,c3⟩ :=XE H
 ·have c3b2:(l0.length==l1.length)=true:=by first|simpa using c3| (simp at c3⊢;omega)
  clear c3;have H':=Aside0.mk H;clear H;go_enter Tryz.func182,Tryz.ntmps182
  go_wp2
  repeat(go_quiet (fail);try go_wp2)
  go_loopg [5] k (fun kq v5 w'=> ∃(x5_1:Int),v5= .int .i64 x5_1∧Aside0 (Y60.l0 kq l0 l1 x5_1=some r)∧Aside0 (kq≤k)∧Drawn0 w w')
  case atStart=>exact⟨(wrap64 ((l0.length:Int) - 1)),Z86,H',⟨Nat.le_refl _⟩,Z82⟩
  case round=>
   clear H';obtain⟨x5_1,rfl,HA,HK1,⟨m1,rfl⟩⟩ :=hrel;cases gk with
   |zero=>exact absurd HA.out (by simp[Y60.l0])
   |succ k1=>
    have H:=HA.out;clear HA;simp only[Y60.l0] at H;obtain⟨H,c4⟩ | ⟨H,c4⟩ :=XI H
    ·have c4b0:decide (0≤x5_1)=true:=decide_eq_true c4;clear c4;obtain⟨H,c5b0⟩ :=Xkd H;obtain⟨H,c6b0⟩ :=Xkd H;obtain⟨H,c7b0⟩ :=Xkd H;obtain⟨H,c8b0,c8b1,-⟩ | ⟨H,c8b0,c8b1,c8⟩ :=XE H
     ·have H':=Aside0.mk H;clear H;obtain⟨ad169,e169,hx169_0,p169,q169⟩ :=Zi HR0.out x5_1;cases e169;obtain⟨ad170,e170,hx170_0,p170,q170⟩ :=Zi HR1.out x5_1;cases e170;(go_wp2);(repeat(go_quiet (fail);try go_wp2));go_roundg k1
      case measure=>have:=HK1.out;omega
      case rel=>exact⟨(wrap64 (x5_1 - 1)),Z86,H',⟨Z89⟩,Z82⟩
     ·obtain⟨H,c9b0⟩ | ⟨H,c9b0⟩ :=Xd H
      ·obtain rfl:=Option.some.inj H;obtain⟨ad169,e169,hx169_0,p169,q169⟩ :=Zi HR0.out x5_1;cases e169;obtain⟨ad170,e170,hx170_0,p170,q170⟩ :=Zi HR1.out x5_1;cases e170;obtain⟨ad171,e171,hx171_0,p171,q171⟩ :=Zi HR0.out x5_1;obtain rfl:ad169=ad171:=(by injection e171)
       obtain⟨ad172,e172,hx172_0,p172,q172⟩ :=Zi HR1.out x5_1;obtain rfl:ad170=ad172:=(by injection e172)
       (go_wp2);repeat(go_quiet (fail);try go_wp2)
       (go_ret);exact⟨Z86,Z82⟩
      ·obtain rfl:=Option.some.inj H;obtain⟨ad169,e169,hx169_0,p169,q169⟩ :=Zi HR0.out x5_1;cases e169;obtain⟨ad170,e170,hx170_0,p170,q170⟩ :=Zi HR1.out x5_1;cases e170;obtain⟨ad171,e171,hx171_0,p171,q171⟩ :=Zi HR0.out x5_1;obtain rfl:ad169=ad171:=(by injection e171)
       obtain⟨ad172,e172,hx172_0,p172,q172⟩ :=Zi HR1.out x5_1;obtain rfl:ad170=ad172:=(by injection e172)
       (go_wp2);repeat(go_quiet (fail);try go_wp2)
       (go_ret);exact⟨Z86,Z82⟩
    ·have c4b0:decide (0≤x5_1)=false:=decide_eq_false c4;clear c4;obtain rfl:=Option.some.inj H;(go_wp2);(repeat(go_quiet (fail);try go_wp2));(go_ret);exact⟨Z86,Z82⟩
 ·have c3b2:(l0.length==l1.length)=false:=by first|simpa using c3| (simp at c3⊢;omega)
  obtain⟨H,c10b0,c10⟩ | ⟨H,c10b0,c10⟩ :=XD H
  ·have c10b1:decide (l0.length<l1.length)=true:=decide_eq_true (Int.ofNat_lt.mp c10);clear c10;obtain rfl:=Option.some.inj H;(go_enter Tryz.func182,Tryz.ntmps182);(go_wp2);(repeat(go_quiet (fail);try go_wp2));(go_ret);exact⟨Z86,Z82⟩
  ·have c10b1:decide (l0.length<l1.length)=false:=decide_eq_false (fun h=>c10 (Int.ofNat_lt.mpr h));clear c10;obtain rfl:=Option.some.inj H;(go_enter Tryz.func182,Tryz.ntmps182);(go_wp2);(repeat(go_quiet (fail);try go_wp2));(go_ret);exact⟨Z86,Z82⟩
end Go.Proofs.YtnfgokmecllpbaaGreatDoor.Print
end
section
namespace Go.Proofs.YtnfgokmecllpbaaGreatDoor.Print
open Go.RowKit Go.Shelf Go.Proofs.YtnfgokmecllpbaaGreatDoorW.PrintWords
attribute [local go_sem] Oper.semAt_some
theorem back_length (n:Nat):(back n).length=n:=by simp[back]
theorem back_take_succ (n k:Nat) (h:k<n):(back n).take (k+1)= (back n).take k++ [(⟨n - 1 - k,Z92⟩ :Fin n)]:=by
 rw[List.take_succ_eq_append_getElem (by rw[back_length];exact h)];simp[back]
theorem back_take_all (n:Nat):(back n).take n=back n:=List.take_of_length_le (by rw[back_length];exact Nat.le_refl _)
def KpB (n₀ Bs:Nat) (W W':World):Prop:=Below n₀ W W'∧W'.heap[Bs]? =W.heap[Bs]?
theorem KpB.t {n₀ Bs:Nat} {A B C:World} (h:KpB n₀ Bs A B) (k:KpB n₀ Bs B C):KpB n₀ Bs A C:= ⟨h.1.trans k.1,k.2.trans h.2⟩
theorem KpB.b {n₀ Bs:Nat} {w:World} (hn:n₀≤w.heap.size) (hBs:Bs<w.heap.size) (W:World) (l:Nat) (o o':Obj) (hl:w.heap.size≤l) (h:W.heap[l]? =some o) (h1:o.isCells=false) (h2:o.isWalk=false):KpB n₀ Bs W (W.putObj l o'):=
 ⟨belowK_b hn W l o o' hl h h1 h2,by
  have hne:l≠Bs:=by omega
  simp[World.putObj,Array.getElem?_setIfInBounds,hne]⟩
theorem back1_in (F:Fence) (n:Nat) (h232:F.fn 232) (hro:F.round=none) (hn:1≤n) (l Bs n₀:Nat) (ad:Addr) (cap:Nat) (zs:List Int) (hz:zs.length<4611686018427387904) (hb:ad.block<n₀) (J Jx:List (Fin zs.length)→World→Prop)
  (hY: ∀pre x W,J pre W→pre.length<zs.length→YieldAt F (n - 1) Tryz.prog l #[.int .i64 (x.val:Int),.int .u64 (rd zs (x.val:Int))] W fun e W'=>
   (e= .returned (.bool true)∧J (pre++ [x]) W'∧KpB n₀ Bs W W')∨(e= .returned (.bool false)∧Jx (pre++ [x]) W'))
  (W:World) (hBs:W.heap[Bs]? =some (.cells #[.slice (some ad) zs.length cap] 172 (0,0))) (hc: ∀j,j<zs.length→W.cell? (ad.add j)=some (.int .u64 (rd zs (j:Int)))) (h0:J [] W):
  CallsIn F n Tryz.prog 232 #[.func (.yield l) #[] #[],.pointer (some ⟨Bs,0,none⟩)] W fun e W'=>(∃v,e= .returned v)∧
   ((∃ys,ys=back zs.length∧J ys W')∨(∃pre,(∃k,k≤zs.length∧pre= (back zs.length).take k)∧Jx pre W')):=by
 have hbs0:W.cell? ⟨Bs,0,none⟩ =some (.slice (some ad) zs.length cap):=by simp[World.cell?,hBs]
 refine callsIn_of_wp Tryz.func232 rfl h232 ?_ hro;simp only[Tryz.ntmps232,List.size_toArray,List.length_cons,List.length_nil,Nat.reduceAdd,Nat.reduceSub,Array.replicate_succ,Array.replicate_zero,List.push_toArray,List.append_toArray,List.nil_append,List.cons_append];have hw1:IntKind.i64.wrap ((zs.length:Int) - 1)= (zs.length:Int) - 1:=by rw[IntKind.wrap_i64];omega
 gi_wp2
 clear hw1
 gi_loopw [3] (fun i wr=> ∃k:Nat,k≤zs.length∧i= .int .i64 ((zs.length:Int) - 1 - k)∧J ((back zs.length).take k) wr∧KpB n₀ Bs W wr)
  (fun i _=>(intOf i+1).toNat)
 case atStart=>exact⟨0,Nat.zero_le _,Z93,by simpa using h0,Below.refl _ _,rfl⟩
 case round=>
  obtain⟨k,hk,rfl,hJs,hnx⟩ :=hrel;have hBx:wr.cell? ⟨Bs,0,none⟩ =some (.slice (some ad) zs.length cap):=by
   have e:=hnx.2.trans hBs;simp[World.cell?,e]
  by_cases hlt:k<zs.length
  ·obtain⟨j,hj⟩ : ∃j:Nat,(zs.length:Int) - 1 - k= (j:Int):= ⟨zs.length - 1 - k,Z92⟩
   have hjl:j<zs.length:=by omega
   have hjk:zs.length - 1 - k=j:=by omega
   obtain⟨fn,tmps,assign,body,hy,hR⟩ :=hY _ ⟨j,hjl⟩ wr hJs (by rw[List.length_take,back_length];omega);dsimp only at hy;have hcx:wr.cell? (ad.add j)=some (.int .u64 (rd zs (j:Int))):=by
    have h1:(ad.add j).block<n₀:=by rw[add_block];exact hb
    exact(hnx.1.cell h1).trans (hc j hjl)
   rw[hj];have HJ:=Aside0.mk hj;have HJK:=Aside0.mk hjk;have HH:=Aside0.mk hJs;have HN:=Aside0.mk hnx;clear hj hjk hJs hnx;have hj2:(j:Int)< (zs.length:Int):=by omega
   gi_wp2
   refine hR.mono ?_;rintro e W3 (⟨rfl,hJ3,hk3⟩ | ⟨rfl,hJx3⟩)
   ·have hwj:IntKind.i64.wrap ((j:Int) - 1)= (j:Int) - 1:=by rw[IntKind.wrap_i64];omega
    gi_wp2
    go_roundw
    case rel=>
     refine⟨k+1,Z92,?_,?_,KpB.t HN.out hk3⟩
     ·have:=HJ.out;rw[show(zs.length:Int) - 1 - ((k+1:Nat):Int)= (j:Int) - 1 by omega]
     ·rw[back_take_succ _ _ hlt];have e:(⟨zs.length - 1 - k,Z92⟩ :Fin zs.length)= ⟨j,hjl⟩ :=Fin.ext HJK.out;rw[e];exact hJ3
    case measure=>simp[intOf]
   ·gi_wp2
    refine bodyPost_ret (results_none rfl _ _ _) rfl ?_;refine⟨⟨_,rfl⟩,.inr ⟨_,⟨k+1,Z92,?_⟩,hJx3⟩⟩;rw[back_take_succ _ _ hlt];have e:(⟨zs.length - 1 - k,Z92⟩ :Fin zs.length)= ⟨j,hjl⟩ :=Fin.ext HJK.out;rw[e]
  ·have hke:k=zs.length:=by omega
   subst hke;rw[show(zs.length:Int) - 1 - (zs.length:Int)= -1 by omega];rw[back_take_all] at hJs
   gi_wp2
   (go_end0);exact⟨⟨_,rfl⟩,.inl ⟨_,rfl,hJs⟩⟩
theorem back_in (F:Fence) (n:Nat) (h213:F.fn 213) (hro:F.round=none) (v:Option Addr) (len cap:Nat) (w:World):
  CallsIn F n Tryz.prog 213 #[.slice v len cap] w fun e w'=>e= .returned (.func (.func 232) #[] #[.pointer (some ⟨w.heap.size,0,none⟩)])∧w'=w.alloc (.cells #[.slice v len cap] 172):=by
 refine callsIn_of_wp Tryz.func213 rfl h213 ?_ hro;simp only[Tryz.ntmps213,List.size_toArray,List.length_cons,List.length_nil,Nat.reduceAdd,Nat.reduceSub,Array.replicate_succ,Array.replicate_zero,List.push_toArray,List.append_toArray,List.nil_append,List.cons_append]
 gi_wp2
 go_ret
 exact⟨rfl,rfl⟩
theorem back_stops (F:Fence) (n:Nat) (h232:F.fn 232) (hro:F.round=none) (hn:1≤n) (Bs n₀:Nat) (ad:Addr) (cap:Nat) (zs:List Int) (hz:zs.length<4611686018427387904) (hb:ad.block<n₀) (w:World) (hBl:Bs<w.heap.size) (hn₀:n₀≤w.heap.size)
  (hBs:w.heap[Bs]? =some (.cells #[.slice (some ad) zs.length cap] 172 (0,0))) (hc: ∀j,j<zs.length→w.cell? (ad.add j)=some (.int .u64 (rd zs (j:Int)))):
  SeqStopsK F n Tryz.prog 232 #[.pointer (some ⟨Bs,0,none⟩)] (fun x:Fin zs.length=>#[Value.int .i64 (x.val:Int),Value.int .u64 (rd zs (x.val:Int))]) (KpB n₀ Bs) (fun ys=>ys=back zs.length)
   (fun pre=> ∃k,k≤zs.length∧pre= (back zs.length).take k) zs.length w:=fun l J Jx W hW _ _ hY h0=>
 back1_in F n h232 hro hn l Bs n₀ ad cap zs hz hb J Jx hY W ((hW.block Bs hBl).trans hBs) (fun j hj=>(hW.cell (p:=ad.add j) (by rw[add_block];omega)).trans (hc j hj)) h0
end Go.Proofs.YtnfgokmecllpbaaGreatDoor.Print
end
section
namespace Go.Proofs.YtnfgokmecllpbaaGreatDoor.Print
open Go
def putAll (base:Act) (dvs:List (Option Tmp×Value)):Act:=dvs.foldl (fun a p=>a.put p.1 p.2) base
def planOper (md:Region.Mode) (m:Nat) (ds:List (Option Tmp)) (i:Nat) (o:Oper):Bool:=
 o.guard.isNone && (match o.op with| .select _ _=>false| .defer _=>false|_=>true) &&
 o.after.all (fun e=>!Region.binds md e || decide (e.on<i)) &&
 (if i<m then(ds[i]? ==some o.dst) && (match o.dst with|some d=>(List.range m).all fun j=>j==i || !(ds[j]? ==some (some d))|none=>true) && o.op.operands.all (fun x=>match x with
  | .tmp t=>(List.range m).all fun j=>!(ds[j]? ==some (some t)) || o.after.any (fun e=>Region.binds md e && e.on==j)
  |_=>true)
 else(List.range m).all fun j=>o.after.any (fun e=>Region.binds md e && e.on==j))
def planOk (md:Region.Mode) (ops:Array Oper) (m:Nat) (ds:List (Option Tmp)):Bool:=
 decide (m≤ops.size) && decide (ds.length=m) && (List.range ops.size).all fun i=>match ops[i]? with|some o=>planOper md m ds i o|none=>false
def Put (m:Nat) (ds:List (Option Tmp)) (listed:Array Bool) (t:Tmp):Prop:= ∃j,j<m∧listed.getD j false=true∧ds[j]? =some (some t)
theorem put_getD (a:Act) (d:Option Tmp) (v:Value) (t:Tmp):(a.put d v).tmps.getD t undef=if d=some t∧t<a.tmps.size then v else a.tmps.getD t undef:=by
 cases d with
 |none=>simp[Act.put]
 |some d=>
  simp only[Act.put,Array.getD_eq_getD_getElem?,Array.getElem?_setIfInBounds,Option.some.injEq];by_cases h:d=t
  ·subst h;by_cases h2:d<a.tmps.size <;> simp[h2]
  ·simp[h]
theorem put_size (a:Act) (d:Option Tmp) (v:Value):(a.put d v).tmps.size=a.tmps.size:=by cases d <;> simp[Act.put]
theorem put_defers (a:Act) (d:Option Tmp) (v:Value):(a.put d v).defers=a.defers:=by cases d <;> simp[Act.put]
theorem putAll_size (dvs:List (Option Tmp×Value)): ∀a,(putAll a dvs).tmps.size=a.tmps.size:=by
 induction dvs with
 |nil=>intro a;rfl
 |cons p ps ih=>intro a;exact(ih _).trans (put_size _ _ _)
theorem putAll_defers (dvs:List (Option Tmp×Value)): ∀a,(putAll a dvs).defers=a.defers:=by
 induction dvs with
 |nil=>intro a;rfl
 |cons p ps ih=>intro a;exact(ih _).trans (put_defers _ _ _)
theorem putAll_other (dvs:List (Option Tmp×Value)) (t:Tmp) (h: ∀p∈dvs,p.1≠some t): ∀a,(putAll a dvs).tmps.getD t undef=a.tmps.getD t undef:=by
 induction dvs with
 |nil=>intro a;rfl
 |cons p ps ih=>
  intro a;refine(ih (fun q hq=>h q (List.mem_cons_of_mem _ hq)) _).trans ?_;rw[put_getD,if_neg (fun e=>h p List.mem_cons_self e.1)]
theorem putAll_at (dvs:List (Option Tmp×Value)) (t:Tmp) (v:Value): ∀(i:Nat) (a:Act),dvs[i]? =some (some t,v)→(∀j p,dvs[j]? =some p→j≠i→p.1≠some t)→t<a.tmps.size→(putAll a dvs).tmps.getD t undef=v:=by
 induction dvs with
 |nil=>intro i a h;simp at h
 |cons p ps ih=>
  intro i a h hu ht;cases i with
  |zero=>
   simp at h;subst h;refine(putAll_other ps t (fun q hq=>?_) _).trans ?_
   ·obtain⟨j,hj⟩ :=List.mem_iff_getElem?.1 hq;exact hu (j+1) q (by simpa using hj) Z92
   ·rw[put_getD,if_pos ⟨rfl,ht⟩]
  |succ i=>
   simp at h;exact ih i _ h (fun j q hj hne=>hu (j+1) q (by simpa using hj) Z92) (by rw[put_size];exact ht)
def unlisted (ops:Array Oper) (listed:Array Bool):Nat:=(List.range ops.size).countP fun i=>!listed.getD i false
theorem countP_lt {p q:Nat→Bool} (i:Nat): ∀l:List Nat,l.Nodup→i∈l→p i=true→q i=false→(∀j,j≠i→q j=p j)→l.countP p=l.countP q+1:=by
 intro l
 induction l with
 |nil=>intro _ h;simp at h
 |cons x l ih=>
  intro hn hi hp hq hj;rw[List.nodup_cons] at hn;by_cases hx:x=i
  ·subst hx;rw[List.countP_cons_of_pos hp,List.countP_cons_of_neg (by simp[hq])];congr 1;refine List.countP_congr fun j hjm=>?_
   rw[hj j (fun e=>hn.1 (e ▸ hjm))]
  ·have hil:i∈l:=by
    rcases List.mem_cons.1 hi with e|h
    ·exact absurd e.symm hx
    ·exact h
   have:=ih hn.2 hil hp hq hj;rw[List.countP_cons,List.countP_cons,this,hj x hx];omega
theorem unlisted_set (ops:Array Oper) (listed:Array Bool) (i:Nat) (hi:i<ops.size) (hs:listed.size=ops.size) (hu:listed.getD i false=false):
  unlisted ops listed=unlisted ops (listed.setIfInBounds i true)+1:=by
 refine countP_lt i _ List.nodup_range (List.mem_range.2 hi) (by simp[hu]) ?_ ?_
 ·simp[Array.getD_eq_getD_getElem?,Array.getElem?_setIfInBounds,hs,hi]
 ·intro j hj;simp[Array.getD_eq_getD_getElem?,Array.getElem?_setIfInBounds,Ne.symm hj]
theorem wpAnyIn_plan {F:Fence} {n:Nat} {P:Program} {ops:Array Oper} {Q:Exit→Act→World→Prop} {md:Region.Mode} (hF: ∀f,F.fn f) (m s:Nat) (base:Act) (W:Bool→World) (dvs:List (Option Tmp×Value))
  (hok:planOk md ops m (dvs.map (·.1))=true) (hs:s<m) (hbs: ∀d,some d∈dvs.map (·.1)→d<base.tmps.size)
  (hrun: ∀i o p,ops[i]? =some o→dvs[i]? =some p→(i≠s→∀b,(execOp (putAll base dvs).eval o).run P (W b)= .ok (.value p.2) (W b))∧(i=s→(execOp (putAll base dvs).eval o).run P (W false)= .ok .skip (W true)∧p.2=undef))
  (hrest: ∀listed:Array Bool,listed.size=ops.size→(∀i,listed.getD i false=decide (i<m))→wpAnyIn F n P md ops Q (unlisted ops listed) listed (putAll base dvs) (W true)):
  ∀(fuel:Nat) (listed:Array Bool) (a:Act),listed.size=ops.size→fuel=unlisted ops listed→(∀i,m≤i→listed.getD i false=false)→a.defers=base.defers→a.tmps.size=base.tmps.size→
   (∀t,(Put m (dvs.map (·.1)) listed t→a.tmps.getD t undef= (putAll base dvs).tmps.getD t undef)∧(¬Put m (dvs.map (·.1)) listed t→a.tmps.getD t undef=base.tmps.getD t undef))→
   wpAnyIn F n P md ops Q fuel listed a (W (listed.getD s false)):=by
 simp only[planOk,Bool.and_eq_true,decide_eq_true_eq,List.all_eq_true,List.mem_range] at hok;obtain⟨⟨hm,hdl⟩,hall⟩ :=hok;have hlen:dvs.length=m:=by simpa using hdl
 have hop: ∀(i:Nat) (o:Oper),ops[i]? =some o→planOper md m (dvs.map (·.1)) i o=true:=fun i o ho=>by
  have h:=hall i (Array.getElem?_eq_some_iff.1 ho).1
  simpa [ho] using h
 have hopr: ∀(i:Nat) (o:Oper),ops[i]? =some o→o.guard=none∧(∀cs b,o.op≠ .select cs b)∧(∀c,o.op≠ .defer c):=fun i o ho=>by
  have h:=hop i o ho;simp only[planOper,Bool.and_eq_true,Option.isNone_iff_eq_none] at h;refine⟨h.1.1.1,fun cs b e=>?_,fun c e=>?_⟩
  ·have h2:=h.1.1.2;rw[e] at h2;simp at h2
  ·have h2:=h.1.1.2;rw[e] at h2;simp at h2
 have hdst: ∀(i:Nat) (o:Oper) (p:Option Tmp×Value),i<m→ops[i]? =some o→dvs[i]? =some p→p.1=o.dst:=fun i o p hi ho hp=>by
  have h:=hop i o ho;simp only[planOper,Bool.and_eq_true,hi,if_true] at h;have h2:=h.2.1.1;simp[hp] at h2;exact h2
 have huniq: ∀(i:Nat) (o:Oper) (p:Option Tmp×Value),i<m→ops[i]? =some o→∀d,o.dst=some d→dvs[i]? =some p→∀j q,dvs[j]? =some q→j≠i→q.1≠some d:=fun i o p hi ho d hd hp j q hq hne e=>by
  have h:=hop i o ho;simp only[planOper,Bool.and_eq_true,hi,if_true] at h;have h2:=h.2.1.2;rw[hd] at h2;simp only[List.all_eq_true,List.mem_range] at h2;have hjm:j<m:=by have:=(List.getElem?_eq_some_iff.1 hq).1;omega
  have h3:=h2 j hjm;simp[hne,hq,e] at h3
 have full: ∀(fuel:Nat) (listed:Array Bool) (a:Act),listed.size=ops.size→fuel=unlisted ops listed→(∀i,m≤i→listed.getD i false=false)→a.defers=base.defers→a.tmps.size=base.tmps.size→
   (∀t,(Put m (dvs.map (·.1)) listed t→a.tmps.getD t undef= (putAll base dvs).tmps.getD t undef)∧(¬Put m (dvs.map (·.1)) listed t→a.tmps.getD t undef=base.tmps.getD t undef))→
   (∀i,i<m→listed.getD i false=true)→wpAnyIn F n P md ops Q fuel listed a (W (listed.getD s false)):=by
  intro fuel listed a hsz hf hhi hd hts htm hful;have hL: ∀i,listed.getD i false=decide (i<m):=fun i=>by
   by_cases hi:i<m
   ·rw[hful i hi];simp[hi]
   ·rw[hhi i Z92];simp[hi]
  have hp:a=putAll base dvs:=by
   have e1:a.tmps= (putAll base dvs).tmps:=by
    refine Array.ext (by rw[hts,putAll_size]) fun t h1 h2=>?_
    have key:a.tmps.getD t undef= (putAll base dvs).tmps.getD t undef:=by
     by_cases hput:Put m (dvs.map (·.1)) listed t
     ·exact(htm t).1 hput
     ·rw[(htm t).2 hput,putAll_other];intro p hpm e;obtain⟨j,hj⟩ :=List.mem_iff_getElem?.1 hpm;have hjm:j<m:=by have:=(List.getElem?_eq_some_iff.1 hj).1;omega
      exact hput ⟨j,hjm,hful j hjm,by simp[hj,e]⟩
    simpa [Array.getD_eq_getD_getElem?,h1,h2] using key
   have e2:a.defers= (putAll base dvs).defers:=by rw[hd,putAll_defers]
   cases a;cases hA:putAll base dvs
   simp_all
  have hb:listed.getD s false=true:=hful s hs;rw[hb,hp,hf];exact hrest listed hsz hL
 intro fuel
 induction fuel with
 |zero=>
  intro listed a hsz hf hhi hd hts htm;refine full 0 listed a hsz hf hhi hd hts htm fun i hi=>?_
  refine Decidable.byContradiction fun h=>?_
  have h0:0<unlisted ops listed:=by
   unfold unlisted;exact List.countP_pos_iff.2 ⟨i,List.mem_range.2 Z92,by simpa using h⟩
  omega
 |succ fuel ih=>
  intro listed a hsz hf hhi hd hts htm;by_cases hful: ∀i,i<m→listed.getD i false=true
  ·exact full _ listed a hsz hf hhi hd hts htm hful
  -- the first one that is not listed is ready
  have hready: ∃i,i∈Region.ready md ops listed:=by
   have hex: ∃i,i<m∧listed.getD i false=false:=by
    refine Decidable.byContradiction fun hne=>hful fun i hi=>?_
    refine Decidable.byContradiction fun h=>hne ⟨i,hi,by simpa using h⟩
   obtain⟨i,⟨hi,hl⟩,hmin⟩ : ∃i,(i<m∧listed.getD i false=false)∧∀j,j<i→¬(j<m∧listed.getD j false=false):=by
    obtain⟨i0,h0⟩ :=hex
    induction i0 using Nat.strongRecOn with
    |_ i0 ih0=>
     by_cases h: ∃j,j<i0∧(j<m∧listed.getD j false=false)
     ·obtain⟨j,hj,hj2⟩ :=h;exact ih0 j hj hj2
     ·exact⟨i0,h0,fun j hj hj2=>h ⟨j,hj,hj2⟩⟩
   refine⟨i,?_⟩;have hio:i<ops.size:=by omega
   have ho:ops[i]? =some ops[i]:=Array.getElem?_eq_getElem hio;have h:=hop i _ ho;simp only[planOper,Bool.and_eq_true] at h;have haft:=h.1.2;simp only[List.all_eq_true,Array.all_eq_true',Bool.or_eq_true,Bool.not_eq_true',decide_eq_true_eq] at haft;refine List.mem_filter.2 ⟨List.mem_range.2 hio,?_⟩;have e1:listed.getD i true=false:=by
    have:i<listed.size:=by omega
    simp[Array.getD_eq_getD_getElem?,this] at hl⊢;exact hl
   simp only[e1,ho,Option.map_some,Option.getD_some,Bool.not_false,Bool.true_and,Array.all_eq_true',Bool.or_eq_true,Bool.not_eq_true'];intro e he;rcases haft e he with hb|hlt
   ·exact .inl hb
   ·refine .inr (Decidable.byContradiction fun hn=>hmin e.on hlt ⟨Z92,by simpa using hn⟩)
  refine⟨fun h0=>?_,?_⟩
  ·obtain⟨i,hi⟩ :=hready;rw[h0] at hi;exact absurd hi Z93
  intro i hi;obtain⟨hir,hc⟩ :=List.mem_filter.1 hi;have hio:i<ops.size:=List.mem_range.1 hir;obtain⟨o,ho⟩ : ∃o,ops[i]? =some o:= ⟨_,Array.getElem?_eq_getElem hio⟩
  simp only[ho,Option.map_some,Option.getD_some,Bool.and_eq_true,Bool.not_eq_true',Array.all_eq_true',Bool.or_eq_true] at hc;obtain⟨hl,haft⟩ :=hc;have hl0:listed.getD i false=false:=by
   have:i<listed.size:=by omega
   simp[Array.getD_eq_getD_getElem?,this] at hl⊢;exact hl
  have hon: ∀j,o.after.any (fun e=>Region.binds md e && e.on==j)=true→listed.getD j false=true:=fun j hj=>by
   obtain⟨e,he,hb⟩ :=Array.any_eq_true'.1 hj;simp only[Bool.and_eq_true,beq_iff_eq] at hb;rcases haft e he with h|h
   ·rw[hb.1] at h;exact absurd h Z93
   ·rw[←hb.2];exact h
  have hP:=hop i o ho;simp only[planOper,Bool.and_eq_true] at hP;have him:i<m:=by
   refine Decidable.byContradiction fun hn=>hful fun j hj=>?_
   have h2:=hP.2;rw[if_neg hn] at h2;simp only[List.all_eq_true,List.mem_range] at h2;exact hon j (h2 j hj)
  obtain⟨p,hp⟩ : ∃p,dvs[i]? =some p:= ⟨_,List.getElem?_eq_getElem Z92⟩
  obtain⟨hg,hsel,hdef⟩ :=hopr i o ho;have hd1:=hdst i o p him ho hp;have h2:=hP.2;rw[if_pos him] at h2;simp only[Bool.and_eq_true,Array.all_eq_true'] at h2;have hops:=h2.2;have hsem: ∀w,(o.semAt F.round a.eval).run P w= (execOp (putAll base dvs).eval o).run P w:=fun w=>by
   rw[Oper.semAt_eq _ _ _ hdef,execOp_congr o hsel];intro x hx;cases x with
   |tmp t=>
    show a.tmps.getD t undef= (putAll base dvs).tmps.getD t undef
    by_cases hput:Put m (dvs.map (·.1)) listed t
    ·exact(htm t).1 hput
    ·rw[(htm t).2 hput,putAll_other];intro q hq e;obtain⟨j,hj⟩ :=List.mem_iff_getElem?.1 hq;have hjm:j<m:=by have:=(List.getElem?_eq_some_iff.1 hj).1;omega
     have h3:=hops _ hx;simp only[List.all_eq_true,List.mem_range,Bool.or_eq_true,Bool.not_eq_true'] at h3;rcases h3 j hjm with h4|h4
     ·simp[hj,e] at h4
     ·exact hput ⟨j,hjm,hon j h4,by simp[hj,e]⟩
   |const v=>rfl
   |global g=>rfl
   |func f=>rfl
  have hnext:wpAnyIn F n P md ops Q fuel (listed.setIfInBounds i true) (a.put o.dst p.2) (W ((listed.setIfInBounds i true).getD s false)):=by
   have hset: ∀j,(listed.setIfInBounds i true).getD j false=if j=i then true else listed.getD j false:=fun j=>by
    have:i<listed.size:=by omega
    by_cases hji:j=i
    ·subst hji;simp[Array.getD_eq_getD_getElem?,this]
    ·simp[Array.getD_eq_getD_getElem?,Array.getElem?_setIfInBounds,Ne.symm hji,hji]
   refine ih _ _ (by simpa using hsz) ?_ ?_ (by rw[put_defers,hd]) (by rw[put_size,hts]) ?_
   ·have:=unlisted_set ops listed i hio hsz hl0;omega
   ·intro j hj;rw[hset,if_neg Z92];exact hhi j hj
   ·intro t;have hPut:Put m (dvs.map (·.1)) (listed.setIfInBounds i true) t↔Put m (dvs.map (·.1)) listed t∨o.dst=some t:=by
     constructor
     ·rintro⟨j,hj,hlj,hdj⟩;by_cases hji:j=i
      ·subst hji;right;simp[hp] at hdj;rw[←hd1,hdj]
      ·rw[hset,if_neg hji] at hlj;exact .inl ⟨j,hj,hlj,hdj⟩
     ·rintro(⟨j,hj,hlj,hdj⟩ |hdt)
      ·refine⟨j,hj,?_,hdj⟩;rw[hset];split
       ·rfl
       ·exact hlj
      ·refine⟨i,him,?_,?_⟩
       ·rw[hset,if_pos rfl]
       ·simp[hp,hd1,hdt]
    rw[put_getD];by_cases hdt:o.dst=some t
    ·have htb:t<base.tmps.size:=hbs t (by
      rw[←hdt,←hd1];exact List.mem_map_of_mem (List.mem_of_getElem? hp))
     rw[if_pos ⟨hdt,by rw[hts];exact htb⟩];refine⟨fun _=>?_,fun h=>absurd (hPut.2 (.inr hdt)) h⟩;symm;have hpe:p= (some t,p.2):=Prod.ext (by rw[hd1,hdt]) rfl;exact putAll_at dvs t p.2 i base (by rw[hp,←hpe]) (fun j q hq hne=>huniq i o p him ho t hdt hp j q hq hne) htb
    ·rw[if_neg (fun h=>hdt h.1)];refine⟨fun h=>?_,fun h=>?_⟩
     ·rcases hPut.1 h with h|h
      ·exact(htm t).1 h
      ·exact absurd h hdt
     ·exact(htm t).2 (fun h'=>h (hPut.2 (.inl h')))
  unfold wpOpIn;simp only[ho,Region.wanted,hg,if_true];refine⟨fun f _=>hF f,?_⟩;rw[hsem];obtain⟨hr1,hr2⟩ :=hrun i o p ho hp;have hset: ∀j,(listed.setIfInBounds i true).getD j false=if j=i then true else listed.getD j false:=fun j=>by
   have:i<listed.size:=by omega
   by_cases hji:j=i
   ·subst hji;simp[Array.getD_eq_getD_getElem?,this]
   ·simp[Array.getD_eq_getD_getElem?,Array.getElem?_setIfInBounds,Ne.symm hji,hji]
  by_cases his:i=s
  ·subst his;rw[hl0,(hr2 rfl).1];rw[hset,if_pos rfl,(hr2 rfl).2] at hnext;exact hnext
  ·rw[hr1 his];rw[hset,if_neg (Ne.symm his)] at hnext;exact hnext
def planRuns (P:Program) (ρ:Operand→Value) (W:Bool→World) (s:Nat):Nat→List Oper→List (Option Tmp×Value)→Prop
 |i,o::os,p::ps=>((i≠s→∀b,(execOp ρ o).run P (W b)= .ok (.value p.2) (W b))∧(i=s→(execOp ρ o).run P (W false)= .ok .skip (W true)∧p.2=undef))∧planRuns P ρ W s (i+1) os ps
 |_,_,_=>True
theorem planRuns_at {P:Program} {ρ:Operand→Value} {W:Bool→World} {s:Nat}: ∀(os:List Oper) (ps:List (Option Tmp×Value)) (k:Nat),planRuns P ρ W s k os ps→∀i o p,os[i]? =some o→ps[i]? =some p→
  (k+i≠s→∀b,(execOp ρ o).run P (W b)= .ok (.value p.2) (W b))∧(k+i=s→(execOp ρ o).run P (W false)= .ok .skip (W true)∧p.2=undef):=by
 intro os
 induction os with
 |nil=>intro ps k _ i o p h;simp at h
 |cons x os ih=>
  intro ps k h i o p ho hp;cases ps with
  |nil=>simp at hp
  |cons q ps=>
   cases i with
   |zero=>simp at ho hp;subst ho hp;exact h.1
   |succ i=>
    have:=ih ps (k+1) h.2 i o p (by simpa using ho) (by simpa using hp);rw[show k+ (i+1)=k+1+i by omega];exact this
theorem wpIn_plan {F:Fence} {n:Nat} {P:Program} {id:Nat} {ops:List Oper} {Q:Exit→Act→World→Prop} (hF: ∀f,F.fn f) (m s:Nat) {base:Act} {w w1:World} (dvs:List (Option Tmp×Value)) (hm:P.follows .mixedOrders=true)
  (hok:planOk .any ops.toArray m (dvs.map (·.1))=true) (hs:s<m) (hbs:((dvs.map (·.1)).all fun d=>match d with|some d=>decide (d<base.tmps.size)|none=>true)=true)
  (hrun:planRuns P (putAll base dvs).eval (fun b=>cond b w1 w.drew) s 0 ops dvs)
  (hrest:wpAnyIn F n P .any ops.toArray Q (ops.length - m) ((List.range ops.length).map fun i=>decide (i<m)).toArray (putAll base dvs) w1):
  (Code.region id ops.toArray true).wpIn F n P Q base w:=by
 refine wpIn_region_any hm ?_;have hbs': ∀d,some d∈dvs.map (·.1)→d<base.tmps.size:=fun d hd=>by simpa using List.all_eq_true.1 hbs _ hd
 have h:=wpAnyIn_plan (F:=F) (n:=n) (P:=P) (ops:=ops.toArray) (Q:=Q) (md:= .any) hF m s base (fun b=>cond b w1 w.drew) dvs hok hs hbs'
  (fun i o p ho hp=>by have:=planRuns_at ops dvs 0 hrun i o p (by simpa using ho) hp;rwa [Nat.zero_add] at this)
  (fun listed hsz hL=>by
   have he:listed= ((List.range ops.length).map fun i=>decide (i<m)).toArray:=by
    refine Array.ext (by simpa using hsz) fun i h1 h2=>?_
    have:=hL i;simp[Array.getD_eq_getD_getElem?,h1] at this⊢;exact this
   have hu:unlisted ops.toArray listed=ops.length - m:=by
    unfold unlisted;have hle:m≤ops.length:=by
     simp only[planOk,Bool.and_eq_true,decide_eq_true_eq] at hok
     simpa using hok.1.1
    simp only[hL];show(List.range ops.length).countP _=_;clear hok hrun hrest hbs hbs';obtain⟨k,hk⟩ :=Nat.exists_eq_add_of_le hle;rw[hk,List.range_add,List.countP_append,List.countP_eq_zero.2 (by intro a ha;simp at ha⊢;omega),List.countP_map,List.countP_eq_length.2 (by intro a ha;simp)];simp
   rw[hu,he];exact hrest)
  ops.toArray.size (Array.replicate ops.toArray.size false) base Z93 (by
   unfold unlisted;rw[List.countP_eq_length.2 (by intro a ha;simp at ha;simp[Array.getD_eq_getD_getElem?,ha])];simp) (fun i _=>by
    by_cases hi:i<ops.length <;> simp[Array.getD_eq_getD_getElem?,hi]) rfl rfl (fun t=> ⟨fun⟨j,_,hl,_⟩ =>by
    by_cases hi:j<ops.length <;> simp[Array.getD_eq_getD_getElem?,hi] at hl,fun _=>rfl⟩)
 have e:(Array.replicate ops.toArray.size false).getD s false=false:=by
  by_cases hi:s<ops.length <;> simp[Array.getD_eq_getD_getElem?,hi]
 rw[e] at h;exact h
theorem wpAnyIn_last {F:Fence} {n:Nat} {P:Program} {ops:Array Oper} {Q:Exit→Act→World→Prop} {md:Region.Mode} (hF: ∀f,F.fn f) {fuel i:Nat} {o:Oper} {listed:Array Bool} {a:Act} {w w1:World} (hf:fuel=1) (hr:Region.ready md ops listed= [i]) (ho:ops[i]? =some o)
  (hg:o.guard=none) (hdef: ∀c,o.op≠ .defer c) (hdst:o.dst=none) (hrun:(execOp a.eval o).run P w= .ok .skip w1) (hr2:Region.ready md ops (listed.setIfInBounds i true)= []) (h:Q .normal a w1):wpAnyIn F n P md ops Q fuel listed a w:=by
 subst hf;refine⟨fun h0=>?_,fun j hj=>?_⟩
 ·rw[hr] at h0;exact absurd h0 Z93
 ·rw[hr,List.mem_singleton] at hj;subst hj;unfold wpOpIn;simp only[ho,Region.wanted,hg,if_true];refine⟨fun f _=>hF f,?_⟩;rw[Oper.semAt_eq _ _ _ hdef,hrun,Oper.uponIn_skip,hdst];exact wpAnyIn_done hr2 h _
end Go.Proofs.YtnfgokmecllpbaaGreatDoor.Print
end
section
namespace Go.Proofs.YtnfgokmecllpbaaGreatDoor.Print
open Go.RowKit Go.Proofs.YtnfgokmecllpbaaGreatDoorW.PrintWords Go.Proofs.YtnfgokmecllpbaaGreatDoorW.PrintLast Go.Proofs.YtnfgokmecllpbaaGreatDoorW.PrintMore
variable {ρ:Operand→Value} {W:World} {d:Option Tmp} {pos:String} {af:Array Edge}
theorem op_load172 {t:Tmp} {p:Addr} {v:Value} (h:ρ (.tmp t)= .pointer (some p)) (hc:W.cell? p=some v):(execOp ρ {dst:=d,op:= .load 172 (.tmp t),type:=172,pos:=pos,after:=af,guard:=none}).run Tryz.prog W= .ok (.value v) W:=by
 go_simp
theorem op_load156 {t:Tmp} {p:Addr} {v:Value} (h:ρ (.tmp t)= .pointer (some p)) (hc:W.cell? p=some v):(execOp ρ {dst:=d,op:= .load 156 (.tmp t),type:=156,pos:=pos,after:=af,guard:=none}).run Tryz.prog W= .ok (.value v) W:=by
 go_simp
theorem op_move {t:Tmp} {v:Value} {ty:TypeId} (h:ρ (.tmp t)=v):(execOp ρ {dst:=d,op:= .move (.tmp t),type:=ty,pos:=pos,after:=af,guard:=none}).run Tryz.prog W= .ok (.value v) W:=by
 go_simp
theorem op_idx0 {t:Tmp} {p:Addr} {n c:Nat} (h:ρ (.tmp t)= .slice (some p) n c) (hk:ρ (.const (.int .i64 0))= .int .i64 0) (hn:0<n):(execOp ρ {dst:=d,op:= .indexAddr 172 (.tmp t) (.const (.int .i64 0)),type:=0,pos:=pos,after:=af,guard:=none}).run Tryz.prog W= .ok (.value (.pointer (some p))) W:=by
 have e:p.add 0=p:=by cases p;rfl
 go_simp
theorem op_idx {t u:Tmp} {B n c i:Nat} (h:ρ (.tmp t)= .slice (some ⟨B,0,none⟩) n c) (hu:ρ (.tmp u)= .int .i64 (i:Int)) (hn:i<n):(execOp ρ {dst:=d,op:= .indexAddr 172 (.tmp t) (.tmp u),type:=0,pos:=pos,after:=af,guard:=none}).run Tryz.prog W= .ok (.value (.pointer (some ⟨B,i,none⟩))) W:=by
 have h2:(i:Int)< (n:Int):=by omega
 go_simp
theorem op_quo {t u:Tmp} {S b:Int} (h:ρ (.tmp t)= .int .u64 S) (hu:ρ (.tmp u)= .int .u64 b) (hS0:0≤S) (hS:S<18446744073709551616) (hb:0<b):(execOp ρ {dst:=d,op:= .binOp .quo 156 (.tmp t) (.tmp u) 156,type:=156,pos:=pos,after:=af,guard:=none}).run Tryz.prog W= .ok (.value (.int .u64 (S / b))) W:=by
 have hb':b≠0:=by omega
 have hb2:(b==0)=false:=by simp[hb']
 have e1:S.tdiv b=S / b:=Int.tdiv_eq_ediv_of_nonneg hS0;have hd0:0≤S / b:=Int.ediv_nonneg hS0 Z92;have hdS:S / b≤S:=Int.ediv_le_self b hS0;have e2:IntKind.u64.wrap (S / b)=S / b:=by rw[IntKind.wrap_u64];omega
 go_simp
theorem op_rem {t u:Tmp} {S b:Int} (h:ρ (.tmp t)= .int .u64 S) (hu:ρ (.tmp u)= .int .u64 b) (hS0:0≤S) (hS:S<18446744073709551616) (hb:0<b):(execOp ρ {dst:=d,op:= .binOp .rem 156 (.tmp t) (.tmp u) 156,type:=156,pos:=pos,after:=af,guard:=none}).run Tryz.prog W= .ok (.value (.int .u64 (S % b))) W:=by
 have hb':b≠0:=by omega
 have hb2:(b==0)=false:=by simp[hb']
 have e1:S.tmod b=S % b:=Int.tmod_eq_emod_of_nonneg hS0;have hd0:0≤S % b:=Int.emod_nonneg _ hb';have hdS:S % b≤S:=by
  have h1:=Int.mul_ediv_add_emod S b;have h2:0≤b * (S / b):=Int.mul_nonneg Z92 (Int.ediv_nonneg hS0 Z92);omega
 have e2:IntKind.u64.wrap (S % b)=S % b:=by rw[IntKind.wrap_u64];omega
 go_simp
theorem op_store156 {t u:Tmp} {p:Addr} {x:Int} {v':Value} (h:ρ (.tmp t)= .pointer (some p)) (hu:ρ (.tmp u)= .int .u64 x) (hc:W.cell? p=some v') (hf:W.frozen? p=false):(execOp ρ {dst:=none,op:= .store 156 (.tmp t) (.tmp u),type:=0,pos:=pos,after:=af,guard:=none}).run Tryz.prog W= .ok .skip (W.setCell p (.int .u64 x)):=by
 go_simp
end Go.Proofs.YtnfgokmecllpbaaGreatDoor.Print
end
section
namespace Go.Proofs.YtnfgokmecllpbaaGreatDoor.Print
open Go.RowKit Go.Proofs.YtnfgokmecllpbaaGreatDoorW.PrintWords Go.Proofs.YtnfgokmecllpbaaGreatDoorW.PrintLast Go.Proofs.YtnfgokmecllpbaaGreatDoorW.PrintMore
theorem row_V {W:World} {g base:Nat} {xs:List Int} (h:W.heap[g]? =some (.cells (xs.map (Value.int .u64)).toArray 156 (0,0))) (hl:xs.length≤maxLen):Kd.V (Kd.int .u64) 156 W base (fun k=>k=g) (.slice (some ⟨g,0,none⟩) xs.length xs.length) xs:=by
 refine Kd.R_V (base:=0) (Kd.R_of_own (enc:=Value.int .u64) ?_ ?_)
 ·refine⟨by simp[encs],.inr ⟨g,xs.length,_,rfl,Nat.zero_le _,h,Nat.le_refl _,hl,Z93,?_⟩⟩;simp only[Nat.mul_one,encs];exact List.take_of_length_le Z93
 ·intro k hk
  simpa [Value.ownBlock,eq_comm] using hk
section
variable {ρ:Operand→Value} {W:World} {d:Option Tmp} {pos:String} {af:Array Edge}
theorem op_build {t:Tmp} {x:Int} (h:ρ (.tmp t)= .int .u64 x):(execOp ρ {dst:=d,op:= .buildSlice 172 1 #[(0,.tmp t)],type:=172,pos:=pos,after:=af,guard:=none}).run Tryz.prog W= .ok (.value (.slice (some ⟨W.heap.size,0,none⟩) 1 1)) (W.alloc (.cells #[.int .u64 x] 156)):=by
 go_simp
theorem op_call212 {t:Tmp} {v:Value} (h:ρ (.tmp t)=v) (hf:ρ (.func 212)= .func (.func 212) #[] #[]):(execOp ρ {dst:=d,op:= .call {callee:= .value (.func 212),args:=#[.tmp t],argTypes:=#[172]},type:=172,pos:=pos,after:=af,guard:=none}).run Tryz.prog W= .ok (.enter 212 #[v]) W:=by
 go_simp
theorem op_store172 {t u:Tmp} {p:Addr} {A:Option Addr} {n c:Nat} {v':Value} (h:ρ (.tmp t)= .pointer (some p)) (hu:ρ (.tmp u)= .slice A n c) (hc:W.cell? p=some v') (hf:W.frozen? p=false):(execOp ρ {dst:=none,op:= .store 172 (.tmp t) (.tmp u),type:=0,pos:=pos,after:=af,guard:=none}).run Tryz.prog W= .ok .skip (W.setCell p (.slice A n c)):=by
 go_simp
theorem op_assign {t:Tmp} {v:Value} {ty:TypeId} (h:ρ (.tmp t)=v):(execOp ρ {dst:=d,op:= .assign (.tmp t),type:=ty,pos:=pos,after:=af,guard:=none}).run Tryz.prog W= .ok (.value v) W:=by
 go_simp
end
def S11 (base:Act) (W:World) (B2 n:Nat) (R:Int) (r1:List Int) (p q:Nat) (a:Act) (w:World):Prop:=
 Below W.heap.size W w∧a.defers=base.defers∧a.tmps.size=base.tmps.size∧a.tmps.getD 4 undef=base.tmps.getD 4 undef∧a.tmps.getD 6 undef=base.tmps.getD 6 undef∧
 (p=1→a.tmps.getD 46 undef= .slice (some ⟨B2,0,none⟩) n n)∧
 (p=2→∃v,a.tmps.getD 47 undef=v∧Kd.V (Kd.int .u64) 156 w 0 (fun k=>k=B2∨W.heap.size≤k) v r1)∧
 (q=1→a.tmps.getD 48 undef= .int .u64 R)∧
 (q=2→∃g,a.tmps.getD 49 undef= .slice (some ⟨g,0,none⟩) 1 1∧w.heap[g]? =some (.cells #[.int .u64 R] 156 (0,0))∧W.heap.size≤g)
theorem mem_two11 {i a b:Nat} (h:i∈[a,b]):i=a∨i=b:=by simpa using h
theorem trim11 {k:Nat} {w:World} {g n:Nat} {xs r:List Int} (h:w.heap[g]? =some (.cells (xs.map (Value.int .u64)).toArray 156 (0,0))) (hn:xs.length=n) (hl:xs.length≤maxLen) (ht:Y72.f k xs=some r):
  CallsIn Fence.wide 4 Tryz.prog 212 #[.slice (some ⟨g,0,none⟩) n n] w fun e w'=> ∃v,e= .returned v∧Kd.V (Kd.int .u64) 156 w' w.heap.size (fun j=>j=g∨w.heap.size≤j) v r∧Below w.heap.size w w':=by
 subst hn;exact callsIn_wide.2 (Y72.calls k (fun j=>j=g) (some ⟨g,0,none⟩) xs.length xs r w (row_V h hl) ht)
theorem region11 {Q:Exit→Act→World→Prop} {ops:Array Oper} {base:Act} {W:World} {nb B1 B2 B3 n k k':Nat} {xs r1 r2:List Int} {R:Int}
  (hsz:base.tmps.size=146) (h4:base.tmps.getD 4 undef= .pointer (some ⟨B1,0,none⟩)) (h6:base.tmps.getD 6 undef= .pointer (some ⟨B3,0,none⟩))
  (hxs:xs.length=n) (hl:n≤maxLen) (e1:W.heap[B1]? =some (.cells #[.slice (some ⟨B2,0,none⟩) n n] 172 (0,0))) (e2:W.heap[B2]? =some (.cells (xs.map (Value.int .u64)).toArray 156 (0,0))) (e3:W.heap[B3]? =some (.cells #[.int .u64 R] 156 (0,0)))
  (hnb:nb≤B1) (hne:B1≠B2) (hq:Y72.f k xs=some r1) (hr:Y72.f k' [R]=some r2)
  (o0: ∃pos af,ops[0]? =some {dst:=some 46,op:= .load 172 (.tmp 4),type:=172,pos:=pos,after:=af,guard:=none})
  (o1: ∃pos af,ops[1]? =some {dst:=some 47,op:= .call {callee:= .value (.func 212),args:=#[.tmp 46],argTypes:=#[172]},type:=172,pos:=pos,after:=af,guard:=none})
  (o2: ∃pos af,ops[2]? =some {dst:=some 48,op:= .load 156 (.tmp 6),type:=156,pos:=pos,after:=af,guard:=none})
  (o3: ∃pos af,ops[3]? =some {dst:=some 49,op:= .buildSlice 172 1 #[(0,.tmp 48)],type:=172,pos:=pos,after:=af,guard:=none})
  (o4: ∃pos af,ops[4]? =some {dst:=some 50,op:= .call {callee:= .value (.func 212),args:=#[.tmp 49],argTypes:=#[172]},type:=172,pos:=pos,after:=af,guard:=none})
  (o5: ∃pos af,ops[5]? =some {dst:=none,op:= .store 172 (.tmp 4) (.tmp 47),type:=0,pos:=pos,after:=af,guard:=none})
  (o6: ∃pos af,ops[6]? =some {dst:=some 5,op:= .assign (.tmp 50),type:=172,pos:=pos,after:=af,guard:=none})
  (n7:ops.size=7)
  (y00:Region.ready .any ops #[false,false,false,false,false,false,false]= [0,2])
  (y10:Region.ready .any ops #[true,false,false,false,false,false,false]= [1,2])
  (y20:Region.ready .any ops #[true,true,false,false,false,false,false]= [2])
  (y01:Region.ready .any ops #[false,false,true,false,false,false,false]= [0,3])
  (y02:Region.ready .any ops #[false,false,true,true,false,false,false]= [0])
  (y11:Region.ready .any ops #[true,false,true,false,false,false,false]= [1,3])
  (y21:Region.ready .any ops #[true,true,true,false,false,false,false]= [3])
  (y12:Region.ready .any ops #[true,false,true,true,false,false,false]= [1])
  (y22:Region.ready .any ops #[true,true,true,true,false,false,false]= [4])
  (y4:Region.ready .any ops #[true,true,true,true,true,false,false]= [5])
  (y5:Region.ready .any ops #[true,true,true,true,true,true,false]= [6])
  (y6:Region.ready .any ops #[true,true,true,true,true,true,true]= [])
  (hpost: ∀a W3 v0 v1,a.tmps.getD 4 undef= .pointer (some ⟨B1,0,none⟩)→a.tmps.getD 5 undef=v1→a.defers=base.defers→W3.heap[B1]? =some (.cells #[v0] 172 (0,0))→
   Kd.V (Kd.int .u64) 156 W3 0 (fun j=>j=B2∨W.heap.size≤j) v0 r1→Kd.V (Kd.int .u64) 156 W3 0 (fun j=>W.heap.size≤j) v1 r2→Below nb W W3→(∀j,j<W.heap.size→j≠B1→W3.heap[j]? =W.heap[j]?)→Q .normal a W3) {id:Nat}:
  (Code.region id ops true).wpIn Fence.wide 5 Tryz.prog Q base W:=by
 obtain⟨p0,a0,o0⟩ :=o0;obtain⟨p1,a1,o1⟩ :=o1;obtain⟨p2,a2,o2⟩ :=o2;obtain⟨p3,a3,o3⟩ :=o3;obtain⟨p4,a4,o4⟩ :=o4;obtain⟨p5,a5,o5⟩ :=o5;obtain⟨p6,a6,o6⟩ :=o6;have hB1:B1<W.heap.size:=(Array.getElem?_eq_some_iff.1 e1).1;have hB2:B2<W.heap.size:=(Array.getElem?_eq_some_iff.1 e2).1;have hB3:B3<W.heap.size:=(Array.getElem?_eq_some_iff.1 e3).1
 -- the four steps
 have step0: ∀q a w K,S11 base W B2 n R r1 0 q a w→(∀a',S11 base W B2 n R r1 1 q a' w→K a' w)→wpOpIn Fence.wide 5 Tryz.prog ops Q 0 K a w:=by
  intro q a w K ⟨hB,hd,hs,t4,t6,_,_,hq1,hq2⟩ hK;unfold wpOpIn;simp only[o0,Region.wanted,if_true];refine⟨fun f _=>trivial,?_⟩;have hc:w.cell? ⟨B1,0,none⟩ =some (.slice (some ⟨B2,0,none⟩) n n):=(hB.cell (p:= ⟨B1,0,none⟩) hB1).trans ((blk_cell e1 0).trans rfl);rw[Oper.semAt_eq _ _ _ (fun _ h=>by simp at h),op_load172 (ρ:=a.eval) (t4.trans h4) hc,Oper.uponIn_value];refine hK _ ⟨hB,by rw[put_defers,hd],by rw[put_size,hs],by rw[put_getD,if_neg Z93,t4],by rw[put_getD,if_neg Z93,t6],fun _=>by rw[put_getD,if_pos ⟨rfl,by rw[hs,hsz];decide⟩],fun h=>absurd h Z91,fun h=>by rw[put_getD,if_neg Z93];exact hq1 h,fun h=>by rw[put_getD,if_neg Z93];exact hq2 h⟩
 have step2: ∀p a w K,S11 base W B2 n R r1 p 0 a w→(∀a',S11 base W B2 n R r1 p 1 a' w→K a' w)→wpOpIn Fence.wide 5 Tryz.prog ops Q 2 K a w:=by
  intro q a w K ⟨hB,hd,hs,t4,t6,hp1,hp2,_,_⟩ hK;unfold wpOpIn;simp only[o2,Region.wanted,if_true];refine⟨fun f _=>trivial,?_⟩;have hc:w.cell? ⟨B3,0,none⟩ =some (.int .u64 R):=(hB.cell (p:= ⟨B3,0,none⟩) hB3).trans ((blk_cell e3 0).trans rfl);rw[Oper.semAt_eq _ _ _ (fun _ h=>by simp at h),op_load156 (ρ:=a.eval) (t6.trans h6) hc,Oper.uponIn_value];refine hK _ ⟨hB,by rw[put_defers,hd],by rw[put_size,hs],by rw[put_getD,if_neg Z93,t4],by rw[put_getD,if_neg Z93,t6],fun h=>by rw[put_getD,if_neg Z93];exact hp1 h,fun h=>by rw[put_getD,if_neg Z93];exact hp2 h,fun _=>by rw[put_getD,if_pos ⟨rfl,by rw[hs,hsz];decide⟩],fun h=>absurd h Z91⟩
 have step3: ∀p a w K,S11 base W B2 n R r1 p 1 a w→(∀a' w',S11 base W B2 n R r1 p 2 a' w'→K a' w')→wpOpIn Fence.wide 5 Tryz.prog ops Q 3 K a w:=by
  intro q a w K ⟨hB,hd,hs,t4,t6,hp1,hp2,hq1,_⟩ hK;unfold wpOpIn;simp only[o3,Region.wanted,if_true];refine⟨fun f _=>trivial,?_⟩;rw[Oper.semAt_eq _ _ _ (fun _ h=>by simp at h),op_build (ρ:=a.eval) (x:=R) (hq1 rfl),Oper.uponIn_value];refine hK _ _ ⟨below_alloc hB _,by rw[put_defers,hd],by rw[put_size,hs],by rw[put_getD,if_neg Z93,t4],by rw[put_getD,if_neg Z93,t6],fun h=>by rw[put_getD,if_neg Z93];exact hp1 h,fun h=>?_,fun h=>absurd h Z91,fun _=> ⟨w.heap.size,by rw[put_getD,if_pos ⟨rfl,by rw[hs,hsz];decide⟩],World.alloc_heap_new _ _,hB.size⟩⟩;obtain⟨v,hv,hV⟩ :=hp2 h;exact⟨v,by rw[put_getD,if_neg Z93];exact hv,Kd.V_alloc hV _⟩
 have step1: ∀q a w K,S11 base W B2 n R r1 1 q a w→(∀a' w',S11 base W B2 n R r1 2 q a' w'→K a' w')→wpOpIn Fence.wide 5 Tryz.prog ops Q 1 K a w:=by
  intro q a w K ⟨hB,hd,hs,t4,t6,hp1,_,hq1,hq2⟩ hK;unfold wpOpIn;simp only[o1,Region.wanted,if_true];refine⟨fun f _=>trivial,?_⟩;rw[Oper.semAt_eq _ _ _ (fun _ h=>by simp at h),op_call212 (ρ:=a.eval) (hp1 rfl) rfl,Oper.uponIn_enter];refine⟨fun h=>absurd h Z91,(trim11 ((hB.block B2 hB2).trans e2) hxs Z92 hq).mono ?_⟩;rintro e w' ⟨v,rfl,hV,hb⟩;refine hK _ _ ⟨hB.trans (hb.mono hB.size),by rw[put_defers,hd],by rw[put_size,hs],by rw[put_getD,if_neg Z93,t4],by rw[put_getD,if_neg Z93,t6],fun h=>absurd h Z91,fun _=> ⟨v,by rw[put_getD,if_pos ⟨rfl,by rw[hs,hsz];decide⟩],Kd.V_lower (Kd.V_mono hV (fun j hj=>hj.imp (fun h=>h) (Nat.le_trans hB.size))) (Nat.zero_le _)⟩,fun h=>by rw[put_getD,if_neg Z93];exact hq1 h,fun h=>?_⟩;obtain⟨g,hg,hh,hle⟩ :=hq2 h;exact⟨g,by rw[put_getD,if_neg Z93];exact hg,(hb.block g (Array.getElem?_eq_some_iff.1 hh).1).trans hh,hle⟩
 have s22: ∀a w,S11 base W B2 n R r1 2 2 a w→wpAnyIn Fence.wide 5 Tryz.prog .any ops Q 3 #[true,true,true,true,false,false,false] a w:=by
  intro a w ⟨hB,hd,hs,t4,t6,_,hp2,_,hq2⟩;obtain⟨v0,hv0,hV0⟩ :=hp2 rfl;obtain⟨g,hg,hh,hle⟩ :=hq2 rfl;refine wpAnyIn_all y22 Z93 (fun i hi=>?_);obtain rfl:=List.mem_singleton.1 hi;unfold wpOpIn;simp only[o4,Region.wanted,if_true];refine⟨fun f _=>trivial,?_⟩;rw[Oper.semAt_eq _ _ _ (fun _ h=>by simp at h),op_call212 (ρ:=a.eval) hg rfl,Oper.uponIn_enter];refine⟨fun h=>absurd h Z91,(trim11 (xs:=[R]) hh rfl (by show 1≤maxLen;decide) hr).mono ?_⟩;rintro e w' ⟨v1,rfl,hV1,hb⟩;have hB':Below W.heap.size W w':=hB.trans (hb.mono hB.size);have hB1':w'.heap[B1]? =some (.cells #[.slice (some ⟨B2,0,none⟩) n n] 172 (0,0)):=(hB'.block B1 hB1).trans e1;obtain⟨A0,cp0,rfl⟩ :=Kd.V_slice hV0;obtain⟨A1,cp1,rfl⟩ :=Kd.V_slice hV1;refine wpAnyIn_all y4 Z93 (fun i hi=>?_);obtain rfl:=List.mem_singleton.1 hi;unfold wpOpIn;simp only[o5,Region.wanted,if_true];refine⟨fun f _=>trivial,?_⟩;have hc:w'.cell? ⟨B1,0,none⟩ =some (.slice (some ⟨B2,0,none⟩) n n):=(blk_cell hB1' 0).trans rfl;rw[Oper.semAt_eq _ _ _ (fun _ h=>by simp at h),op_store172 (ρ:=(a.put (some 50) (.slice A1 r2.length cp1)).eval) (p:= ⟨B1,0,none⟩) (A:=A0) (n:=r1.length) (c:=cp0) (by show(a.put _ _).tmps.getD 4 undef=_;rw[put_getD,if_neg Z93,t4,h4]) (by show(a.put _ _).tmps.getD 47 undef=_;rw[put_getD,if_neg Z93,hv0]) hc (blk_frozen hB1' 0),Oper.uponIn_skip];refine wpAnyIn_all y5 Z93 (fun i hi=>?_);obtain rfl:=List.mem_singleton.1 hi;unfold wpOpIn;simp only[o6,Region.wanted,if_true];refine⟨fun f _=>trivial,?_⟩;rw[Oper.semAt_eq _ _ _ (fun _ h=>by simp at h),op_assign (ρ:=((a.put (some 50) (.slice A1 r2.length cp1)).put none undef).eval) (v:= .slice A1 r2.length cp1) (by show((a.put _ _).put none undef).tmps.getD 50 undef=_;rw[put_getD,if_neg Z93,put_getD,if_pos ⟨rfl,by rw[hs,hsz];decide⟩]),Oper.uponIn_value];refine wpAnyIn_done y6 ?_ _;refine hpost _ _ (.slice A0 r1.length cp0) (.slice A1 r2.length cp1) ?_ ?_ ?_ ?_ ?_ ?_ ?_ ?_
  ·rw[put_getD,if_neg Z93,put_getD,if_neg Z93,put_getD,if_neg Z93,t4,h4]
  ·rw[put_getD,if_pos ⟨rfl,by rw[put_size,put_size,hs,hsz];decide⟩]
  ·rw[put_defers,put_defers,put_defers,hd]
  ·exact blk_put hB1' 0 _ rfl
  ·exact Kd.V_mono (Kd.V_far (p:= ⟨B1,0,none⟩) (Kd.V_below hV0 hb) (fun j hj=>by rcases hj with rfl|hj;exact Ne.symm hne;show j≠B1;omega) _) (fun _ h=>h)
  ·exact Kd.V_lower (Kd.V_mono (Kd.V_far (p:= ⟨B1,0,none⟩) hV1 (fun j hj=>by have:=hB.size;show j≠B1;rcases hj with rfl|hj <;> omega) _) (fun j hj=>by have:=hB.size;rcases hj with rfl|hj <;> omega)) (Nat.zero_le _)
  ·exact(hB'.mono Z92).setCell (p:= ⟨B1,0,none⟩) hnb _
  ·intro j hj hjn;exact(Below.heap_setCell _ _ _ _ hjn).trans (hB'.block j hj)
 have s12: ∀a w,S11 base W B2 n R r1 1 2 a w→wpAnyIn Fence.wide 5 Tryz.prog .any ops Q 4 #[true,false,true,true,false,false,false] a w:=fun a w h=>
  wpAnyIn_all y12 Z93 (fun i hi=>by
   obtain rfl:=List.mem_singleton.1 hi;exact step1 _ _ _ _ h s22)
 have s21: ∀a w,S11 base W B2 n R r1 2 1 a w→wpAnyIn Fence.wide 5 Tryz.prog .any ops Q 4 #[true,true,true,false,false,false,false] a w:=fun a w h=>
  wpAnyIn_all y21 Z93 (fun i hi=>by
   obtain rfl:=List.mem_singleton.1 hi;exact step3 _ _ _ _ h s22)
 have s02: ∀a w,S11 base W B2 n R r1 0 2 a w→wpAnyIn Fence.wide 5 Tryz.prog .any ops Q 5 #[false,false,true,true,false,false,false] a w:=fun a w h=>
  wpAnyIn_all y02 Z93 (fun i hi=>by
   obtain rfl:=List.mem_singleton.1 hi;exact step0 _ _ _ _ h (fun a'=>s12 a' w))
 have s11: ∀a w,S11 base W B2 n R r1 1 1 a w→wpAnyIn Fence.wide 5 Tryz.prog .any ops Q 5 #[true,false,true,false,false,false,false] a w:=fun a w h=>
  wpAnyIn_all y11 Z93 (fun i hi=>by
   rcases mem_two11 hi with rfl|rfl
   ·exact step1 _ _ _ _ h s21
   ·exact step3 _ _ _ _ h s12)
 have s20: ∀a w,S11 base W B2 n R r1 2 0 a w→wpAnyIn Fence.wide 5 Tryz.prog .any ops Q 5 #[true,true,false,false,false,false,false] a w:=fun a w h=>
  wpAnyIn_all y20 Z93 (fun i hi=>by
   obtain rfl:=List.mem_singleton.1 hi;exact step2 _ _ _ _ h (fun a'=>s21 a' w))
 have s01: ∀a w,S11 base W B2 n R r1 0 1 a w→wpAnyIn Fence.wide 5 Tryz.prog .any ops Q 6 #[false,false,true,false,false,false,false] a w:=fun a w h=>
  wpAnyIn_all y01 Z93 (fun i hi=>by
   rcases mem_two11 hi with rfl|rfl
   ·exact step0 _ _ _ _ h (fun a'=>s11 a' w)
   ·exact step3 _ _ _ _ h s02)
 have s10: ∀a w,S11 base W B2 n R r1 1 0 a w→wpAnyIn Fence.wide 5 Tryz.prog .any ops Q 6 #[true,false,false,false,false,false,false] a w:=fun a w h=>
  wpAnyIn_all y10 Z93 (fun i hi=>by
   rcases mem_two11 hi with rfl|rfl
   ·exact step1 _ _ _ _ h s20
   ·exact step2 _ _ _ _ h (fun a'=>s11 a' w))
 refine wpIn_region_any Z90 ?_;rw[n7];refine wpAnyIn_all y00 Z93 (fun i hi=>?_);have h0:S11 base W B2 n R r1 0 0 base W.drew:= ⟨pw_below_drewN (Below.refl _ _) 1,rfl,rfl,rfl,rfl,fun h=>absurd h Z91,fun h=>absurd h Z91,fun h=>absurd h Z91,fun h=>absurd h Z91⟩
 rcases mem_two11 hi with rfl|rfl
 ·exact step0 _ _ _ _ h0 (fun a'=>s10 a' _)
 ·exact step2 _ _ _ _ h0 (fun a'=>s01 a' _)
end Go.Proofs.YtnfgokmecllpbaaGreatDoor.Print
end
section
namespace Go.Proofs.YtnfgokmecllpbaaGreatDoor.Print
open Go.RowKit Go.Shelf Go.Proofs.YtnfgokmecllpbaaGreatDoorW.PrintWords Go.Proofs.YtnfgokmecllpbaaGreatDoorW.PrintLast Go.Proofs.YtnfgokmecllpbaaGreatDoorW.PrintMore
attribute [local go_sem] Oper.semAt_some
def qf (b:Int) (l0:List Int) (pre:List (Fin l0.length)):List Int×Int:=
 pre.foldl (fun s x=>(s.1.set x.val ((s.2 * 1000000000+rd l0 (x.val:Int)) / b),(s.2 * 1000000000+rd l0 (x.val:Int)) % b)) (List.replicate l0.length 0,0)
theorem qf_snoc (b:Int) (l0:List Int) (pre:List (Fin l0.length)) (x:Fin l0.length):
  qf b l0 (pre++ [x])= ((qf b l0 pre).1.set x.val (((qf b l0 pre).2 * 1000000000+rd l0 (x.val:Int)) / b),((qf b l0 pre).2 * 1000000000+rd l0 (x.val:Int)) % b):=by
 simp[qf,List.foldl_append]
theorem qf_len_aux (b:Int) (l0:List Int) (pre:List (Fin l0.length)): ∀s:List Int×Int,(pre.foldl (fun(s:List Int×Int) (x:Fin l0.length)=>(s.1.set x.val ((s.2 * 1000000000+rd l0 (x.val:Int)) / b),(s.2 * 1000000000+rd l0 (x.val:Int)) % b)) s).1.length=s.1.length:=by
 induction pre with
 |nil=>intro s;rfl
 |cons x pre ih=>intro s;rw[List.foldl_cons,ih];simp
theorem qf_length (b:Int) (l0:List Int) (pre:List (Fin l0.length)):(qf b l0 pre).1.length=l0.length:=by
 unfold qf;rw[qf_len_aux];simp
theorem qf_rest_any (b:Int) (hb:0<b) (l0:List Int) (pre:List (Fin l0.length)):0≤(qf b l0 pre).2∧(qf b l0 pre).2<b:=by
 have key: ∀(pre:List (Fin l0.length)) (s:List Int×Int),0≤s.2→s.2<b→0≤(pre.foldl (fun(s:List Int×Int) (x:Fin l0.length)=>(s.1.set x.val ((s.2 * 1000000000+rd l0 (x.val:Int)) / b),(s.2 * 1000000000+rd l0 (x.val:Int)) % b)) s).2∧(pre.foldl (fun(s:List Int×Int) (x:Fin l0.length)=>(s.1.set x.val ((s.2 * 1000000000+rd l0 (x.val:Int)) / b),(s.2 * 1000000000+rd l0 (x.val:Int)) % b)) s).2<b:=by
  intro pre
  induction pre with
  |nil=>intro s h1 h2;exact⟨h1,h2⟩
  |cons x pre ih=>
   intro s h1 h2;rw[List.foldl_cons];exact ih _ (Int.emod_nonneg _ Z92) (Int.emod_lt_of_pos _ hb)
 exact key pre _ Z93 (by simpa using hb)
theorem qf_back (b:Int) (l0:List Int): ∀k,k≤l0.length→
  qf b l0 ((back l0.length).take k)= (List.replicate (l0.length - k) 0++ (div1 b (l0.drop (l0.length - k))).1,(div1 b (l0.drop (l0.length - k))).2):=by
 intro k
 induction k with
 |zero=>intro _;simp[qf,div1]
 |succ k ih=>
  intro hk;have hlt:l0.length - (k+1)<l0.length:=by omega
  rw[back_take_succ _ _ Z92,qf_snoc,ih Z92];have e0:l0.length - k= (l0.length - (k+1))+1:=by omega
  have e1:l0.drop (l0.length - (k+1))=l0[l0.length - (k+1)]::l0.drop (l0.length - k):=by
   rw[e0];exact List.drop_eq_getElem_cons hlt
  rw[e1];have e2:rd l0 ((l0.length - 1 - k:Nat):Int)=l0[l0.length - (k+1)]:=by
   unfold rd;have e3:((l0.length - 1 - k:Nat):Int).toNat=l0.length - (k+1):=by omega
   rw[e3,List.getD_eq_getElem?_getD,List.getElem?_eq_getElem hlt];rfl
  simp only[div1,e2];refine Prod.ext ?_ rfl;simp only;rw[e0,List.replicate_succ',List.append_assoc];have e4:l0.length - 1 - k= (List.replicate (l0.length - (k+1)) (0:Int)).length:=by simp;omega
  rw[e4,List.set_append_right _ _ (Nat.le_refl _)];simp
theorem qf_all (b:Int) (l0:List Int):qf b l0 (back l0.length)=div1 b l0:=by
 have h:=qf_back b l0 l0.length (Nat.le_refl _);rw[back_take_all] at h;rw[h];simp
theorem heap_kept {A B:World} {row:Option Nat} {k:Nat} {cs:Array Value} {T:TypeId} {fr:Nat×Nat} (h:A.heap[k]? =some (.cells cs T fr)) (hg:A.grownBy B row) (hr: ∀r,row=some r→∃o:Obj,A.heap[r]? =some o∧o.isCells=false):B.heap[k]? =some (.cells cs T fr):=by
 refine(hg.block k (Array.getElem?_eq_some_iff.1 h).1 ?_).trans h;intro e;obtain⟨o,ho,hc⟩ :=hr k e.symm;rw[h] at ho;obtain rfl:=Option.some.inj ho;simp[Obj.isCells] at hc
theorem okP_rd {l:List Int} (h:okP l=true) (i:Nat) (hi:i<l.length):0≤rd l (i:Int)∧rd l (i:Int)<1000000000:=by
 have h1:=List.all_eq_true.1 h _ (List.getElem_mem hi);have e:rd l (i:Int)=l[i]:=by
  unfold rd;rw[Int.toNat_natCast,List.getD_eq_getElem?_getD,List.getElem?_eq_getElem hi];rfl
 rw[e]
 simpa using h1
theorem C_int_cell {w:World} {ad:Addr} {n:Nat} {xs:List Int} (h:Kd.C (Kd.int .u64) w (some ad) n xs) (j:Nat) (hj:j<n):w.cell? (ad.add j)=some (.int .u64 (rd xs (j:Int))):=by
 obtain⟨ad',c,e,hl,hK,hcc⟩ :=Kd.C_get h 0 (j:Int) Z92 Z92;obtain rfl:=Option.some.inj e;have hK':c= [Value.int .u64 (xs.getD (j:Int).toNat 0)]:=hK;have:=hcc 0 (Value.int .u64 (rd xs (j:Int))) (by rw[hK'];rfl);have e2:(j:Int).toNat * (Kd.int .u64).sz+0=j:=by
  show(j:Int).toNat * 1+0=j
  simp
 rw[e2] at this;exact this
theorem cell_lt {w:World} {p:Addr} {v:Value} (h:w.cell? p=some v):p.block<w.heap.size:=by
 refine Decidable.byContradiction fun hn=>?_
 have:w.heap[p.block]? =none:=by simp;omega
 simp[World.cell?,this] at h
theorem divide1_gen (P0_:Nat→Prop) (ad0:Addr) (c0:Nat) (l0:List Int) (ad1:Addr) (c1:Nat) (l1:List Int) (b:Int) (r1:List Int) (r2:List Int) (w:World) (t:Int)
  (hs0:Kd.V (Kd.int .u64) 156 w w.heap.size (fun k_=>P0_ k_) (.slice (some ad0) l0.length c0) l0) (hr1:Kd.C (Kd.int .u64) w (some ad1) l1.length l1) (hc1:l1.length≤c1)
  (hl1:l1.length=1) (hb:rd l1 0=b) (hb0:0<b) (hbB:b<1000000000) (hok:okP l0=true) (hlen:l0.length<4000000000000) (hne:0<l0.length)
  (hord:Y60.f (l0.length+2) l0 l1=some t) (ht: ¬t<0)
  (hq:Y72.f (l0.length+1) (div1 b l0).1=some r1) (hr:Y72.f 2 [(div1 b l0).2]=some r2):
  Calls Tryz.prog 180 #[.slice (some ad0) l0.length c0,.slice (some ad1) l1.length c1] w fun e w'=> ∃v0_ v1_:Value,e= .returned (.tuple #[v0_,v1_])∧Kd.V (Kd.int .u64) 156 w' w.heap.size (fun k_=>(P0_ k_∨w.heap.size≤k_)) v0_ r1∧Kd.V (Kd.int .u64) 156 w' w.heap.size (fun k_=>(P0_ k_∨w.heap.size≤k_)) v1_ r2∧Below w.heap.size w w':=by
 have HO:=Aside0.mk hord;have HL1:=Aside0.mk hl1;have HB:=Aside0.mk hb;have HS0:=Aside0.mk hs0;have HR1:=Aside0.mk hr1;have HC1:=Aside0.mk hc1;have htb:decide (t<0)=false:=decide_eq_false ht;have hlb:((l1.length:Int)==1)=true:=by rw[hl1];rfl
 have h280:((l0.length:Nat):Int) * 8≤281474976710656:=by omega
 clear hord hl1 hb hs0 hr1 hc1 ht;refine(callsIn_wide (n:=5)).1 ?_;have hro:Fence.wide.round=none:=rfl;refine callsIn_of_wp_marks Tryz.func180 rfl trivial ?_ hro;simp only[Tryz.ntmps180,List.size_toArray,List.length_cons,List.length_nil,Nat.reduceAdd,Nat.reduceSub,Array.replicate_succ,Array.replicate_zero,List.push_toArray,List.append_toArray,List.nil_append,List.cons_append]
 gi_wp2_with fail
 refine⟨trivial,?_⟩;refine(callsIn_wide.2 (Y60.calls (l0.length+2) (some ad0) c0 l0 (some ad1) c1 l1 t _ ?side1 ?side2 ?side3 ?side4 HO.out)).mono ?_
 case side1=>exact Kd.C_alloc (Kd.C_alloc (Kd.V_reads' HS0.out).2.2 _) _
 case side2=>exact(Kd.V_reads' HS0.out).2.1
 case side3=>exact Kd.C_alloc (Kd.C_alloc HR1.out _) _
 case side4=>exact HC1.out
 rintro e w' ⟨rfl,⟨nd,rfl⟩⟩;have hmk: ∀W:World,(Instr.makeSlice 172 (.int .i64 (l0.length:Int)) (.int .i64 (l0.length:Int))).run Tryz.prog W= .ok (.slice (some ⟨W.heap.size,0,none⟩) l0.length l0.length) (W.alloc (.cells (madeCells #[.int .u64 0] l0.length) 156)):=by
  intro W;have h:=print_make_int (P:=Tryz.prog) 172 156 (.int .u64 0) 8 Tryz.underlying172 info156 rfl Z91 (l0.length:Int) Z92 (by simp;omega) W
  simpa using h
 gi_wp2_with fail
 refine⟨trivial,?_⟩;refine(back_in _ _ trivial hro _ _ _ _).mono ?_;rintro e w' ⟨rfl,rfl⟩
 gi_wp2_with fail
 have hcell0: ∀j,j<l0.length→w.cell? (ad0.add j)=some (.int .u64 (rd l0 (j:Int))):=fun j hj=>C_int_cell (Kd.V_reads' HS0.out).2.2 j hj
 have hcb:w.cell? ad1=some (.int .u64 b):=by
  have h:=C_int_cell HR1.out 0 (by rw[HL1.out];exact Nat.zero_lt_one);rw[show((0:Nat):Int)=0 from rfl,HB.out] at h;have e0:ad1.add 0=ad1:=by cases ad1;rfl
  rwa [e0] at h
 have hblk:ad0.block<w.heap.size:=by have:=cell_lt (hcell0 0 hne);rwa [add_block] at this
 have hblk1:ad1.block<w.heap.size:=cell_lt hcb;have hBel0:Below w.heap.size w (((((((w.alloc (.cells #[.slice (some ad1) l1.length c1] 172)).alloc (.cells #[.slice none 0 0] 172)).drewN nd).setCell ⟨w.heap.size+1,0,none⟩ (.slice (some ⟨w.heap.size+1+1,0,none⟩) l0.length l0.length)).alloc (.cells (madeCells #[.int .u64 0] l0.length) 156)).alloc (.cells #[.int .u64 0] 156)).alloc (.cells #[.slice (some ad0) l0.length c0] 172)):=
  by
   refine below_alloc (below_alloc (below_alloc (below_set (pw_below_drewN (below_alloc (below_alloc (Below.refl _ _) _) _) _) (Nat.le_succ _)) _) _) _
 have hW0:=hBel0;have f0:(((((((w.alloc (.cells #[.slice (some ad1) l1.length c1] 172)).alloc (.cells #[.slice none 0 0] 172)).drewN nd).setCell ⟨w.heap.size+1,0,none⟩ (.slice (some ⟨w.heap.size+1+1,0,none⟩) l0.length l0.length)).alloc (.cells (madeCells #[.int .u64 0] l0.length) 156)).alloc (.cells #[.int .u64 0] 156)).alloc (.cells #[.slice (some ad0) l0.length c0] 172)).heap[w.heap.size]? =some (.cells #[.slice (some ad1) l1.length c1] 172 (0,0)):=by
  refine blk_alloc (blk_alloc (blk_alloc (blk_far (blk_drewN (blk_alloc ?_ _) _) Z93 _) _) _) _;exact World.alloc_heap_new _ _
 have f1:(((((((w.alloc (.cells #[.slice (some ad1) l1.length c1] 172)).alloc (.cells #[.slice none 0 0] 172)).drewN nd).setCell ⟨w.heap.size+1,0,none⟩ (.slice (some ⟨w.heap.size+1+1,0,none⟩) l0.length l0.length)).alloc (.cells (madeCells #[.int .u64 0] l0.length) 156)).alloc (.cells #[.int .u64 0] 156)).alloc (.cells #[.slice (some ad0) l0.length c0] 172)).heap[w.heap.size+1]? =some (.cells #[.slice (some ⟨w.heap.size+1+1,0,none⟩) l0.length l0.length] 172 (0,0)):=by
  refine blk_alloc (blk_alloc (blk_alloc (blk_put (cs:=#[.slice none 0 0]) (blk_drewN ?_ _) 0 _ rfl) _) _) _;have:=World.alloc_heap_new (w.alloc (.cells #[.slice (some ad1) l1.length c1] 172)) (.cells #[.slice none 0 0] 172);simpa using this
 have f2:(((((((w.alloc (.cells #[.slice (some ad1) l1.length c1] 172)).alloc (.cells #[.slice none 0 0] 172)).drewN nd).setCell ⟨w.heap.size+1,0,none⟩ (.slice (some ⟨w.heap.size+1+1,0,none⟩) l0.length l0.length)).alloc (.cells (madeCells #[.int .u64 0] l0.length) 156)).alloc (.cells #[.int .u64 0] 156)).alloc (.cells #[.slice (some ad0) l0.length c0] 172)).heap[w.heap.size+1+1]? =some (.cells (madeCells #[.int .u64 0] l0.length) 156 (0,0)):=by
  refine blk_alloc (blk_alloc ?_ _) _;have:=World.alloc_heap_new ((((w.alloc (.cells #[.slice (some ad1) l1.length c1] 172)).alloc (.cells #[.slice none 0 0] 172)).drewN nd).setCell ⟨w.heap.size+1,0,none⟩ (.slice (some ⟨w.heap.size+1+1,0,none⟩) l0.length l0.length)) (.cells (madeCells #[.int .u64 0] l0.length) 156);simpa using this
 have f3:(((((((w.alloc (.cells #[.slice (some ad1) l1.length c1] 172)).alloc (.cells #[.slice none 0 0] 172)).drewN nd).setCell ⟨w.heap.size+1,0,none⟩ (.slice (some ⟨w.heap.size+1+1,0,none⟩) l0.length l0.length)).alloc (.cells (madeCells #[.int .u64 0] l0.length) 156)).alloc (.cells #[.int .u64 0] 156)).alloc (.cells #[.slice (some ad0) l0.length c0] 172)).heap[w.heap.size+1+1+1]? =some (.cells #[.int .u64 0] 156 (0,0)):=by
  refine blk_alloc ?_ _;have:=World.alloc_heap_new (((((w.alloc (.cells #[.slice (some ad1) l1.length c1] 172)).alloc (.cells #[.slice none 0 0] 172)).drewN nd).setCell ⟨w.heap.size+1,0,none⟩ (.slice (some ⟨w.heap.size+1+1,0,none⟩) l0.length l0.length)).alloc (.cells (madeCells #[.int .u64 0] l0.length) 156)) (.cells #[.int .u64 0] 156);simpa using this
 have f4:(((((((w.alloc (.cells #[.slice (some ad1) l1.length c1] 172)).alloc (.cells #[.slice none 0 0] 172)).drewN nd).setCell ⟨w.heap.size+1,0,none⟩ (.slice (some ⟨w.heap.size+1+1,0,none⟩) l0.length l0.length)).alloc (.cells (madeCells #[.int .u64 0] l0.length) 156)).alloc (.cells #[.int .u64 0] 156)).alloc (.cells #[.slice (some ad0) l0.length c0] 172)).heap[w.heap.size+1+1+1+1]? =some (.cells #[.slice (some ad0) l0.length c0] 172 (0,0)):=by
  have:=World.alloc_heap_new ((((((w.alloc (.cells #[.slice (some ad1) l1.length c1] 172)).alloc (.cells #[.slice none 0 0] 172)).drewN nd).setCell ⟨w.heap.size+1,0,none⟩ (.slice (some ⟨w.heap.size+1+1,0,none⟩) l0.length l0.length)).alloc (.cells (madeCells #[.int .u64 0] l0.length) 156)).alloc (.cells #[.int .u64 0] 156)) (.cells #[.slice (some ad0) l0.length c0] 172);simpa using this
 have hsz:w.heap.size+1+1+1+1< (((((((w.alloc (.cells #[.slice (some ad1) l1.length c1] 172)).alloc (.cells #[.slice none 0 0] 172)).drewN nd).setCell ⟨w.heap.size+1,0,none⟩ (.slice (some ⟨w.heap.size+1+1,0,none⟩) l0.length l0.length)).alloc (.cells (madeCells #[.int .u64 0] l0.length) 156)).alloc (.cells #[.int .u64 0] 156)).alloc (.cells #[.slice (some ad0) l0.length c0] 172)).heap.size:=(Array.getElem?_eq_some_iff.1 f4).1;clear hmk;generalize (((((((w.alloc (.cells #[.slice (some ad1) l1.length c1] 172)).alloc (.cells #[.slice none 0 0] 172)).drewN nd).setCell ⟨w.heap.size+1,0,none⟩ (.slice (some ⟨w.heap.size+1+1,0,none⟩) l0.length l0.length)).alloc (.cells (madeCells #[.int .u64 0] l0.length) 156)).alloc (.cells #[.int .u64 0] 156)).alloc (.cells #[.slice (some ad0) l0.length c0] 172))=W0 at hBel0 hW0 f0 f1 f2 f3 f4 hsz⊢;have hst:=back_stops Fence.wide 4 trivial hro Z92 (w.heap.size+1+1+1+1) w.heap.size ad0 c0 l0 Z92 hblk W0 hsz hW0.size f4 (fun j hj=>(hW0.cell (p:=ad0.add j) (by rw[add_block];exact hblk)).trans (hcell0 j hj));refine wpIn_rangeFunc_ownG hro Z92 (gf:=232) (lb:=#[.pointer (some ⟨w.heap.size+1+1+1+1,0,none⟩)]) rfl trivial (enters_of Tryz.func232 Z90 rfl) hst
  (fun h k=>KpB.t h k) (fun W l o o'=>KpB.b hW0.size hsz W l o o') (Below.refl _ _) (fun _=>rfl)
  (fun pre W=>W.heap[w.heap.size]? =some (.cells #[.slice (some ad1) l1.length c1] 172 (0,0))∧W.heap[w.heap.size+1]? =some (.cells #[.slice (some ⟨w.heap.size+1+1,0,none⟩) l0.length l0.length] 172 (0,0))∧W.heap[w.heap.size+1+1]? =some (.cells ((qf b l0 pre).1.map (Value.int .u64)).toArray 156 (0,0))∧W.heap[w.heap.size+1+1+1]? =some (.cells #[.int .u64 (qf b l0 pre).2] 156 (0,0))∧Below w.heap.size w W)
  (fun _ _ _=>False)
  (fun s A B row hs hg hr=> ⟨heap_kept hs.1 hg (fun r e=>(hr r e).2),heap_kept hs.2.1 hg (fun r e=>(hr r e).2),heap_kept hs.2.2.1 hg (fun r e=>(hr r e).2),heap_kept hs.2.2.2.1 hg (fun r e=>(hr r e).2),ownFrom_below (β:=Unit) (Nat.le_refl _) hW0.size () A B row hs.2.2.2.2 hg hr⟩)
  (fun _ _ _ _ _ hs _ _=>hs)
  ⟨f0,f1,?_,f3,hBel0⟩
  (fun x=>{tmps:=#[.slice (some ad0) l0.length c0,.slice (some ad1) l1.length c1,undef,.pointer (some ⟨w.heap.size,0,none⟩),.pointer (some ⟨w.heap.size+1,0,none⟩),.slice none 0 0,.pointer (some ⟨w.heap.size+1+1+1,0,none⟩),.int .i64 (x.val:Int),.int .u64 (rd l0 (x.val:Int)),undef,undef,undef,undef,undef,.slice (some ad0) l0.length c0,.slice (some ad1) l1.length c1,.int .i64 t,.bool false,undef,.slice (some ad1) l1.length c1,.int .i64 (l1.length:Int),.bool true,.slice (some ad0) l0.length c0,.int .i64 (l0.length:Int),.slice (some ⟨w.heap.size+1+1,0,none⟩) l0.length l0.length,.slice (some ad0) l0.length c0,.func (.func 232) #[] #[.pointer (some ⟨w.heap.size+1+1+1+1,0,none⟩)],.int .i64 (x.val:Int),.int .u64 (rd l0 (x.val:Int)),undef,undef,undef,undef,undef,undef,undef,undef,undef,undef,undef,undef,undef,undef,undef,undef,undef,undef,undef,undef,undef,undef,undef,undef,undef,undef,undef,undef,undef,undef,undef,undef,undef,undef,undef,undef,undef,undef,undef,undef,undef,undef,undef,undef,undef,undef,undef,undef,undef,undef,undef,undef,undef,undef,undef,undef,undef,undef,undef,undef,undef,undef,undef,undef,undef,undef,undef,undef,undef,undef,undef,undef,undef,undef,undef,undef,undef,undef,undef,undef,undef,undef,undef,undef,undef,undef,undef,undef,undef,undef,undef,undef,undef,undef,undef,undef,undef,undef,undef,undef,undef,undef,undef,undef,undef,undef,undef,undef,undef,undef,undef,undef,undef,undef,undef,undef,undef],defers:=[]}) ?assign ?body ?done ?stop
 ·rw[f2];have e:madeCells #[.int .u64 0] l0.length= ((qf b l0 []).1.map (Value.int .u64)).toArray:=by
   apply Array.ext (by simp[madeCells,qf]);intro i h1 h2;simp[madeCells,qf,Nat.mod_one]
  rw[e]
 case assign=>
  intro l x W K hK
  gi_wp2
  exact hK
 case body=>
  rintro l pre x W ⟨g0,g1,g2,g3,hB⟩ hlt;obtain⟨hr0,hrb⟩ :=qf_rest_any b hb0 l0 pre;have hln:=qf_length b l0 pre;obtain⟨hv0,hvB⟩ :=okP_rd hok x.val x.isLt;have HQ:=Aside0.mk (qf_snoc b l0 pre x)
  revert g2 g3 hr0 hrb hln HQ
  generalize (qf b l0 pre).1=Q;generalize (qf b l0 pre).2=R;generalize hrd:rd l0 (x.val:Int)=v at hv0 hvB⊢;intro g2 g3 hr0 hrb hln HQ;have hxl:=x.isLt;generalize hxi:x.val=i at hxl hrd HQ⊢;have c0f:=(blk_cell g0 0).trans rfl;have c1f:=(blk_cell g1 0).trans rfl;have c3f:=(blk_cell g3 0).trans rfl;have f3f:=blk_frozen g3 0;have cbf:W.cell? ad1=some (.int .u64 b):=(hB.cell hblk1).trans hcb;have hw1:IntKind.u64.wrap (R * 1000000000)=R * 1000000000:=by rw[IntKind.wrap_u64];omega
  have hw2:IntKind.u64.wrap (R * 1000000000+v)=R * 1000000000+v:=by rw[IntKind.wrap_u64];omega
  gi_wp2
  clear c0f c1f c3f f3f cbf;have k0:KeepsFrom W0.heap.size W (W.setCell ⟨w.heap.size+1+1+1,0,none⟩ (.int .u64 (R * 1000000000+v))):=(KeepsOthers.setCell _ _ _).from _;have k1:KpB w.heap.size (w.heap.size+1+1+1+1) W (W.setCell ⟨w.heap.size+1+1+1,0,none⟩ (.int .u64 (R * 1000000000+v))):= ⟨(Below.refl _ _).setCell (p:= ⟨w.heap.size+1+1+1,0,none⟩) (by show w.heap.size≤w.heap.size+1+1+1;omega) _,Below.heap_setCell _ _ _ _ Z93⟩
  have e0:=blk_far g0 (p:= ⟨w.heap.size+1+1+1,0,none⟩) (by simp;omega) (.int .u64 (R * 1000000000+v));have e1:=blk_far g1 (p:= ⟨w.heap.size+1+1+1,0,none⟩) Z93 (.int .u64 (R * 1000000000+v));have e2:=blk_far g2 (p:= ⟨w.heap.size+1+1+1,0,none⟩) Z93 (.int .u64 (R * 1000000000+v));have e3:=blk_put g3 (cs':=#[.int .u64 (R * 1000000000+v)]) 0 (.int .u64 (R * 1000000000+v)) rfl;have eB:=hB.setCell (p:= ⟨w.heap.size+1+1+1,0,none⟩) (by show w.heap.size≤w.heap.size+1+1+1;omega) (.int .u64 (R * 1000000000+v));generalize hW1:W.setCell ⟨w.heap.size+1+1+1,0,none⟩ (.int .u64 (R * 1000000000+v))=W1 at k0 k1 e0 e1 e2 e3 eB⊢;generalize hS:R * 1000000000+v=S at e3 HQ;have hS0:0≤S:=by omega
  have hSB:S<18446744073709551616:=by omega
  have hd0:0≤S / b:=Int.ediv_nonneg hS0 Z92;have hdS:S / b≤S:=Int.ediv_le_self b hS0;have c0f:W1.cell? ⟨w.heap.size,0,none⟩ =some (.slice (some ad1) l1.length c1):=(blk_cell e0 0).trans rfl;have c1f:W1.cell? ⟨w.heap.size+1,0,none⟩ =some (.slice (some ⟨w.heap.size+1+1,0,none⟩) l0.length l0.length):=(blk_cell e1 0).trans rfl;have c3f:W1.cell? ⟨w.heap.size+1+1+1,0,none⟩ =some (.int .u64 S):=(blk_cell e3 0).trans rfl;have f3f:=blk_frozen e3 0;have c2f:W1.cell? ⟨w.heap.size+1+1,i,none⟩ =some (.int .u64 (Q.getD i 0)):=(blk_cell e2 i).trans (by simp[hln,hxl]);have f2f:=blk_frozen e2 i;have cbf:W1.cell? ad1=some (.int .u64 b):=(eB.cell hblk1).trans hcb;clear g0 g1 g2 g3 hB;rw[HL1.out] at c0f;have W2s:W1.drew.heap[w.heap.size+1+1]? =some (.cells (Q.map (Value.int .u64)).toArray 156 (0,0)):=blk_drew e2;have d0:=blk_far (blk_drew e0) (p:= ⟨w.heap.size+1+1,i,none⟩) (by show w.heap.size≠w.heap.size+1+1;omega) (.int .u64 (S / b));have d1:=blk_far (blk_drew e1) (p:= ⟨w.heap.size+1+1,i,none⟩) (by show w.heap.size+1≠w.heap.size+1+1;omega) (.int .u64 (S / b));have d2:=blk_put W2s (cs':=((Q.set i (S / b)).map (Value.int .u64)).toArray) i (.int .u64 (S / b)) Z93;have d3:=blk_far (blk_drew e3) (p:= ⟨w.heap.size+1+1,i,none⟩) (by show w.heap.size+1+1+1≠w.heap.size+1+1;omega) (.int .u64 (S / b));have dB:=(show Below w.heap.size w W1.drew from pw_below_drewN eB 1).setCell (p:= ⟨w.heap.size+1+1,i,none⟩) (by show w.heap.size≤w.heap.size+1+1;omega) (.int .u64 (S / b));have k2:KeepsFrom W0.heap.size W (W1.drew.setCell ⟨w.heap.size+1+1,i,none⟩ (.int .u64 (S / b))):=k0.trans (((KeepsOthers.drew _).trans (KeepsOthers.setCell _ _ _)).from _);have k3:KpB w.heap.size (w.heap.size+1+1+1+1) W (W1.drew.setCell ⟨w.heap.size+1+1,i,none⟩ (.int .u64 (S / b))):=KpB.t k1 ⟨(show Below w.heap.size W1 W1.drew from pw_below_drewN (Below.refl _ _) 1).setCell (p:= ⟨w.heap.size+1+1,i,none⟩) (by show w.heap.size≤w.heap.size+1+1;omega) _,Below.heap_setCell _ _ _ _ (by show _≠w.heap.size+1+1;omega)⟩;generalize hW2:W1.drew.setCell ⟨w.heap.size+1+1,i,none⟩ (.int .u64 (S / b))=W2 at d0 d1 d2 d3 dB k2 k3;refine wpIn_plan (fun _=>trivial) 14 13 (w1:=W2) [(some 33,(.slice (some ⟨w.heap.size+1+1,0,none⟩) l0.length l0.length:Value)),(some 34,(.int .i64 (i:Int):Value)),(some 35,(.int .u64 S:Value)),(some 36,(.slice (some ad1) 1 c1:Value)),(some 37,(.pointer (some ad1):Value)),(some 38,(.int .u64 b:Value)),(some 39,(.int .u64 (S / b):Value)),(some 40,(.int .u64 S:Value)),(some 41,(.slice (some ad1) 1 c1:Value)),(some 42,(.pointer (some ad1):Value)),(some 43,(.int .u64 b:Value)),(some 44,(.int .u64 (S % b):Value)),(some 45,(.pointer (some ⟨w.heap.size+1+1,i,none⟩):Value)),(none,(undef:Value))] Z90 Z90 Z91 Z90 ?_ ?_
  ·generalize hAct:putAll _ _=A;have h3:A.eval (.tmp 3)= .pointer (some ⟨w.heap.size,0,none⟩):=by rw[←hAct];kernel_rfl
   have h4:A.eval (.tmp 4)= .pointer (some ⟨w.heap.size+1,0,none⟩):=by rw[←hAct];kernel_rfl
   have h6:A.eval (.tmp 6)= .pointer (some ⟨w.heap.size+1+1+1,0,none⟩):=by rw[←hAct];kernel_rfl
   have h7:A.eval (.tmp 7)= .int .i64 (i:Int):=by rw[←hAct];kernel_rfl
   have h33:A.eval (.tmp 33)= .slice (some ⟨w.heap.size+1+1,0,none⟩) l0.length l0.length:=by rw[←hAct];kernel_rfl
   have h34:A.eval (.tmp 34)= .int .i64 (i:Int):=by rw[←hAct];kernel_rfl
   have h35:A.eval (.tmp 35)= .int .u64 S:=by rw[←hAct];kernel_rfl
   have h36:A.eval (.tmp 36)= .slice (some ad1) 1 c1:=by rw[←hAct];kernel_rfl
   have h37:A.eval (.tmp 37)= .pointer (some ad1):=by rw[←hAct];kernel_rfl
   have h38:A.eval (.tmp 38)= .int .u64 b:=by rw[←hAct];kernel_rfl
   have h39:A.eval (.tmp 39)= .int .u64 (S / b):=by rw[←hAct];kernel_rfl
   have h40:A.eval (.tmp 40)= .int .u64 S:=by rw[←hAct];kernel_rfl
   have h41:A.eval (.tmp 41)= .slice (some ad1) 1 c1:=by rw[←hAct];kernel_rfl
   have h42:A.eval (.tmp 42)= .pointer (some ad1):=by rw[←hAct];kernel_rfl
   have h43:A.eval (.tmp 43)= .int .u64 b:=by rw[←hAct];kernel_rfl
   have h44:A.eval (.tmp 44)= .int .u64 (S % b):=by rw[←hAct];kernel_rfl
   have h45:A.eval (.tmp 45)= .pointer (some ⟨w.heap.size+1+1,i,none⟩):=by rw[←hAct];kernel_rfl
   clear hAct;have z0:W2.cell? ⟨w.heap.size,0,none⟩ =some (.slice (some ad1) 1 c1):=(blk_cell d0 0).trans (by rw[HL1.out];rfl);have z1:W2.cell? ⟨w.heap.size+1,0,none⟩ =some (.slice (some ⟨w.heap.size+1+1,0,none⟩) l0.length l0.length):=(blk_cell d1 0).trans rfl;have z3:W2.cell? ⟨w.heap.size+1+1+1,0,none⟩ =some (.int .u64 S):=(blk_cell d3 0).trans rfl;have zb:W2.cell? ad1=some (.int .u64 b):=(dB.cell hblk1).trans hcb;have c0d:W1.drew.cell? ⟨w.heap.size,0,none⟩ =some (.slice (some ad1) 1 c1):=c0f;have c1d:W1.drew.cell? ⟨w.heap.size+1,0,none⟩ =some (.slice (some ⟨w.heap.size+1+1,0,none⟩) l0.length l0.length):=c1f;have c3d:W1.drew.cell? ⟨w.heap.size+1+1+1,0,none⟩ =some (.int .u64 S):=c3f;have cbd:W1.drew.cell? ad1=some (.int .u64 b):=cbf;have c2d:W1.drew.cell? ⟨w.heap.size+1+1,i,none⟩ =some (.int .u64 (Q.getD i 0)):=c2f;have f2d:W1.drew.frozen? ⟨w.heap.size+1+1,i,none⟩ =false:=f2f;refine⟨⟨fun _ b=>match b with|false=>op_load172 h4 c1d|true=>op_load172 h4 z1,fun h=>absurd h Z91⟩,
    ⟨fun _ b=>match b with|false=>op_move h7|true=>op_move h7,fun h=>absurd h Z91⟩,
    ⟨fun _ b=>match b with|false=>op_load156 h6 c3d|true=>op_load156 h6 z3,fun h=>absurd h Z91⟩,
    ⟨fun _ b=>match b with|false=>op_load172 h3 c0d|true=>op_load172 h3 z0,fun h=>absurd h Z91⟩,
    ⟨fun _ b=>match b with|false=>op_idx0 h36 rfl Nat.zero_lt_one|true=>op_idx0 h36 rfl Nat.zero_lt_one,fun h=>absurd h Z91⟩,
    ⟨fun _ b=>match b with|false=>op_load156 h37 cbd|true=>op_load156 h37 zb,fun h=>absurd h Z91⟩,
    ⟨fun _ b=>match b with|false=>op_quo h35 h38 hS0 hSB hb0|true=>op_quo h35 h38 hS0 hSB hb0,fun h=>absurd h Z91⟩,
    ⟨fun _ b=>match b with|false=>op_load156 h6 c3d|true=>op_load156 h6 z3,fun h=>absurd h Z91⟩,
    ⟨fun _ b=>match b with|false=>op_load172 h3 c0d|true=>op_load172 h3 z0,fun h=>absurd h Z91⟩,
    ⟨fun _ b=>match b with|false=>op_idx0 h41 rfl Nat.zero_lt_one|true=>op_idx0 h41 rfl Nat.zero_lt_one,fun h=>absurd h Z91⟩,
    ⟨fun _ b=>match b with|false=>op_load156 h42 cbd|true=>op_load156 h42 zb,fun h=>absurd h Z91⟩,
    ⟨fun _ b=>match b with|false=>op_rem h40 h43 hS0 hSB hb0|true=>op_rem h40 h43 hS0 hSB hb0,fun h=>absurd h Z91⟩,
    ⟨fun _ b=>match b with|false=>op_idx h33 h34 hxl|true=>op_idx h33 h34 hxl,fun h=>absurd h Z91⟩,
    ⟨fun h=>absurd rfl h,fun _=> ⟨by rw[←hW2];exact op_store156 h45 h39 c2d f2d,rfl⟩⟩,trivial⟩
  ·have z3:W2.cell? ⟨w.heap.size+1+1+1,0,none⟩ =some (.int .u64 S):=(blk_cell d3 0).trans rfl;have g3:W2.frozen? ⟨w.heap.size+1+1+1,0,none⟩ =false:=blk_frozen d3 0;refine wpAnyIn_last (w1:=W2.setCell ⟨w.heap.size+1+1+1,0,none⟩ (.int .u64 (S % b))) (i:=14) (fun _=>trivial) Z90 Z90 rfl rfl (fun _ h=>by simp at h) rfl (op_store156 Z90 Z90 z3 g3) Z90 ?_;refine⟨k2.trans ((KeepsOthers.setCell _ _ _).from _),KpB.t k3 ⟨(Below.refl _ _).setCell (p:= ⟨w.heap.size+1+1+1,0,none⟩) (by show w.heap.size≤w.heap.size+1+1+1;omega) _,Below.heap_setCell _ _ _ _ (by show _≠w.heap.size+1+1+1;omega)⟩,?_⟩;dsimp only;rw[HQ.out];exact⟨blk_far d0 (p:= ⟨w.heap.size+1+1+1,0,none⟩) (by show w.heap.size≠w.heap.size+1+1+1;omega) _,blk_far d1 (p:= ⟨w.heap.size+1+1+1,0,none⟩) (by show w.heap.size+1≠w.heap.size+1+1+1;omega) _,blk_far d2 (p:= ⟨w.heap.size+1+1+1,0,none⟩) (by show w.heap.size+1+1≠w.heap.size+1+1+1;omega) _,blk_put d3 0 _ rfl,dB.setCell (p:= ⟨w.heap.size+1+1+1,0,none⟩) (by show w.heap.size≤w.heap.size+1+1+1;omega) _⟩
 case done=>
  rintro D ys W hD rfl ⟨g0,g1,g2,g3,hB⟩ hK;rw[qf_all] at g2 g3;have hdl:(div1 b l0).1.length=l0.length:=by rw[←qf_all];exact qf_length _ _ _
  gi_wp2_with fail
  refine region11 (nb:=w.heap.size) (B1:=w.heap.size+1) (B2:=w.heap.size+1+1) (B3:=w.heap.size+1+1+1) (n:=l0.length) (xs:=(div1 b l0).1) (R:=(div1 b l0).2) Z90 Z90 Z90 hdl (by simp only[maxLen];omega) g1 g2 g3 Z92 Z92 hq hr ⟨_,_,rfl⟩ ⟨_,_,rfl⟩ ⟨_,_,rfl⟩ ⟨_,_,rfl⟩ ⟨_,_,rfl⟩ ⟨_,_,rfl⟩ ⟨_,_,rfl⟩ Z90 Z90 Z90 Z90 Z90 Z90 Z90 Z90 Z90 Z90 Z90 Z90 Z90 ?_;rintro⟨at_,ad_⟩ W3 v0 v1 t4 t5 hdf hb1 hV0 hV1 hsz3 hkeep;dsimp only at t4 t5 hdf;subst hdf
  gi_wp2_with fail
  have hDs:D<W.heap.size:=(Array.getElem?_eq_some_iff.1 hK).1;have hBs:w.heap.size+1+1+1<W.heap.size:=(Array.getElem?_eq_some_iff.1 g3).1;have hK3:W3.heap[D]? =some (.deferred (some [])):=(hkeep D hDs Z92).trans hK;have hne3:w.heap.size+1≠D:=by omega
  refine⟨Z93,.inl ⟨_,_,rfl,run_takeDeferred hK3,?_⟩⟩;have hput: ∀k,k≠D→(W3.putObj D (.deferred none)).heap[k]? =W3.heap[k]?:=fun k hk=>World.putObj_heap_other hk
  refine⟨_,results_ct1 rfl _ _ (w.heap.size+1) 172 v0 _ 156 t4 ((hput _ hne3).trans hb1) Z90,v0,v1,by rw[t5],?_,?_,?_⟩
  ·refine Kd.V_mono (Kd.V_step hV0 (fun k hk _=>hput k (by rcases hk with rfl|hk <;> omega))) (fun k hk=> .inr (by rcases hk with rfl|hk <;> omega))
  ·refine Kd.V_mono (Kd.V_step hV1 (fun k hk _=>hput k Z92)) (fun k hk=> .inr Z92)
  ·exact(hB.trans hsz3).trans (belowK_b (w:=w) (Nat.le_refl _) W3 D _ _ Z92 hK3 rfl rfl)
 case stop=>
  rintro D c pre W _ _ h _;exact h.elim
theorem divide1_lt (P0_:Nat→Prop) (A0:Option Addr) (c0:Nat) (l0:List Int) (A1:Option Addr) (c1:Nat) (l1:List Int) (w:World) (t:Int)
  (hs0:Kd.V (Kd.int .u64) 156 w w.heap.size (fun k_=>P0_ k_) (.slice A0 l0.length c0) l0) (hr1:Kd.C (Kd.int .u64) w A1 l1.length l1) (hc1:l1.length≤c1)
  (hord:Y60.f (l0.length+2) l0 l1=some t) (ht:t<0):
  Calls Tryz.prog 180 #[.slice A0 l0.length c0,.slice A1 l1.length c1] w fun e w'=> ∃v0_ v1_:Value,e= .returned (.tuple #[v0_,v1_])∧Kd.V (Kd.int .u64) 156 w' w.heap.size (fun k_=>(P0_ k_∨w.heap.size≤k_)) v0_ []∧Kd.V (Kd.int .u64) 156 w' w.heap.size (fun k_=>(P0_ k_∨w.heap.size≤k_)) v1_ l0∧Below w.heap.size w w':=by
 have HO:=Aside0.mk hord;have HS0:=Aside0.mk hs0;have HR1:=Aside0.mk hr1;have HC1:=Aside0.mk hc1;have htb:decide (t<0)=true:=decide_eq_true ht;clear hord hs0 hr1 hc1;refine(callsIn_wide (n:=5)).1 ?_;have hro:Fence.wide.round=none:=rfl;refine callsIn_of_wp_marks Tryz.func180 rfl trivial ?_ hro;simp only[Tryz.ntmps180,List.size_toArray,List.length_cons,List.length_nil,Nat.reduceAdd,Nat.reduceSub,Array.replicate_succ,Array.replicate_zero,List.push_toArray,List.append_toArray,List.nil_append,List.cons_append]
 gi_wp2_with fail
 refine⟨trivial,?_⟩;refine(callsIn_wide.2 (Y60.calls (l0.length+2) A0 c0 l0 A1 c1 l1 t _ ?side1 ?side2 ?side3 ?side4 HO.out)).mono ?_
 case side1=>exact Kd.C_alloc (Kd.C_alloc (Kd.V_reads' HS0.out).2.2 _) _
 case side2=>exact(Kd.V_reads' HS0.out).2.1
 case side3=>exact Kd.C_alloc (Kd.C_alloc HR1.out _) _
 case side4=>exact HC1.out
 rintro e w' ⟨rfl,⟨nd,rfl⟩⟩
 gi_wp2_with fail
 have e1:((((w.alloc (.cells #[.slice A1 l1.length c1] 172)).alloc (.cells #[.slice none 0 0] 172)).drewN nd).setCell ⟨w.heap.size+1,0,none⟩ (.slice none 0 0)).heap[w.heap.size+1]? =some (.cells #[.slice none 0 0] 172 (0,0)):=by
  refine blk_put (cs:=#[.slice none 0 0]) (blk_drewN ?_ _) 0 _ rfl;have:=World.alloc_heap_new (w.alloc (.cells #[.slice A1 l1.length c1] 172)) (.cells #[.slice none 0 0] 172);simpa using this
 have hB:Below w.heap.size w ((((w.alloc (.cells #[.slice A1 l1.length c1] 172)).alloc (.cells #[.slice none 0 0] 172)).drewN nd).setCell ⟨w.heap.size+1,0,none⟩ (.slice none 0 0)):=below_set (pw_below_drewN (below_alloc (below_alloc (Below.refl _ _) _) _) _) (Nat.le_succ _);refine⟨_,results_ct1 rfl _ _ (w.heap.size+1) 172 (.slice none 0 0) _ 156 Z90 e1 Z90,.slice none 0 0,.slice A0 l0.length c0,rfl,Kd.V_nil _ _ _ _ _,?_,hB⟩;exact Kd.V_mono (Kd.V_below HS0.out hB) (fun _ h=> .inl h)
theorem Y39.calls (P0_:Nat→Prop) (A0:Option Addr) (c0:Nat) (l0:List Int) (A1:Option Addr) (c1:Nat) (l1:List Int) (r1:List Int) (r2:List Int) (w:World) (hs0:Kd.V (Kd.int .u64) 156 w w.heap.size (fun k_=>P0_ k_) (.slice A0 l0.length c0) l0) (hr1:Kd.C (Kd.int .u64) w A1 l1.length l1) (hc1:l1.length≤c1) (h:Y39.f l0 l1=some (r1,r2)):
  Calls Tryz.prog 180 #[.slice A0 l0.length c0,.slice A1 l1.length c1] w fun e w'=> ∃v0_ v1_:Value,e= .returned (.tuple #[v0_,v1_])∧Kd.V (Kd.int .u64) 156 w' w.heap.size (fun k_=>(P0_ k_∨w.heap.size≤k_)) v0_ r1∧Kd.V (Kd.int .u64) 156 w' w.heap.size (fun k_=>(P0_ k_∨w.heap.size≤k_)) v1_ r2∧Below w.heap.size w w':=by
 match l1,hr1,hc1,h with
 | [b],hr1,hc1,h=>
  simp only[Y39.f] at h;split at h
  ·rename_i hcond
   obtain⟨hb0,hbB,hok,hlen⟩ :=hcond;cases hord:Y60.f (l0.length+2) l0 [b] with
   |none=>rw[hord] at h;simp at h
   |some t=>
    rw[hord] at h;simp only at h;split at h
    ·rename_i ht
     obtain⟨rfl,rfl⟩ :[]=r1∧l0=r2:=by simpa using h
     exact divide1_lt P0_ A0 c0 l0 A1 c1 [b] w t hs0 hr1 hc1 hord ht
    ·rename_i ht
     split at h
     ·simp at h
     ·rename_i hne
      have hpos:0<l0.length:=List.length_pos_iff.2 hne;obtain⟨ad0,_,rfl,_⟩ :=Kd.C_get (Kd.V_reads' hs0).2.2 0 0 Z92 Z92;obtain⟨ad1,_,rfl,_⟩ :=Kd.C_get hr1 0 0 Z92 Z93;cases hq:Y72.f (l0.length+1) (div1 b l0).1 with
      |none=>rw[hq] at h;simp at h
      |some q=>
       cases hr:Y72.f 2 [(div1 b l0).2] with
       |none=>rw[hq,hr] at h;simp at h
       |some r=>
        rw[hq,hr] at h;obtain⟨rfl,rfl⟩ :q=r1∧r=r2:=by simpa using h
        exact divide1_gen P0_ ad0 c0 l0 ad1 c1 [b] b q r w t hs0 hr1 hc1 rfl rfl hb0 hbB hok hlen hpos hord ht hq hr
  ·simp at h
end Go.Proofs.YtnfgokmecllpbaaGreatDoor.Print
end
section
namespace Go.Proofs.YtnfgokmecllpbaaGreatDoor.Print
open Go.RowKit Go.Sort Go.Lib Go.Proofs.YtnfgokmecllpbaaGreatDoorW.PrintWords Go.Proofs.YtnfgokmecllpbaaGreatDoorW.PrintLast Go.Proofs.YtnfgokmecllpbaaGreatDoorW.PrintMore
theorem fu_holds (w:World) (T:TypeId) (nd:Nat) (hs:nd≤24):Holds (fun(b:UInt8)=>Value.int .u8 (b.toNat:Int)) (w.alloc (.cells Lib.zeros24 T)) w.heap.size 0 (Array.replicate nd (0:UInt8)):=fun j hj=>by
 have hj':j<nd:=by simpa using hj
 refine⟨?_,World.frozen?_alloc_new _ _ _ _⟩;rw[World.cell?_alloc_new,Nat.zero_add,Lib.zeros24_at _ Z92,getElem!_pos _ j hj];simp
theorem strconv_FormatUint_233 (u:Nat) (hu64:u<18446744073709551616) (w:World) (htab:Lib.TabIs Tryz.prog w "internal/strconv.uint64pow10" .u64 Lib.pow10Tab):
  Calls Tryz.prog 233 #[.int .u64 u,.int .i64 10] w fun e w'=>e= .returned (.string ⟨(Lib.decDigits u).toArray⟩)∧Below w.heap.size w w':=by
 by_cases hs:u<100
 ·have hsi:decide ((u:Int)<100)=true:=decide_eq_true Z92;have hw:IntKind.i64.wrap (u:Int)= (u:Int):=by rw[IntKind.wrap_i64];omega
  go_enter Tryz.func233,Tryz.ntmps233
  go_wp2_with(go_at_call 227;refine(Tryz.internal_strconv_small u hs _).mono ?_;rintro e w' ⟨rfl,rfl⟩)
  go_ret
  exact⟨rfl,Below.refl _ _⟩
 ·have hu1:1≤u:=by omega
  have hnd20:Lib.nDigits u≤20:=by have:=Lib.numDigits_eq u hu1 hu64;split at this <;> omega
  have hb3:Lib.nDigits u≤24:=by omega
  have hns: ¬(u:Int)<100:=by omega
  have hal:Tryz.prog.arrayLen 216=24:=by kernel_rfl
  have hsl1: ∀W,(Instr.sliceAt 216 (.pointer (some ⟨w.heap.size,0,none⟩)) none (some (.int .i64 (Lib.nDigits u:Int))) none).run Tryz.prog W= .ok (.slice (some ⟨w.heap.size,0,none⟩) (Lib.nDigits u) 24) W:=fun W=>by
   rw[run_sliceAt_array_h W 216 ⟨w.heap.size,0,none⟩ Z90 .i64 (Lib.nDigits u:Int) Z92 (by rw[hal];omega)];go_simp
  have hH0:=fu_holds w 216 (Lib.nDigits u) Z92;have hfmt:=Tryz.internal_strconv_formatBase10 w.heap.size 0 24 u (Array.replicate (Lib.nDigits u) 0) (w.alloc (.cells Lib.zeros24 216)) hH0 (by rw[Array.size_replicate];exact Lib.lt_pow_nDigits u) hu64 (by rw[Array.size_replicate];omega);rw[Array.size_replicate] at hfmt;have HH0:=Lib.hid hH0;clear hH0 hal;go_enter Tryz.func233,Tryz.ntmps233
  go_wp2_with(first
   | (go_at_call 228;refine(Tryz.internal_strconv_numDigits u hu1 hu64 _ (Lib.tabIs_alloc htab _)).mono ?_;rintro e w' ⟨rfl,rfl⟩))
  go_at_call 229
  refine hfmt.mono ?_;rintro e w' ⟨rfl,k,v',dk,rfl,hF⟩;have hcv:(convert 22 9 (.slice (some ⟨w.heap.size,0,none⟩) (Lib.nDigits u) 24)).run Tryz.prog ((putRow (fun(b:UInt8)=>Value.int .u8 (b.toNat:Int)) (w.alloc (.cells Lib.zeros24 216)) w.heap.size 0 dk).drewN k)= .ok (.string ⟨(Lib.decDigits u).toArray⟩) ((putRow (fun(b:UInt8)=>Value.int .u8 (b.toNat:Int)) (w.alloc (.cells Lib.zeros24 216)) w.heap.size 0 dk).drewN k):=by
   have h:=run_convert_bytes_back (P:=Tryz.prog) ((putRow (fun(b:UInt8)=>Value.int .u8 (b.toNat:Int)) (w.alloc (.cells Lib.zeros24 216)) w.heap.size 0 dk).drewN k) 22 9 5 ⟨w.heap.size,0,none⟩ 24 (Lib.decDigits u) Tryz.underlying22 Tryz.underlying5 Tryz.underlying9 (fun j hj=>by
    rw[Lib.row_is_numeral hF j hj,Lib.add_plain,World.cell?_drewN];exact cell?_putRow (fun(b:UInt8)=>Value.int .u8 (b.toNat:Int)) _ w.heap.size 0 _ dk HH0.out (by rw[hF.size,Array.size_replicate]) j (by rw[hF.size];rw[Lib.decDigits_length] at hj;exact hj))
   rw[Lib.decDigits_length] at h;exact h
  go_wp2
  go_ret
  obtain⟨os,eo⟩ :=Lib.fin_at w (.cells Lib.zeros24 216) dk k 0;exact⟨rfl,by rw[eo];exact Lib.below_grow _ _ (Nat.le_refl _) _ _⟩
theorem strconv_FormatUint_215 (u:Nat) (hu64:u<18446744073709551616) (w:World) (htab:Lib.TabIs Tryz.prog w "internal/strconv.uint64pow10" .u64 Lib.pow10Tab):
  Calls Tryz.prog 215 #[.int .u64 u,.int .i64 10] w fun e w'=>e= .returned (.string ⟨(Lib.decDigits u).toArray⟩)∧Below w.heap.size w w':=by
 go_enter Tryz.func215,Tryz.ntmps215
 go_wp2_with(go_at_call 233;refine(strconv_FormatUint_233 u hu64 _ htab).mono ?_;rintro e w' ⟨rfl,hb⟩)
 go_ret
 exact⟨rfl,hb⟩
end Go.Proofs.YtnfgokmecllpbaaGreatDoor.Print
end
section
namespace Go.Proofs.YtnfgokmecllpbaaGreatDoor.Print
open Go.RowKit Go.Shelf Go.Proofs.YtnfgokmecllpbaaGreatDoorW.PrintWords Go.Proofs.YtnfgokmecllpbaaGreatDoorW.PrintLast Go.Proofs.YtnfgokmecllpbaaGreatDoorW.PrintMore
theorem bld_fresh (b:Nat) (w:World) (h0:w.cell? ⟨b,0,none⟩ =some (.pointer none)) (hsh:w.shape? b=some (112,2)) (hf:w.frozen? ⟨b,0,none⟩ =false):
  Calls Tryz.prog 160 #[.pointer (some ⟨b,0,none⟩)] w fun e w'=>e= .returned (.tuple #[])∧w'=w.setCell ⟨b,0,none⟩ (.pointer (some ⟨b,0,none⟩)):=by
 have hsz:(Tryz.prog.info? 112).map (·.size)=some 2:=by kernel_rfl
 obtain⟨j,hj,hjs⟩ :=Option.map_eq_some_iff.1 hsz;go_enter Tryz.func160,Tryz.ntmps160
 go_wp2
 rw[Lib.run_to_unsafe w ⟨b,0,none⟩ Tryz.underlying110 Tryz.underlying188 hj (by rw[hjs];decide) hsh (Nat.zero_lt_succ 1)];simp only[Result.andThen];rw[Oper.upon_value];go_wp2
 rw[run_callFunc_extern Tryz.func197 Z90 Z90 Z90 (e:=Extern.AbiNoEscape.same) Z90];rw[Lib.run_noEscape];simp only[Result.andThen];rw[Oper.upon_value];go_wp2
 rw[Lib.run_from_unsafe w ⟨b,0,none⟩ Tryz.underlying188 Tryz.underlying110 hj hsh Z90];simp only[Result.andThen];rw[Oper.upon_value];go_wp2
 go_end0
 exact⟨rfl,rfl⟩
theorem bld_used (b:Nat) (w:World) (h0:w.cell? ⟨b,0,none⟩ =some (.pointer (some ⟨b,0,none⟩))):
  Calls Tryz.prog 160 #[.pointer (some ⟨b,0,none⟩)] w fun e w'=>e= .returned (.tuple #[])∧w'=w:=by
 have hsz:(Tryz.prog.info? 112).map (·.size)=some 2:=by kernel_rfl
 obtain⟨j,hj,hjs⟩ :=Option.map_eq_some_iff.1 hsz;go_enter Tryz.func160,Tryz.ntmps160
 go_wp2
 rw[Lib.run_neq_ptr_same w _ Tryz.underlying110 hj];go_wp2
 go_end0
 exact⟨rfl,rfl⟩
theorem Builder_copyCheck_k (B b:Nat) (bs:List Value) (w:World) (h:Lib.IsBuilderF 112 5 B b bs w):
  Calls Tryz.prog 160 #[.pointer (some ⟨b,0,none⟩)] w fun e w'=>e= .returned (.tuple #[])∧(Lib.BuilderAtF 112 5 B b (.pointer (some ⟨b,0,none⟩)) bs w'∧Below B w w'∧Lib.OthersKept 5 (some b) w w'):=by
 rcases h with h|h
 ·refine(bld_fresh b w h.cell0 h.shape h.frozen0).mono ?_;rintro e w' ⟨rfl,rfl⟩;exact⟨rfl,h.used _,(Below.refl B w).setCell (p:= ⟨b,0,none⟩) h.1 _,(Lib.OthersKept.refl _ _ w).setCell ⟨b,0,none⟩ rfl _⟩
 ·refine(bld_used b w h.cell0).mono ?_;rintro e w' ⟨rfl,rfl⟩;exact⟨rfl,h,Below.refl B _,Lib.OthersKept.refl _ _ _⟩
theorem bld_lt {w:World} {b:Nat} {o:Obj} (h:w.heap[b]? =some o):b<w.heap.size:=(Array.getElem?_eq_some_iff.1 h).1
theorem Builder_WriteByte_k (B b:Nat) (bs:List Value) (c:Int) (w:World) (h:Lib.IsBuilderF 112 5 B b bs w) (hlen:bs.length+1≤140737488355328) (hBw:B≤w.heap.size):
  Calls Tryz.prog 139 #[.pointer (some ⟨b,0,none⟩),.int .u8 c] w fun e w'=>e= .returned .nilIface∧(Lib.BuilderAtF 112 5 B b (.pointer (some ⟨b,0,none⟩)) (bs++ [.int .u8 c]) w'∧Below B w w'∧Lib.OthersKept 5 (some b) w w'):=by
 have hinfo:(Tryz.prog.info? 5).map (fun i=>(i.zero,i.size,i.bytes))=some (some (.int .u8 0),1,1):=by kernel_rfl
 obtain⟨i0,hi,hz0,hz1,hz2⟩ :=info_parts hinfo;go_enter Tryz.func139,Tryz.ntmps139
 go_wp2_with(go_at_call 160;refine(Builder_copyCheck_k B b bs _ h).mono ?_)
 rintro e w1 ⟨rfl,h1,hb1,hk1⟩;obtain⟨hB,v,hbk,hown,hne⟩ :=h1;have c0:w1.cell? ⟨b,0,none⟩ =some (.pointer (some ⟨b,0,none⟩)):=by rw[Lib.cell_of_heap hbk];rfl
 have c1:w1.cell? ⟨b,1,none⟩ =some v:=by rw[Lib.cell_of_heap hbk];rfl
 go_wp2_with(at_builtin;refine wpList_append_ownF _ rfl _ _ 22 rfl B 5 i0 (.int .u8 0) 1 1 Tryz.underlying22 hi hz0 hz1 hz2 rfl Z91 _ _ _ rfl (hown.alloc _) ⟨w1.heap.size,0,none⟩ 1 1 [.int .u8 c] rfl rfl ?c1 ?c2 ?c3 ?c4 ?c5 ?_)
 case c1=>
  intro j u hj
  match j,hj with
  |0,hj=>simp at hj;subst hj;simp[Addr.add]
 case c2=>intro u hu;simp at hu;subst hu;rfl
 case c3=>unfold maxLen;omega
 case c4=>omega
 case c5=>have:=hb1.size;simp;omega
 intro v' w2 hown' hgrow _;have hlt:b<w1.heap.size:=bld_lt hbk;have hb2:w2.heap[b]? =some (.cells #[.pointer (some ⟨b,0,none⟩),v] 112 (0,0)):=by
  rw[hgrow.block b (by simp;omega) (fun e=>hne e.symm),Lib.alloc_old w1 _ b hlt];exact hbk
 have d0:w2.cell? ⟨b,0,none⟩ =some (.pointer (some ⟨b,0,none⟩)):=by rw[Lib.cell_of_heap hb2];rfl
 have d1:w2.cell? ⟨b,1,none⟩ =some v:=by rw[Lib.cell_of_heap hb2];rfl
 have f1:w2.frozen? ⟨b,1,none⟩ =false:=Lib.frozen_of_heap hb2 1;obtain⟨g,cap,rfl⟩ : ∃g cap,v'= .slice (some ⟨g,0,none⟩) (bs.length+1) cap:=by
  rcases hown'.2 with ⟨_,h0⟩ | ⟨g,cap,cur,fz,hv,_⟩
  ·omega
  ·exact⟨g,cap,hv⟩
 go_wp2
 go_ret
 refine⟨rfl,?_,?_,((hk1.alloc _).grown hgrow (Lib.ownsRowF_kind (hown.alloc _))).setCell ⟨b,1,none⟩ rfl _⟩
 ·exact Lib.BuilderAtF.put (T:=112) (e:=5) hB hb2 (bs':=bs++ [.int .u8 c]) (by simpa using hown') Z91
 ·exact((hb1.alloc (by have:=hb1.size;omega) _).grown hgrow (by have:=hb1.size;simp;omega) (fun k hk=>(hown.lt k hk).1)).setCell (p:= ⟨b,1,none⟩) hB _
theorem Builder_WriteString_k (B b:Nat) (bs:List Value) (s:ByteArray) (w:World) (h:Lib.IsBuilderF 112 5 B b bs w) (hlen:bs.length+s.size≤140737488355328) (hBw:B≤w.heap.size):
  Calls Tryz.prog 98 #[.pointer (some ⟨b,0,none⟩),.string s] w fun e w'=>e= .returned (.tuple #[.int .i64 s.size,.nilIface])∧(Lib.BuilderAtF 112 5 B b (.pointer (some ⟨b,0,none⟩)) (bs++Lib.strCells s) w'∧Below B w w'∧Lib.OthersKept 5 (some b) w w'):=by
 have hinfo:(Tryz.prog.info? 5).map (fun i=>(i.zero,i.size,i.bytes))=some (some (.int .u8 0),1,1):=by kernel_rfl
 obtain⟨i0,hi,hz0,hz1,hz2⟩ :=info_parts hinfo;go_enter Tryz.func98,Tryz.ntmps98
 go_wp2_with(go_at_call 160;refine(Builder_copyCheck_k B b bs _ h).mono ?_)
 rintro e w1 ⟨rfl,h1,hb1,hk1⟩;obtain⟨hB,v,hbk,hown,hne⟩ :=h1;have c0:w1.cell? ⟨b,0,none⟩ =some (.pointer (some ⟨b,0,none⟩)):=by rw[Lib.cell_of_heap hbk];rfl
 have c1:w1.cell? ⟨b,1,none⟩ =some v:=by rw[Lib.cell_of_heap hbk];rfl
 go_wp2_with(at_builtin;refine Lib.wpList_append_own_stringF _ rfl _ _ 22 9 rfl B 5 i0 Tryz.underlying22 Tryz.underlying9 hi hz0 hz1 hz2 _ _ _ rfl hown s rfl ?c3 ?c4 ?c5 ?_)
 case c3=>unfold maxLen;omega
 case c4=>omega
 case c5=>have:=hb1.size;omega
 intro v' w2 hown' hgrow _;have hlt:b<w1.heap.size:=bld_lt hbk;have hb2:w2.heap[b]? =some (.cells #[.pointer (some ⟨b,0,none⟩),v] 112 (0,0)):=by
  rw[hgrow.block b hlt (fun e=>hne e.symm)];exact hbk
 have d0:w2.cell? ⟨b,0,none⟩ =some (.pointer (some ⟨b,0,none⟩)):=by rw[Lib.cell_of_heap hb2];rfl
 have d1:w2.cell? ⟨b,1,none⟩ =some v:=by rw[Lib.cell_of_heap hb2];rfl
 have f1:w2.frozen? ⟨b,1,none⟩ =false:=Lib.frozen_of_heap hb2 1;obtain⟨ao,n',cap,rfl⟩ : ∃ao n' cap,v'= .slice ao n' cap:=by
  rcases hown'.2 with ⟨hv,_⟩ | ⟨g,cap,cur,fz,hv,_⟩
  ·exact⟨_,_,_,hv⟩
  ·exact⟨_,_,_,hv⟩
 go_wp2
 go_ret2
 refine⟨rfl,?_,?_,(hk1.grown hgrow (Lib.ownsRowF_kind hown)).setCell ⟨b,1,none⟩ rfl _⟩
 ·exact Lib.BuilderAtF.put (T:=112) (e:=5) hB hb2 (bs':=bs++Lib.strCells s) (by simpa [Lib.strCells_length] using hown') Z91
 ·exact(hb1.grown hgrow (by have:=hb1.size;omega) (fun k hk=>(hown.lt k hk).1)).setCell (p:= ⟨b,1,none⟩) hB _
end Go.Proofs.YtnfgokmecllpbaaGreatDoor.Print
end
section
namespace Go.Proofs.YtnfgokmecllpbaaGreatDoor.Print
open Go.RowKit Go.Shelf Go.Proofs.YtnfgokmecllpbaaGreatDoorW.PrintWords Go.Proofs.YtnfgokmecllpbaaGreatDoorW.PrintLast Go.Proofs.YtnfgokmecllpbaaGreatDoorW.PrintMore
attribute [local go_sem] Oper.semAt_some
theorem nDigits_le9 (u:Nat) (h:u<1000000000):Lib.nDigits u≤9:=by
 rcases Nat.eq_zero_or_pos u with rfl|hu
 ·rw[Lib.nDigits_small Z92];omega
 ·have h1: ∀k u,u<10 ^ (k+1)→Lib.nDigits u≤k+1:=by
   intro k
   induction k with
   |zero=>intro u h;rw[Lib.nDigits_small Z92];omega
   |succ k ih=>
    intro u h;by_cases h10:u<10
    ·rw[Lib.nDigits_small h10];omega
    ·rw[Lib.nDigits_big h10];have:=ih (u / 10) (by rw[Nat.pow_succ] at h;omega);omega
  exact h1 8 u h
theorem pieceT_length (n i:Nat) (x:Int) (h0:0≤x) (h1:x<1000000000):(pieceT n i x).length≤9:=by
 have:=nDigits_le9 x.toNat Z92;unfold pieceT;rw[List.length_append,Lib.decDigits_length];split <;> simp <;> omega
theorem closeL_length (m:Bool) (l:List Int) (hok:okP l=true) (pre:List (Fin l.length)):(closeL m l pre).length≤1+9 * pre.length:=by
 have h:(pre.flatMap fun x=>pieceT l.length x.val (rd l (x.val:Int))).length≤9 * pre.length:=by
  induction pre with
  |nil=>simp
  |cons x pre ih=>
   have:=pieceT_length l.length x.val _ (okP_rd hok x.val x.isLt).1 (okP_rd hok x.val x.isLt).2;rw[List.flatMap_cons,List.length_append,List.length_cons];omega
 unfold closeL;rw[List.length_append];cases m
 ·simp only[Bool.false_eq_true,if_false,List.length_nil];omega
 ·simp only[if_true,List.length_cons,List.length_nil];omega
theorem closeL_snoc (m:Bool) (l:List Int) (pre:List (Fin l.length)) (x:Fin l.length):closeL m l (pre++ [x])=closeL m l pre++pieceT l.length x.val (rd l (x.val:Int)):=by
 simp[closeL,List.flatMap_append]
theorem byteCells_append (a b:List UInt8):Lib.byteCells (a++b)=Lib.byteCells a++Lib.byteCells b:=List.map_append
theorem builder_grown {A B:World} {row:Option Nat} {T e:TypeId} {n₀ b:Nat} {bs:List Value} (h:Lib.IsBuilderF T e n₀ b bs A) (hg:A.grownBy B row) (hr: ∀r,row=some r→∃o:Obj,A.heap[r]? =some o∧o.isCells=false):Lib.IsBuilderF T e n₀ b bs B:=by
 have key: ∀p,Lib.BuilderAtF T e n₀ b p bs A→Lib.BuilderAtF T e n₀ b p bs B:=by
  rintro p ⟨hB,v,hv,hown,hne⟩;refine⟨hB,v,heap_kept hv hg hr,hown.kept hg ?_,hne⟩;cases hb:v.ownBlock with
  |none=>exact .inl rfl
  |some g=>
   refine .inr fun e1=>?_
   obtain⟨o,ho,hc⟩ :=hr g e1.symm;rcases hown.2 with ⟨rfl,_⟩ | ⟨g',cap,cur,fz,rfl,_,hgg,_⟩
   ·simp[Value.ownBlock] at hb
   ·have:g'=g:=by simpa [Value.ownBlock] using hb
    subst this;rw[hgg] at ho;obtain rfl:=Option.some.inj ho;simp[Obj.isCells] at hc
 exact h.elim (fun x=> .inl (key _ x)) (fun x=> .inr (key _ x))
theorem builder_below {A B:World} {T e:TypeId} {n₀ b:Nat} {bs:List Value} (h:Lib.IsBuilderF T e n₀ b bs A) (hb:Below A.heap.size A B):Lib.IsBuilderF T e n₀ b bs B:=
 builder_grown (row:=none) h ⟨hb.os,hb.tape,hb.output,hb.size,fun k hk _=>hb.block k hk⟩ (fun _ e=>by simp at e)
def nine0:ByteArray:= ⟨#[48,48,48,48,48,48,48,48,48]⟩
theorem zeros_cut (n:Nat) (h:n≤9) (W:World):(Instr.sliceAt 9 (.string ⟨#[48,48,48,48,48,48,48,48,48]⟩) (some (.int .i64 (n:Int))) none none).run Tryz.prog W= .ok (.string (nine0.extract n 9)) W:=by
 have h9:(nine0.size:Int)=9:=by decide
 show(Instr.sliceAt 9 (.string nine0) (some (.int .i64 (n:Int))) none none).run Tryz.prog W=_
 have h1:(n:Int)≤9:=by omega
 generalize hz:nine0=z at h9⊢;have h8:z.size=9:=by omega
 go_simp
theorem byteCells_length (l:List UInt8):(Lib.byteCells l).length=l.length:=List.length_map _
theorem zeros_all: ∀n,n≤9→(nine0.extract n 9).data.toList=List.replicate (9 - n) 48:=by decide
theorem zeros_cells (n:Nat) (h:n≤9):Lib.strCells (nine0.extract n 9)=Lib.byteCells (List.replicate (9 - n) 48):=by
 unfold Lib.strCells Lib.byteCells;rw[zeros_all n h]
theorem zeros_size (n:Nat) (h:n≤9):(nine0.extract n 9).size=9 - n:=by
 have h9:nine0.size=9:=by decide
 rw[ByteArray.size_extract,h9];omega
theorem keepsFrom_of_others {B:Nat} {w w':World} {b:Nat} {e:TypeId} (hs:w.heap.size≤w'.heap.size) (h:Lib.OthersKept e (some b) w w') (hb:b<B):KeepsFrom B w w':=
 ⟨hs,fun k o hk ho hc=>h k o ho (by intro e1;have:=Option.some.inj e1;omega) (by rintro c fz rfl;simp[Obj.isCells] at hc)⟩
theorem others_cells {w w':World} {b k:Nat} {e t:TypeId} {cs:Array Value} (h:Lib.OthersKept e (some b) w w') (hk:w.heap[k]? =some (.cells cs t (0,0))) (hne:k≠b) (ht:t≠e):w'.heap[k]? =some (.cells cs t (0,0)):=
 h k _ hk (fun e1=>hne (Option.some.inj e1)) (by rintro c fz e1;injection e1 with _ h2;exact ht h2)
theorem close_gen (m:Bool) (ad0:Addr) (c0:Nat) (l0:List Int) (w:World) (hGL:GL w)
  (hr0:Kd.C (Kd.int .u64) w (some ad0) l0.length l0) (hc0:l0.length≤c0) (hok:okP l0=true) (hlen:l0.length<4000000000000) (hne:0<l0.length):
  Calls Tryz.prog 183 #[.agg #[.bool m,.slice (some ad0) l0.length c0]] w fun e w'=>e= .returned (.string ⟨(closeL m l0 (back l0.length)).toArray⟩)∧Below w.heap.size w w':=by
 have hcell0: ∀j,j<l0.length→w.cell? (ad0.add j)=some (.int .u64 (rd l0 (j:Int))):=fun j hj=>C_int_cell hr0 j hj
 have hblk:ad0.block<w.heap.size:=by have:=cell_lt (hcell0 0 hne);rwa [add_block] at this
 have hlb:((l0.length:Int)==0)=false:=by simp only[beq_eq_false_iff_ne,ne_eq];omega
 clear hr0;refine(callsIn_wide (n:=5)).1 ?_;have hro:Fence.wide.round=none:=rfl;refine callsIn_of_wp_marks Tryz.func183 rfl trivial ?_ hro;simp only[Tryz.ntmps183,List.size_toArray,List.length_cons,List.length_nil,Nat.reduceAdd,Nat.reduceSub,Array.replicate_succ,Array.replicate_zero,List.push_toArray,List.append_toArray,List.nil_append,List.cons_append];have hS0: ∀m:Bool,((w.alloc (.cells #[.bool m,.slice (some ad0) l0.length c0] 174)).alloc (.cells #[.pointer none,.slice none 0 0] 112)).heap[w.heap.size]? =some (.cells #[.bool m,.slice (some ad0) l0.length c0] 174 (0,0)):=fun m=>blk_alloc (World.alloc_heap_new _ _) _
 have hBd0: ∀m:Bool,Lib.IsBuilderF 112 5 w.heap.size (w.heap.size+1) [] ((w.alloc (.cells #[.bool m,.slice (some ad0) l0.length c0] 174)).alloc (.cells #[.pointer none,.slice none 0 0] 112)):=fun m=>by
  refine .inl ⟨Nat.le_succ _,.slice none 0 0,?_,⟨rfl,.inl ⟨rfl,rfl⟩⟩,by simp[Value.ownBlock]⟩;have:=World.alloc_heap_new (w.alloc (.cells #[.bool m,.slice (some ad0) l0.length c0] 174)) (.cells #[.pointer none,.slice none 0 0] 112);simpa using this
 have hB0: ∀m:Bool,Below w.heap.size w ((w.alloc (.cells #[.bool m,.slice (some ad0) l0.length c0] 174)).alloc (.cells #[.pointer none,.slice none 0 0] 112)):=fun m=>below_alloc (below_alloc (Below.refl _ _) _) _
 cases m
 ·gi_wp2_with fail
  have hS1:=hS0 false;have hB1:=hB0 false;have hbd:Lib.IsBuilderF 112 5 w.heap.size (w.heap.size+1) (Lib.byteCells (closeL false l0 [])) _:=hBd0 false;clear hS0 hBd0 hB0;generalize (w.alloc (.cells #[.bool false,.slice (some ad0) l0.length c0] 174)).alloc (.cells #[.pointer none,.slice none 0 0] 112)=W1 at hS1 hB1 hbd⊢;refine⟨trivial,?_⟩;refine(back_in _ _ trivial hro _ _ _ _).mono ?_;rintro e w' ⟨rfl,rfl⟩
  gi_wp2_with fail
  have g0:=blk_alloc hS1 (.cells #[.slice (some ad0) l0.length c0] 172);have gB:=World.alloc_heap_new W1 (.cells #[.slice (some ad0) l0.length c0] 172);have hB2:Below w.heap.size w (W1.alloc (.cells #[.slice (some ad0) l0.length c0] 172)):=below_alloc hB1 _;have hbd2:=builder_below hbd (below_alloc (Below.refl _ W1) (.cells #[.slice (some ad0) l0.length c0] 172));have hW1s:W1.heap.size< (W1.alloc (.cells #[.slice (some ad0) l0.length c0] 172)).heap.size:=(Array.getElem?_eq_some_iff.1 gB).1;have hA1:w.heap.size+1<W1.heap.size:=(hbd.elim (fun h=>h.lt) (fun h=>h.lt))
  generalize hW2:W1.alloc (.cells #[.slice (some ad0) l0.length c0] 172)=W2 at g0 gB hB2 hbd2 hW1s⊢;have hst:=back_stops Fence.wide 4 trivial hro Z92 W1.heap.size w.heap.size ad0 c0 l0 Z92 hblk W2 hW1s hB2.size gB (fun j hj=>(hB2.cell (p:=ad0.add j) (by rw[add_block];exact hblk)).trans (hcell0 j hj));refine wpIn_rangeFunc_ownG hro Z92 (gf:=232) (lb:=#[.pointer (some ⟨W1.heap.size,0,none⟩)]) rfl trivial (enters_of Tryz.func232 Z90 rfl) hst
   (fun h k=>KpB.t h k) (fun W l o o'=>KpB.b hB2.size hW1s W l o o') (Below.refl _ _) (fun _=>rfl)
   (fun pre W=>W.heap[w.heap.size]? =some (.cells #[.bool false,.slice (some ad0) l0.length c0] 174 (0,0))∧Lib.IsBuilderF 112 5 w.heap.size (w.heap.size+1) (Lib.byteCells (closeL false l0 pre)) W∧Below w.heap.size w W∧W.heap[W1.heap.size]? =some (.cells #[.slice (some ad0) l0.length c0] 172 (0,0)))
   (fun _ _ _=>False)
   (fun s A B row hs hg hr=> ⟨heap_kept hs.1 hg (fun r e=>(hr r e).2),builder_grown hs.2.1 hg (fun r e=>(hr r e).2),ownFrom_below (β:=Unit) (Nat.le_refl _) hB2.size () A B row hs.2.2.1 hg hr,heap_kept hs.2.2.2 hg (fun r e=>(hr r e).2)⟩)
   (fun _ _ _ _ _ hs _ _=>hs)
   ⟨g0,hbd2,hB2,gB⟩
   (fun x=>{tmps:=#[.agg #[.bool false,.slice (some ad0) l0.length c0],.pointer (some ⟨w.heap.size,0,none⟩),.string ⟨#[]⟩,.pointer (some ⟨w.heap.size+1,0,none⟩),.int .i64 (x.val:Int),.int .u64 (rd l0 (x.val:Int)),undef,.pointer (some ⟨w.heap.size,1,none⟩),.slice (some ad0) l0.length c0,.int .i64 (l0.length:Int),.bool false,.pointer (some ⟨w.heap.size,0,none⟩),.bool false,undef,.pointer (some ⟨w.heap.size,1,none⟩),.slice (some ad0) l0.length c0,.func (.func 232) #[] #[.pointer (some ⟨W1.heap.size,0,none⟩)],.int .i64 (x.val:Int),.int .u64 (rd l0 (x.val:Int)),undef,undef,undef,undef,undef,undef,undef,undef,undef,undef,undef,undef,undef,undef,undef],defers:=[]}) ?assign ?body ?done ?stop
  case assign=>
   intro l x W K hK
   gi_wp2
   exact hK
  case body=>
   rintro l pre x W ⟨q0,qb,qB,qBox⟩ hlt;have hln:=closeL_length false l0 hok pre;have HSN:=Aside0.mk (closeL_snoc false l0 pre x);obtain⟨hv0,hvB⟩ :=okP_rd hok x.val x.isLt;have hxl:=x.isLt
   revert hln qb HSN
   generalize closeL false l0 pre=T;intro qb hln HSN
   revert HSN hv0 hvB
   generalize rd l0 (x.val:Int)=v;intro hv0 hvB HSN;obtain⟨u,rfl⟩ : ∃u:Nat,v= (u:Int):= ⟨v.toNat,Z92⟩
   have hu9:u<1000000000:=by omega
   have hd9:=nDigits_le9 u hu9;have HBK:=Aside0.mk (And.intro g0 (And.intro gB (And.intro hB2 (And.intro hbd2 (And.intro hW1s hst)))));clear g0 gB hbd2 hst hcell0 hblk hS1 hB1 hbd;generalize hxi:x.val=i at hxl HSN⊢
   gi_wp2_with fail
   refine⟨trivial,?_⟩;refine(CallsIn.inRound l (callsIn_wide.2 (strconv_FormatUint_215 u Z92 W (GL_below qB hGL).pow10))).mono ?_;rintro e W3 ⟨rfl,hb3⟩;have r0:=(hb3.block _ (Array.getElem?_eq_some_iff.1 q0).1).trans q0;have rB:=(hb3.block _ (Array.getElem?_eq_some_iff.1 qBox).1).trans qBox;have k3:KeepsFrom W2.heap.size W W3:= ⟨hb3.size,fun k o _ hk _=>(hb3.block k (Array.getElem?_eq_some_iff.1 hk).1).trans hk⟩
   have c0:W3.cell? ⟨w.heap.size,1,none⟩ =some (.slice (some ad0) l0.length c0):=(blk_cell r0 1).trans rfl;have bd3:=builder_below qb hb3;have B3:Below w.heap.size w W3:=qB.trans (hb3.mono qB.size);have hS:(⟨(Lib.decDigits u).toArray⟩ :ByteArray).size=Lib.nDigits u:=by
    show(Lib.decDigits u).toArray.size=_
    simp[Lib.decDigits_length]
   have hSc:Lib.strCells ⟨(Lib.decDigits u).toArray⟩ =Lib.byteCells (Lib.decDigits u):=rfl;have hSp:=nDigits_le9 u hu9;generalize (⟨(Lib.decDigits u).toArray⟩ :ByteArray)=S at hS hSc⊢;have hwl:IntKind.i64.wrap ((l0.length:Int) - 1)= (l0.length:Int) - 1:=by rw[IntKind.wrap_i64];omega
   by_cases hi:i+1<l0.length
   ·have hi1:decide ((i:Int)< (l0.length:Int) - 1)=true:=decide_eq_true Z92;have hsl:=fun W'=>zeros_cut (Lib.nDigits u) Z92 W'
    gi_wp2_with fail
    refine⟨trivial,?_⟩;refine(CallsIn.inRound l (callsIn_wide.2 (Builder_WriteString_k w.heap.size (w.heap.size+1) (Lib.byteCells T) (nine0.extract (Lib.nDigits u) 9) W3 bd3 (by rw[byteCells_length,zeros_size _ hSp];omega) B3.size))).mono ?_;rintro e W4 ⟨rfl,bd4,hb4,ho4⟩;have p0:=others_cells ho4 r0 Z92 Z91;have pB:=others_cells ho4 rB Z92 Z91;rw[zeros_cells _ hSp,←byteCells_append] at bd4;have k4:KeepsFrom W2.heap.size W3 W4:=keepsFrom_of_others hb4.size ho4 Z92
    gi_wp2_with fail
    refine⟨trivial,?_⟩;refine(CallsIn.inRound l (callsIn_wide.2 (Builder_WriteString_k w.heap.size (w.heap.size+1) _ S W4 (.inr bd4) (by rw[byteCells_length,List.length_append,List.length_replicate];omega) (Nat.le_trans B3.size hb4.size)))).mono ?_;rintro e W5 ⟨rfl,bd5,hb5,ho5⟩;have s0:=others_cells ho5 p0 Z92 Z91;have sB:=others_cells ho5 pB Z92 Z91;rw[hSc,←byteCells_append] at bd5;have k5:KeepsFrom W2.heap.size W4 W5:=keepsFrom_of_others hb5.size ho5 Z92
    gi_wp2_with fail
    refine⟨k3.trans (k4.trans k5),⟨(hb3.mono qB.size).trans (hb4.trans hb5),sB.trans qBox.symm⟩,?_⟩;dsimp only;rw[HSN.out];refine⟨s0,.inr ?_,B3.trans (hb4.trans hb5),sB⟩;have e:pieceT l0.length i (u:Int)=List.replicate (9 - Lib.nDigits u) 48++Lib.decDigits u:=by
     simp[pieceT,hi,Lib.decDigits_length]
    rw[e,←List.append_assoc];exact bd5
   ·have hi1:decide ((i:Int)< (l0.length:Int) - 1)=false:=decide_eq_false Z92
    gi_wp2_with fail
    refine⟨trivial,?_⟩;refine(CallsIn.inRound l (callsIn_wide.2 (Builder_WriteString_k w.heap.size (w.heap.size+1) _ S W3 bd3 (by rw[byteCells_length];omega) B3.size))).mono ?_;rintro e W5 ⟨rfl,bd5,hb5,ho5⟩;have s0:=others_cells ho5 r0 Z92 Z91;have sB:=others_cells ho5 rB Z92 Z91;rw[hSc,←byteCells_append] at bd5;have k5:KeepsFrom W2.heap.size W3 W5:=keepsFrom_of_others hb5.size ho5 Z92
    gi_wp2_with fail
    refine⟨k3.trans k5,⟨(hb3.mono qB.size).trans hb5,sB.trans qBox.symm⟩,?_⟩;dsimp only;rw[HSN.out];refine⟨s0,.inr ?_,B3.trans hb5,sB⟩;have e:pieceT l0.length i (u:Int)=Lib.decDigits u:=by
     simp[pieceT,hi]
    rw[e];exact bd5
  case done=>
   rintro D ys W hD rfl ⟨q0,qb,qB,qBox⟩ hK
   gi_wp2_with fail
   refine⟨trivial,?_⟩;refine(callsIn_wide.2 (Tryz.Builder_String_any_k w.heap.size (w.heap.size+1) (closeL false l0 (back l0.length)) W qb qB.size)).mono ?_;rintro e W3 ⟨rfl,hbF,hbl,hoth⟩;have hK3:W3.heap[D]? =some (.deferred (some [])):=hoth D _ hK (fun e1=>by have:=Option.some.inj e1;omega) (by rintro c fz e1;simp at e1)
   gi_wp2_with fail
   refine⟨Z93,.inl ⟨_,_,rfl,run_takeDeferred hK3,?_⟩⟩;refine⟨_,results_tmp rfl _ _ _,rfl,?_⟩;exact(qB.trans hbl).trans (belowK_b (w:=w) (Nat.le_refl _) W3 D _ _ (by have:=hB2.size;omega) hK3 rfl rfl)
  case stop=>
   rintro D c pre W _ _ h _;exact h.elim
 ·gi_wp2_with fail
  refine⟨trivial,?_⟩;refine(callsIn_wide.2 (Builder_WriteByte_k w.heap.size (w.heap.size+1) [] 45 _ (hBd0 true) Z91 (hB0 true).size)).mono ?_;rintro e W1 ⟨rfl,hbF,hbl,hoth⟩;have hS1:=others_cells hoth (hS0 true) Z92 Z91;have hB1:=(hB0 true).trans hbl;have hbd:Lib.IsBuilderF 112 5 w.heap.size (w.heap.size+1) (Lib.byteCells (closeL true l0 [])) W1:= .inr hbF;clear hS0 hBd0 hB0 hoth hbl hbF;have c01:W1.cell? ⟨w.heap.size,1,none⟩ =some (.slice (some ad0) l0.length c0):=(blk_cell hS1 1).trans rfl
  gi_wp2_with fail
  refine⟨trivial,?_⟩;refine(back_in _ _ trivial hro _ _ _ _).mono ?_;rintro e w' ⟨rfl,rfl⟩
  gi_wp2_with fail
  have g0:=blk_alloc hS1 (.cells #[.slice (some ad0) l0.length c0] 172);have gB:=World.alloc_heap_new W1 (.cells #[.slice (some ad0) l0.length c0] 172);have hB2:Below w.heap.size w (W1.alloc (.cells #[.slice (some ad0) l0.length c0] 172)):=below_alloc hB1 _;have hbd2:=builder_below hbd (below_alloc (Below.refl _ W1) (.cells #[.slice (some ad0) l0.length c0] 172));have hW1s:W1.heap.size< (W1.alloc (.cells #[.slice (some ad0) l0.length c0] 172)).heap.size:=(Array.getElem?_eq_some_iff.1 gB).1;have hA1:w.heap.size+1<W1.heap.size:=(hbd.elim (fun h=>h.lt) (fun h=>h.lt))
  generalize hW2:W1.alloc (.cells #[.slice (some ad0) l0.length c0] 172)=W2 at g0 gB hB2 hbd2 hW1s⊢;have hst:=back_stops Fence.wide 4 trivial hro Z92 W1.heap.size w.heap.size ad0 c0 l0 Z92 hblk W2 hW1s hB2.size gB (fun j hj=>(hB2.cell (p:=ad0.add j) (by rw[add_block];exact hblk)).trans (hcell0 j hj));refine wpIn_rangeFunc_ownG hro Z92 (gf:=232) (lb:=#[.pointer (some ⟨W1.heap.size,0,none⟩)]) rfl trivial (enters_of Tryz.func232 Z90 rfl) hst
   (fun h k=>KpB.t h k) (fun W l o o'=>KpB.b hB2.size hW1s W l o o') (Below.refl _ _) (fun _=>rfl)
   (fun pre W=>W.heap[w.heap.size]? =some (.cells #[.bool true,.slice (some ad0) l0.length c0] 174 (0,0))∧Lib.IsBuilderF 112 5 w.heap.size (w.heap.size+1) (Lib.byteCells (closeL true l0 pre)) W∧Below w.heap.size w W∧W.heap[W1.heap.size]? =some (.cells #[.slice (some ad0) l0.length c0] 172 (0,0)))
   (fun _ _ _=>False)
   (fun s A B row hs hg hr=> ⟨heap_kept hs.1 hg (fun r e=>(hr r e).2),builder_grown hs.2.1 hg (fun r e=>(hr r e).2),ownFrom_below (β:=Unit) (Nat.le_refl _) hB2.size () A B row hs.2.2.1 hg hr,heap_kept hs.2.2.2 hg (fun r e=>(hr r e).2)⟩)
   (fun _ _ _ _ _ hs _ _=>hs)
   ⟨g0,hbd2,hB2,gB⟩
   (fun x=>{tmps:=#[.agg #[.bool true,.slice (some ad0) l0.length c0],.pointer (some ⟨w.heap.size,0,none⟩),.string ⟨#[]⟩,.pointer (some ⟨w.heap.size+1,0,none⟩),.int .i64 (x.val:Int),.int .u64 (rd l0 (x.val:Int)),undef,.pointer (some ⟨w.heap.size,1,none⟩),.slice (some ad0) l0.length c0,.int .i64 (l0.length:Int),.bool false,.pointer (some ⟨w.heap.size,0,none⟩),.bool true,.nilIface,.pointer (some ⟨w.heap.size,1,none⟩),.slice (some ad0) l0.length c0,.func (.func 232) #[] #[.pointer (some ⟨W1.heap.size,0,none⟩)],.int .i64 (x.val:Int),.int .u64 (rd l0 (x.val:Int)),undef,undef,undef,undef,undef,undef,undef,undef,undef,undef,undef,undef,undef,undef,undef],defers:=[]}) ?assign ?body ?done ?stop
  case assign=>
   intro l x W K hK
   gi_wp2
   exact hK
  case body=>
   rintro l pre x W ⟨q0,qb,qB,qBox⟩ hlt;have hln:=closeL_length true l0 hok pre;have HSN:=Aside0.mk (closeL_snoc true l0 pre x);obtain⟨hv0,hvB⟩ :=okP_rd hok x.val x.isLt;have hxl:=x.isLt
   revert hln qb HSN
   generalize closeL true l0 pre=T;intro qb hln HSN
   revert HSN hv0 hvB
   generalize rd l0 (x.val:Int)=v;intro hv0 hvB HSN;obtain⟨u,rfl⟩ : ∃u:Nat,v= (u:Int):= ⟨v.toNat,Z92⟩
   have hu9:u<1000000000:=by omega
   have hd9:=nDigits_le9 u hu9;have HBK:=Aside0.mk (And.intro g0 (And.intro gB (And.intro hB2 (And.intro hbd2 (And.intro hW1s hst)))));clear g0 gB hbd2 hst hcell0 hblk hS1 hB1 hbd;generalize hxi:x.val=i at hxl HSN⊢
   gi_wp2_with fail
   refine⟨trivial,?_⟩;refine(CallsIn.inRound l (callsIn_wide.2 (strconv_FormatUint_215 u Z92 W (GL_below qB hGL).pow10))).mono ?_;rintro e W3 ⟨rfl,hb3⟩;have r0:=(hb3.block _ (Array.getElem?_eq_some_iff.1 q0).1).trans q0;have rB:=(hb3.block _ (Array.getElem?_eq_some_iff.1 qBox).1).trans qBox;have k3:KeepsFrom W2.heap.size W W3:= ⟨hb3.size,fun k o _ hk _=>(hb3.block k (Array.getElem?_eq_some_iff.1 hk).1).trans hk⟩
   have c0:W3.cell? ⟨w.heap.size,1,none⟩ =some (.slice (some ad0) l0.length c0):=(blk_cell r0 1).trans rfl;have bd3:=builder_below qb hb3;have B3:Below w.heap.size w W3:=qB.trans (hb3.mono qB.size);have hS:(⟨(Lib.decDigits u).toArray⟩ :ByteArray).size=Lib.nDigits u:=by
    show(Lib.decDigits u).toArray.size=_
    simp[Lib.decDigits_length]
   have hSc:Lib.strCells ⟨(Lib.decDigits u).toArray⟩ =Lib.byteCells (Lib.decDigits u):=rfl;have hSp:=nDigits_le9 u hu9;generalize (⟨(Lib.decDigits u).toArray⟩ :ByteArray)=S at hS hSc⊢;have hwl:IntKind.i64.wrap ((l0.length:Int) - 1)= (l0.length:Int) - 1:=by rw[IntKind.wrap_i64];omega
   by_cases hi:i+1<l0.length
   ·have hi1:decide ((i:Int)< (l0.length:Int) - 1)=true:=decide_eq_true Z92;have hsl:=fun W'=>zeros_cut (Lib.nDigits u) Z92 W'
    gi_wp2_with fail
    refine⟨trivial,?_⟩;refine(CallsIn.inRound l (callsIn_wide.2 (Builder_WriteString_k w.heap.size (w.heap.size+1) (Lib.byteCells T) (nine0.extract (Lib.nDigits u) 9) W3 bd3 (by rw[byteCells_length,zeros_size _ hSp];omega) B3.size))).mono ?_;rintro e W4 ⟨rfl,bd4,hb4,ho4⟩;have p0:=others_cells ho4 r0 Z92 Z91;have pB:=others_cells ho4 rB Z92 Z91;rw[zeros_cells _ hSp,←byteCells_append] at bd4;have k4:KeepsFrom W2.heap.size W3 W4:=keepsFrom_of_others hb4.size ho4 Z92
    gi_wp2_with fail
    refine⟨trivial,?_⟩;refine(CallsIn.inRound l (callsIn_wide.2 (Builder_WriteString_k w.heap.size (w.heap.size+1) _ S W4 (.inr bd4) (by rw[byteCells_length,List.length_append,List.length_replicate];omega) (Nat.le_trans B3.size hb4.size)))).mono ?_;rintro e W5 ⟨rfl,bd5,hb5,ho5⟩;have s0:=others_cells ho5 p0 Z92 Z91;have sB:=others_cells ho5 pB Z92 Z91;rw[hSc,←byteCells_append] at bd5;have k5:KeepsFrom W2.heap.size W4 W5:=keepsFrom_of_others hb5.size ho5 Z92
    gi_wp2_with fail
    refine⟨k3.trans (k4.trans k5),⟨(hb3.mono qB.size).trans (hb4.trans hb5),sB.trans qBox.symm⟩,?_⟩;dsimp only;rw[HSN.out];refine⟨s0,.inr ?_,B3.trans (hb4.trans hb5),sB⟩;have e:pieceT l0.length i (u:Int)=List.replicate (9 - Lib.nDigits u) 48++Lib.decDigits u:=by
     simp[pieceT,hi,Lib.decDigits_length]
    rw[e,←List.append_assoc];exact bd5
   ·have hi1:decide ((i:Int)< (l0.length:Int) - 1)=false:=decide_eq_false Z92
    gi_wp2_with fail
    refine⟨trivial,?_⟩;refine(CallsIn.inRound l (callsIn_wide.2 (Builder_WriteString_k w.heap.size (w.heap.size+1) _ S W3 bd3 (by rw[byteCells_length];omega) B3.size))).mono ?_;rintro e W5 ⟨rfl,bd5,hb5,ho5⟩;have s0:=others_cells ho5 r0 Z92 Z91;have sB:=others_cells ho5 rB Z92 Z91;rw[hSc,←byteCells_append] at bd5;have k5:KeepsFrom W2.heap.size W3 W5:=keepsFrom_of_others hb5.size ho5 Z92
    gi_wp2_with fail
    refine⟨k3.trans k5,⟨(hb3.mono qB.size).trans hb5,sB.trans qBox.symm⟩,?_⟩;dsimp only;rw[HSN.out];refine⟨s0,.inr ?_,B3.trans hb5,sB⟩;have e:pieceT l0.length i (u:Int)=Lib.decDigits u:=by
     simp[pieceT,hi]
    rw[e];exact bd5
  case done=>
   rintro D ys W hD rfl ⟨q0,qb,qB,qBox⟩ hK
   gi_wp2_with fail
   refine⟨trivial,?_⟩;refine(callsIn_wide.2 (Tryz.Builder_String_any_k w.heap.size (w.heap.size+1) (closeL true l0 (back l0.length)) W qb qB.size)).mono ?_;rintro e W3 ⟨rfl,hbF,hbl,hoth⟩;have hK3:W3.heap[D]? =some (.deferred (some [])):=hoth D _ hK (fun e1=>by have:=Option.some.inj e1;omega) (by rintro c fz e1;simp at e1)
   gi_wp2_with fail
   refine⟨Z93,.inl ⟨_,_,rfl,run_takeDeferred hK3,?_⟩⟩;refine⟨_,results_tmp rfl _ _ _,rfl,?_⟩;exact(qB.trans hbl).trans (belowK_b (w:=w) (Nat.le_refl _) W3 D _ _ (by have:=hB2.size;omega) hK3 rfl rfl)
  case stop=>
   rintro D c pre W _ _ h _;exact h.elim
theorem close_none (m:Bool) (A0:Option Addr) (c0:Nat) (w:World):
  Calls Tryz.prog 183 #[.agg #[.bool m,.slice A0 0 c0]] w fun e w'=>e= .returned (.string ⟨#[48]⟩)∧Below w.heap.size w w':=by
 go_enter Tryz.func183,Tryz.ntmps183
 go_wp2
 go_ret
 exact⟨rfl,below_alloc (Below.refl _ _) _⟩
theorem Y6.calls (m:Bool) (A0:Option Addr) (c0:Nat) (l0:List Int) (r:ByteArray) (w:World) (hGL:GL w) (hr0:Kd.C (Kd.int .u64) w A0 l0.length l0) (hc0:l0.length≤c0) (h:Y6.f m l0=some r):
  Calls Tryz.prog 183 #[.agg #[.bool m,.slice A0 l0.length c0]] w fun e w'=>e= .returned (.string r)∧Below w.heap.size w w':=by
 unfold Y6.f at h;split at h
 ·rename_i hc
  obtain rfl:=Option.some.inj h;by_cases h0:l0= []
  ·subst h0;rw[if_pos rfl];exact close_none m A0 c0 w
  ·rw[if_neg h0];have hpos:0<l0.length:=List.length_pos_iff.2 h0;obtain⟨ad0,_,rfl,_⟩ :=Kd.C_get hr0 0 0 Z92 Z92;exact close_gen m ad0 c0 l0 w hGL hr0 hc0 hc.1 hc.2 hpos
 ·simp at h
end Go.Proofs.YtnfgokmecllpbaaGreatDoor.Print
end
section
namespace Go.Proofs.YtnfgokmecllpbaaGreatDoor.Print
open Go.RowKit Go.Proofs.YtnfgokmecllpbaaGreatDoorW.PrintWords Go.Proofs.YtnfgokmecllpbaaGreatDoorW.PrintLast Go.Proofs.YtnfgokmecllpbaaGreatDoorW.PrintMore
attribute [local go_sem] max2_int min2_int max_two min_two max_three min_three max_four min_four
theorem Y64.calls (k:Nat) (A0:Option Addr) (c0:Nat) (l0:List Int) (A1:Option Addr) (c1:Nat) (l1:List Int) (r:List Int) (w:World) (hr0:Kd.C (Kd.int .u64) w A0 l0.length l0) (hc0:l0.length≤c0) (hr1:Kd.C (Kd.int .u64) w A1 l1.length l1) (hc1:l1.length≤c1) (h:Y64.f k l0 l1=some r):
  Calls Tryz.prog 185 #[.slice A0 l0.length c0,.slice A1 l1.length c1] w fun e w'=> ∃v0_:Value,e= .returned (v0_)∧Kd.V (Kd.int .u64) 156 w' w.heap.size (fun k_=>(w.heap.size≤k_)) v0_ r∧Below w.heap.size w w':=by
 have HR0:=Aside0.mk hr0;have HC0:=Aside0.mk hc0;clear hr0 hc0;have HR1:=Aside0.mk hr1;have HC1:=Aside0.mk hc1;clear hr1 hc1;have HB:=Aside0.mk (Below.refl w.heap.size w);have H:=h;clear h;unfold Y64.f at H;generalize hji3:(wrap64 ((wrap64 ((l0.length:Int)+ (l1.length:Int)))+1))=ji3 at H;have hji3w:(IntKind.i64.wrap ((wrap64 ((l0.length:Int)+ (l1.length:Int)))+1))=ji3:=(i64_w _).trans hji3;obtain⟨H,c4b0,c4b1⟩ :=Xkt H;obtain⟨H,c5b0,c5b1⟩ :=Xkt H;obtain⟨y193,hy193⟩ : ∃y_:List Int,y_= (List.replicate (ji3:Int).toNat 0):= ⟨_,rfl⟩
 try rw[←hy193] at H
 have Ny193:=Aside0.mk hy193;clear hy193;have H':=Aside0.mk H;clear H;go_enter Tryz.func185,Tryz.ntmps185
 go_wp2_with(first| ((with_reducible refine gate_dst (N:=18) rfl ?_);refine Kd.R_make (Kd.int .u64) _ 156 rfl (N:=18) rfl 172 _ _ rfl ji3 rfl rfl Tryz.underlying172 (.int .u64 0) 8 info156 rfl Z91 Z92 0 (ok:=fun _=>True) (okp:=fun _=>True) rfl (fun _ hk=>hk) trivial (of_decide_eq_true Z85) (Nat.le_trans (Nat.mul_le_mul_right _ (of_decide_eq_true Z85:ji3.toNat≤35184372088832)) Z92) (Below.refl _ _) (Nat.le_refl _) ?_;intro v194 w6 ho7 hb hg_ hnew_;clear hg_ hnew_;(first|rw[←Ny193.out] at ho7| (simp only[Int.reduceToNat] at ho7;rw[←Ny193.out] at ho7));have HO195:=Aside0.mk (Kd.R_lower (Kd.R_newM (M:=fun k_=>(w.heap.size≤k_)) ho7 (below_size Z36) (fun k_ h_=>h_)) (below_size Z36));replace HB:=Aside0.mk (below_step Z36 hb);clear hb ho7))
 go_loopg [21] k (fun kq v21 w'=> ∃(x5_1:List Int) (x21_1:Int),v21= .int .i64 x21_1∧Aside0 (Y64.l0 kq l1 x5_1 l0 (l0.length:Int) x21_1=some r)∧Aside0 (kq≤k)∧Aside0 (Kd.R (Kd.int .u64) 156 w' w.heap.size (fun k_=>(w.heap.size≤k_)) v194 x5_1)∧Aside0 (Below w.heap.size w w'))
 case atStart=>exact⟨(y193),(0),Z86,H',⟨Nat.le_refl _⟩,⟨by(with_reducible repeat(first|apply Kd.R_alloc|apply Kd.R_drewN|apply Kd.R_drew));exact Kd.R_mono HO195.out (fun _ hk=>hk.1)⟩,⟨Z36⟩⟩
 case round=>
  clear H';obtain⟨x5_1,x21_1,rfl,HA,HK1,HO_5,HB⟩ :=hrel;cases gk with
  |zero=>exact absurd HA.out (by simp[Y64.l0])
  |succ k1=>
   have H:=HA.out;clear HA;simp only[Y64.l0] at H;obtain⟨H,c8b0⟩ | ⟨H,c8b0⟩ :=Xd H
   ·obtain⟨H,c9b0⟩ :=Xkd H;obtain⟨H,c10b0⟩ :=Xkd H;have H':=Aside0.mk H;clear H;obtain⟨ad199,e199,hx199_0,p199,q199⟩ :=Zi HR0.out x21_1;cases e199;replace hx199_0:=(HB.out.cell (World.block_lt_of_cell? w _ hx199_0)).trans hx199_0;(go_wp2);go_loopg [8,28] k1 (fun kq v8 v28 w'=> ∃(x5_2:List Int) (x8_2:Int) (x28_2:Int),v8= .int .u64 x8_2∧v28= .int .i64 x28_2∧Aside0 (Y64.l1 kq l1 x5_2 x21_1 (rd l0 x21_1) x8_2 l0 (l0.length:Int) x21_1 l1 (l1.length:Int) x28_2=some r)∧Aside0 (kq≤k1)∧Aside0 (Kd.R (Kd.int .u64) 156 w' w.heap.size (fun k_=>(w.heap.size≤k_)) v194 x5_2)∧Aside0 (Below w.heap.size w w'))
    case atStart=>exact⟨(x5_1),(0),(0),Z86,Z86,H',⟨Nat.le_refl _⟩,⟨Z72⟩,⟨Z36⟩⟩
    case round=>
     clear H';obtain⟨x5_2,x8_2,x28_2,rfl,rfl,HA,HK2,HO_5,HB⟩ :=hrel;cases gk with
     |zero=>exact absurd HA.out (by simp[Y64.l1])
     |succ k2=>
      have H:=HA.out;clear HA;simp only[Y64.l1] at H;obtain⟨H,c11b0⟩ | ⟨H,c11b0⟩ :=Xd H
      ·obtain⟨H,c12b0⟩ :=Xkd H;obtain⟨H,c13b0⟩ :=Xkd H;generalize hji14:(wrap64 (x21_1+x28_2))=ji14 at H;have hji14w:(IntKind.i64.wrap (x21_1+x28_2))=ji14:=(i64_w _).trans hji14;obtain⟨H,c15b0⟩ :=Xkd H;obtain⟨H,c16b0⟩ :=Xkd H;obtain⟨y202,hy202⟩ : ∃y_:List Int,y_= (x5_2.set ((ji14):Int).toNat (Int.tmod (IntKind.u64.wrap (x8_2+ (IntKind.u64.wrap ((rd x5_2 (ji14))+ (IntKind.u64.wrap ((rd l0 x21_1) * (rd l1 x28_2))))))) 1000000000)):= ⟨_,rfl⟩
       (try rw[←hy202] at H);have Ny202:=Aside0.mk hy202;clear hy202;have H':=Aside0.mk H;clear H;obtain⟨ad200,e200,hx200_0,p200,q200⟩ :=Zi HR1.out x28_2;cases e200;replace hx200_0:=(HB.out.cell (World.block_lt_of_cell? w _ hx200_0)).trans hx200_0;obtain⟨Ao18,co18,eo18⟩ :=Kd.R_slice HO_5.out;subst eo18;have p201:0≤((ji14):Int):=of_decide_eq_true Z85;have q201:(ji14)< (x5_2.length:Int):=of_decide_eq_true Z85;obtain⟨ad201,e201,hx201_0⟩ :=Kd.at_int (Kd.R_reads' HO_5.out).2.2 (ji14) p201 q201;cases e201;replace p201:=eq_true p201;replace q201:=eq_true q201;have p17:0≤((ji14):Int):=of_decide_eq_true Z85;have q17:((ji14):Int)< ((x5_2.length:Int):Int):=of_decide_eq_true Z85;obtain⟨go17,co17,eo17,gb17,gl17,cl17,HG17⟩ :=Kd.R_form HO_5.out Z92;(first|cases eo17| (injection eo17 with ea_ en_ ec_;(first|subst ea_| (injection ea_ with ea_;subst ea_));subst ec_;clear en_));have GB17:=Aside0.mk gb17;have GG17:=Aside0.mk HG17;clear gb17 gl17 HG17;(first|simp only[add_plain] at hx201_0|skip);obtain⟨hx17_0,hf17_0⟩ :=Kd.R_celln 0 HO_5.out ((ji14):Int) p17 q17;replace p17:=eq_true p17;replace q17:=eq_true q17;have HP19:=Kd.R_putg HO_5.out ((ji14):Int) (Int.tmod (IntKind.u64.wrap (x8_2+ (IntKind.u64.wrap ((rd x5_2 (ji14))+ (IntKind.u64.wrap ((rd l0 x21_1) * (rd l1 x28_2))))))) 1000000000);(go_wp2_with(first| ((with_reducible refine gate_store (t:=156) (p:=51) rfl ?_);refine store_event (t:=156) (p:=51) (v:=?vo_w20) (w1:=(wr.setCell ⟨go17,((ji14):Int).toNat,none⟩ (.int .u64 (Int.tmod (IntKind.u64.wrap (x8_2+ (IntKind.u64.wrap ((rd x5_2 (ji14))+ (IntKind.u64.wrap ((rd l0 x21_1) * (rd l1 x28_2))))))) 1000000000)))) ?hg ?ho ?hn ?hr ?_;(case ho=>rfl);(case hg=>rfl);(case hn=>rfl);(case hr=>first| (go_simp;done)| (go_simp;rfl));intro w20 hw;have hg:wr.grownBy w20 (some go17):=(by rw[hw];exact HP19.2);have hp_:Kd.R (Kd.int .u64) 156 w20 w.heap.size (fun k_=>(w.heap.size≤k_)) (.slice (some ⟨go17,0,none⟩) x5_2.length co18) y202:=(by rw[hw,Ny202.out];exact HP19.1);clear HP19;replace HO_5:=Aside0.mk (hp_);replace HB:=Aside0.mk ((by rw[hw];exact below_set (HB.out) GB17.out:Below w.heap.size w w20));clear hg hw hp_)));go_roundg k2
       case measure=>have:=HK1.out;have:=HK2.out;omega
       case rel=>exact⟨(y202),(IntKind.u64.wrap (Int.tdiv (IntKind.u64.wrap (x8_2+ (IntKind.u64.wrap ((rd x5_2 (ji14))+ (IntKind.u64.wrap ((rd l0 x21_1) * (rd l1 x28_2))))))) 1000000000)),(wrap64 (x28_2+1)),(by first|rfl| (simp;done)| (simp only[←hji14] <;> (first|rfl|simp))| (simp[*];done)),Z86,H',⟨Z87⟩,⟨Z72⟩,⟨Z36⟩⟩
      ·have H':=Aside0.mk H;clear H;(go_wp2);go_loopg [8,11] k2 (fun kq v8 v11 w'=> ∃(x5_3:List Int) (x8_3:Int) (x11_3:Int),v8= .int .u64 x8_3∧v11= .int .i64 x11_3∧Aside0 (Y64.l2 kq l1 x5_3 x8_3 x11_3 l0 (l0.length:Int) x21_1=some r)∧Aside0 (kq≤k2)∧Aside0 (Kd.R (Kd.int .u64) 156 w' w.heap.size (fun k_=>(w.heap.size≤k_)) v194 x5_3)∧Aside0 (Below w.heap.size w w'))
       case atStart=>exact⟨(x5_2),(x8_2),(wrap64 (x21_1+ (l1.length:Int))),Z86,Z86,H',⟨Nat.le_refl _⟩,⟨Z72⟩,⟨Z36⟩⟩
       case round=>
        clear H';obtain⟨x5_3,x8_3,x11_3,rfl,rfl,HA,HK3,HO_5,HB⟩ :=hrel;cases gk with
        |zero=>exact absurd HA.out (by simp[Y64.l2])
        |succ k3=>
         have H:=HA.out;clear HA;simp only[Y64.l2] at H;obtain⟨H,c21⟩ | ⟨H,c21⟩ :=XI H
         ·have c21b0:decide (0<x8_3)=true:=decide_eq_true c21;clear c21;obtain⟨H,c22b0⟩ :=Xkd H;obtain⟨H,c23b0⟩ :=Xkd H;obtain⟨y204,hy204⟩ : ∃y_:List Int,y_= (x5_3.set (x11_3:Int).toNat (Int.tmod (IntKind.u64.wrap (x8_3+ (rd x5_3 x11_3))) 1000000000)):= ⟨_,rfl⟩
          (try rw[←hy204] at H);have Ny204:=Aside0.mk hy204;clear hy204;have H':=Aside0.mk H;clear H;obtain⟨Ao25,co25,eo25⟩ :=Kd.R_slice HO_5.out;subst eo25;have p203:0≤(x11_3:Int):=of_decide_eq_true Z85;have q203:x11_3< (x5_3.length:Int):=of_decide_eq_true Z85;obtain⟨ad203,e203,hx203_0⟩ :=Kd.at_int (Kd.R_reads' HO_5.out).2.2 x11_3 p203 q203;cases e203;replace p203:=eq_true p203;replace q203:=eq_true q203;have p24:0≤(x11_3:Int):=of_decide_eq_true Z85;have q24:(x11_3:Int)< ((x5_3.length:Int):Int):=of_decide_eq_true Z85;obtain⟨go24,co24,eo24,gb24,gl24,cl24,HG24⟩ :=Kd.R_form HO_5.out Z92;(first|cases eo24| (injection eo24 with ea_ en_ ec_;(first|subst ea_| (injection ea_ with ea_;subst ea_));subst ec_;clear en_));have GB24:=Aside0.mk gb24;have GG24:=Aside0.mk HG24;clear gb24 gl24 HG24;(first|simp only[add_plain] at hx203_0|skip);obtain⟨hx24_0,hf24_0⟩ :=Kd.R_celln 0 HO_5.out (x11_3:Int) p24 q24;replace p24:=eq_true p24;replace q24:=eq_true q24;have HP26:=Kd.R_putg HO_5.out (x11_3:Int) (Int.tmod (IntKind.u64.wrap (x8_3+ (rd x5_3 x11_3))) 1000000000);(go_wp2_with(first| ((with_reducible refine gate_store (t:=156) (p:=73) rfl ?_);refine store_event (t:=156) (p:=73) (v:=?vo_w27) (w1:=(wr.setCell ⟨go24,(x11_3:Int).toNat,none⟩ (.int .u64 (Int.tmod (IntKind.u64.wrap (x8_3+ (rd x5_3 x11_3))) 1000000000)))) ?hg ?ho ?hn ?hr ?_;(case ho=>rfl);(case hg=>rfl);(case hn=>rfl);(case hr=>first| (go_simp;done)| (go_simp;rfl));intro w27 hw;have hg:wr.grownBy w27 (some go24):=(by rw[hw];exact HP26.2);have hp_:Kd.R (Kd.int .u64) 156 w27 w.heap.size (fun k_=>(w.heap.size≤k_)) (.slice (some ⟨go24,0,none⟩) x5_3.length co25) y204:=(by rw[hw,Ny204.out];exact HP26.1);clear HP26;replace HO_5:=Aside0.mk (hp_);replace HB:=Aside0.mk ((by rw[hw];exact below_set (HB.out) GB24.out:Below w.heap.size w w27));clear hg hw hp_)));go_roundg k3
          case measure=>have:=HK1.out;have:=HK2.out;have:=HK3.out;omega
          case rel=>exact⟨(y204),(IntKind.u64.wrap (Int.tdiv (IntKind.u64.wrap (x8_3+ (rd x5_3 x11_3))) 1000000000)),(wrap64 (x11_3+1)),Z86,Z86,H',⟨by have:=HK1.out;have:=HK2.out;have:=HK3.out;omega⟩,⟨Z72⟩,⟨Z36⟩⟩
         ·have c21b0:decide (0<x8_3)=false:=decide_eq_false c21;clear c21;have H':=Aside0.mk H;clear H;(go_wp2);go_roundg k3
          case measure=>have:=HK1.out;have:=HK2.out;have:=HK3.out;omega
          case rel=>exact⟨(x5_3),(wrap64 (x21_1+1)),Z86,H',⟨by have:=HK1.out;have:=HK2.out;have:=HK3.out;omega⟩,⟨Z72⟩,⟨Z36⟩⟩
   ·obtain⟨t196,A28,H⟩ :=Zb H;(try dsimp only at H);obtain rfl:=Option.some.inj H;obtain⟨Ao29,co29,eo29⟩ :=Kd.R_slice HO_5.out;subst eo29;(go_wp2_with(first| (refine Zc Tryz.func212 (Y72.calls _ (fun k_=>some k_= (.slice Ao29 x5_1.length co29:Value).ownBlock) _ _ _ _ _ (Kd.R_V (Kd.R_tight rfl (HO_5.out))) A28.out) ?_;rintro e w30 ⟨v197,rfl,ho0,hb⟩;refine⟨_,rfl,?_⟩;have HO198:=Aside0.mk (Kd.V_lower (Kd.V_mono (ok':=fun k_=>(w.heap.size≤k_)) ho0 (fun k_ hk_=>Or.elim hk_ (fun hs_=>((HO_5.out).1 k_ hs_.symm)) (fun hn_=>(Nat.le_trans (below_size Z36) hn_)))) (below_size Z36));replace HO_5:=Aside0.mk (Kd.R_below Z72 hb);replace HB:=Aside0.mk (below_step Z36 hb);try clear hb;(try clear ho0))));(go_ret);exact⟨_,Z24,by(with_reducible repeat(first|apply Kd.V_alloc|apply Kd.V_drewN|apply Kd.V_drew));exact HO198.out,Z36⟩
theorem Y63.calls (k:Nat) (A0:Option Addr) (c0:Nat) (l0:List Int) (a1:Int) (r:List Int) (w:World) (hr0:Kd.C (Kd.int .u64) w A0 l0.length l0) (hc0:l0.length≤c0) (h:Y63.f k l0 a1=some r):
  Calls Tryz.prog 214 #[.slice A0 l0.length c0,.int .u64 a1] w fun e w'=> ∃v0_:Value,e= .returned (v0_)∧Kd.V (Kd.int .u64) 156 w' w.heap.size (fun k_=>(w.heap.size≤k_)) v0_ r∧Below w.heap.size w w':=by
 have HR0:=Aside0.mk hr0;have HC0:=Aside0.mk hc0;clear hr0 hc0;have HB:=Aside0.mk (Below.refl w.heap.size w);have H:=h;clear h;unfold Y63.f at H;obtain⟨y205,hy205⟩ : ∃y_:List Int,y_= (([a1]:List Int)):= ⟨_,rfl⟩
 try rw[←hy205] at H
 have Ny205:=Aside0.mk hy205;clear hy205;obtain⟨t208,A3,H⟩ :=Zb H;try dsimp only at H
 obtain⟨t211,A4,H⟩ :=Zb H;try dsimp only at H
 obtain rfl:=Option.some.inj H;go_enter Tryz.func214,Tryz.ntmps214
 go_wp2_with(first| ((with_reducible refine gate_dst (N:=7) rfl ?_);refine Kd.R_lit (Kd.int .u64) _ 156 ?hg (N:=7) ?hd (xs:=([a1]:List Int)) (inner:=[.int .u64 a1]) (ok:=fun _=>True) (okp:=fun _=>True) ?hr ?hp (fun _ hk=>hk) trivial (Below.refl _ _) (Nat.le_refl _) Z93 ?_;(case hd=>rfl);(case hg=>rfl);(case hr=>first| (go_simp;done)| (go_simp;rfl));(case hp=>exact(Reps.one (show Kd.M (Kd.int .u64) _ _ _ a1 [.int .u64 a1] from rfl) (Reps.none _ _)));intro v206 w5 ho6 hb hg_ hnew_;clear hg_ hnew_;(first|rw[←Ny205.out] at ho6| (simp only[Int.reduceToNat] at ho6;rw[←Ny205.out] at ho6));have HO207:=Aside0.mk (Kd.R_lower (Kd.R_newM (M:=fun k_=>(w.heap.size≤k_)) ho6 (below_size Z36) (fun k_ h_=>h_)) (below_size Z36));replace HB:=Aside0.mk (below_step Z36 hb);clear hb ho6;obtain⟨Ao7,co7,eo7⟩ :=Kd.R_slice HO207.out;subst eo7)| (refine Zc Tryz.func212 (Y72.calls _ (fun k_=>some k_= (.slice Ao7 y205.length co7:Value).ownBlock) _ _ _ _ _ (Kd.R_V (Kd.R_tight rfl (HO207.out))) A3.out) ?_;rintro e w8 ⟨v209,rfl,ho0,hb⟩;refine⟨_,rfl,?_⟩;have HO210:=Aside0.mk (Kd.V_lower (Kd.V_mono (ok':=fun k_=>(w.heap.size≤k_)) ho0 (fun k_ hk_=>Or.elim hk_ (fun hs_=>((HO207.out).1 k_ hs_.symm).1) (fun hn_=>(Nat.le_trans (below_size Z36) hn_)))) (below_size Z36));replace HO207:=Aside0.mk (Kd.R_below (by(with_reducible repeat(first|apply Kd.R_alloc|apply Kd.R_drewN|apply Kd.R_drew));exact HO207.out) hb);replace HB:=Aside0.mk (below_step Z36 hb);try clear hb;(try clear ho0);obtain⟨Ao9,co9,eo9⟩ :=Kd.V_slice HO210.out;subst eo9)| (refine Zc Tryz.func185 (Y64.calls _ _ _ _ _ _ _ _ _ (by repeat(first|exact(Kd.C_below HR0.out HB.out)| (with_reducible refine Kd.C_alloc ?_ _)| (with_reducible refine Kd.C_drewN ?_ _)| (with_reducible refine Kd.C_drew ?_))) HC0.out (by repeat(first|exact(Kd.V_reads' HO210.out).2.2| (with_reducible refine Kd.C_alloc ?_ _)| (with_reducible refine Kd.C_drewN ?_ _)| (with_reducible refine Kd.C_drew ?_))) ((Kd.V_reads' HO210.out).2.1) A4.out) ?_;rintro e w10 ⟨v212,rfl,ho0,hb⟩;refine⟨_,rfl,?_⟩;replace HO210:=Aside0.mk (Kd.V_below (by(with_reducible repeat(first|apply Kd.V_alloc|apply Kd.V_drewN|apply Kd.V_drew));exact HO210.out) hb);have HO213:=Aside0.mk (Kd.V_lower (Kd.V_mono (ok':=fun k_=>(w.heap.size≤k_)∧some k_≠(.slice Ao7 y205.length co7:Value).ownBlock) ho0 (fun k_ hk_=> ⟨(Nat.le_trans (below_size Z36) hk_),(Kd.fresh' (Kd.R_lt (by(with_reducible repeat(first|apply Kd.R_alloc|apply Kd.R_drewN|apply Kd.R_drew));exact HO207.out)) k_ hk_)⟩)) (below_size Z36));replace HO207:=Aside0.mk (Kd.R_below (by(with_reducible repeat(first|apply Kd.R_alloc|apply Kd.R_drewN|apply Kd.R_drew));exact HO207.out) hb);replace HB:=Aside0.mk (below_step Z36 hb);try clear hb;(try clear ho0)))
 go_ret
 exact⟨_,Z81,by(with_reducible repeat(first|apply Kd.V_alloc|apply Kd.V_drewN|apply Kd.V_drew));exact Kd.V_mono HO213.out (fun _ hk=>hk.1),Z36⟩
end Go.Proofs.YtnfgokmecllpbaaGreatDoor.Print
end
