/- Part of the proof in YtnfgokmecllpbaaGreatDoorMParses6. -/
import Derived.Test.YtnfgokmecllpbaaGreatDoorProg
import Derived.Below
import Derived.Lib.LaidTab
import Derived.Lib.AppendIntMem
import Derived.Lib.ItoaNum
import Derived.Laws.Rows
import Derived.Test.YtnfgokmecllpbaaGreatDoorRows
import Derived.WalkKit
import Derived.ProofKit
import Derived.OpenShut
import Derived.ShutString
import Derived.ChangeOld
import Derived.SizedLaws
import Derived.LaidMore
import Derived.LaidHandle
import Derived.LaidLaws
import Derived.Lay
import Derived.Stop.Joined
import Derived.Handed
import Derived.HandedShaped
import Derived.Shelf.Vars
import Derived.ChangeSame
import Derived.ChangeArms
import Derived.JoinedOf
import Derived.Lib.SmallJoins
import Derived.Lib.Atoi
import Derived.Lib.ParseIntB
import Derived.Lib.IndexMore
import Derived.Lib.Repeat
import Derived.Lib.TrimByte
import Derived.Lib.IndexAny
import Derived.Lib.Bytealg
import Derived.Test.YtnfgokmecllpbaaGreatDoorMParses0
set_option linter.unusedVariables false
set_option linter.unusedSimpArgs false
set_option maxHeartbeats 8000000
set_option maxRecDepth 100000
section
namespace Go.Proofs.YtnfgokmecllpbaaGreatDoorW.PrintWords
open Go.RowKit
theorem results_ct1 {P:Program} {fn:Func} {p u:Tmp} {ty:TypeId} (h:fn.results= #[.cell p ty,.tmp u]) (tmps:Array Value) (w:World) (g:Nat) (t:TypeId) (v:Value) (fr:Nat×Nat) (e:TypeId)
  (hp:tmps.getD p undef= .pointer (some ⟨g,0,none⟩)) (hg:w.heap[g]? =some (.cells #[v] t fr)) (hu:P.underlying ty=some (.slice e)):
  (results fn tmps).run P w= .ok (.tuple #[v,tmps.getD u undef]) w:=by
 have hp':tmps[p]?.getD undef= .pointer (some ⟨g,0,none⟩):=by simpa using hp
 have hc:w.cell? ⟨g,0,none⟩ =some v:=by simp[World.cell?,hg]
 have hagg:(isAgg ty).run P w= .ok false w:=by
  unfold isAgg;rw[Sem.run_bind,run_underlying hu w];simp
 have hl:(loadVar ty ⟨g,0,none⟩).run P w= .ok v w:=by simp[loadVar,Sem.run_bind,hagg,go_sem,hc]
 simp[results,h,hp',asAddr,hl]
theorem kp_tdiv (b:Int):Int.tdiv 1000000000 b=1000000000 / b:=Int.tdiv_eq_ediv_of_nonneg (by decide)
namespace Kd
variable {α:Type} {P:Program} {ops:Array Oper} {rest:List Oper} {o:Oper} {a:Act} {Q:Exit→Act→World→Prop}
theorem V_nb {d:Kd α} {e base n c g:Nat} {W:World} {ok:Nat→Prop} {ad:Addr} {xs:List α} (h:V d e W base ok (.slice (some ad) n c) xs) (hok: ∀k,ok k→k≠g) (hn:0<n) (hs:0<d.sz):ad.block≠g:=foot_ne (C_foot_ownV h hok) hn hs
theorem R_makecap (d:Kd α) {w0 W:World} (base e:Nat) (hgd:o.guard=none) {N:Tmp} (hd:o.dst=some N) (t:TypeId) (x y:Operand) (ho:o.op= .makeSlice t x y) (n:Int) (hx:a.eval x= .int .i64 0) (hy:a.eval y= .int .i64 n)
  (ht:P.underlying t=some (.slice e)) (z:Value) (bytes:Nat) (hinfo:(P.info? e).map (fun i=>(i.zero,i.size,i.bytes))=some (some z,d.sz,bytes)) (hz:z.cells.size=d.sz) (hs0:0<d.sz) (hb0:0<bytes)
  (z0:α) {ok okp:Nat→Prop} (hzero:d.M W base okp z0 z.cells.toList) (hok: ∀k,okp k→ok k) (hfresh:ok W.heap.size) (h0:0≤n) (hl:n.toNat * bytes≤281474976710656) (HB:Below base w0 W) (hbase:base≤W.heap.size)
  (h: ∀v1 w1,d.R e w1 base ok v1 ([]:List α)→Below base w0 w1→W.grownBy w1 none→(∃b,v1.ownBlock=some b∧W.heap.size≤b)→wpList P ops Q rest (a.put o.dst v1) w1):wpList P ops Q (o::rest) a W:=by
 obtain⟨m,rfl⟩ :=Int.eq_ofNat_of_zero_le h0;simp only[Int.toNat_natCast] at hl;obtain⟨i0,hi,hzz⟩ :=Option.map_eq_some_iff.1 hinfo;simp only[Prod.mk.injEq] at hzz;obtain⟨hz0,hz1,hz2⟩ :=hzz;have hm:m≤281474976710656:=Nat.le_trans (Nat.le_mul_of_pos_right _ hb0) hl;have hr:=run_make (P:=P) W t e i0 z ht hi hz0 .i64 .i64 (0:Int) (m:Int) (by omega) (by omega)
  (by
   have h3:((i0.bytes * m:Nat):Int)≤281474976710656:=by rw[hz2,Nat.mul_comm];omega
   rwa [Int.natCast_mul] at h3) (by omega)
 simp only[Int.toNat_natCast] at hr;rw[hz1] at hr;have hrun:(execOp a.eval o).run P W= .ok (.value (.slice (some ⟨W.heap.size,0,none⟩) 0 m)) (W.alloc (.cells (madeCells z.cells (m * d.sz)) e)):=by simp[execOp,ho,hx,hy,hr]
 refine event_run hgd hrun (h _ _ ⟨fun k hk=>?_,[],?_,?_⟩ (HB.alloc hbase _) (World.grownBy_alloc W _ none) ⟨W.heap.size,by simp[Value.ownBlock],Nat.le_refl _⟩)
 ·have:W.heap.size=k:=by simpa [Value.ownBlock] using hk
  subst this;exact hfresh
 ·have h2:=World.ownsRow_lit (base:=base) (e:=e) (size:=d.sz) W (madeCells z.cells (m * d.sz)) m hbase (by simpa [maxLen] using (by omega:m≤9223372036854775807)) (by simp[size_madeCells]);have h3:=own_take (m:=0) h2 (Nat.zero_le _)
  simpa using h3
 ·exact Reps.none _ _
end Kd
end Go.Proofs.YtnfgokmecllpbaaGreatDoorW.PrintWords
namespace Go.Proofs.YtnfgokmecllpbaaGreatDoor.Print
open Go.RowKit Go.Proofs.YtnfgokmecllpbaaGreatDoorW.PrintWords
structure GL (w:World):Prop where
 maxLen: ∃m,w.cell? ⟨0,0,none⟩ =some (.int .i64 m)
 pow10:Lib.TabIs Tryz.prog w "internal/strconv.uint64pow10" .u64 Lib.pow10Tab
theorem GL_below {w W:World} (hb:Below w.heap.size w W) (h:GL w):GL W:=
 ⟨by obtain⟨m,hm⟩ :=h.maxLen;exact⟨m,pw_cell_below hb hm⟩,Lib.tabBelow_of_tabIs h.pow10 _ hb⟩
theorem GL_drewN {w:World} (n:Nat) (h:GL w):GL (w.drewN n):=GL_below (pw_below_drewN (Below.refl _ _) n) h
theorem GL_drew {w:World} (h:GL w):GL w.drew:=GL_below (below_drew (Below.refl _ _)) h
end Go.Proofs.YtnfgokmecllpbaaGreatDoor.Print
end
section
namespace Go.Proofs.YtnfgokmecllpbaaGreatDoor
open Go Go.ChangeShapes Go.WideShapes Go.ChangeAt Go.RowKit
open Go.ChangeMaps (open_string shut_string)
theorem own:ownKnob Tryz.prog.godebug=none:=by kernel_rfl
noncomputable def laid7:List (String×DataW Unit):=Rows.rationalMultipliesRow.laid
theorem pow10_data:(Rows.laid_internal_strconv_uint64pow10:DataW Unit)=Lib.tabData .u64 Lib.pow10Tab:=by kernel_rfl
theorem tab_of_list {name:String} {k:IntKind} {zs:List Int} {g:Nat} {t e:TypeId} {n:Nat} {W:World}
  (hg:Tryz.prog.globalNamed name=some g) (hty:(Tryz.prog.globals[g]?).map (·.type)=some t) (ht:Tryz.prog.underlying t=some (.array n e)) (he:Tryz.prog.underlying e=some (.int k)) (hce:Tryz.prog.cellsOf e=1) (hct:Tryz.prog.cellsOf t=n)
  {l:List (String×DataW Unit)} (h:laidMet Tryz.prog ((name,Lib.tabData k zs)::l) W):Lib.TabIs Tryz.prog W name k zs:=Lib.tabIs_of_head hg hty ht he hce hct h
theorem laidMet_tail {x:String×DataW Unit} {l:List (String×DataW Unit)} {W:World} (h:laidMet Tryz.prog (x::l) W):laidMet Tryz.prog l W:=by
 obtain⟨ps,hl,hr⟩ :=h;obtain⟨g,t,cs,fuel,p,q,_,_,_,_,h2,h3⟩ :=hl;subst h3;exact⟨q,h2,(List.nodup_append.1 hr.1).2.1,fun b off hm=>hr.2 b off (List.mem_append_right _ hm)⟩
theorem cellMax {W:World} (h:W.ShapedOpen Tryz.prog): ∃m,W.cell? ⟨0,0,none⟩ =some (.int .i64 m):=
 cell_of_shapedOpen_int (t:=3) (zero:=#[.int .i64 0]) h (of_decide_eq_true (by kernel_rfl)) (by kernel_rfl) (by kernel_rfl) (by kernel_rfl) (by kernel_rfl) (by kernel_rfl)
theorem GL_of {W:World} (hs:W.ShapedOpen Tryz.prog) (h:laidMetH Tryz.prog laid7 W):Print.GL W:=by
 rw[MakeChecks.laidMetH_plain _ _ _ (by kernel_rfl)] at h;have h2:laidMet Tryz.prog [("internal/strconv.uint64pow10",Rows.laid_internal_strconv_uint64pow10),("unicode/utf8.acceptRanges",Rows.laid_unicode_utf8_acceptRanges),("strconv.ErrRange",Rows.laid_strconv_ErrRange),("strconv.ErrSyntax",Rows.laid_strconv_ErrSyntax),("unicode/utf8.first",Rows.laid_unicode_utf8_first)] W:=laidMet_tail (laidMet_tail h)
 rw[pow10_data] at h2;exact⟨cellMax hs,tab_of_list (g:=3) (t:=227) (e:=156) (n:=20) (by kernel_rfl) (by kernel_rfl) (by kernel_rfl) (by kernel_rfl) (by kernel_rfl) (by kernel_rfl) h2⟩
theorem start_met (os:Os) (args:Array Value):laidMetH Tryz.prog laid7 ((World.laidAll Tryz.prog os laid7).forCall (fun _ _=>0) ⟨#[],args,[]⟩).memory:=by
 rw[MakeChecks.laidMetH_plain _ _ _ (by kernel_rfl)];exact laidMet_laidAll _ (by kernel_rfl) (by kernel_rfl)
theorem returns_and_shaped {a:Assume} {C:Checked} {os:Os} {f:FuncId} {fn:Func} {s:ChangeSpec} {conds:List PathCond} {apart fresh handsOn again:Bool} {X:World→Array Value→Prop} {H:Type} {enc:TypeId×Value→H}
  (hX: ∀(w w':World) (args:Array Value),w.heap=w'.heap→X w args→X w' args)
  (own:ownKnob C.prog.godebug=none) (started:os.Started) (noInit:C.prog.inits.idxOf? f=none) (hfn:C.prog.funcs[f]? =some fn)
  (witness: ∃(w:World) (tape:Tape) (i:Input),w.os=os∧(w.forCall tape i).Shaped C.prog∧i.vars= []∧Input.okWide C.prog (w.forCall tape i) .any w.heap.size f i∧
   ((s.pre enc C.prog fn conds apart (w.forCall tape i).memory i.args∧X (w.forCall tape i).memory i.args)∧sizedMet enc C.prog fn (OpenSpec.ofChange s) apart (w.forCall tape i).memory i.args)∧a.holds C.prog (lone (Frame.enter C.prog f i.args .normal) [] (w.forCall tape i)))
  (contract: ∀(W:World) (base:Nat) (args:Array Value) (ds gs:List (DataW H)) (before:List MemPlace),
   (∀(j:Nat) t v,fn.params[j]? =some t→args[j]? =some v→Value.okWide C.prog W .any base t v)→
   DataW.Whole enc C.prog fn.params.toList s.vars apart W args.toList ds gs before→
   (DataW.weightsEach C.prog (fn.params.toList++s.plain.varTypes C.prog) (ds++gs)).all (·≤reachBytes)=true→X W args→W.ShapedOpen C.prog→
   Calls C.prog f args W fun e W'=> ∃v,e= .returned v∧s.post enc C.prog fn apart fresh handsOn again W args v W'):
  ReturnsInHanded a C os f .any (fun w args=>(s.pre enc C.prog fn conds apart w args∧X w args)∧sizedMet enc C.prog fn (OpenSpec.ofChange s) apart w args) (s.post enc C.prog fn apart fresh handsOn again):=by
 refine returnsInHanded_of_calls own started noInit witness ?_;intro w tape i _ hsh _ hok hpre _;obtain⟨_,_,_,fn',hfn',_,_,_,_,hval⟩ :=hok;obtain rfl:fn'=fn:=Option.some.inj (hfn'.symm.trans hfn);obtain⟨⟨⟨ds,gs,before,hw,_⟩,hx⟩,hz⟩ :=hpre;have hw':=DataW.Whole.of_heap (w':=w.forCall tape i) (by rfl) hw;refine(contract (w.forCall tape i) w.heap.size i.args ds gs before hval hw' (hz.weights hw) (hX _ _ _ (by rfl) hx) hsh).mono fun e W' ⟨v,he,hp⟩ =>?_
 subst he;exact ChangeSpec.post_blind hp
end Go.Proofs.YtnfgokmecllpbaaGreatDoor
end
section
namespace Go.Proofs.YtnfgokmecllpbaaGreatDoor
open Go Go.ChangeShapes Go.WideShapes Go.ChangeAt Go.RowKit
set_option maxRecDepth 100000
theorem wf8 {n:Int} (h:(Lit.int .u8 n).wf=true):0≤n∧n<256:=by
 simp[Lit.wf,IntKind.min,IntKind.max,IntKind.signed,IntKind.bits] at h;omega
end Go.Proofs.YtnfgokmecllpbaaGreatDoor
end
section
namespace Go.Proofs.YtnfgokmecllpbaaGreatDoor
open Go
theorem closedWf:Rows.rationalParsesRow.wf (OpenSpec.ofChange Rows.rationalParsesSpec)=true:=by kernel_rfl
theorem closedOut:laidOutB Tryz.prog=true:=by kernel_rfl
theorem closedMaps:mapsRowed Tryz.prog=true:=by kernel_rfl
theorem closedUnf:(Rows.rationalParsesRow.unfollowed==Tryz.prog.unfollowed 6)=true:=by kernel_rfl
theorem closedRec:(Rows.rationalParsesRow.recurses==Tryz.prog.recurses 6)=true:=by kernel_rfl
theorem closedIn:(Rows.rationalParsesRow.inPlace==Tryz.prog.inPlace 6)=true:=by kernel_rfl
theorem closedNamed:(Rows.rationalParsesRow.named==Tryz.prog.varsNamed 6)=true:=by kernel_rfl
theorem parses_closed:joinedFacts Tryz.prog 6 Tryz.f6 Rows.rationalParsesSpec Rows.rationalParsesRow=true:=by
 unfold joinedFacts;rw[closedWf,closedOut,closedMaps,closedUnf,closedRec,closedIn,closedNamed]
 kernel_rfl
end Go.Proofs.YtnfgokmecllpbaaGreatDoor
end
section
namespace Go.Proofs.YtnfgokmecllpbaaGreatDoor.Print
open Go.RowKit Go.Proofs.YtnfgokmecllpbaaGreatDoorW.PrintWords Go.Proofs.YtnfgokmecllpbaaGreatDoorW.PrintLast Go.Proofs.YtnfgokmecllpbaaGreatDoorW.PrintMore
def Y36.f (n:Int):Option ByteArray:=if -9223372036854775808≤n∧n≤9223372036854775807 then some ⟨(Lib.itoa n).toArray⟩ else none
def Y50.f (a0:Int):Option (ByteArray):=(Y36.f a0).bind fun t499=>(some t499)
def Y16.f (a0:ByteArray):Option (Bool×ByteArray):=if(a0.size:Int) > 0 then(if 0< (a0.size:Int) then(if(bt a0 0)=45 then(if 1≤(a0.size:Int) then(some (true,a0.extract 1 a0.size)) else(none)) else(some (false,a0))) else(none)) else(some (false,a0))
def Y46.l0:Nat→List Int→Option (List Int)
 |0,_=>none
 |k+1,x0=>if(x0.length:Int) > 0 then(if 0≤(wrap64 ((x0.length:Int) - 1)) then(if(wrap64 ((x0.length:Int) - 1))< (x0.length:Int) then(if(rd x0 (wrap64 ((x0.length:Int) - 1)))=0 then(if(wrap64 ((x0.length:Int) - 1))≤(x0.length:Int) then(Y46.l0 k (x0.take ((wrap64 ((x0.length:Int) - 1)):Int).toNat)) else(none)) else(some x0)) else(none)) else(none)) else(some x0)
def Y46.f (k:Nat) (l0:List Int):Option (List Int):=Y46.l0 k l0
mutual
def Y18.l0:Nat→List Int→List Int→Int→Int→Option (List Int)
 |0,_,_,_,_=>none
 |k+1,x0,x3,x4,x5=>if x5< (x0.length:Int) then(Y18.j1 k x0 x3 x4 x5 true) else(Y18.j1 k x0 x3 x4 x5 (x4 !=0))
def Y18.j1:Nat→List Int→List Int→Int→Int→Bool→Option (List Int)
 |0,_,_,_,_,_=>none
 |k+1,x0,x3,x4,x5,x14=>if x14=true then(if x5< (x0.length:Int) then(if 0≤x5 then(if(Int.tmod (wrap64 (x4+ (rd x0 x5))) 10000)<0 then(if x3.length<17592186044416 then(Y18.l0 k x0 (x3++ [wrap64 ((Int.tmod (wrap64 (x4+ (rd x0 x5))) 10000)+10000)]) (wrap64 (Int.tdiv (wrap64 ((wrap64 (x4+ (rd x0 x5))) - (wrap64 ((Int.tmod (wrap64 (x4+ (rd x0 x5))) 10000)+10000)))) 10000)) (wrap64 (x5+1))) else(none)) else(if x3.length<17592186044416 then(Y18.l0 k x0 (x3++ [Int.tmod (wrap64 (x4+ (rd x0 x5))) 10000]) (wrap64 (Int.tdiv (wrap64 ((wrap64 (x4+ (rd x0 x5))) - (Int.tmod (wrap64 (x4+ (rd x0 x5))) 10000))) 10000)) (wrap64 (x5+1))) else(none))) else(none)) else(if(Int.tmod x4 10000)<0 then(if x3.length<17592186044416 then(Y18.l0 k x0 (x3++ [wrap64 ((Int.tmod x4 10000)+10000)]) (wrap64 (Int.tdiv (wrap64 (x4 - (wrap64 ((Int.tmod x4 10000)+10000)))) 10000)) (wrap64 (x5+1))) else(none)) else(if x3.length<17592186044416 then(Y18.l0 k x0 (x3++ [Int.tmod x4 10000]) (wrap64 (Int.tdiv (wrap64 (x4 - (Int.tmod x4 10000))) 10000)) (wrap64 (x5+1))) else(none)))) else((Y46.f k x3).bind fun t512=>(some t512))
end
def Y18.f (k:Nat) (l0:List Int):Option (List Int):=Y18.l0 k l0 ([]:List Int) 0 0
mutual
def Y10.l0:Nat→List Int→Int→Int→List Int→Int→Option (List Int)
 |0,_,_,_,_,_=>none
 |k+1,x1,x2,x3,x9,x10=>if x10< (x1.length:Int) then(Y10.l1 k x1 x2 x3 x9 x10) else((Y18.f k x9).bind fun t534=>(some t534))
def Y10.l1:Nat→List Int→Int→Int→List Int→Int→Option (List Int)
 |0,_,_,_,_,_=>none
 |k+1,x1,x2,x3,x9,x10=>if(x9.length:Int)≤(wrap64 (x10+x3)) then(if x9.length<17592186044416 then(Y10.l1 k x1 x2 x3 (x9++ [0]) x10) else(none)) else(if 0≤(wrap64 (x10+x3)) then(if(wrap64 (x10+x3))< (x9.length:Int) then(if 0≤x10 then(if x10< (x1.length:Int) then(Y10.l0 k x1 x2 x3 (x9.set ((wrap64 (x10+x3)):Int).toNat (wrap64 ((rd x9 (wrap64 (x10+x3)))+ (wrap64 (x2 * (rd x1 x10)))))) (wrap64 (x10+1))) else(none)) else(none)) else(none)) else(none))
end
def Y10.f (k:Nat) (l0:List Int) (l1:List Int) (a2:Int) (a3:Int):Option (List Int):=(some (([]:List Int):List Int)).bind fun y528=>(if y528.length+l0.length<17592186044416 then(Y10.l0 k l1 a2 a3 (y528++l0) 0) else(none))
def Y29.l0:Nat→List Int→ByteArray→Int→Option (ByteArray)
 |0,_,_,_=>none
 |k+1,x0,x3,x4=>if x4≥0 then(if 0≤x4 then(if x4< (x0.length:Int) then((Y36.f (wrap64 (10000+ (rd x0 x4)))).bind fun t580=>(if 1≤(t580.size:Int) then(if x3.size+ (t580.extract 1 t580.size).size≤9223372036854775807 then(Y29.l0 k x0 (x3++ (t580.extract 1 t580.size)) (wrap64 (x4 - 1))) else(none)) else(none))) else(none)) else(none)) else(some x3)
def Y29.f (k:Nat) (l0:List Int):Option (ByteArray):=if(l0.length:Int)=0 then(some (⟨#[48]⟩ :ByteArray)) else(if 0≤(wrap64 ((l0.length:Int) - 1)) then(if(wrap64 ((l0.length:Int) - 1))< (l0.length:Int) then((Y36.f (rd l0 (wrap64 ((l0.length:Int) - 1)))).bind fun t578=>(Y29.l0 k l0 t578 (wrap64 ((l0.length:Int) - 2)))) else(none)) else(none))
def Y31.j0:Nat→List Int→Bool→Option (ByteArray)
 |0,_,_=>none
 |k+1,x1,x12=>if x12=true then((Y29.f k x1).bind fun t584=>(if 1+t584.size≤9223372036854775807 then(some ((⟨#[45]⟩ :ByteArray)++t584)) else(none))) else((Y29.f k x1).bind fun t585=>(some t585))
def Y31.f (k:Nat) (a0:Bool) (l1:List Int):Option (ByteArray):=(Y46.f k l1).bind fun t581=>(if a0=true then(Y31.j0 k t581 (decide ((t581.length:Int) > 0))) else(Y31.j0 k t581 false))
def Y30.l0:Nat→List Int→List Int→Int→Option (Bool)
 |0,_,_,_=>none
 |k+1,x0,x1,x5=>if x5≥0 then(if 0≤x5 then(if x5< (x0.length:Int) then(if x5< (x1.length:Int) then(if(rd x0 x5)= (rd x1 x5) then(Y30.l0 k x0 x1 (wrap64 (x5 - 1))) else(some (decide ((rd x0 x5)< (rd x1 x5))))) else(none)) else(none)) else(none)) else(some false)
def Y30.f (k:Nat) (l0:List Int) (l1:List Int):Option (Bool):=if(l0.length:Int)= (l1.length:Int) then(Y30.l0 k l0 l1 (wrap64 ((l0.length:Int) - 1))) else(some (decide ((l0.length:Int)< (l1.length:Int))))
mutual
def Y19.l0:Nat→List Int→List Int→List Int→List Int→Int→Option (List Int×List Int)
 |0,_,_,_,_,_=>none
 |k+1,x0,x1,x6,x7,x8=>if x8≥0 then(if 0≤x8 then(if x8< (x0.length:Int) then((some (([rd x0 x8]:List Int):List Int)).bind fun y554=>(if y554.length+x7.length<17592186044416 then((Y46.f k (y554++x7)).bind fun t560=>(Y19.l1 k x0 x1 x6 t560 x8 0 9999)) else(none))) else(none)) else(none)) else((Y46.f k x6).bind fun t550=>(some (t550,x7)))
def Y19.l1:Nat→List Int→List Int→List Int→List Int→Int→Int→Int→Option (List Int×List Int)
 |0,_,_,_,_,_,_,_=>none
 |k+1,x0,x1,x6,x7,x8,x9,x10=>if x9<x10 then((Y10.f k ([]:List Int) x1 (wrap64 (Int.tdiv (wrap64 ((wrap64 (x9+x10))+1)) 2)) 0).bind fun t567=>((Y30.f k x7 t567).bind fun t570=>(if t570=true then(Y19.l1 k x0 x1 x6 x7 x8 x9 (wrap64 ((wrap64 (Int.tdiv (wrap64 ((wrap64 (x9+x10))+1)) 2)) - 1))) else(Y19.l1 k x0 x1 x6 x7 x8 (wrap64 (Int.tdiv (wrap64 ((wrap64 (x9+x10))+1)) 2)) x10)))) else(if 0≤x8 then(if x8< (x6.length:Int) then((Y10.f k x7 x1 (wrap64 (-x9)) 0).bind fun t564=>(Y19.l0 k x0 x1 (x6.set (x8:Int).toNat x9) t564 (wrap64 (x8 - 1)))) else(none)) else(none))
end
def Y19.f (k:Nat) (l0:List Int) (l1:List Int):Option (List Int×List Int):=if 0≤(l0.length:Int) then(if((l0.length:Int):Int).toNat≤35184372088832 then(Y19.l0 k l0 l1 (List.replicate ((l0.length:Int):Int).toNat 0) ([]:List Int) (wrap64 ((l0.length:Int) - 1))) else(none)) else(none)
mutual
def Y32.l0:Nat→ByteArray→List Int→Int→Option (List Int)
 |0,_,_,_=>none
 |k+1,x0,x3,x4=>if x4 > 0 then(Y32.l1 k x0 x3 x4 0 (mx 0 (wrap64 (x4 - 4)))) else((Y46.f k x3).bind fun t571=>(some t571))
def Y32.l1:Nat→ByteArray→List Int→Int→Int→Int→Option (List Int)
 |0,_,_,_,_,_=>none
 |k+1,x0,x3,x4,x5,x6=>if x6<x4 then(if 0≤x6 then(if x6< (x0.size:Int) then(Y32.l1 k x0 x3 x4 (wrap64 ((wrap64 ((wrap64 (10 * x5))+ (wrap64 (bt x0 x6)))) - 48)) (wrap64 (x6+1))) else(none)) else(none)) else(if x3.length<17592186044416 then(Y32.l0 k x0 (x3++ [x5]) (wrap64 (x4 - 4))) else(none))
end
def Y32.f (k:Nat) (a0:ByteArray):Option (List Int):=Y32.l0 k a0 ([]:List Int) (a0.size:Int)
mutual
def Y9.j0:Nat→ByteArray→ByteArray→Int→Int→Bool→Option (ByteArray×ByteArray)
 |0,_,_,_,_,_=>none
 |k+1,x0,x1,x6,x8,x31=>if x31=true then(if x8=0 then(none) else(if(Int.tmod x6 x8)<0 then((Y50.f (wrap64 (Int.tdiv (wrap64 (x6 - (wrap64 ((Int.tmod x6 x8)+ (mx x8 (wrap64 (-x8))))))) x8))).bind fun t590=>((Y50.f (wrap64 ((Int.tmod x6 x8)+ (mx x8 (wrap64 (-x8)))))).bind fun t591=>(some (t590,t591)))) else((Y50.f (wrap64 (Int.tdiv x6 x8))).bind fun t592=>((Y50.f (Int.tmod x6 x8)).bind fun t593=>(some (t592,t593)))))) else((Y16.f x0).bind fun bt594=>((Y16.f x1).bind fun bt596=>((Y32.f k bt594.2).bind fun t598=>((Y32.f k bt596.2).bind fun t601=>((Y19.f k t598 t601).bind fun bt604=>(if bt594.1=true then(Y9.j1 k bt594.1 bt596.1 bt596.2 bt604.1 bt604.2 (decide ((bt604.2.length:Int) > 0))) else(Y9.j1 k bt594.1 bt596.1 bt596.2 bt604.1 bt604.2 false)))))))
def Y9.j1:Nat→Bool→Bool→ByteArray→List Int→List Int→Bool→Option (ByteArray×ByteArray)
 |0,_,_,_,_,_,_=>none
 |k+1,x12,x14,x15,x16,x17,x78=>if x78=true then((Y10.f k x16 (([1]:List Int)) 1 0).bind fun t613=>((Y32.f k x15).bind fun t616=>((Y10.f k t616 x17 (-1) 0).bind fun t619=>((Y31.f k (x12 !=x14) t613).bind fun t622=>((Y31.f k false t619).bind fun t623=>(some (t622,t623))))))) else((Y31.f k (x12 !=x14) x16).bind fun t624=>((Y31.f k false x17).bind fun t625=>(some (t624,t625))))
end
def Y15.l0:Nat→Bool→ByteArray→Int→Int→Option (Int×Bool)
 |0,_,_,_,_=>none
 |k+1,x4,x5,x6,x7=>if x7< (x5.size:Int) then(if 0≤x7 then(if x6< (wrap64 (Int.tdiv (wrap64 ((-9223372036854775808)+ (wrap64 ((wrap64 (bt x5 x7)) - 48)))) 10)) then(some (0,false)) else(Y15.l0 k x4 x5 (wrap64 ((wrap64 (10 * x6)) - (wrap64 ((wrap64 (bt x5 x7)) - 48)))) (wrap64 (x7+1)))) else(none)) else(if x4=true then(some (x6,true)) else(if x6= (-9223372036854775808) then(some (0,false)) else(some (wrap64 (-x6),true))))
def Y15.f (k:Nat) (a0:ByteArray):Option (Int×Bool):=(Y16.f a0).bind fun bt500=>(if(bt500.2.size:Int) > 19 then(some (0,false)) else(Y15.l0 k bt500.1 bt500.2 0 0))
def Y17.f (k:Nat) (a0:ByteArray):Option (Int×Bool):=(Y16.f a0).bind fun bt502=>(if(bt502.2.size:Int) > 17 then(some (0,false)) else((Y15.f k a0).bind fun bt504=>(some (bt504.1,bt504.2))))
def Y9.f (k:Nat) (a0:ByteArray) (a1:ByteArray):Option (ByteArray×ByteArray):=(Y17.f k a0).bind fun bt586=>((Y17.f k a1).bind fun bt588=>(if bt586.2=true then(Y9.j0 k a0 a1 bt586.1 bt588.1 bt588.2) else(Y9.j0 k a0 a1 bt586.1 bt588.1 false)))
def Y41.f (a0:ByteArray):Option (ByteArray):=(Y16.f a0).bind fun bt626=>(some bt626.2)
def Y43.l0:Nat→ByteArray→ByteArray→Option (ByteArray)
 |0,_,_=>none
 |k+1,x0,x1=>if x1.toList= ([48]:List UInt8) then(some x0) else((Y9.f k x0 x1).bind fun bt630=>(Y43.l0 k x1 bt630.2))
def Y43.f (k:Nat) (a0:ByteArray) (a1:ByteArray):Option (ByteArray):=(Y41.f a0).bind fun t628=>((Y41.f a1).bind fun t629=>(Y43.l0 k t628 t629))
def Y44.f (a0:ByteArray):Option (ByteArray):=(Y16.f a0).bind fun bt497=>(if bt497.1=true then(some bt497.2) else(if a0.toList= ([48]:List UInt8) then(some bt497.2) else(if 1+bt497.2.size≤9223372036854775807 then(some ((⟨#[45]⟩ :ByteArray)++bt497.2)) else(none))))
def Y28.f (a0:ByteArray):Option (Int):=(Y16.f a0).bind fun bt639=>(if bt639.1=true then(some (-1)) else(if a0.toList= ([48]:List UInt8) then(some 0) else(some 1)))
mutual
def Y24.j0:Nat→Int→Int→Option (ByteArray)
 |0,_,_=>none
 |k+1,x5,x7=>if x5<0 then(Y24.j1 k x5 x7 (wrap64 (-x5)) x7) else(Y24.j1 k x5 x7 x5 x7)
def Y24.j1:Nat→Int→Int→Int→Int→Option (ByteArray)
 |0,_,_,_,_=>none
 |k+1,x5,x7,x9,x10=>Y24.l0 k x5 x7 x9 x10
def Y24.l0:Nat→Int→Int→Int→Int→Option (ByteArray)
 |0,_,_,_,_=>none
 |k+1,x5,x7,x9,x10=>if x10=0 then(if x9=0 then(none) else(if(wrap64 (Int.tdiv x7 x9))=1 then((Y36.f (wrap64 (Int.tdiv x5 x9))).bind fun t636=>(some t636)) else((Y36.f (wrap64 (Int.tdiv x5 x9))).bind fun t637=>(if t637.size+1≤9223372036854775807 then((Y36.f (wrap64 (Int.tdiv x7 x9))).bind fun t638=>(if(t637++ (⟨#[47]⟩ :ByteArray)).size+t638.size≤9223372036854775807 then(some ((t637++ (⟨#[47]⟩ :ByteArray))++t638)) else(none))) else(none))))) else(Y24.l0 k x5 x7 x10 (Int.tmod x9 x10))
end
def Y35.f (s:ByteArray):Option (Int×Option Int):=if s.size≤18 then(Lib.atoi s.data.toList).map fun n=>(n,none) else none
def Y24.f (k:Nat) (a0:ByteArray) (a1:ByteArray):Option (ByteArray):=(Y35.f a0).bind fun bt632=>((Y35.f a1).bind fun bt634=>(if bt634.1<0 then(Y24.j0 k (wrap64 (-bt632.1)) (wrap64 (-bt634.1))) else(Y24.j0 k bt632.1 bt634.1)))
mutual
def Y7.j0:Nat→ByteArray→ByteArray→Bool→Option (ByteArray)
 |0,_,_,_=>none
 |k+1,x0,x1,x13=>if x13=true then((Y24.f k x0 x1).bind fun t641=>(some t641)) else((Y28.f x1).bind fun t642=>(if t642<0 then((Y44.f x0).bind fun t643=>((Y44.f x1).bind fun t644=>(Y7.j1 k t643 t644))) else(Y7.j1 k x0 x1)))
def Y7.j1:Nat→ByteArray→ByteArray→Option (ByteArray)
 |0,_,_=>none
 |k+1,x0,x1=>(Y43.f k x0 x1).bind fun t645=>((Y9.f k x0 t645).bind fun bt646=>((Y9.f k x1 t645).bind fun bt648=>(if bt648.1.toList= ([49]:List UInt8) then(some bt646.1) else(if bt646.1.size+1≤9223372036854775807 then(if(bt646.1++ (⟨#[47]⟩ :ByteArray)).size+bt648.1.size≤9223372036854775807 then(some ((bt646.1++ (⟨#[47]⟩ :ByteArray))++bt648.1)) else(none)) else(none)))))
end
def Y7.f (k:Nat) (a0:ByteArray) (a1:ByteArray):Option (ByteArray):=if(a0.size:Int)≤9 then(Y7.j0 k a0 a1 (decide ((a1.size:Int)≤9))) else(Y7.j0 k a0 a1 false)
def Y72.l0:Nat→List Int→Option (List Int)
 |0,_=>none
 |k+1,x0=>if(x0.length:Int) > 0 then(if 0≤(wrap64 ((x0.length:Int) - 1)) then(if(wrap64 ((x0.length:Int) - 1))< (x0.length:Int) then(if(rd x0 (wrap64 ((x0.length:Int) - 1)))=0 then(if(wrap64 ((x0.length:Int) - 1))≤(x0.length:Int) then(Y72.l0 k (x0.take ((wrap64 ((x0.length:Int) - 1)):Int).toNat)) else(none)) else(some x0)) else(none)) else(none)) else(some x0)
def Y72.f (k:Nat) (l0:List Int):Option (List Int):=Y72.l0 k l0
def Y59.l0:Nat→List Int→List Int→Int→List Int→Int→Int→Option (List Int)
 |0,_,_,_,_,_,_=>none
 |k+1,x1,x5,x6,x13,x14,x15=>if x15<x14 then(if 0≤x15 then(if x15< (x13.length:Int) then(if x15< (x1.length:Int) then(if(rd x13 x15)< (IntKind.u64.wrap (x6+ (rd x1 x15))) then(if x5.length<17592186044416 then(Y59.l0 k x1 (x5++ [IntKind.u64.wrap ((IntKind.u64.wrap ((rd x13 x15)+1000000000)) - (IntKind.u64.wrap (x6+ (rd x1 x15))))]) 1 x13 x14 (wrap64 (x15+1))) else(none)) else(if x5.length<17592186044416 then(Y59.l0 k x1 (x5++ [IntKind.u64.wrap ((rd x13 x15) - (IntKind.u64.wrap (x6+ (rd x1 x15))))]) 0 x13 x14 (wrap64 (x15+1))) else(none))) else(if(rd x13 x15)<x6 then(if x5.length<17592186044416 then(Y59.l0 k x1 (x5++ [IntKind.u64.wrap ((IntKind.u64.wrap ((rd x13 x15)+1000000000)) - x6)]) 1 x13 x14 (wrap64 (x15+1))) else(none)) else(if x5.length<17592186044416 then(Y59.l0 k x1 (x5++ [IntKind.u64.wrap ((rd x13 x15) - x6)]) 0 x13 x14 (wrap64 (x15+1))) else(none)))) else(none)) else(none)) else((Y72.f k x5).bind fun t176=>(some t176))
def Y59.f (k:Nat) (l0:List Int) (l1:List Int):Option (List Int):=if 0≤(l0.length:Int) then(if((l0.length:Int):Int).toNat≤35184372088832 then(Y59.l0 k l1 (([]:List Int)) 0 l0 (l0.length:Int) 0) else(none)) else(none)
def back (n:Nat):List (Fin n):=List.ofFn fun j:Fin n=>(⟨n - 1 - j.val,by have:=j.isLt;omega⟩ :Fin n)
def pieceT (n:Nat) (i:Nat) (x:Int):List UInt8:=(if i+1<n then List.replicate (9 - (Lib.decDigits x.toNat).length) 48 else [])++Lib.decDigits x.toNat
def closeL (m:Bool) (l:List Int) (pre:List (Fin l.length)):List UInt8:=(if m then [45] else [])++pre.flatMap fun x=>pieceT l.length x.val (rd l (x.val:Int))
def okP (l:List Int):Bool:=l.all fun x=>decide (0≤x) && decide (x<1000000000)
def Y6.f (m:Bool) (l:List Int):Option ByteArray:=
 if okP l=true∧l.length<4000000000000 then some ⟨(if l= [] then [48] else closeL m l (back l.length)).toArray⟩ else none
def Y3.f (s:ByteArray) (b z:Int):Option (Int×Option Int):=
 if s.size≤9223372036854775806∧b=10∧z=64 then(match Lib.parseUintB 64 s.data.toList with| .ok u=>some ((u:Int),none)|_=>none) else none
def Y70.l0:Nat→ByteArray→Bool→List Int→Option (Bool×List Int)
 |0,_,_,_=>none
 |k+1,x3,x4,x5=>if(x3.size:Int) > 0 then(if 0≤(mx (wrap64 ((x3.size:Int) - 9)) 0) then(if(mx (wrap64 ((x3.size:Int) - 9)) 0)≤(x3.size:Int) then((Y3.f (x3.extract ((mx (wrap64 ((x3.size:Int) - 9)) 0):Int).toNat x3.size) 10 64).bind fun bt161=>(if x5.length<17592186044416 then(Y70.l0 k (x3.extract 0 ((mx (wrap64 ((x3.size:Int) - 9)) 0):Int).toNat) x4 (x5++ [bt161.1])) else(none))) else(none)) else(none)) else((Y72.f k x5).bind fun t166=>(some (x4,t166)))
def Y5.f (a0:ByteArray) (a1:ByteArray):Option (Bool):=if(a0.size:Int)≥(a1.size:Int) then(if 0≤(a1.size:Int) then(if(a1.size:Int)≤(a0.size:Int) then(some ((a0.extract 0 ((a1.size:Int):Int).toNat).toList==a1.toList)) else(none)) else(none)) else(some false)
def Y4.f (a0:ByteArray) (a1:ByteArray):Option (ByteArray×Bool):=(Y5.f a0 a1).bind fun t108=>(if t108=true then(if 0≤(a1.size:Int) then(if(a1.size:Int)≤(a0.size:Int) then(some (a0.extract ((a1.size:Int):Int).toNat a0.size,true)) else(none)) else(none)) else(some (a0,false)))
def Y25.f (a0:ByteArray) (a1:ByteArray):Option (ByteArray×Bool):=(Y4.f a0 a1).bind fun bt109=>(some (bt109.1,bt109.2))
def Y70.f (k:Nat) (a0:ByteArray):Option (Bool×List Int):=(Y25.f a0 (⟨#[45]⟩ :ByteArray)).bind fun bt156=>(if 0≤(wrap64 ((wrap64 ((bt156.1.size:Int) / 9))+1)) then(if(wrap64 ((wrap64 ((bt156.1.size:Int) / 9))+1):Int).toNat≤35184372088832 then(Y70.l0 k bt156.1 bt156.2 (([]:List Int))) else(none)) else(none))
def Y60.l0:Nat→List Int→List Int→Int→Option (Int)
 |0,_,_,_=>none
 |k+1,x0,x1,x5=>if x5≥0 then(if 0≤x5 then(if x5< (x0.length:Int) then(if x5< (x1.length:Int) then(if(rd x0 x5)= (rd x1 x5) then(Y60.l0 k x0 x1 (wrap64 (x5 - 1))) else(if(rd x0 x5)< (rd x1 x5) then(some (-1)) else(some 1))) else(none)) else(none)) else(none)) else(some 0)
def Y60.f (k:Nat) (l0:List Int) (l1:List Int):Option (Int):=if(l0.length:Int)= (l1.length:Int) then(Y60.l0 k l0 l1 (wrap64 ((l0.length:Int) - 1))) else(if(l0.length:Int)< (l1.length:Int) then(some (-1)) else(some 1))
def Y61.l0:Nat→List Int→List Int→Int→List Int→Int→Int→Option (List Int)
 |0,_,_,_,_,_,_=>none
 |k+1,x1,x5,x6,x20,x21,x22=>if x22<x21 then(if 0≤x22 then(if x22< (x20.length:Int) then(if x22< (x1.length:Int) then(if x5.length<17592186044416 then(Y61.l0 k x1 (x5++ [Int.tmod (IntKind.u64.wrap ((IntKind.u64.wrap (x6+ (rd x20 x22)))+ (rd x1 x22))) 1000000000]) (IntKind.u64.wrap (Int.tdiv (IntKind.u64.wrap ((IntKind.u64.wrap (x6+ (rd x20 x22)))+ (rd x1 x22))) 1000000000)) x20 x21 (wrap64 (x22+1))) else(none)) else(if x5.length<17592186044416 then(Y61.l0 k x1 (x5++ [Int.tmod (IntKind.u64.wrap (x6+ (rd x20 x22))) 1000000000]) (IntKind.u64.wrap (Int.tdiv (IntKind.u64.wrap (x6+ (rd x20 x22))) 1000000000)) x20 x21 (wrap64 (x22+1))) else(none))) else(none)) else(none)) else(if x5.length<17592186044416 then((Y72.f k (x5++ [x6])).bind fun t121=>(some t121)) else(none))
def Y61.f (k:Nat) (l0:List Int) (l1:List Int):Option (List Int):=if 0≤(wrap64 ((l0.length:Int)+1)) then(if(wrap64 ((l0.length:Int)+1):Int).toNat≤35184372088832 then(Y61.l0 k l1 (([]:List Int)) 0 l0 (l0.length:Int) 0) else(none)) else(none)
def Y71.f (k:Nat) (l0 l1:List Int):Option (List Int):=if l0.length<l1.length then Y61.f k l1 l0 else Y61.f k l0 l1
def Y77.j0:Nat→ByteArray→ByteArray→Option (ByteArray)
 |0,_,_=>none
 |k+1,x0,x1=>(Y70.f k x0).bind fun bt379=>((Y70.f k x1).bind fun bt383=>(if(bt379.1==bt383.1)=true then((Y71.f k bt379.2 bt383.2).bind fun t389=>((Y6.f bt379.1 t389).bind fun t392=>(some t392))) else((Y60.f k bt379.2 bt383.2).bind fun t393=>(if t393<0 then((Y59.f k bt383.2 bt379.2).bind fun t394=>((Y6.f bt383.1 t394).bind fun t397=>(some t397))) else((Y59.f k bt379.2 bt383.2).bind fun t398=>((Y6.f bt379.1 t398).bind fun t401=>(some t401)))))))
def Y83.f (a0:Int):Option (ByteArray):=(Y36.f a0).bind fun t244=>(some t244)
def Y62.f (a0:ByteArray) (a1:Int):Option (Int×Bool):=if(a0.size:Int) > a1 then(some (0,false)) else((Y35.f a0).bind fun bt245=>(if bt245.2.isNone=true then(some (bt245.1,true)) else(some (bt245.1,false))))
def Y77.f (k:Nat) (a0:ByteArray) (a1:ByteArray):Option (ByteArray):=(Y62.f a0 18).bind fun bt374=>(if bt374.2=true then((Y62.f a1 18).bind fun bt376=>(if bt376.2=true then((Y83.f (wrap64 (bt374.1+bt376.1))).bind fun t378=>(some t378)) else(Y77.j0 k a0 a1))) else(Y77.j0 k a0 a1))
mutual
def Y64.l0:Nat→List Int→List Int→List Int→Int→Int→Option (List Int)
 |0,_,_,_,_,_=>none
 |k+1,x1,x5,x19,x20,x21=>if x21<x20 then(if 0≤x21 then(if x21< (x19.length:Int) then(Y64.l1 k x1 x5 x21 (rd x19 x21) 0 x19 x20 x21 x1 (x1.length:Int) 0) else(none)) else(none)) else((Y72.f k x5).bind fun t196=>(some t196))
def Y64.l1:Nat→List Int→List Int→Int→Int→Int→List Int→Int→Int→List Int→Int→Int→Option (List Int)
 |0,_,_,_,_,_,_,_,_,_,_,_=>none
 |k+1,x1,x5,x6,x7,x8,x19,x20,x21,x26,x27,x28=>if x28<x27 then(if 0≤x28 then(if x28< (x26.length:Int) then(if 0≤(wrap64 (x6+x28)) then(if(wrap64 (x6+x28))< (x5.length:Int) then(Y64.l1 k x1 (x5.set ((wrap64 (x6+x28)):Int).toNat (Int.tmod (IntKind.u64.wrap (x8+ (IntKind.u64.wrap ((rd x5 (wrap64 (x6+x28)))+ (IntKind.u64.wrap (x7 * (rd x26 x28))))))) 1000000000)) x6 x7 (IntKind.u64.wrap (Int.tdiv (IntKind.u64.wrap (x8+ (IntKind.u64.wrap ((rd x5 (wrap64 (x6+x28)))+ (IntKind.u64.wrap (x7 * (rd x26 x28))))))) 1000000000)) x19 x20 x21 x26 x27 (wrap64 (x28+1))) else(none)) else(none)) else(none)) else(none)) else(Y64.l2 k x1 x5 x8 (wrap64 (x6+ (x1.length:Int))) x19 x20 x21)
def Y64.l2:Nat→List Int→List Int→Int→Int→List Int→Int→Int→Option (List Int)
 |0,_,_,_,_,_,_,_=>none
 |k+1,x1,x5,x8,x11,x19,x20,x21=>if x8 > 0 then(if 0≤x11 then(if x11< (x5.length:Int) then(Y64.l2 k x1 (x5.set (x11:Int).toNat (Int.tmod (IntKind.u64.wrap (x8+ (rd x5 x11))) 1000000000)) (IntKind.u64.wrap (Int.tdiv (IntKind.u64.wrap (x8+ (rd x5 x11))) 1000000000)) (wrap64 (x11+1)) x19 x20 x21) else(none)) else(none)) else(Y64.l0 k x1 x5 x19 x20 (wrap64 (x21+1)))
end
def Y64.f (k:Nat) (l0:List Int) (l1:List Int):Option (List Int):=if 0≤(wrap64 ((wrap64 ((l0.length:Int)+ (l1.length:Int)))+1)) then(if(wrap64 ((wrap64 ((l0.length:Int)+ (l1.length:Int)))+1):Int).toNat≤35184372088832 then(Y64.l0 k l1 (List.replicate (wrap64 ((wrap64 ((l0.length:Int)+ (l1.length:Int)))+1):Int).toNat 0) l0 (l0.length:Int) 0) else(none)) else(none)
def Y79.j0:Nat→ByteArray→ByteArray→Option (ByteArray)
 |0,_,_=>none
 |k+1,x0,x1=>(Y70.f k x0).bind fun bt343=>((Y70.f k x1).bind fun bt347=>((Y64.f k bt343.2 bt347.2).bind fun t353=>((Y6.f (bt343.1 !=bt347.1) t353).bind fun t356=>(some t356))))
def Y79.f (k:Nat) (a0:ByteArray) (a1:ByteArray):Option (ByteArray):=(Y62.f a0 9).bind fun bt338=>(if bt338.2=true then((Y62.f a1 9).bind fun bt340=>(if bt340.2=true then((Y83.f (wrap64 (bt338.1 * bt340.1))).bind fun t342=>(some t342)) else(Y79.j0 k a0 a1))) else(Y79.j0 k a0 a1))
def Y82.f (s sep:ByteArray):Option (ByteArray×ByteArray×Bool):=
 if s.size<4294967281 then some (⟨(Lib.cut s.data.toList sep.data.toList).1.toArray⟩,⟨(Lib.cut s.data.toList sep.data.toList).2.1.toArray⟩,(Lib.cut s.data.toList sep.data.toList).2.2) else none
def Y53.f (a0:ByteArray):Option (ByteArray×ByteArray):=(Y82.f a0 (⟨#[47]⟩ :ByteArray)).bind fun bt335=>(if bt335.2.2=true then(some (bt335.1,bt335.2.1)) else(some (bt335.1,(⟨#[49]⟩ :ByteArray))))
def Y26.f (a0:ByteArray) (a1:ByteArray):Option (Bool):=(Y5.f a0 a1).bind fun t105=>(some t105)
def Y69.f (a0:ByteArray):Option (Int):=if a0.toList= ([48]:List UInt8) then(some 0) else((Y26.f a0 (⟨#[45]⟩ :ByteArray)).bind fun t113=>(if t113=true then(some (-1)) else(some 1)))
def Y80.f (a0:ByteArray):Option (ByteArray):=(Y69.f a0).bind fun t114=>(if t114=1 then(if 1+a0.size≤9223372036854775807 then(some ((⟨#[45]⟩ :ByteArray)++a0)) else(none)) else(if t114= (-1) then(if 1≤(a0.size:Int) then(some (a0.extract 1 a0.size)) else(none)) else(some a0)))
def Y48.j0:Nat→List Int→List Int→Bool→Bool→List Int→Bool→List Int→Option (ByteArray×ByteArray×Int)
 |0,_,_,_,_,_,_,_=>none
 |k+1,x9,x10,x31,x224000,x224001,x225000,x225001=>if x31=true then((Y71.f k x9 (([1]:List Int))).bind fun t234=>((Y59.f k x225001 x10).bind fun t237=>((Y6.f (x224000 !=x225000) t234).bind fun t240=>((Y6.f false t237).bind fun t241=>(some (t240,t241,0)))))) else((Y6.f (x224000 !=x225000) x9).bind fun t242=>((Y6.f false x10).bind fun t243=>(some (t242,t243,0))))
def div1 (b:Int):List Int→List Int×Int
 | []=>([],0)
 |x::p=>(((div1 b p).2 * 1000000000+x) / b:: (div1 b p).1,((div1 b p).2 * 1000000000+x) % b)
def Y39.f (l0 l1:List Int):Option (List Int×List Int):=
 match l1 with
 | [b]=>if 0<b∧b<1000000000∧okP l0=true∧l0.length<4000000000000 then
   (match Y60.f (l0.length+2) l0 [b] with
    |none=>none
    |some t=>if t<0 then some ([],l0) else if l0= [] then none else
      (Y72.f (l0.length+1) (div1 b l0).1).bind fun q=>(Y72.f 2 [(div1 b l0).2]).bind fun r=>some (q,r))
   else none
 |_=>none
def Y63.f (k:Nat) (l0:List Int) (a1:Int):Option (List Int):=(Y72.f k (([a1]:List Int))).bind fun t208=>((Y64.f k l0 t208).bind fun t211=>(some t211))
mutual
def Y40.l0:Nat→List Int→List Int→Int→Int→Int→List Int→List Int→Option (List Int×List Int)
 |0,_,_,_,_,_,_,_=>none
 |k+1,x0,x5,x9,x10,x11,x153000,x154000=>if x11≥0 then(if 0≤x11 then(if x11< (x0.length:Int) then((some (([rd x0 x11]:List Int):List Int)).bind fun y183=>(if y183.length+x5.length<17592186044416 then((Y72.f k (y183++x5)).bind fun t189=>((Y60.f k t189 x153000).bind fun t192=>(if t192<0 then(Y40.l0 k x0 t189 x9 x10 (wrap64 (x11 - 1)) x153000 x154000) else(if 0≤(wrap64 ((t189.length:Int) - 1)) then(if(wrap64 ((t189.length:Int) - 1))< (t189.length:Int) then(if(t189.length:Int) > (x153000.length:Int) then(if 0≤(wrap64 ((t189.length:Int) - 2)) then(if(wrap64 ((t189.length:Int) - 2))< (t189.length:Int) then(Y40.j1 k x0 t189 x9 x10 x11 (IntKind.u64.wrap ((IntKind.u64.wrap ((rd t189 (wrap64 ((t189.length:Int) - 1))) * 1000000000))+ (rd t189 (wrap64 ((t189.length:Int) - 2))))) x153000 x154000) else(none)) else(none)) else(Y40.j1 k x0 t189 x9 x10 x11 (rd t189 (wrap64 ((t189.length:Int) - 1))) x153000 x154000)) else(none)) else(none))))) else(none))) else(none)) else(none)) else((Y39.f x5 (([x9]:List Int))).bind fun bt173=>((Y72.f k x154000).bind fun t179=>(some (t179,bt173.1))))
def Y40.j1:Nat→List Int→List Int→Int→Int→Int→Int→List Int→List Int→Option (List Int×List Int)
 |0,_,_,_,_,_,_,_,_=>none
 |k+1,x0,x5,x9,x10,x11,x12,x153000,x154000=>if x10=0 then(none) else((Y63.f k x153000 (mn (IntKind.u64.wrap (Int.tdiv x12 x10)) 999999999)).bind fun t195=>(Y40.l1 k x0 x5 x9 x10 x11 (mn (IntKind.u64.wrap (Int.tdiv x12 x10)) 999999999) t195 x153000 x154000))
def Y40.l1:Nat→List Int→List Int→Int→Int→Int→Int→List Int→List Int→List Int→Option (List Int×List Int)
 |0,_,_,_,_,_,_,_,_,_=>none
 |k+1,x0,x5,x9,x10,x11,x12,x13,x153000,x154000=>(Y60.f k x13 x5).bind fun t198=>(if t198 > 0 then((Y59.f k x13 x153000).bind fun t199=>(Y40.l1 k x0 x5 x9 x10 x11 (IntKind.u64.wrap (x12 - 1)) t199 x153000 x154000)) else((Y59.f k x5 x13).bind fun t202=>(if 0≤x11 then(if x11< (x154000.length:Int) then(Y40.l0 k x0 t202 x9 x10 (wrap64 (x11 - 1)) x153000 (x154000.set (x11:Int).toNat x12)) else(none)) else(none))))
end
def Y40.f (k:Nat) (l0:List Int) (l1:List Int):Option (List Int×List Int):=(Y60.f k l0 l1).bind fun t154=>(if t154<0 then(some (([]:List Int),l0)) else(if(l1.length:Int)=1 then(if 0≤(l0.length:Int) then(if((l0.length:Int):Int).toNat≤35184372088832 then(none) else(none)) else(none)) else(if 0≤(wrap64 ((l1.length:Int) - 1)) then(if(wrap64 ((l1.length:Int) - 1))< (l1.length:Int) then(if(IntKind.u64.wrap ((rd l1 (wrap64 ((l1.length:Int) - 1)))+1))=0 then(none) else((Y63.f k l0 (IntKind.u64.wrap ((1000000000:Int) / (IntKind.u64.wrap ((rd l1 (wrap64 ((l1.length:Int) - 1)))+1))))).bind fun t160=>((Y63.f k l1 (IntKind.u64.wrap ((1000000000:Int) / (IntKind.u64.wrap ((rd l1 (wrap64 ((l1.length:Int) - 1)))+1))))).bind fun t163=>(if 0≤(t160.length:Int) then(if((t160.length:Int):Int).toNat≤35184372088832 then(if 0≤(wrap64 ((t163.length:Int) - 1)) then(if(wrap64 ((t163.length:Int) - 1))< (t163.length:Int) then(Y40.l0 k t160 ([]:List Int) (IntKind.u64.wrap ((1000000000:Int) / (IntKind.u64.wrap ((rd l1 (wrap64 ((l1.length:Int) - 1)))+1)))) (rd t163 (wrap64 ((t163.length:Int) - 1))) (wrap64 ((t160.length:Int) - 1)) t163 (List.replicate ((t160.length:Int):Int).toNat 0)) else(none)) else(none)) else(none)) else(none))))) else(none)) else(none))))
def Y49.f (k:Nat) (l0 l1:List Int):Option (List Int×List Int):=if l1.length=1 then Y39.f l0 l1 else Y40.f k l0 l1
def Y48.f (k:Nat) (a0:ByteArray) (a1:ByteArray):Option (ByteArray×ByteArray×Int):=if a1.toList= ([48]:List UInt8) then(some ((⟨#[]⟩ :ByteArray),(⟨#[]⟩ :ByteArray),17)) else((Y70.f k a0).bind fun bt215=>((Y70.f k a1).bind fun bt219=>((Y49.f k bt215.2 bt219.2).bind fun bt225=>(if bt215.1=true then(Y48.j0 k bt225.1 bt225.2 (decide ((bt225.2.length:Int) > 0)) bt215.1 bt215.2 bt219.1 bt219.2) else(Y48.j0 k bt225.1 bt225.2 false bt215.1 bt215.2 bt219.1 bt219.2)))))
mutual
def Y78.j1:Nat→ByteArray→ByteArray→Option (ByteArray)
 |0,_,_=>none
 |k+1,x0,x1=>(Y70.f k x0).bind fun bt253=>((Y70.f k x1).bind fun bt257=>(Y78.l1 k bt253.2 bt257.2))
def Y78.l1:Nat→List Int→List Int→Option (ByteArray)
 |0,_,_=>none
 |k+1,x9,x10=>if(x10.length:Int) > 0 then((Y49.f k x9 x10).bind fun bt261=>(Y78.l1 k x10 bt261.2)) else((Y6.f false x9).bind fun t267=>(some t267))
def Y78.l0:Nat→Int→Int→Option (ByteArray)
 |0,_,_=>none
 |k+1,x5,x7=>if x7=0 then((Y83.f (mx x5 (wrap64 (-x5)))).bind fun t252=>(some t252)) else(Y78.l0 k x7 (Int.tmod x5 x7))
end
def Y78.f (k:Nat) (a0:ByteArray) (a1:ByteArray):Option (ByteArray):=(Y62.f a0 18).bind fun bt248=>(if bt248.2=true then((Y62.f a1 18).bind fun bt250=>(if bt250.2=true then(Y78.l0 k bt248.1 bt250.1) else(Y78.j1 k a0 a1))) else(Y78.j1 k a0 a1))
def Y67.f (a0:ByteArray) (a1:ByteArray):Option (ByteArray):=if a1.toList= ([49]:List UInt8) then(some a0) else(if a0.size+1≤9223372036854775807 then(if(a0++ (⟨#[47]⟩ :ByteArray)).size+a1.size≤9223372036854775807 then(some ((a0++ (⟨#[47]⟩ :ByteArray))++a1)) else(none)) else(none))
def Y47.j0:Nat→ByteArray→ByteArray→Option (ByteArray)
 |0,_,_=>none
 |k+1,x0,x1=>(Y78.f k x0 x1).bind fun t271=>(if t271.toList= ([49]:List UInt8) then((Y67.f x0 x1).bind fun t272=>(some t272)) else((Y48.f k x0 t271).bind fun bt273=>((Y48.f k x1 t271).bind fun bt276=>((Y67.f bt273.1 bt276.1).bind fun t279=>(some t279)))))
def Y47.f (k:Nat) (a0:ByteArray) (a1:ByteArray):Option (ByteArray):=(Y69.f a1).bind fun t268=>(if t268<0 then((Y80.f a0).bind fun t269=>((Y80.f a1).bind fun t270=>(Y47.j0 k t269 t270))) else(Y47.j0 k a0 a1))
def Y73.j0:Nat→ByteArray→ByteArray→Option (ByteArray)
 |0,_,_=>none
 |k+1,x0,x1=>(Y53.f x0).bind fun bt422=>((Y53.f x1).bind fun bt424=>((Y79.f k bt422.1 bt424.2).bind fun t426=>((Y79.f k bt424.1 bt422.2).bind fun t427=>((Y77.f k t426 t427).bind fun t428=>((Y79.f k bt422.2 bt424.2).bind fun t429=>((Y47.f k t428 t429).bind fun t430=>(some t430)))))))
mutual
def Y56.j0:Nat→ByteArray→Int→Int→Int→Bool→Bool→Option (Int×Int×Bool)
 |0,_,_,_,_,_,_=>none
 |k+1,x0,x2,x3,x5,x6,x15=>if x15=true then(Y56.j1 k x0 x2 x3 1 true) else(Y56.j1 k x0 x2 x3 x5 x6)
def Y56.j1:Nat→ByteArray→Int→Int→Int→Bool→Option (Int×Int×Bool)
 |0,_,_,_,_,_=>none
 |k+1,x0,x2,x3,x5,x6=>Y56.l0 k x0 x2 x3 x5 x6 x5
def Y56.l0:Nat→ByteArray→Int→Int→Int→Bool→Int→Option (Int×Int×Bool)
 |0,_,_,_,_,_,_=>none
 |k+1,x0,x2,x3,x5,x6,x7=>if x5< (x0.size:Int) then(if 0≤x5 then(Y56.j3 k x0 x2 x3 x5 x6 x7 ((bt x0 x5)!=47)) else(none)) else(Y56.j3 k x0 x2 x3 x5 x6 x7 false)
def Y56.j3:Nat→ByteArray→Int→Int→Int→Bool→Int→Bool→Option (Int×Int×Bool)
 |0,_,_,_,_,_,_,_=>none
 |k+1,x0,x2,x3,x5,x6,x7,x26=>if x26=true then(if(wrap64 (x5 - x7))=9 then(some (0,0,false)) else(if 0≤x5 then(if x5< (x0.size:Int) then(Y56.l0 k x0 (wrap64 ((wrap64 (10 * x2))+ (((bt x0 x5) - 48) % 256))) x3 (wrap64 (x5+1)) x6 x7) else(none)) else(none))) else(if x6=true then(Y56.j4 k x0 (wrap64 (-x2)) x3 x5) else(Y56.j4 k x0 x2 x3 x5))
def Y56.j4:Nat→ByteArray→Int→Int→Int→Option (Int×Int×Bool)
 |0,_,_,_,_=>none
 |k+1,x0,x2,x3,x5=>if x5= (x0.size:Int) then(some (x2,1,true)) else(Y56.l1 k x0 x2 x3 (wrap64 (x5+1)) (wrap64 (x5+1)))
def Y56.l1:Nat→ByteArray→Int→Int→Int→Int→Option (Int×Int×Bool)
 |0,_,_,_,_,_=>none
 |k+1,x0,x2,x3,x5,x7=>if x5< (x0.size:Int) then(if(wrap64 (x5 - x7))=9 then(some (0,0,false)) else(if 0≤x5 then(Y56.l1 k x0 x2 (wrap64 ((wrap64 (10 * x3))+ (((bt x0 x5) - 48) % 256))) (wrap64 (x5+1)) x7) else(none))) else(some (x2,x3,true))
end
def Y56.f (k:Nat) (a0:ByteArray):Option (Int×Int×Bool):=if(a0.size:Int) > 0 then(if 0< (a0.size:Int) then(Y56.j0 k a0 0 0 0 false ((bt a0 0)==45)) else(none)) else(Y56.j0 k a0 0 0 0 false false)
mutual
def Y57.l0:Nat→Int→Int→Int→Int→Option (ByteArray)
 |0,_,_,_,_=>none
 |k+1,x0,x1,x5,x6=>if x6=0 then(if x5<0 then(Y57.j1 k x0 x1 (wrap64 (-x5))) else(Y57.j1 k x0 x1 x5)) else(Y57.l0 k x0 x1 x6 (Int.tmod x5 x6))
def Y57.j1:Nat→Int→Int→Int→Option (ByteArray)
 |0,_,_,_=>none
 |k+1,x0,x1,x5=>if x5=0 then(none) else(if(wrap64 (Int.tdiv x1 x5))=1 then((Y36.f (wrap64 (Int.tdiv x0 x5))).bind fun t357=>(some t357)) else((Y36.f (wrap64 (Int.tdiv x0 x5))).bind fun t358=>(if t358.size+1≤9223372036854775807 then((Y36.f (wrap64 (Int.tdiv x1 x5))).bind fun t359=>(if(t358++ (⟨#[47]⟩ :ByteArray)).size+t359.size≤9223372036854775807 then(some ((t358++ (⟨#[47]⟩ :ByteArray))++t359)) else(none))) else(none))))
end
def Y57.f (k:Nat) (a0:Int) (a1:Int):Option (ByteArray):=Y57.l0 k a0 a1 a0 a1
def Y73.f (k:Nat) (a0:ByteArray) (a1:ByteArray):Option (ByteArray):=if a0.toList= ([48]:List UInt8) then(some a1) else(if a1.toList= ([48]:List UInt8) then(some a0) else((Y56.f k a0).bind fun bt415=>(if bt415.2.2=true then((Y56.f k a1).bind fun bt418=>(if bt418.2.2=true then((Y57.f k (wrap64 ((wrap64 (bt415.1 * bt418.2.1))+ (wrap64 (bt418.1 * bt415.2.1)))) (wrap64 (bt415.2.1 * bt418.2.1))).bind fun t421=>(some t421)) else(Y73.j0 k a0 a1))) else(Y73.j0 k a0 a1))))
def Y1.f (a0:ByteArray) (a1:ByteArray):Option (ByteArray):=(Y5.f a0 a1).bind fun t106=>(if t106=true then(if 0≤(a1.size:Int) then(if(a1.size:Int)≤(a0.size:Int) then(some (a0.extract ((a1.size:Int):Int).toNat a0.size)) else(none)) else(none)) else(some a0))
def Y12.f (a0:ByteArray) (a1:ByteArray):Option (ByteArray):=(Y1.f a0 a1).bind fun t107=>(some t107)
def Y76.f (a0:ByteArray):Option (ByteArray):=(Y12.f a0 (⟨#[45]⟩ :ByteArray)).bind fun t434=>(some t434)
mutual
def Y74.j0:Nat→ByteArray→ByteArray→Bool→Option (ByteArray)
 |0,_,_,_=>none
 |k+1,x0,x1,x15=>if x15=true then(some (⟨#[48]⟩ :ByteArray)) else(if x0.toList= ([49]:List UInt8) then(some x1) else(if x1.toList= ([49]:List UInt8) then(some x0) else((Y56.f k x0).bind fun bt360=>(if bt360.2.2=true then((Y56.f k x1).bind fun bt363=>(if bt363.2.2=true then((Y57.f k (wrap64 (bt360.1 * bt363.1)) (wrap64 (bt360.2.1 * bt363.2.1))).bind fun t366=>(some t366)) else(Y74.j1 k x0 x1))) else(Y74.j1 k x0 x1)))))
def Y74.j1:Nat→ByteArray→ByteArray→Option (ByteArray)
 |0,_,_=>none
 |k+1,x0,x1=>(Y53.f x0).bind fun bt367=>((Y53.f x1).bind fun bt369=>((Y79.f k bt367.1 bt369.1).bind fun t371=>((Y79.f k bt367.2 bt369.2).bind fun t372=>((Y47.f k t371 t372).bind fun t373=>(some t373)))))
end
def Y74.f (k:Nat) (a0:ByteArray) (a1:ByteArray):Option (ByteArray):=if a0.toList= ([48]:List UInt8) then(Y74.j0 k a0 a1 (a0.toList== ([48]:List UInt8))) else(Y74.j0 k a0 a1 (a1.toList== ([48]:List UInt8)))
def Y51.f (k:Nat) (a0:ByteArray):Option (ByteArray):=(Y53.f a0).bind fun bt402=>((Y69.f bt402.1).bind fun t404=>(if t404≥0 then((Y48.f k bt402.1 bt402.2).bind fun bt405=>(some bt405.1)) else((Y80.f bt402.1).bind fun t408=>((Y48.f k t408 bt402.2).bind fun bt409=>(if bt409.2.1.toList= ([48]:List UInt8) then((Y80.f bt409.1).bind fun t412=>(some t412)) else((Y77.f k bt409.1 (⟨#[49]⟩ :ByteArray)).bind fun t413=>((Y80.f t413).bind fun t414=>(some t414))))))))
def Y34.f (k:Nat) (a0:ByteArray):Option (ByteArray):=(Y73.f k a0 (⟨#[49,47,50]⟩ :ByteArray)).bind fun t431=>((Y51.f k t431).bind fun t432=>(some t432))
def Y58.f (s:ByteArray) (c:Int):Option ByteArray:=
 if 0≤c∧c≤9223372036854775807∧s.size * c.toNat≤140737488355328 then some ⟨(Lib.repeatL s.data.toList c.toNat).toArray⟩ else none
def Y55.f (a0:Int):Option (ByteArray):=(Y58.f (⟨#[48]⟩ :ByteArray) a0).bind fun t433=>(if 1+t433.size≤9223372036854775807 then(some ((⟨#[49]⟩ :ByteArray)++t433)) else(none))
mutual
def Y33.j0:Nat→ByteArray→Int→Bool→Option (ByteArray×Int)
 |0,_,_,_=>none
 |k+1,x0,x1,x15=>if x15=true then(some ((⟨#[]⟩ :ByteArray),3)) else((Y55.f x1).bind fun t435=>((Y74.f k x0 t435).bind fun t436=>((Y34.f k t436).bind fun t437=>((Y76.f t437).bind fun t438=>(if(t438.size:Int)≤x1 then((Y58.f (⟨#[48]⟩ :ByteArray) (wrap64 ((wrap64 (x1+1)) - (t438.size:Int)))).bind fun t439=>(if t439.size+t438.size≤9223372036854775807 then(Y33.j1 k x1 t437 (t439++t438)) else(none))) else(Y33.j1 k x1 t437 t438))))))
def Y33.j1:Nat→Int→ByteArray→ByteArray→Option (ByteArray×Int)
 |0,_,_,_=>none
 |k+1,x1,x6,x7=>(Y69.f x6).bind fun t440=>(if t440<0 then(if x1=0 then(if 1+x7.size≤9223372036854775807 then(some ((⟨#[45]⟩ :ByteArray)++x7,0)) else(none)) else(if 0≤(wrap64 ((x7.size:Int) - x1)) then(if(wrap64 ((x7.size:Int) - x1))≤(x7.size:Int) then(if 1+ (x7.extract 0 ((wrap64 ((x7.size:Int) - x1)):Int).toNat).size≤9223372036854775807 then(if((⟨#[45]⟩ :ByteArray)++ (x7.extract 0 ((wrap64 ((x7.size:Int) - x1)):Int).toNat)).size+1≤9223372036854775807 then(if(((⟨#[45]⟩ :ByteArray)++ (x7.extract 0 ((wrap64 ((x7.size:Int) - x1)):Int).toNat))++ (⟨#[46]⟩ :ByteArray)).size+ (x7.extract ((wrap64 ((x7.size:Int) - x1)):Int).toNat x7.size).size≤9223372036854775807 then(some ((((⟨#[45]⟩ :ByteArray)++ (x7.extract 0 ((wrap64 ((x7.size:Int) - x1)):Int).toNat))++ (⟨#[46]⟩ :ByteArray))++ (x7.extract ((wrap64 ((x7.size:Int) - x1)):Int).toNat x7.size),0)) else(none)) else(none)) else(none)) else(none)) else(none))) else(if x1=0 then(if 0+x7.size≤9223372036854775807 then(some ((⟨#[]⟩ :ByteArray)++x7,0)) else(none)) else(if 0≤(wrap64 ((x7.size:Int) - x1)) then(if(wrap64 ((x7.size:Int) - x1))≤(x7.size:Int) then(if 0+ (x7.extract 0 ((wrap64 ((x7.size:Int) - x1)):Int).toNat).size≤9223372036854775807 then(if((⟨#[]⟩ :ByteArray)++ (x7.extract 0 ((wrap64 ((x7.size:Int) - x1)):Int).toNat)).size+1≤9223372036854775807 then(if(((⟨#[]⟩ :ByteArray)++ (x7.extract 0 ((wrap64 ((x7.size:Int) - x1)):Int).toNat))++ (⟨#[46]⟩ :ByteArray)).size+ (x7.extract ((wrap64 ((x7.size:Int) - x1)):Int).toNat x7.size).size≤9223372036854775807 then(some ((((⟨#[]⟩ :ByteArray)++ (x7.extract 0 ((wrap64 ((x7.size:Int) - x1)):Int).toNat))++ (⟨#[46]⟩ :ByteArray))++ (x7.extract ((wrap64 ((x7.size:Int) - x1)):Int).toNat x7.size),0)) else(none)) else(none)) else(none)) else(none)) else(none))))
end
def Y33.f (k:Nat) (a0:ByteArray) (a1:Int):Option (ByteArray×Int):=if a1<0 then(Y33.j0 k a0 a1 true) else(Y33.j0 k a0 a1 (decide (a1 > 12)))
def Y75.f (k:Nat) (a0:ByteArray) (a1:ByteArray):Option (ByteArray×Int):=(Y69.f a1).bind fun t482=>(if t482=0 then(some ((⟨#[]⟩ :ByteArray),17)) else((Y47.f k a0 a1).bind fun t483=>(some (t483,0))))
def Y81.f (k:Nat) (a0:Int) (a1:Int):Option (ByteArray×Int):=(Y83.f a0).bind fun t484=>((Y83.f a1).bind fun t485=>((Y75.f k t484 t485).bind fun bt486=>(some (bt486.1,bt486.2))))
def Y38.f (s c:ByteArray):Option ByteArray:=if c= ⟨#[48]⟩ then some ⟨(Lib.trimLeftB s.data.toList 48).toArray⟩ else none
def Y54.l0:Nat→ByteArray→Int→Int→Option (ByteArray×Bool)
 |0,_,_,_=>none
 |k+1,x0,x8,x9=>if x9<x8 then(if 0≤x9 then(if x9< (x0.size:Int) then(if(bt x0 x9)<48 then(some ((⟨#[]⟩ :ByteArray),false)) else(if(bt x0 x9) > 57 then(some ((⟨#[]⟩ :ByteArray),false)) else(Y54.l0 k x0 x8 (wrap64 (x9+1))))) else(none)) else(none)) else((Y38.f x0 (⟨#[48]⟩ :ByteArray)).bind fun t112=>(if t112.toList= ([]:List UInt8) then(some ((⟨#[48]⟩ :ByteArray),true)) else(some (t112,true))))
def Y54.f (k:Nat) (a0:ByteArray):Option (ByteArray×Bool):=if a0.toList= ([]:List UInt8) then(some ((⟨#[]⟩ :ByteArray),false)) else(Y54.l0 k a0 (a0.size:Int) 0)
def Y37.f (s c:ByteArray):Option Int:=if s.size<4294967281∧c= (⟨#[47,46]⟩ :ByteArray) then some (Lib.indexAny s.data.toList [47,46]) else none
mutual
def Y52.j0:Nat→ByteArray→ByteArray→Bool→Option (ByteArray×Int)
 |0,_,_,_=>none
 |k+1,x0,x4,x5=>(Y37.f x4 (⟨#[47,46]⟩ :ByteArray)).bind fun t283=>(if t283≥0 then(if 0≤t283 then(if t283≤(x4.size:Int) then(if 0≤(wrap64 (t283+1)) then(if(wrap64 (t283+1))≤(x4.size:Int) then(Y52.j1 k x0 x4 x5 t283 (x4.extract 0 (t283:Int).toNat) (x4.extract ((wrap64 (t283+1)):Int).toNat x4.size)) else(none)) else(none)) else(none)) else(none)) else(Y52.j1 k x0 x4 x5 t283 x4 (⟨#[]⟩ :ByteArray)))
def Y52.j1:Nat→ByteArray→ByteArray→Bool→Int→ByteArray→ByteArray→Option (ByteArray×Int)
 |0,_,_,_,_,_,_=>none
 |k+1,x0,x4,x5,x6,x7,x8=>(Y54.f k x7).bind fun bt284=>(if x6≥0 then(Y52.j2 k x0 x4 x5 x6 x7 x8 bt284.1 bt284.2 (⟨#[49]⟩ :ByteArray) bt284.2) else(Y52.j2 k x0 x4 x5 x6 x7 x8 bt284.1 bt284.2 (⟨#[49]⟩ :ByteArray) false))
def Y52.j2:Nat→ByteArray→ByteArray→Bool→Int→ByteArray→ByteArray→ByteArray→Bool→ByteArray→Bool→Option (ByteArray×Int)
 |0,_,_,_,_,_,_,_,_,_,_=>none
 |k+1,x0,x4,x5,x6,x7,x8,x9,x10,x11,x45=>if x45=true then((Y54.f k x8).bind fun bt286=>(if 0≤x6 then(if x6< (x4.size:Int) then(if(bt x4 x6)=47 then(Y52.j3 k x0 x5 x9 bt286.2 bt286.1) else(if x7.size+x8.size≤9223372036854775807 then((Y54.f k (x7++x8)).bind fun bt288=>((Y58.f (⟨#[48]⟩ :ByteArray) (x8.size:Int)).bind fun t290=>(if 1+t290.size≤9223372036854775807 then(Y52.j3 k x0 x5 bt288.1 bt286.2 ((⟨#[49]⟩ :ByteArray)++t290)) else(none)))) else(none))) else(none)) else(none))) else(Y52.j3 k x0 x5 x9 x10 x11)
def Y52.j3:Nat→ByteArray→Bool→ByteArray→Bool→ByteArray→Option (ByteArray×Int)
 |0,_,_,_,_,_=>none
 |k+1,x0,x5,x9,x10,x11=>if x10=true then(if(x0.size:Int) > 200 then(some ((⟨#[]⟩ :ByteArray),16)) else(if x11.toList= ([48]:List UInt8) then(some ((⟨#[]⟩ :ByteArray),17)) else(if x5=true then((Y80.f x9).bind fun t291=>((Y47.f k t291 x11).bind fun t292=>(some (t292,0)))) else((Y47.f k x9 x11).bind fun t293=>(some (t293,0)))))) else(some ((⟨#[]⟩ :ByteArray),15))
end
def Y52.f (k:Nat) (a0:ByteArray):Option (ByteArray×Int):=if a0.toList= ([]:List UInt8) then(some ((⟨#[]⟩ :ByteArray),13)) else((Y25.f a0 (⟨#[45]⟩ :ByteArray)).bind fun bt280=>(if bt280.2=true then(Y52.j0 k a0 bt280.1 bt280.2) else((Y12.f a0 (⟨#[43]⟩ :ByteArray)).bind fun t282=>(Y52.j0 k a0 t282 bt280.2))))
def Y68.l0:Nat→List Int→List Int→Option (ByteArray×Int)
 |0,_,_=>none
 |k+1,x4,x5=>(Y49.f k x4 x5).bind fun bt452=>((Y71.f k x5 bt452.1).bind fun t458=>((Y49.f k t458 (([2]:List Int))).bind fun bt464=>((Y60.f k bt464.1 x5).bind fun t470=>(if t470≥0 then((Y6.f false x5).bind fun t471=>(some (t471,0))) else(Y68.l0 k x4 bt464.1)))))
def Y68.f (k:Nat) (a0:ByteArray):Option (ByteArray×Int):=(Y69.f a0).bind fun t441=>(if t441<0 then(some ((⟨#[]⟩ :ByteArray),3)) else((Y70.f k a0).bind fun bt442=>(if(bt442.2.length:Int)=0 then(some ((⟨#[48]⟩ :ByteArray),0)) else(if 0≤(wrap64 (Int.tdiv (wrap64 ((bt442.2.length:Int)+1)) 2)) then(if(wrap64 (Int.tdiv (wrap64 ((bt442.2.length:Int)+1)) 2):Int).toNat≤35184372088832 then((some (List.replicate (wrap64 (Int.tdiv (wrap64 ((bt442.2.length:Int)+1)) 2):Int).toNat 0:List Int)).bind fun y446=>(if y446.length<17592186044416 then(Y68.l0 k bt442.2 (y446++ [1])) else(none))) else(none)) else(none)))))
def Y66.f (a0:ByteArray):Option (Int):=if a0.toList= ([48]:List UInt8) then(some 0) else(if(a0.size:Int) > 0 then(if 0< (a0.size:Int) then(if(bt a0 0)=45 then(some (-1)) else(some 1)) else(none)) else(some 1))
def Y65.f (k:Nat) (a0:ByteArray):Option (ByteArray×Bool):=(Y66.f a0).bind fun t472=>(if t472<0 then(some ((⟨#[]⟩ :ByteArray),false)) else((Y53.f a0).bind fun bt473=>((Y68.f k bt473.1).bind fun bt475=>((Y68.f k bt473.2).bind fun bt477=>((Y79.f k bt475.1 bt475.1).bind fun t479=>(if t479.toList=bt473.1.toList then((Y79.f k bt477.1 bt477.1).bind fun t480=>(if t480.toList=bt473.2.toList then((Y67.f bt475.1 bt477.1).bind fun t481=>(some (t481,true))) else(some ((⟨#[]⟩ :ByteArray),false)))) else(some ((⟨#[]⟩ :ByteArray),false))))))))
def Y13.f (k:Nat):Option (Bool):=(Y81.f k 6 (-4)).bind fun bt488=>((Y52.f k (⟨#[50,46,53,48]⟩ :ByteArray)).bind fun bt490=>((Y33.f k (⟨#[50,47,51]⟩ :ByteArray) 3).bind fun bt492=>((Y65.f k (⟨#[57,47,52]⟩ :ByteArray)).bind fun bt494=>(if bt488.2=0 then(if bt490.2=0 then(if bt492.2=0 then(if bt488.1.toList= ([45,51,47,50]:List UInt8) then(if bt490.1.toList= ([53,47,50]:List UInt8) then(if bt492.1.toList= ([48,46,54,54,55]:List UInt8) then(if bt494.2=true then(if bt494.1.toList= ([51,47,50]:List UInt8) then((Y73.f k bt488.1 bt490.1).bind fun t496=>(some (t496.toList== ([49]:List UInt8)))) else(some false)) else(some false)) else(some false)) else(some false)) else(some false)) else(some false)) else(some false)) else(some false)))))
def Y42.j0:Nat→ByteArray→ByteArray→Int→Int→Bool→Option (ByteArray)
 |0,_,_,_,_,_=>none
 |k+1,x0,x1,x5,x7,x28=>if x28=true then((Y50.f (wrap64 (x5+x7))).bind fun t670=>(some t670)) else((Y16.f x0).bind fun bt671=>((Y16.f x1).bind fun bt673=>((Y32.f k bt671.2).bind fun t675=>((Y32.f k bt673.2).bind fun t678=>(if(bt671.1==bt673.1)=true then((Y10.f k t675 t678 1 0).bind fun t681=>((Y31.f k bt671.1 t681).bind fun t684=>(some t684))) else((Y30.f k t675 t678).bind fun t685=>(if t685=true then((Y10.f k t678 t675 (-1) 0).bind fun t686=>((Y31.f k bt673.1 t686).bind fun t689=>(some t689))) else((Y10.f k t675 t678 (-1) 0).bind fun t690=>((Y31.f k bt671.1 t690).bind fun t693=>(some t693))))))))))
def Y42.f (k:Nat) (a0:ByteArray) (a1:ByteArray):Option (ByteArray):=(Y17.f k a0).bind fun bt666=>((Y17.f k a1).bind fun bt668=>(if bt666.2=true then(Y42.j0 k a0 a1 bt666.1 bt668.1 bt668.2) else(Y42.j0 k a0 a1 bt666.1 bt668.1 false)))
def Y27.f (s:ByteArray) (c:Int):Option Int:=some (Lib.indexByte s.data.toList c.toNat.toUInt8)
def Y21.f (a0:ByteArray):Option (ByteArray×ByteArray):=(Y27.f a0 47).bind fun t665=>(if t665<0 then(some (a0,(⟨#[49]⟩ :ByteArray))) else(if 0≤t665 then(if t665≤(a0.size:Int) then(if 0≤(wrap64 (t665+1)) then(if(wrap64 (t665+1))≤(a0.size:Int) then(some (a0.extract 0 (t665:Int).toNat,a0.extract ((wrap64 (t665+1)):Int).toNat a0.size)) else(none)) else(none)) else(none)) else(none)))
def Y2.l0:Nat→Bool→ByteArray→Int→Option (Bool)
 |0,_,_,_=>none
 |k+1,x3,x4,x5=>if x5< (x4.size:Int) then(if 0≤x5 then(if(bt x4 x5)<48 then(some false) else(if(bt x4 x5) > 57 then(some false) else(Y2.l0 k x3 x4 (wrap64 (x5+1))))) else(none)) else(if(x4.size:Int)=0 then(some false) else(if 0< (x4.size:Int) then(if(bt x4 0)=48 then(if x3=true then(some false) else(if(x4.size:Int) > 1 then(some false) else(some true))) else(some true)) else(none)))
def Y2.f (k:Nat) (a0:ByteArray):Option (Bool):=(Y16.f a0).bind fun bt660=>(Y2.l0 k bt660.1 bt660.2 0)
def Y14.f (k:Nat) (a0:ByteArray):Option (Bool):=(Y16.f a0).bind fun bt662=>((Y2.f k a0).bind fun t664=>(if t664=true then(some (decide ((bt662.2.size:Int)≤200))) else(some false)))
def Y45.f (k:Nat) (a0:ByteArray) (a1:ByteArray):Option (ByteArray):=(Y44.f a1).bind fun t694=>((Y42.f k a0 t694).bind fun t695=>(some t695))
def Y8.f (k:Nat) (a0:ByteArray) (a1:ByteArray):Option (Int):=(Y45.f k a0 a1).bind fun t696=>((Y28.f t696).bind fun t697=>(some t697))
def Y22.j0:Nat→ByteArray→ByteArray→ByteArray→Bool→Option (Bool)
 |0,_,_,_,_=>none
 |k+1,x0,x3,x4,x17=>if x17=true then(some false) else((Y27.f x0 47).bind fun t702=>(if t702<0 then(some true) else((Y8.f k x4 (⟨#[49]⟩ :ByteArray)).bind fun t703=>(if t703 > 0 then(if x3.toList= ([48]:List UInt8) then(some false) else((Y43.f k x3 x4).bind fun t704=>(some (t704.toList== ([49]:List UInt8))))) else(some false)))))
def Y22.f (k:Nat) (a0:ByteArray):Option (Bool):=(Y21.f a0).bind fun bt698=>((Y14.f k bt698.1).bind fun t700=>(if t700=true then((Y14.f k bt698.2).bind fun t701=>(Y22.j0 k a0 bt698.1 bt698.2 (!t701))) else(Y22.j0 k a0 bt698.1 bt698.2 true)))
def Y11.l0:Nat→ByteArray→Int→Option (Bool)
 |0,_,_=>none
 |k+1,x0,x3=>if x3< (x0.size:Int) then(if 0≤x3 then(if(bt x0 x3)<48 then(some false) else(if(bt x0 x3) > 57 then(some false) else(Y11.l0 k x0 (wrap64 (x3+1))))) else(none)) else(some (x0.toList != ([]:List UInt8)))
def Y11.f (k:Nat) (a0:ByteArray):Option (Bool):=Y11.l0 k a0 0
def Y23.l0:Nat→ByteArray→Option (ByteArray)
 |0,_=>none
 |k+1,x0=>if(x0.size:Int) > 1 then(if 0< (x0.size:Int) then(if(bt x0 0)=48 then(if 1≤(x0.size:Int) then(Y23.l0 k (x0.extract 1 x0.size)) else(none)) else(some x0)) else(none)) else(some x0)
def Y23.f (k:Nat) (a0:ByteArray):Option (ByteArray):=Y23.l0 k a0
mutual
def Y20.j0:Nat→ByteArray→ByteArray→Bool→Option (ByteArray×Int)
 |0,_,_,_=>none
 |k+1,x0,x4,x20=>if x20=true then(if 1≤(x4.size:Int) then(Y20.j1 k x0 (x4.extract 1 x4.size)) else(none)) else(Y20.j1 k x0 x4)
def Y20.j1:Nat→ByteArray→ByteArray→Option (ByteArray×Int)
 |0,_,_=>none
 |k+1,x0,x4=>(Y37.f x4 (⟨#[47,46]⟩ :ByteArray)).bind fun t650=>(if t650≥0 then(if 0≤t650 then(if t650≤(x4.size:Int) then(if 0≤(wrap64 (t650+1)) then(if(wrap64 (t650+1))≤(x4.size:Int) then(Y20.j2 k x0 x4 t650 (x4.extract 0 (t650:Int).toNat) (x4.extract ((wrap64 (t650+1)):Int).toNat x4.size)) else(none)) else(none)) else(none)) else(none)) else(Y20.j2 k x0 x4 t650 x4 (⟨#[]⟩ :ByteArray)))
def Y20.j2:Nat→ByteArray→ByteArray→Int→ByteArray→ByteArray→Option (ByteArray×Int)
 |0,_,_,_,_,_=>none
 |k+1,x0,x4,x5,x6,x7=>(Y11.f k x6).bind fun t651=>(if t651=true then(if x5≥0 then((Y11.f k x7).bind fun t652=>(Y20.j3 k x0 x4 x5 x6 x7 (!t652))) else(Y20.j3 k x0 x4 x5 x6 x7 false)) else(Y20.j3 k x0 x4 x5 x6 x7 true))
def Y20.j3:Nat→ByteArray→ByteArray→Int→ByteArray→ByteArray→Bool→Option (ByteArray×Int)
 |0,_,_,_,_,_,_=>none
 |k+1,x0,x4,x5,x6,x7,x46=>if x46=true then(some ((⟨#[]⟩ :ByteArray),15)) else(if(x0.size:Int) > 200 then(some ((⟨#[]⟩ :ByteArray),16)) else((Y23.f k x6).bind fun t653=>(if x5≥0 then(if 0≤x5 then(if x5< (x4.size:Int) then(Y20.j4 k x0 x4 x5 x6 x7 t653 (⟨#[49]⟩ :ByteArray) ((bt x4 x5)==47)) else(none)) else(none)) else(Y20.j4 k x0 x4 x5 x6 x7 t653 (⟨#[49]⟩ :ByteArray) false))))
def Y20.j4:Nat→ByteArray→ByteArray→Int→ByteArray→ByteArray→ByteArray→ByteArray→Bool→Option (ByteArray×Int)
 |0,_,_,_,_,_,_,_,_=>none
 |k+1,x0,x4,x5,x6,x7,x8,x9,x59=>if x59=true then((Y23.f k x7).bind fun t654=>(Y20.j5 k x0 x4 x5 x6 x7 x8 t654)) else(Y20.j5 k x0 x4 x5 x6 x7 x8 x9)
def Y20.j5:Nat→ByteArray→ByteArray→Int→ByteArray→ByteArray→ByteArray→ByteArray→Option (ByteArray×Int)
 |0,_,_,_,_,_,_,_=>none
 |k+1,x0,x4,x5,x6,x7,x8,x9=>if x5≥0 then(if 0≤x5 then(if x5< (x4.size:Int) then(Y20.j6 k x0 x6 x7 x8 x9 ((bt x4 x5)==46)) else(none)) else(none)) else(Y20.j6 k x0 x6 x7 x8 x9 false)
def Y20.j6:Nat→ByteArray→ByteArray→ByteArray→ByteArray→ByteArray→Bool→Option (ByteArray×Int)
 |0,_,_,_,_,_,_=>none
 |k+1,x0,x6,x7,x8,x9,x69=>if x69=true then(if x6.size+x7.size≤9223372036854775807 then((Y23.f k (x6++x7)).bind fun t655=>((Y58.f (⟨#[48]⟩ :ByteArray) (x7.size:Int)).bind fun t656=>(if 1+t656.size≤9223372036854775807 then(Y20.j7 k x0 t655 ((⟨#[49]⟩ :ByteArray)++t656)) else(none)))) else(none)) else(Y20.j7 k x0 x8 x9)
def Y20.j7:Nat→ByteArray→ByteArray→ByteArray→Option (ByteArray×Int)
 |0,_,_,_=>none
 |k+1,x0,x8,x9=>if x9.toList= ([48]:List UInt8) then(some ((⟨#[]⟩ :ByteArray),17)) else(if 0< (x0.size:Int) then(if(bt x0 0)=45 then((Y44.f x8).bind fun t657=>((Y7.f k t657 x9).bind fun t658=>(some (t658,0)))) else((Y7.f k x8 x9).bind fun t659=>(some (t659,0)))) else(none))
end
def Y20.f (k:Nat) (a0:ByteArray):Option (ByteArray×Int):=if a0.toList= ([]:List UInt8) then(some ((⟨#[]⟩ :ByteArray),13)) else(if 0< (a0.size:Int) then(if(bt a0 0)=43 then(Y20.j0 k a0 a0 true) else(Y20.j0 k a0 a0 ((bt a0 0)==45))) else(none))
mutual
def Y0.j0:Nat→ByteArray→Int→Bool→Option (Bool)
 |0,_,_,_=>none
 |k+1,x0,x1,x18=>if x18=true then((Y13.f k).bind fun t706=>(some t706)) else((Y58.f (⟨#[48]⟩ :ByteArray) (Int.tmod (wrap64 (x1)) 201)).bind fun t707=>(if x0.size+t707.size≤9223372036854775807 then((Y52.f k (x0++t707)).bind fun bt708=>((Y20.f k (x0++t707)).bind fun bt710=>(if bt708.1.toList=bt710.1.toList then(Y0.j1 k x0 (bt708.2 !=bt710.2)) else(Y0.j1 k x0 true)))) else(none)))
def Y0.j1:Nat→ByteArray→Bool→Option (Bool)
 |0,_,_=>none
 |k+1,x0,x43=>if x43=true then(some false) else((Y22.f k x0).bind fun t712=>(if t712=true then((Y52.f k x0).bind fun bt713=>(if bt713.2=0 then(some (bt713.1.toList==x0.toList)) else(some false))) else(some true)))
end
def Y0.f (k:Nat) (a0:ByteArray) (a1:Int):Option (Bool):=(Y13.f k).bind fun t705=>(if t705=true then(Y0.j0 k a0 a1 (decide ((a0.size:Int) > 80))) else(Y0.j0 k a0 a1 true))
end Go.Proofs.YtnfgokmecllpbaaGreatDoor.Print
end
section
namespace Go.Proofs.YtnfgokmecllpbaaGreatDoorW.PrintLast
open Go.Proofs.YtnfgokmecllpbaaGreatDoorW.PrintWords (Aside0)
def needsOf (md:Region.Mode) (o:Oper):List Nat:=(o.after.toList.filter (fun e=>Region.binds md e)).map (fun e=>e.on)
def clashOf (md:Region.Mode) (ops:Array Oper) (i:Nat) (oi:Oper):List Nat:=(List.range ops.size).filter fun j=>!(j==i) && match ops[j]? with
 |some oj=>!(oj.after.any (fun e=>Region.binds md e && e.on==i) || oi.apart ops oj)
 |none=>false
def rtab (md:Region.Mode) (ops:Array Oper):Bool×List (List Nat×List Nat):=(Region.noSelect ops,(List.range ops.size).map fun i=>match ops[i]? with
 |some o=>(needsOf md o,clashOf md ops i o)
 |none=>([],[]))
def readyAt (T:List (List Nat×List Nat)) (l:List Bool) (i:Nat):Bool:=!l.getD i true && match T[i]? with
 |some r=>r.1.all (fun j=>l.getD j false)
 |none=>false
def readyT (T:List (List Nat×List Nat)) (l:List Bool):List Nat:=(List.range T.length).filter (readyAt T l)
def freeT (T:List (List Nat×List Nat)) (l:List Bool) (i:Nat):Bool:=match T[i]? with
 |some r=>r.2.all (fun j=>l.getD j true)
 |none=>false
def closedT (T:List (List Nat×List Nat)) (l:List Bool):Bool:=(List.range T.length).all fun j=>!l.getD j false || match T[j]? with
 |some r=>r.1.all (fun k=>l.getD k false)
 |none=>true
def reachT (T:List (List Nat×List Nat)) (i:Nat):Nat→Nat→Bool
 |0,_=>false
 |fuel+1,d=>match T[d]? with
  |some r=>r.1.any fun j=>j==i || reachT T i fuel j
  |none=>false
def lastT (T:List (List Nat×List Nat)) (l:List Bool) (ds:List Nat) (i:Nat):Bool:=ds.all fun d=>l.getD d true || reachT T i T.length d
section
variable {md:Region.Mode} {ops:Array Oper} {T:Bool×List (List Nat×List Nat)} {l l' li lj lk:Array Bool} {ds:List Nat} {i j k:Nat}
theorem gd (l:Array Bool) (j:Nat) (b:Bool):l.getD j b=l.toList.getD j b:=by simp[Array.getD_eq_getD_getElem?,List.getD_eq_getElem?_getD]
theorem needs_all (o:Oper) (p:Nat→Bool):o.after.all (fun e=>!Region.binds md e || p e.on)= (needsOf md o).all p:=by
 unfold needsOf;rw[←Array.all_toList]
 induction o.after.toList with
 |nil=>rfl
 |cons e r ih=>
  rw[List.all_cons,ih,List.filter_cons];cases h:Region.binds md e <;> simp
theorem needs_any (o:Oper) (p:Nat→Bool):o.after.any (fun e=>Region.binds md e && p e.on)= (needsOf md o).any p:=by
 unfold needsOf;rw[←Array.any_toList]
 induction o.after.toList with
 |nil=>rfl
 |cons e r ih=>
  rw[List.any_cons,ih,List.filter_cons];cases h:Region.binds md e <;> simp
theorem rtab_length:(rtab md ops).2.length=ops.size:=by simp[rtab]
theorem rtab_some {o:Oper} (h:ops[i]? =some o):(rtab md ops).2[i]? =some (needsOf md o,clashOf md ops i o):=by
 have hi:=(Array.getElem?_eq_some_iff.1 h).1;unfold rtab;rw[List.getElem?_map,List.getElem?_range hi,Option.map_some,h]
theorem rtab_none (h:ops[i]? =none):(rtab md ops).2[i]? =none:=by
 have hi:ops.size≤i:=Array.getElem?_eq_none_iff.1 h;exact List.getElem?_eq_none (by rw[rtab_length];exact hi)
theorem readyAt_eq:readyAt (rtab md ops).2 l.toList i= (!l.getD i true && ((ops[i]?).map (·.after.all fun e=>!Region.binds md e || l.getD e.on false)).getD false):=by
 unfold readyAt;rw[gd];cases h:ops[i]? with
 |none=>rw[rtab_none h];rfl
 |some o=>
  rw[rtab_some h];simp only[Option.map_some,Option.getD_some];rw[←needs_all];simp only[gd]
theorem ready_eq:Region.ready md ops l=readyT (rtab md ops).2 l.toList:=by
 unfold Region.ready readyT;rw[rtab_length];refine List.filter_congr (fun i _=>?_);rw[readyAt_eq]
theorem free_eq:Region.free md ops l i=freeT (rtab md ops).2 l.toList i:=by
 unfold Region.free freeT;cases h:ops[i]? with
 |none=>rw[rtab_none h]
 |some oi=>
  rw[rtab_some h];simp only[clashOf];rw[List.all_filter];congr 1
  funext j
  rw[gd];cases hj:ops[j]? with
  |none=>cases (j==i) <;> cases (l.toList.getD j true) <;> simp
  |some oj=>
   cases (j==i) <;> cases (l.toList.getD j true) <;> cases (oj.after.any (fun e=>Region.binds md e && e.on==i) || oi.apart ops oj) <;> simp_all
theorem closed_eq:Region.closedB md ops l=closedT (rtab md ops).2 l.toList:=by
 unfold Region.closedB closedT;rw[rtab_length];congr 1
 funext j
 rw[gd];cases h:ops[j]? with
 |none=>rw[rtab_none h]
 |some o=>
  rw[rtab_some h];simp only;rw[←needs_all];simp only[gd]
theorem reach_eq: ∀(fuel d:Nat),Region.reachB md ops i fuel d=reachT (rtab md ops).2 i fuel d
 |0,_=>rfl
 |fuel+1,d=>by
  unfold Region.reachB reachT;cases h:ops[d]? with
  |none=>rw[rtab_none h]
  |some o=>
   rw[rtab_some h];simp only;rw[←needs_any];congr 1
   funext e
   rw[reach_eq fuel]
theorem last_eq:Region.lastB md ops l ds i=lastT (rtab md ops).2 l.toList ds i:=by
 unfold Region.lastB lastT;rw[rtab_length];congr 1
 funext d
 rw[gd,reach_eq]
theorem readyAt_mem (h:readyAt T.2 l.toList i=true) (hT:rtab md ops=T):(Region.ready md ops l).contains i=true:=by
 subst hT;rw[ready_eq];unfold readyT;rw[List.contains_iff_mem,List.mem_filter,List.mem_range];refine⟨?_,h⟩;unfold readyAt at h;rw[Bool.and_eq_true] at h;cases hq:(rtab md ops).2[i]? with
 |none=>rw[hq] at h;simp at h
 |some r=>exact(List.getElem?_eq_some_iff.1 hq).1
theorem set_of (h:(l.toList.set i true==l'.toList)=true):(l.setIfInBounds i true==l')=true:=by
 rw[beq_iff_eq] at h⊢;apply Array.ext';rw[Array.toList_setIfInBounds];exact h
def anyT (T:Bool×List (List Nat×List Nat)) (l l':List Bool) (i:Nat):Bool:=T.1 && freeT T.2 l i && readyAt T.2 l i && (l.set i true==l')
theorem any_of (hT:rtab md ops=T) (h:anyT T l.toList l'.toList i=true):anyB md ops l l' i=true:=by
 simp only[anyT,Bool.and_eq_true] at h;obtain⟨⟨⟨h1,h2⟩,h3⟩,h4⟩ :=h;have h5:=readyAt_mem h3 hT;have h6:=set_of h4;subst hT;simp only[anyB,Bool.and_eq_true];exact⟨⟨⟨h1,by rw[free_eq];exact h2⟩,h5⟩,h6⟩
def takeT (T:Bool×List (List Nat×List Nat)) (ds:List Nat) (l l':List Bool) (i:Nat):Bool:=T.1 && freeT T.2 l i && readyAt T.2 l i && closedT T.2 l && lastT T.2 l ds i && (l.set i true==l')
theorem take_of (hT:rtab md ops=T) (h:takeT T ds l.toList l'.toList i=true):takeB md ops ds l l' i=true:=by
 simp only[takeT,Bool.and_eq_true] at h;obtain⟨⟨⟨⟨⟨h1,h2⟩,h3⟩,h4⟩,h5⟩,h6⟩ :=h;have h7:=readyAt_mem h3 hT;have h8:=set_of h6;subst hT;simp only[takeB,Bool.and_eq_true];exact⟨⟨⟨⟨⟨h1,by rw[free_eq];exact h2⟩,h7⟩,by rw[closed_eq];exact h4⟩,by rw[last_eq];exact h5⟩,h8⟩
theorem one_of (hT:rtab md ops=T) (h:(readyT T.2 l.toList== [i] && l.toList.set i true==l'.toList)=true):readyB md ops l l' i=true:=by
 simp only[Bool.and_eq_true] at h;obtain⟨h1,h2⟩ :=h;subst hT;simp only[readyB,Bool.and_eq_true];exact⟨by rw[ready_eq];exact h1,set_of h2⟩
theorem done_of (hT:rtab md ops=T) (h:(readyT T.2 l.toList== [])=true):(Region.ready md ops l== [])=true:=by
 subst hT;rw[ready_eq];exact h
def upM (B:List Nat) (d:Nat):List Nat→Nat
 | []=>0
 |n::r=>(2 ^ n ||| (if n<d then B.getD n 0 else 0)) ||| upM B d r
def waitsOk (T:List (List Nat×List Nat)) (B:List Nat):Bool:=(List.range T.length).all fun d=>match T[d]? with
 |some r=>(B.getD d 0 ||| upM B d r.1)==upM B d r.1
 |none=>false
theorem upM_bit {B:List Nat} {d i:Nat}: ∀{ns:List Nat},(upM B d ns).testBit i=true→∃n∈ns,n=i∨(n<d∧(B.getD n 0).testBit i=true)
 | [],h=>by simp[upM] at h
 |n::r,h=>by
  unfold upM at h;rw[Nat.testBit_or,Nat.testBit_or,Bool.or_eq_true,Bool.or_eq_true] at h;rcases h with (h|h)|h
  ·rw[Nat.testBit_two_pow] at h;exact⟨n,List.mem_cons_self,.inl (by simpa using h)⟩
  ·by_cases hn:n<d
   ·rw[if_pos hn] at h;exact⟨n,List.mem_cons_self,.inr ⟨hn,h⟩⟩
   ·rw[if_neg hn] at h;simp at h
  ·obtain⟨m,hm,h2⟩ :=upM_bit h;exact⟨m,List.mem_cons_of_mem _ hm,h2⟩
theorem reach_bit {T:List (List Nat×List Nat)} {B:List Nat} (hB:waitsOk T B=true): ∀(fuel d:Nat),d<fuel→d<T.length→(B.getD d 0).testBit i=true→reachT T i fuel d=true
 |0,d,h,_,_=>by omega
 |fuel+1,d,h,hd,hb=>by
  have h1:=List.all_eq_true.1 hB d (List.mem_range.2 hd);cases hr:T[d]? with
  |none=>rw[hr] at h1;simp at h1
  |some r=>
   rw[hr] at h1;simp only[beq_iff_eq] at h1;have h2:(upM B d r.1).testBit i=true:=by rw[←h1,Nat.testBit_or,hb,Bool.true_or]
   obtain⟨n,hn,h3⟩ :=upM_bit h2;unfold reachT;rw[hr];simp only;rw[List.any_eq_true];refine⟨n,hn,?_⟩;rcases h3 with rfl| ⟨h4,h5⟩
   ·simp
   ·rw[reach_bit hB fuel n (by omega) (by omega) h5,Bool.or_true]
def lastW (T:List (List Nat×List Nat)) (B:List Nat) (l:List Bool) (ds:List Nat) (i:Nat):Bool:=ds.all fun d=>l.getD d true || (decide (d<T.length) && (B.getD d 0).testBit i)
def takeW (T:Bool×List (List Nat×List Nat)) (B:List Nat) (ds:List Nat) (l l':List Bool) (i:Nat):Bool:=T.1 && freeT T.2 l i && readyAt T.2 l i && closedT T.2 l && lastW T.2 B l ds i && (l.set i true==l')
theorem take_ofW {B:List Nat} (hT:rtab md ops=T) (hB:waitsOk T.2 B=true) (h:takeW T B ds l.toList l'.toList i=true):takeB md ops ds l l' i=true:=by
 refine take_of hT ?_;simp only[takeW,takeT,Bool.and_eq_true] at h⊢;obtain⟨⟨⟨⟨⟨h1,h2⟩,h3⟩,h4⟩,h5⟩,h6⟩ :=h;refine⟨⟨⟨⟨⟨h1,h2⟩,h3⟩,h4⟩,?_⟩,h6⟩;unfold lastW at h5;unfold lastT;rw[List.all_eq_true] at h5⊢;intro d hd;have h7:=h5 d hd;rw[Bool.or_eq_true,Bool.and_eq_true,decide_eq_true_eq] at h7;rcases h7 with h7| ⟨h8,h9⟩
 ·rw[h7,Bool.true_or]
 ·rw[reach_bit hB _ d h8 h8 h9,Bool.or_true]
theorem with_tabW {P:Program} {Q:Exit→Act→World→Prop} {S:World→Prop} {n:Nat} {a:Act} {w:World} {B:List Nat} (hT:rtab md ops=T) (hB:waitsOk T.2 B=true) (h:Aside0 (rtab md ops=T)→Aside0 (waitsOk T.2 B=true)→wpAnyLast P md ops Q S ds n l a w):wpAnyLast P md ops Q S ds n l a w:=h ⟨hT⟩ ⟨hB⟩
end
def opsIn:Code→Nat→Option (Array Oper)
 | .region id ops _,k=>if id==k then some ops else none
 | .seq a b,k=>match opsIn a k with
  |some o=>some o
  |none=>opsIn b k
 | .cond _ a b,k=>match opsIn a k with
  |some o=>some o
  |none=>opsIn b k
 | .block _ c,k=>opsIn c k
 | .loop c,k=>opsIn c k
 | .scope c,k=>opsIn c k
 | .rangeFunc _ _ a b,k=>match opsIn a k with
  |some o=>some o
  |none=>opsIn b k
 |_,_=>none
def opsOf (f:Func) (k:Nat):Array Oper:=((f.body.bind fun c=>opsIn c k)).getD #[]
end Go.Proofs.YtnfgokmecllpbaaGreatDoorW.PrintLast
end
section
namespace Go.Proofs.YtnfgokmecllpbaaGreatDoorW.PrintWords
theorem Reps.one {α:Type} {R:α→List Value→Prop} {ps:List α} {cs:List Value} {p:α} {v:Value} (hp:R p [v]) (h:Reps R 1 ps cs):Reps R 1 (p::ps) (v::cs):=by
 refine⟨by simp[h.1],fun j q hq=>?_⟩;cases j with
 |zero=>
  simp only[List.getElem?_cons_zero,Option.some.injEq] at hq;subst hq
  simpa using hp
 |succ j=>
  simp only[List.getElem?_cons_succ] at hq;have h1:=h.2 j q hq
  simpa [Nat.mul_one] using h1
theorem Reps.front {α:Type} {R:α→List Value→Prop} {size:Nat} {ps:List α} {cs c all:List Value} {p:α} (hp:R p c) (hc:c.length=size) (h:Reps R size ps cs) (ha:c++cs=all):Reps R size (p::ps) all:=by
 subst ha;refine⟨by rw[List.length_append,hc,h.1,List.length_cons,Nat.succ_mul,Nat.add_comm],fun j q hq=>?_⟩;cases j with
 |zero=>
  simp only[List.getElem?_cons_zero,Option.some.injEq] at hq;subst hq;rw[Nat.zero_mul,List.drop_zero,List.take_append_of_le_length (by omega),List.take_of_length_le (by omega)];exact hp
 |succ j=>
  simp only[List.getElem?_cons_succ] at hq;have h1:=h.2 j q hq;rw[Nat.succ_mul,List.drop_append,List.drop_of_length_le (by rw[hc];exact Nat.le_add_left _ _),List.nil_append,hc,Nat.add_sub_cancel];exact h1
theorem Reps.c2 {α:Type} {R:α→List Value→Prop} {ps:List α} {cs:List Value} {p:α} {va vb:Value} (hp:R p [va,vb]) (h:Reps R 2 ps cs):Reps R 2 (p::ps) (va::vb::cs):=Reps.front hp rfl h rfl
theorem Reps.c3 {α:Type} {R:α→List Value→Prop} {ps:List α} {cs:List Value} {p:α} {va vb vc:Value} (hp:R p [va,vb,vc]) (h:Reps R 3 ps cs):Reps R 3 (p::ps) (va::vb::vc::cs):=Reps.front hp rfl h rfl
theorem Reps.c4 {α:Type} {R:α→List Value→Prop} {ps:List α} {cs:List Value} {p:α} {va vb vc vd:Value} (hp:R p [va,vb,vc,vd]) (h:Reps R 4 ps cs):Reps R 4 (p::ps) (va::vb::vc::vd::cs):=Reps.front hp rfl h rfl
theorem Reps.c5 {α:Type} {R:α→List Value→Prop} {ps:List α} {cs:List Value} {p:α} {va vb vc vd ve:Value} (hp:R p [va,vb,vc,vd,ve]) (h:Reps R 5 ps cs):Reps R 5 (p::ps) (va::vb::vc::vd::ve::cs):=Reps.front hp rfl h rfl
theorem Reps.c6 {α:Type} {R:α→List Value→Prop} {ps:List α} {cs:List Value} {p:α} {va vb vc vd ve vf:Value} (hp:R p [va,vb,vc,vd,ve,vf]) (h:Reps R 6 ps cs):Reps R 6 (p::ps) (va::vb::vc::vd::ve::vf::cs):=Reps.front hp rfl h rfl
theorem Reps.c7 {α:Type} {R:α→List Value→Prop} {ps:List α} {cs:List Value} {p:α} {va vb vc vd ve vf vg:Value} (hp:R p [va,vb,vc,vd,ve,vf,vg]) (h:Reps R 7 ps cs):Reps R 7 (p::ps) (va::vb::vc::vd::ve::vf::vg::cs):=Reps.front hp rfl h rfl
theorem Reps.c8 {α:Type} {R:α→List Value→Prop} {ps:List α} {cs:List Value} {p:α} {va vb vc vd ve vf vg vh:Value} (hp:R p [va,vb,vc,vd,ve,vf,vg,vh]) (h:Reps R 8 ps cs):Reps R 8 (p::ps) (va::vb::vc::vd::ve::vf::vg::vh::cs):=Reps.front hp rfl h rfl
theorem Reps.c9 {α:Type} {R:α→List Value→Prop} {ps:List α} {cs:List Value} {p:α} {va vb vc vd ve vf vg vh vi:Value} (hp:R p [va,vb,vc,vd,ve,vf,vg,vh,vi]) (h:Reps R 9 ps cs):Reps R 9 (p::ps) (va::vb::vc::vd::ve::vf::vg::vh::vi::cs):=Reps.front hp rfl h rfl
theorem Reps.c10 {α:Type} {R:α→List Value→Prop} {ps:List α} {cs:List Value} {p:α} {va vb vc vd ve vf vg vh vi vj:Value} (hp:R p [va,vb,vc,vd,ve,vf,vg,vh,vi,vj]) (h:Reps R 10 ps cs):Reps R 10 (p::ps) (va::vb::vc::vd::ve::vf::vg::vh::vi::vj::cs):=Reps.front hp rfl h rfl
end Go.Proofs.YtnfgokmecllpbaaGreatDoorW.PrintWords
end
section
namespace Go.Proofs.YtnfgokmecllpbaaGreatDoorW.PrintWords
open Go.RowKit
section
variable {P:Program} {ops:Array Oper} {rest:List Oper} {o:Oper} {a:Act} {Q:Exit→Act→World→Prop} {W:World}
theorem gate_guard (hw:Region.wanted o (yielded ops a.tmps)=true) (h:wpList P ops Q ({o with guard:=none} ::rest) a W):wpList P ops Q (o::rest) a W:=by
 have h1:Region.wanted {o with guard:=none} (yielded ops a.tmps)=true:=rfl;unfold wpList at h⊢;rw[if_pos h1] at h;rw[if_pos hw];exact h
end
end Go.Proofs.YtnfgokmecllpbaaGreatDoorW.PrintWords
end
