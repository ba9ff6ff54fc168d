/- Part of the proof in YtnfgokmecllpbaaGreatDoorMParses6. -/
import Derived.Lib.ItoaNum
import Derived.Lib.Atoi
import Derived.Lib.Strings
import Derived.Laws.Strings
import Derived.Test.YtnfgokmecllpbaaGreatDoorMParses4
set_option linter.unusedVariables false
set_option linter.unusedSimpArgs false
set_option maxHeartbeats 8000000
set_option maxRecDepth 100000
section
namespace Go.Proofs.YtnfgokmecllpbaaGreatDoor.Print
open Go.RowKit Go.Proofs.YtnfgokmecllpbaaGreatDoorW.PrintWords Go.Proofs.YtnfgokmecllpbaaGreatDoorW.PrintLast Go.Proofs.YtnfgokmecllpbaaGreatDoorW.PrintMore
attribute [local go_sem] max2_int min2_int max_two min_two max_three min_three max_four min_four
theorem Y66.calls (a0:ByteArray) (r:Int) (w:World) (h:Y66.f a0=some r):
  Calls Tryz.prog 79 #[.string a0] w fun e w'=>e= .returned (.int .i64 r)∧Drawn0 w w':=by
 have H:=h;clear h;unfold Y66.f at H;obtain⟨H,c2b0,c2b1,-⟩ | ⟨H,c2b0,c2b1,c2⟩ :=XE H
 ·obtain rfl:=Option.some.inj H;go_enter Tryz.func79,Tryz.ntmps79
  go_wp2
  go_ret
  exact⟨Z86,Z82⟩
 ·obtain⟨H,c3⟩ | ⟨H,c3⟩ :=XI H
  ·have c3b0:decide (0< (a0.size:Int))=true:=decide_eq_true c3;have c3b1:decide (0<a0.size)=true:=decide_eq_true Z92;clear c3;obtain⟨H,c4b0,c4⟩ :=XkD H;have c4b1:decide (0<a0.size)=true:=decide_eq_true Z92;clear c4;obtain⟨H,c6b0,c6b1,-⟩ | ⟨H,c6b0,c6b1,c6⟩ :=XE H
   ·obtain rfl:=Option.some.inj H;have p5:0≤(0:Int):=Z92;have q5:0<a0.size:=(by have:(0:Int)< (a0.size:Int):=of_decide_eq_true Z85;omega)
    have hx5: ∀h:0<a0.size,((a0[0]'h).toNat:Int)=bt a0 0:=bt_at a0 0;clear p5;have qi5:(0< (a0.size:Int))=True:=eq_true (of_decide_eq_true Z85);replace q5:=eq_true q5;(go_enter Tryz.func79,Tryz.ntmps79);(go_wp2);(go_ret);exact⟨Z86,Z82⟩
   ·obtain rfl:=Option.some.inj H;have p5:0≤(0:Int):=Z92;have q5:0<a0.size:=(by have:(0:Int)< (a0.size:Int):=of_decide_eq_true Z85;omega)
    have hx5: ∀h:0<a0.size,((a0[0]'h).toNat:Int)=bt a0 0:=bt_at a0 0;clear p5;have qi5:(0< (a0.size:Int))=True:=eq_true (of_decide_eq_true Z85);replace q5:=eq_true q5;(go_enter Tryz.func79,Tryz.ntmps79);(go_wp2);(go_ret);exact⟨Z86,Z82⟩
  ·have c3b0:decide (0< (a0.size:Int))=false:=decide_eq_false c3;have c3b1:decide (0<a0.size)=false:=decide_eq_false Z92;clear c3;obtain rfl:=Option.some.inj H;(go_enter Tryz.func79,Tryz.ntmps79);(go_wp2);(go_ret);exact⟨Z86,Z82⟩
theorem Y65.calls (k:Nat) (a0:ByteArray) (r1:ByteArray) (r2:Bool) (w:World) (hGL:GL w) (h:Y65.f k a0=some (r1,r2)):
  Calls Tryz.prog 39 #[.string a0] w fun e w'=>e= .returned (.tuple #[.string r1,.bool r2])∧Below w.heap.size w w':=by
 have HGL:=Aside0.mk hGL;clear hGL;have HB:=Aside0.mk (Below.refl w.heap.size w);have H:=h;clear h;unfold Y65.f at H;obtain⟨t472,A2,H⟩ :=Zb H;try dsimp only at H
 obtain⟨H,c3b0⟩ | ⟨H,c3b0⟩ :=Xd H
 ·simp only[Option.some.injEq,Prod.mk.injEq] at H;obtain⟨rfl,rfl⟩ :=H;go_enter Tryz.func39,Tryz.ntmps39
  go_wp2_with(first| (refine Zq Tryz.func79 (Y66.calls _ _ _ A2.out) fun nd=>?_))
  go_ret2
  exact⟨Z81,Z36⟩
 ·obtain⟨⟨t473,t474⟩,A4,H⟩ :=Zb H;try dsimp only at H
  obtain⟨⟨t475,t476⟩,A5,H⟩ :=Zb H;try dsimp only at H
  obtain⟨⟨t477,t478⟩,A6,H⟩ :=Zb H;try dsimp only at H
  obtain⟨t479,A7,H⟩ :=Zb H;try dsimp only at H
  obtain⟨H,c8b0,c8b1,-⟩ | ⟨H,c8b0,c8b1,c8⟩ :=XE H
  ·obtain⟨t480,A9,H⟩ :=Zb H;(try dsimp only at H);obtain⟨H,c10b0,c10b1,-⟩ | ⟨H,c10b0,c10b1,c10⟩ :=XE H
   ·obtain⟨t481,A11,H⟩ :=Zb H;(try dsimp only at H);simp only[Option.some.injEq,Prod.mk.injEq] at H;obtain⟨rfl,rfl⟩ :=H;(go_enter Tryz.func39,Tryz.ntmps39);(go_wp2_with(first| (refine Zq Tryz.func79 (Y66.calls _ _ _ A2.out) fun nd=>?_)| (refine Zq Tryz.func86 (Y53.calls _ _ _ _ (GL_below Z36 HGL.out) A4.out) fun nd=>?_)| (refine Zm Tryz.func123 (Y68.calls _ _ _ _ _ (GL_below Z36 HGL.out) A5.out) fun w12 hb=>?_;replace HB:=Zn hb;try clear hb)| (refine Zm Tryz.func123 (Y68.calls _ _ _ _ _ (GL_below Z36 HGL.out) A6.out) fun w13 hb=>?_;replace HB:=Zn hb;try clear hb)| (refine Zm Tryz.func124 (Y79.calls _ _ _ _ _ (GL_below Z36 HGL.out) A7.out) fun w14 hb=>?_;replace HB:=Zn hb;try clear hb)| (go_at_call 124;(with_reducible refine(Y79.calls _ _ _ _ _ (GL_below Z36 HGL.out) A9.out).mono ?_);rintro e w15 ⟨rfl,hb⟩;replace HB:=Zn hb;try clear hb)| (refine Zq Tryz.func125 (Y67.calls _ _ _ _ A11.out) fun nd=>?_)));(go_ret2);exact⟨Z81,Z36⟩
   ·simp only[Option.some.injEq,Prod.mk.injEq] at H;obtain⟨rfl,rfl⟩ :=H;(go_enter Tryz.func39,Tryz.ntmps39);(go_wp2_with(first| (refine Zq Tryz.func79 (Y66.calls _ _ _ A2.out) fun nd=>?_)| (refine Zq Tryz.func86 (Y53.calls _ _ _ _ (GL_below Z36 HGL.out) A4.out) fun nd=>?_)| (refine Zm Tryz.func123 (Y68.calls _ _ _ _ _ (GL_below Z36 HGL.out) A5.out) fun w16 hb=>?_;replace HB:=Zn hb;try clear hb)| (refine Zm Tryz.func123 (Y68.calls _ _ _ _ _ (GL_below Z36 HGL.out) A6.out) fun w17 hb=>?_;replace HB:=Zn hb;try clear hb)| (refine Zm Tryz.func124 (Y79.calls _ _ _ _ _ (GL_below Z36 HGL.out) A7.out) fun w18 hb=>?_;replace HB:=Zn hb;try clear hb)| (go_at_call 124;(with_reducible refine(Y79.calls _ _ _ _ _ (GL_below Z36 HGL.out) A9.out).mono ?_);rintro e w19 ⟨rfl,hb⟩;replace HB:=Zn hb;try clear hb)));(go_ret2);exact⟨Z81,Z36⟩
  ·simp only[Option.some.injEq,Prod.mk.injEq] at H;obtain⟨rfl,rfl⟩ :=H;(go_enter Tryz.func39,Tryz.ntmps39);(go_wp2_with(first| (refine Zq Tryz.func79 (Y66.calls _ _ _ A2.out) fun nd=>?_)| (refine Zq Tryz.func86 (Y53.calls _ _ _ _ (GL_below Z36 HGL.out) A4.out) fun nd=>?_)| (refine Zm Tryz.func123 (Y68.calls _ _ _ _ _ (GL_below Z36 HGL.out) A5.out) fun w20 hb=>?_;replace HB:=Zn hb;try clear hb)| (refine Zm Tryz.func123 (Y68.calls _ _ _ _ _ (GL_below Z36 HGL.out) A6.out) fun w21 hb=>?_;replace HB:=Zn hb;try clear hb)| (refine Zm Tryz.func124 (Y79.calls _ _ _ _ _ (GL_below Z36 HGL.out) A7.out) fun w22 hb=>?_;replace HB:=Zn hb;try clear hb)));(go_ret2);exact⟨Z81,Z36⟩
theorem Y75.calls (k:Nat) (a0:ByteArray) (a1:ByteArray) (r1:ByteArray) (r2:Int) (w:World) (hGL:GL w) (h:Y75.f k a0 a1=some (r1,r2)):
  Calls Tryz.prog 44 #[.string a0,.string a1] w fun e w'=>e= .returned (.tuple #[.string r1,.int .i64 r2])∧Below w.heap.size w w':=by
 have HGL:=Aside0.mk hGL;clear hGL;have HB:=Aside0.mk (Below.refl w.heap.size w);have H:=h;clear h;unfold Y75.f at H;obtain⟨t482,A3,H⟩ :=Zb H;try dsimp only at H
 obtain⟨H,c4b0,c4b1,-⟩ | ⟨H,c4b0,c4b1,c4⟩ :=XE H
 ·simp only[Option.some.injEq,Prod.mk.injEq] at H;obtain⟨rfl,rfl⟩ :=H;go_enter Tryz.func44,Tryz.ntmps44
  go_wp2_with(first| (refine Zq Tryz.func114 (Y69.calls _ _ _ A3.out) fun nd=>?_))
  go_ret2
  exact⟨Z81,Z36⟩
 ·obtain⟨t483,A5,H⟩ :=Zb H;try dsimp only at H
  simp only[Option.some.injEq,Prod.mk.injEq] at H;obtain⟨rfl,rfl⟩ :=H;go_enter Tryz.func44,Tryz.ntmps44
  go_wp2_with(first| (refine Zq Tryz.func114 (Y69.calls _ _ _ A3.out) fun nd=>?_)| (refine Zm Tryz.func105 (Y47.calls _ _ _ _ _ (GL_below Z36 HGL.out) A5.out) fun w6 hb=>?_;replace HB:=Zn hb;try clear hb))
  go_ret2
  exact⟨Z81,Z36⟩
theorem Y81.calls (k:Nat) (a0:Int) (a1:Int) (r1:ByteArray) (r2:Int) (w:World) (hGL:GL w) (h:Y81.f k a0 a1=some (r1,r2)):
  Calls Tryz.prog 45 #[.int .i64 a0,.int .i64 a1] w fun e w'=>e= .returned (.tuple #[.string r1,.int .i64 r2])∧Below w.heap.size w w':=by
 have HGL:=Aside0.mk hGL;clear hGL;have HB:=Aside0.mk (Below.refl w.heap.size w);have H:=h;clear h;unfold Y81.f at H;obtain⟨t484,A3,H⟩ :=Zb H;try dsimp only at H
 obtain⟨t485,A4,H⟩ :=Zb H;try dsimp only at H
 obtain⟨⟨t486,t487⟩,A5,H⟩ :=Zb H;try dsimp only at H
 simp only[Option.some.injEq,Prod.mk.injEq] at H;obtain⟨rfl,rfl⟩ :=H;go_enter Tryz.func45,Tryz.ntmps45
 go_wp2_with(first| (refine Zm Tryz.func128 (Y83.calls _ _ _ (GL_below Z36 HGL.out) A3.out) fun w6 hb=>?_;replace HB:=Zn hb;try clear hb)| (refine Zm Tryz.func128 (Y83.calls _ _ _ (GL_below Z36 HGL.out) A4.out) fun w7 hb=>?_;replace HB:=Zn hb;try clear hb)| (refine Zm Tryz.func44 (Y75.calls _ _ _ _ _ _ (GL_below Z36 HGL.out) A5.out) fun w8 hb=>?_;replace HB:=Zn hb;try clear hb))
 go_ret2
 exact⟨Z81,Z36⟩
theorem Y13.calls (k:Nat) (r:Bool) (w:World) (hGL:GL w) (h:Y13.f k=some r):
  Calls Tryz.prog 26 #[] w fun e w'=>e= .returned (.bool r)∧Below w.heap.size w w':=by
 have HGL:=Aside0.mk hGL;clear hGL;have HB:=Aside0.mk (Below.refl w.heap.size w);have H:=h;clear h;unfold Y13.f at H;obtain⟨⟨t488,t489⟩,A1,H⟩ :=Zb H;try dsimp only at H
 obtain⟨⟨t490,t491⟩,A2,H⟩ :=Zb H;try dsimp only at H
 obtain⟨⟨t492,t493⟩,A3,H⟩ :=Zb H;try dsimp only at H
 obtain⟨⟨t494,t495⟩,A4,H⟩ :=Zb H;try dsimp only at H
 obtain⟨H,c5b0,c5b1,-⟩ | ⟨H,c5b0,c5b1,c5⟩ :=XE H
 ·obtain⟨H,c6b0,c6b1,-⟩ | ⟨H,c6b0,c6b1,c6⟩ :=XE H
  ·obtain⟨H,c7b0,c7b1,-⟩ | ⟨H,c7b0,c7b1,c7⟩ :=XE H
   ·obtain⟨H,c8b0,c8b1,-⟩ | ⟨H,c8b0,c8b1,c8⟩ :=XE H
    ·obtain⟨H,c9b0,c9b1,-⟩ | ⟨H,c9b0,c9b1,c9⟩ :=XE H
     ·obtain⟨H,c10b0,c10b1,-⟩ | ⟨H,c10b0,c10b1,c10⟩ :=XE H
      ·by_cases c11:t495=true
       ·subst c11;rw[if_pos rfl] at H;obtain⟨H,c12b0,c12b1,-⟩ | ⟨H,c12b0,c12b1,c12⟩ :=XE H
        ·obtain⟨t496,A13,H⟩ :=Zb H;(try dsimp only at H);obtain rfl:=Option.some.inj H;(go_enter Tryz.func26,Tryz.ntmps26);(go_wp2_with(first| (refine Zm Tryz.func45 (Y81.calls _ _ _ _ _ _ (GL_below Z36 HGL.out) A1.out) fun w14 hb=>?_;replace HB:=Zn hb;try clear hb)| (refine Zm Tryz.func28 (Y52.calls _ _ _ _ _ (GL_below Z36 HGL.out) A2.out) fun w15 hb=>?_;replace HB:=Zn hb;try clear hb)| (refine Zm Tryz.func32 (Y33.calls _ _ _ _ _ _ (GL_below Z36 HGL.out) A3.out) fun w16 hb=>?_;replace HB:=Zn hb;try clear hb)| (refine Zm Tryz.func39 (Y65.calls _ _ _ _ _ (GL_below Z36 HGL.out) A4.out) fun w17 hb=>?_;replace HB:=Zn hb;try clear hb)| (go_at_call 66;(with_reducible refine(Y73.calls _ _ _ _ _ (GL_below Z36 HGL.out) A13.out).mono ?_);rintro e w18 ⟨rfl,hb⟩;replace HB:=Zn hb;try clear hb)));(go_ret);exact⟨Z81,Z36⟩
        ·obtain rfl:=Option.some.inj H;(go_enter Tryz.func26,Tryz.ntmps26);(go_wp2_with(first| (refine Zm Tryz.func45 (Y81.calls _ _ _ _ _ _ (GL_below Z36 HGL.out) A1.out) fun w19 hb=>?_;replace HB:=Zn hb;try clear hb)| (refine Zm Tryz.func28 (Y52.calls _ _ _ _ _ (GL_below Z36 HGL.out) A2.out) fun w20 hb=>?_;replace HB:=Zn hb;try clear hb)| (refine Zm Tryz.func32 (Y33.calls _ _ _ _ _ _ (GL_below Z36 HGL.out) A3.out) fun w21 hb=>?_;replace HB:=Zn hb;try clear hb)| (refine Zm Tryz.func39 (Y65.calls _ _ _ _ _ (GL_below Z36 HGL.out) A4.out) fun w22 hb=>?_;replace HB:=Zn hb;try clear hb)));(go_ret);exact⟨Z81,Z36⟩
       ·replace c11:=Bool.eq_false_iff.mpr c11;subst c11;rw[if_neg (show¬(false=true) by decide)] at H;obtain rfl:=Option.some.inj H;(go_enter Tryz.func26,Tryz.ntmps26);(go_wp2_with(first| (refine Zm Tryz.func45 (Y81.calls _ _ _ _ _ _ (GL_below Z36 HGL.out) A1.out) fun w23 hb=>?_;replace HB:=Zn hb;try clear hb)| (refine Zm Tryz.func28 (Y52.calls _ _ _ _ _ (GL_below Z36 HGL.out) A2.out) fun w24 hb=>?_;replace HB:=Zn hb;try clear hb)| (refine Zm Tryz.func32 (Y33.calls _ _ _ _ _ _ (GL_below Z36 HGL.out) A3.out) fun w25 hb=>?_;replace HB:=Zn hb;try clear hb)| (refine Zm Tryz.func39 (Y65.calls _ _ _ _ _ (GL_below Z36 HGL.out) A4.out) fun w26 hb=>?_;replace HB:=Zn hb;try clear hb)));(go_ret);exact⟨Z81,Z36⟩
      ·obtain rfl:=Option.some.inj H;(go_enter Tryz.func26,Tryz.ntmps26);(go_wp2_with(first| (refine Zm Tryz.func45 (Y81.calls _ _ _ _ _ _ (GL_below Z36 HGL.out) A1.out) fun w27 hb=>?_;replace HB:=Zn hb;try clear hb)| (refine Zm Tryz.func28 (Y52.calls _ _ _ _ _ (GL_below Z36 HGL.out) A2.out) fun w28 hb=>?_;replace HB:=Zn hb;try clear hb)| (refine Zm Tryz.func32 (Y33.calls _ _ _ _ _ _ (GL_below Z36 HGL.out) A3.out) fun w29 hb=>?_;replace HB:=Zn hb;try clear hb)| (refine Zm Tryz.func39 (Y65.calls _ _ _ _ _ (GL_below Z36 HGL.out) A4.out) fun w30 hb=>?_;replace HB:=Zn hb;try clear hb)));(go_ret);exact⟨Z81,Z36⟩
     ·obtain rfl:=Option.some.inj H;(go_enter Tryz.func26,Tryz.ntmps26);(go_wp2_with(first| (refine Zm Tryz.func45 (Y81.calls _ _ _ _ _ _ (GL_below Z36 HGL.out) A1.out) fun w31 hb=>?_;replace HB:=Zn hb;try clear hb)| (refine Zm Tryz.func28 (Y52.calls _ _ _ _ _ (GL_below Z36 HGL.out) A2.out) fun w32 hb=>?_;replace HB:=Zn hb;try clear hb)| (refine Zm Tryz.func32 (Y33.calls _ _ _ _ _ _ (GL_below Z36 HGL.out) A3.out) fun w33 hb=>?_;replace HB:=Zn hb;try clear hb)| (refine Zm Tryz.func39 (Y65.calls _ _ _ _ _ (GL_below Z36 HGL.out) A4.out) fun w34 hb=>?_;replace HB:=Zn hb;try clear hb)));(go_ret);exact⟨Z81,Z36⟩
    ·obtain rfl:=Option.some.inj H;(go_enter Tryz.func26,Tryz.ntmps26);(go_wp2_with(first| (refine Zm Tryz.func45 (Y81.calls _ _ _ _ _ _ (GL_below Z36 HGL.out) A1.out) fun w35 hb=>?_;replace HB:=Zn hb;try clear hb)| (refine Zm Tryz.func28 (Y52.calls _ _ _ _ _ (GL_below Z36 HGL.out) A2.out) fun w36 hb=>?_;replace HB:=Zn hb;try clear hb)| (refine Zm Tryz.func32 (Y33.calls _ _ _ _ _ _ (GL_below Z36 HGL.out) A3.out) fun w37 hb=>?_;replace HB:=Zn hb;try clear hb)| (refine Zm Tryz.func39 (Y65.calls _ _ _ _ _ (GL_below Z36 HGL.out) A4.out) fun w38 hb=>?_;replace HB:=Zn hb;try clear hb)));(go_ret);exact⟨Z81,Z36⟩
   ·obtain rfl:=Option.some.inj H;(go_enter Tryz.func26,Tryz.ntmps26);(go_wp2_with(first| (refine Zm Tryz.func45 (Y81.calls _ _ _ _ _ _ (GL_below Z36 HGL.out) A1.out) fun w39 hb=>?_;replace HB:=Zn hb;try clear hb)| (refine Zm Tryz.func28 (Y52.calls _ _ _ _ _ (GL_below Z36 HGL.out) A2.out) fun w40 hb=>?_;replace HB:=Zn hb;try clear hb)| (refine Zm Tryz.func32 (Y33.calls _ _ _ _ _ _ (GL_below Z36 HGL.out) A3.out) fun w41 hb=>?_;replace HB:=Zn hb;try clear hb)| (refine Zm Tryz.func39 (Y65.calls _ _ _ _ _ (GL_below Z36 HGL.out) A4.out) fun w42 hb=>?_;replace HB:=Zn hb;try clear hb)));(go_ret);exact⟨Z81,Z36⟩
  ·obtain rfl:=Option.some.inj H;(go_enter Tryz.func26,Tryz.ntmps26);(go_wp2_with(first| (refine Zm Tryz.func45 (Y81.calls _ _ _ _ _ _ (GL_below Z36 HGL.out) A1.out) fun w43 hb=>?_;replace HB:=Zn hb;try clear hb)| (refine Zm Tryz.func28 (Y52.calls _ _ _ _ _ (GL_below Z36 HGL.out) A2.out) fun w44 hb=>?_;replace HB:=Zn hb;try clear hb)| (refine Zm Tryz.func32 (Y33.calls _ _ _ _ _ _ (GL_below Z36 HGL.out) A3.out) fun w45 hb=>?_;replace HB:=Zn hb;try clear hb)| (refine Zm Tryz.func39 (Y65.calls _ _ _ _ _ (GL_below Z36 HGL.out) A4.out) fun w46 hb=>?_;replace HB:=Zn hb;try clear hb)));(go_ret);exact⟨Z81,Z36⟩
 ·obtain rfl:=Option.some.inj H;go_enter Tryz.func26,Tryz.ntmps26
  go_wp2_with(first| (refine Zm Tryz.func45 (Y81.calls _ _ _ _ _ _ (GL_below Z36 HGL.out) A1.out) fun w47 hb=>?_;replace HB:=Zn hb;try clear hb)| (refine Zm Tryz.func28 (Y52.calls _ _ _ _ _ (GL_below Z36 HGL.out) A2.out) fun w48 hb=>?_;replace HB:=Zn hb;try clear hb)| (refine Zm Tryz.func32 (Y33.calls _ _ _ _ _ _ (GL_below Z36 HGL.out) A3.out) fun w49 hb=>?_;replace HB:=Zn hb;try clear hb)| (refine Zm Tryz.func39 (Y65.calls _ _ _ _ _ (GL_below Z36 HGL.out) A4.out) fun w50 hb=>?_;replace HB:=Zn hb;try clear hb))
  go_ret
  exact⟨Z81,Z36⟩
theorem Y11.calls (k:Nat) (a0:ByteArray) (r:Bool) (w:World) (h:Y11.f k a0=some r):
  Calls Tryz.prog 106 #[.string a0] w fun e w'=>e= .returned (.bool r)∧Drawn0 w w':=by
 have H:=h;clear h;unfold Y11.f at H;have H':=Aside0.mk H;clear H;go_enter Tryz.func106,Tryz.ntmps106
 go_wp2
 go_loopg [3] k (fun kq v3 w'=> ∃(x3_1:Int),v3= .int .i64 x3_1∧Aside0 (Y11.l0 kq a0 x3_1=some r)∧Aside0 (kq≤k)∧Drawn0 w w')
 case atStart=>exact⟨(0),Z86,H',⟨Nat.le_refl _⟩,Z82⟩
 case round=>
  clear H';obtain⟨x3_1,rfl,HA,HK1,⟨m1,rfl⟩⟩ :=hrel;cases gk with
  |zero=>exact absurd HA.out (by simp[Y11.l0])
  |succ k1=>
   have H:=HA.out;clear HA;simp only[Y11.l0] at H;obtain⟨H,c2b0⟩ | ⟨H,c2b0⟩ :=Xd H
   ·obtain⟨H,c3b0⟩ :=Xkd H;obtain⟨H,c5b0⟩ | ⟨H,c5b0⟩ :=Xd H
    ·obtain rfl:=Option.some.inj H;have p4:0≤(x3_1:Int):=of_decide_eq_true Z85;have q4:x3_1< (a0.size:Int):=of_decide_eq_true Z85;have hx4:=bt_at a0 x3_1;replace p4:=eq_true p4;replace q4:=eq_true q4;(go_wp2);(go_ret);exact⟨by first|rfl| (simp;done)| (simp[*];done)| (cases a0.toList <;> simp),Z82⟩
    ·obtain⟨H,c7⟩ | ⟨H,c7⟩ :=XI H
     ·have c7b0:decide (57< (bt a0 x3_1))=true:=decide_eq_true c7;clear c7;obtain rfl:=Option.some.inj H;have p4:0≤(x3_1:Int):=of_decide_eq_true Z85;have q4:x3_1< (a0.size:Int):=of_decide_eq_true Z85;have hx4:=bt_at a0 x3_1;replace p4:=eq_true p4;replace q4:=eq_true q4;have p6:0≤(x3_1:Int):=of_decide_eq_true Z85;have q6:x3_1< (a0.size:Int):=of_decide_eq_true Z85;have hx6:=bt_at a0 x3_1;replace p6:=eq_true p6;replace q6:=eq_true q6;(go_wp2);(go_ret);exact⟨by first|rfl| (simp;done)| (simp[*];done)| (cases a0.toList <;> simp),Z82⟩
     ·have c7b0:decide (57< (bt a0 x3_1))=false:=decide_eq_false c7;clear c7;have H':=Aside0.mk H;clear H;have p4:0≤(x3_1:Int):=of_decide_eq_true Z85;have q4:x3_1< (a0.size:Int):=of_decide_eq_true Z85;have hx4:=bt_at a0 x3_1;replace p4:=eq_true p4;replace q4:=eq_true q4;have p6:0≤(x3_1:Int):=of_decide_eq_true Z85;have q6:x3_1< (a0.size:Int):=of_decide_eq_true Z85;have hx6:=bt_at a0 x3_1;replace p6:=eq_true p6;replace q6:=eq_true q6;(go_wp2);go_roundg k1
      case measure=>have:=HK1.out;omega
      case rel=>exact⟨(wrap64 (x3_1+1)),Z86,H',⟨Z89⟩,Z82⟩
   ·obtain rfl:=Option.some.inj H;(go_wp2);(go_ret);exact⟨by first|rfl| (simp;done)| (simp[*];done)| (cases a0.toList <;> simp),Z82⟩
theorem Y23.calls (k:Nat) (a0:ByteArray) (r:ByteArray) (w:World) (h:Y23.f k a0=some r):
  Calls Tryz.prog 107 #[.string a0] w fun e w'=>e= .returned (.string r)∧Drawn0 w w':=by
 have H:=h;clear h;unfold Y23.f at H;have H':=Aside0.mk H;clear H;go_enter Tryz.func107,Tryz.ntmps107
 go_wp2
 go_loopg [0] k (fun kq v0 w'=> ∃(x0_1:ByteArray),v0= .string x0_1∧Aside0 (Y23.l0 kq x0_1=some r)∧Aside0 (kq≤k)∧Drawn0 w w')
 case atStart=>exact⟨(a0),Z86,H',⟨Nat.le_refl _⟩,Z82⟩
 case round=>
  clear H';obtain⟨x0_1,rfl,HA,HK1,⟨m1,rfl⟩⟩ :=hrel;cases gk with
  |zero=>exact absurd HA.out (by simp[Y23.l0])
  |succ k1=>
   have H:=HA.out;clear HA;simp only[Y23.l0] at H;obtain⟨H,c2⟩ | ⟨H,c2⟩ :=XI H
   ·have c2b0:decide (1< (x0_1.size:Int))=true:=decide_eq_true c2;have c2b1:decide (1<x0_1.size)=true:=decide_eq_true Z92;clear c2;obtain⟨H,c3b0,c3⟩ :=XkD H;have c3b1:decide (0<x0_1.size)=true:=decide_eq_true Z92;clear c3;obtain⟨H,c5b0,c5b1,-⟩ | ⟨H,c5b0,c5b1,c5⟩ :=XE H
    ·obtain⟨H,c6b0,c6b1⟩ :=Xkt H;have H':=Aside0.mk H;clear H;have p4:0≤(0:Int):=Z92;have q4:0<x0_1.size:=(by have:(0:Int)< (x0_1.size:Int):=of_decide_eq_true Z85;omega)
     have hx4: ∀h:0<x0_1.size,((x0_1[0]'h).toNat:Int)=bt x0_1 0:=bt_at x0_1 0;clear p4;have qi4:(0< (x0_1.size:Int))=True:=eq_true (of_decide_eq_true Z85);replace q4:=eq_true q4;(go_wp2);go_roundg k1
     case measure=>have:=HK1.out;omega
     case rel=>exact⟨(x0_1.extract 1 x0_1.size),Z86,H',⟨Z89⟩,Z82⟩
    ·obtain rfl:=Option.some.inj H;have p4:0≤(0:Int):=Z92;have q4:0<x0_1.size:=(by have:(0:Int)< (x0_1.size:Int):=of_decide_eq_true Z85;omega)
     have hx4: ∀h:0<x0_1.size,((x0_1[0]'h).toNat:Int)=bt x0_1 0:=bt_at x0_1 0;clear p4;have qi4:(0< (x0_1.size:Int))=True:=eq_true (of_decide_eq_true Z85);replace q4:=eq_true q4;(go_wp2);(go_ret);exact⟨Z86,Z82⟩
   ·have c2b0:decide (1< (x0_1.size:Int))=false:=decide_eq_false c2;have c2b1:decide (1<x0_1.size)=false:=decide_eq_false Z92;clear c2;obtain rfl:=Option.some.inj H;(go_wp2);(go_ret);exact⟨Z86,Z82⟩
theorem Y16.calls (a0:ByteArray) (r1:Bool) (r2:ByteArray) (w:World) (h:Y16.f a0=some (r1,r2)):
  Calls Tryz.prog 115 #[.string a0] w fun e w'=>e= .returned (.tuple #[.bool r1,.string r2])∧Drawn0 w w':=by
 have H:=h;clear h;unfold Y16.f at H;obtain⟨H,c2⟩ | ⟨H,c2⟩ :=XI H
 ·have c2b0:decide (0< (a0.size:Int))=true:=decide_eq_true c2;have c2b1:decide (0<a0.size)=true:=decide_eq_true Z92;clear c2;obtain⟨H,c3b0,c3⟩ :=XkD H;have c3b1:decide (0<a0.size)=true:=decide_eq_true Z92;clear c3;obtain⟨H,c5b0,c5b1,-⟩ | ⟨H,c5b0,c5b1,c5⟩ :=XE H
  ·obtain⟨H,c6b0,c6b1⟩ :=Xkt H;simp only[Option.some.injEq,Prod.mk.injEq] at H;obtain⟨rfl,rfl⟩ :=H;have p4:0≤(0:Int):=Z92;have q4:0<a0.size:=(by have:(0:Int)< (a0.size:Int):=of_decide_eq_true Z85;omega)
   have hx4: ∀h:0<a0.size,((a0[0]'h).toNat:Int)=bt a0 0:=bt_at a0 0;clear p4;have qi4:(0< (a0.size:Int))=True:=eq_true (of_decide_eq_true Z85);replace q4:=eq_true q4;(go_enter Tryz.func115,Tryz.ntmps115);(go_wp2);(repeat(go_quiet (fail);try go_wp2));(go_ret2);exact⟨Z86,Z82⟩
  ·simp only[Option.some.injEq,Prod.mk.injEq] at H;obtain⟨rfl,rfl⟩ :=H;have p4:0≤(0:Int):=Z92;have q4:0<a0.size:=(by have:(0:Int)< (a0.size:Int):=of_decide_eq_true Z85;omega)
   have hx4: ∀h:0<a0.size,((a0[0]'h).toNat:Int)=bt a0 0:=bt_at a0 0;clear p4;have qi4:(0< (a0.size:Int))=True:=eq_true (of_decide_eq_true Z85);replace q4:=eq_true q4;(go_enter Tryz.func115,Tryz.ntmps115);(go_wp2);(repeat(go_quiet (fail);try go_wp2));(go_ret2);exact⟨Z86,Z82⟩
 ·have c2b0:decide (0< (a0.size:Int))=false:=decide_eq_false c2;have c2b1:decide (0<a0.size)=false:=decide_eq_false Z92;clear c2;simp only[Option.some.injEq,Prod.mk.injEq] at H;obtain⟨rfl,rfl⟩ :=H;go_enter Tryz.func115,Tryz.ntmps115
  go_wp2
  repeat(go_quiet (fail);try go_wp2)
  go_ret2
  exact⟨Z86,Z82⟩
theorem Y44.calls (a0:ByteArray) (r:ByteArray) (w:World) (h:Y44.f a0=some r):
  Calls Tryz.prog 108 #[.string a0] w fun e w'=>e= .returned (.string r)∧Drawn0 w w':=by
 have H:=h;clear h;unfold Y44.f at H;obtain⟨⟨t497,t498⟩,A2,H⟩ :=Zb H;try dsimp only at H
 by_cases c3:t497=true
 ·subst c3;rw[if_pos rfl] at H;obtain rfl:=Option.some.inj H;go_enter Tryz.func108,Tryz.ntmps108
  go_wp2_with(first| (refine Zq Tryz.func115 (Y16.calls _ _ _ _ A2.out) fun nd=>?_))
  go_ret
  exact⟨Z86,Z82⟩
 ·replace c3:=Bool.eq_false_iff.mpr c3;subst c3;rw[if_neg (show¬(false=true) by decide)] at H;obtain⟨H,c4b0,c4b1,-⟩ | ⟨H,c4b0,c4b1,c4⟩ :=XE H
  ·obtain rfl:=Option.some.inj H;(go_enter Tryz.func108,Tryz.ntmps108);(go_wp2_with(first| (refine Zq Tryz.func115 (Y16.calls _ _ _ _ A2.out) fun nd=>?_)));(go_ret);exact⟨Z86,Z82⟩
  ·obtain⟨H,c5b0,c5b1,c5⟩ :=XkT H;(try have c5b2:(9223372036854775807<1+t498.size)=False:=eq_false (Nat.not_lt.2 c5));obtain rfl:=Option.some.inj H;(go_enter Tryz.func108,Tryz.ntmps108);(go_wp2_with(first| (refine Zq Tryz.func115 (Y16.calls _ _ _ _ A2.out) fun nd=>?_)));(go_ret);exact⟨Z86,Z82⟩
theorem Y15.calls (k:Nat) (a0:ByteArray) (r1:Int) (r2:Bool) (w:World) (h:Y15.f k a0=some (r1,r2)):
  Calls Tryz.prog 176 #[.string a0] w fun e w'=>e= .returned (.tuple #[.int .i64 r1,.bool r2])∧Drawn0 w w':=by
 have H:=h;clear h;unfold Y15.f at H;obtain⟨⟨t500,t501⟩,A2,H⟩ :=Zb H;try dsimp only at H
 obtain⟨H,c3⟩ | ⟨H,c3⟩ :=XI H
 ·have c3b0:decide (19< (t501.size:Int))=true:=decide_eq_true c3;have c3b1:decide (19<t501.size)=true:=decide_eq_true Z92;clear c3;simp only[Option.some.injEq,Prod.mk.injEq] at H;obtain⟨rfl,rfl⟩ :=H;go_enter Tryz.func176,Tryz.ntmps176
  go_wp2_with(first| (refine Zq Tryz.func115 (Y16.calls _ _ _ _ A2.out) fun nd=>?_))
  go_ret2
  exact⟨Z86,Z82⟩
 ·have c3b0:decide (19< (t501.size:Int))=false:=decide_eq_false c3;have c3b1:decide (19<t501.size)=false:=decide_eq_false Z92;clear c3;have H':=Aside0.mk H;clear H;go_enter Tryz.func176,Tryz.ntmps176
  go_wp2_with(first| (refine Zq Tryz.func115 (Y16.calls _ _ _ _ A2.out) fun nd=>?_))
  go_loopg [6,7] k (fun kq v6 v7 w'=> ∃(x6_1:Int) (x7_1:Int),v6= .int .i64 x6_1∧v7= .int .i64 x7_1∧Aside0 (Y15.l0 kq t500 t501 x6_1 x7_1=some (r1,r2))∧Aside0 (kq≤k)∧Drawn0 w w')
  case atStart=>exact⟨(0),(0),Z86,Z86,H',⟨Nat.le_refl _⟩,Z82⟩
  case round=>
   clear H';obtain⟨x6_1,x7_1,rfl,rfl,HA,HK1,⟨m1,rfl⟩⟩ :=hrel;cases gk with
   |zero=>exact absurd HA.out (by simp[Y15.l0])
   |succ k1=>
    have H:=HA.out;clear HA;simp only[Y15.l0] at H;obtain⟨H,c4b0⟩ | ⟨H,c4b0⟩ :=Xd H
    ·obtain⟨H,c5b0⟩ :=Xkd H;obtain⟨H,c7b0⟩ | ⟨H,c7b0⟩ :=Xd H
     ·simp only[Option.some.injEq,Prod.mk.injEq] at H;obtain⟨rfl,rfl⟩ :=H;have p6:0≤(x7_1:Int):=of_decide_eq_true Z85;have q6:x7_1< (t501.size:Int):=of_decide_eq_true Z85;have hx6:=bt_at t501 x7_1;replace p6:=eq_true p6;replace q6:=eq_true q6;(go_wp2);(go_ret2);exact⟨Z86,Z82⟩
     ·have H':=Aside0.mk H;clear H;have p6:0≤(x7_1:Int):=of_decide_eq_true Z85;have q6:x7_1< (t501.size:Int):=of_decide_eq_true Z85;have hx6:=bt_at t501 x7_1;replace p6:=eq_true p6;replace q6:=eq_true q6;(go_wp2);go_roundg k1
      case measure=>have:=HK1.out;omega
      case rel=>exact⟨(wrap64 ((wrap64 (10 * x6_1)) - (wrap64 ((wrap64 (bt t501 x7_1)) - 48)))),(wrap64 (x7_1+1)),Z86,Z86,H',⟨Z89⟩,Z82⟩
    ·by_cases c8:t500=true
     ·subst c8;rw[if_pos rfl] at H;simp only[Option.some.injEq,Prod.mk.injEq] at H;obtain⟨rfl,rfl⟩ :=H;(go_wp2);(go_ret2);exact⟨Z86,Z82⟩
     ·replace c8:=Bool.eq_false_iff.mpr c8;subst c8;rw[if_neg (show¬(false=true) by decide)] at H;obtain⟨H,c9b0,c9b1,-⟩ | ⟨H,c9b0,c9b1,c9⟩ :=XE H
      ·simp only[Option.some.injEq,Prod.mk.injEq] at H;obtain⟨rfl,rfl⟩ :=H;(go_wp2);(go_ret2);exact⟨Z86,Z82⟩
      ·simp only[Option.some.injEq,Prod.mk.injEq] at H;obtain⟨rfl,rfl⟩ :=H;(go_wp2);(go_ret2);exact⟨Z86,Z82⟩
theorem Y17.calls (k:Nat) (a0:ByteArray) (r1:Int) (r2:Bool) (w:World) (h:Y17.f k a0=some (r1,r2)):
  Calls Tryz.prog 171 #[.string a0] w fun e w'=>e= .returned (.tuple #[.int .i64 r1,.bool r2])∧Drawn0 w w':=by
 have H:=h;clear h;unfold Y17.f at H;obtain⟨⟨t502,t503⟩,A2,H⟩ :=Zb H;try dsimp only at H
 obtain⟨H,c3⟩ | ⟨H,c3⟩ :=XI H
 ·have c3b0:decide (17< (t503.size:Int))=true:=decide_eq_true c3;have c3b1:decide (17<t503.size)=true:=decide_eq_true Z92;clear c3;simp only[Option.some.injEq,Prod.mk.injEq] at H;obtain⟨rfl,rfl⟩ :=H;go_enter Tryz.func171,Tryz.ntmps171
  go_wp2_with(first| (refine Zq Tryz.func115 (Y16.calls _ _ _ _ A2.out) fun nd=>?_))
  go_ret2
  exact⟨Z86,Z82⟩
 ·have c3b0:decide (17< (t503.size:Int))=false:=decide_eq_false c3;have c3b1:decide (17<t503.size)=false:=decide_eq_false Z92;clear c3;obtain⟨⟨t504,t505⟩,A4,H⟩ :=Zb H;try dsimp only at H
  simp only[Option.some.injEq,Prod.mk.injEq] at H;obtain⟨rfl,rfl⟩ :=H;go_enter Tryz.func171,Tryz.ntmps171
  go_wp2_with(first| (refine Zq Tryz.func115 (Y16.calls _ _ _ _ A2.out) fun nd=>?_)| (refine Zq Tryz.func176 (Y15.calls _ _ _ _ _ A4.out) fun nd=>?_))
  go_ret2
  exact⟨Z86,Z82⟩
theorem Y46.calls (k:Nat) (P0_:Nat→Prop) (A0:Option Addr) (c0:Nat) (l0:List Int) (r:List Int) (w:World) (hs0:Kd.V (Kd.int .i64) 3 w w.heap.size (fun k_=>P0_ k_) (.slice A0 l0.length c0) l0) (h:Y46.f k l0=some r):
  Calls Tryz.prog 207 #[.slice A0 l0.length c0] w fun e w'=> ∃v0_:Value,e= .returned (v0_)∧Kd.V (Kd.int .i64) 3 w' w.heap.size (fun k_=>(P0_ k_∨w.heap.size≤k_)) v0_ r∧Below w.heap.size w w':=by
 have HO0:=Aside0.mk (show Kd.V (Kd.int .i64) 3 w w.heap.size (fun k_=>(P0_ k_∨w.heap.size≤k_)) (.slice A0 l0.length c0) l0 from Kd.V_mono hs0 (fun k_ hk=> .inl hk));have HB:=Aside0.mk (Below.refl w.heap.size w);have H:=h;clear h;unfold Y46.f at H;have H':=Aside0.mk H;clear H;go_enter Tryz.func207,Tryz.ntmps207
 go_wp2
 go_loopg [0] k (fun kq v0 w'=> ∃(x0_1:List Int),Aside0 (Y46.l0 kq x0_1=some r)∧Aside0 (kq≤k)∧Aside0 (Kd.V (Kd.int .i64) 3 w' w.heap.size (fun k_=>(P0_ k_∨w.heap.size≤k_)) v0 x0_1)∧Aside0 (Below w.heap.size w w'))
 case atStart=>exact⟨(l0),H',⟨Nat.le_refl _⟩,⟨Z80⟩,⟨Z36⟩⟩
 case round=>
  clear H';obtain⟨x0_1,HA,HK1,HO_0,HB⟩ :=hrel;cases gk with
  |zero=>exact absurd HA.out (by simp[Y46.l0])
  |succ k1=>
   have H:=HA.out;clear HA;simp only[Y46.l0] at H;obtain⟨H,c2⟩ | ⟨H,c2⟩ :=XI H
   ·have c2b0:decide (0< (x0_1.length:Int))=true:=decide_eq_true c2;have c2b1:decide (0<x0_1.length)=true:=decide_eq_true Z92;clear c2;generalize hji3:(wrap64 ((x0_1.length:Int) - 1))=ji3 at H;have hji3w:(IntKind.i64.wrap ((x0_1.length:Int) - 1))=ji3:=(i64_w _).trans hji3;obtain⟨H,c4b0⟩ :=Xkd H;obtain⟨H,c5b0⟩ :=Xkd H;obtain⟨H,c6b0,c6b1,-⟩ | ⟨H,c6b0,c6b1,c6⟩ :=XE H
    ·have c7b0:=eq_true (of_decide_eq_true Z85:0≤(ji3));obtain⟨H,c8b0,c8b1⟩ :=Xkt H;obtain⟨y507,hy507⟩ : ∃y_:List Int,y_= (x0_1.take ((ji3):Int).toNat):= ⟨_,rfl⟩
     (try rw[←hy507] at H);have Ny507:=Aside0.mk hy507;clear hy507;have H':=Aside0.mk H;clear H;obtain⟨Ao9,co9,eo9⟩ :=Kd.V_slice HO_0.out;subst eo9;have p506:0≤((ji3):Int):=of_decide_eq_true Z85;have q506:(ji3)< (x0_1.length:Int):=of_decide_eq_true Z85;obtain⟨ad506,e506,hx506_0⟩ :=Kd.at_int (Kd.V_reads' HO_0.out).2.2 (ji3) p506 q506;cases e506;replace p506:=eq_true p506;replace q506:=eq_true q506;have q10:((ji3):Int)≤((x0_1.length:Int):Int):=of_decide_eq_true Z85;obtain⟨i010,hi010,_,hsz10,_⟩ :=info_parts info3;have hroom10:x0_1.length≤co9:=(Kd.V_reads' HO_0.out).2.1;have hC10:Kd.F (Kd.int .i64) _ _ (some ad506) x0_1.length x0_1:=(Kd.V_at (base:=w.heap.size) HO_0.out).2.2;have hcut10:=cut_to (P:=Tryz.prog) 165 3 .i64 Tryz.underlying165 hi010 (some ad506) x0_1.length co9 (ji3) (of_decide_eq_true Z85) q10 hroom10;have hr10:=Kd.F_take (m:=((ji3):Int).toNat) hC10 Z92;have hy10:y507.length= ((ji3):Int).toNat:=(by rw[Ny507.out,List.length_take];omega)
     rw[←Ny507.out] at hr10;rw[←hy10] at hcut10;have HO511:=Aside0.mk (show Kd.V (Kd.int .i64) 3 _ w.heap.size _ (.slice (some ad506) y507.length co9) y507 from Kd.V_mk Z92 hr10);have HC511:=Aside0.mk (show y507.length≤co9 from by omega);clear hr10 hC10 hroom10 hi010 hsz10;have KY10:=Aside0.mk hy10;clear hy10;replace q10:=eq_true q10;(go_wp2);go_roundg k1
     case measure=>have:=HK1.out;omega
     case rel=>exact⟨(y507),H',⟨Z89⟩,⟨by(with_reducible repeat(first|apply Kd.V_alloc|apply Kd.V_drewN|apply Kd.V_drew));exact HO511.out⟩,⟨Z36⟩⟩
    ·obtain rfl:=Option.some.inj H;obtain⟨Ao11,co11,eo11⟩ :=Kd.V_slice HO_0.out;subst eo11;have p506:0≤((ji3):Int):=of_decide_eq_true Z85;have q506:(ji3)< (x0_1.length:Int):=of_decide_eq_true Z85;obtain⟨ad506,e506,hx506_0⟩ :=Kd.at_int (Kd.V_reads' HO_0.out).2.2 (ji3) p506 q506;cases e506;replace p506:=eq_true p506;replace q506:=eq_true q506;(go_wp2);(go_ret);exact⟨_,Z24,Z71,Z36⟩
   ·have c2b0:decide (0< (x0_1.length:Int))=false:=decide_eq_false c2;have c2b1:decide (0<x0_1.length)=false:=decide_eq_false Z92;clear c2;obtain rfl:=Option.some.inj H;obtain⟨Ao12,co12,eo12⟩ :=Kd.V_slice HO_0.out;subst eo12;(go_wp2);(go_ret);exact⟨_,Z81,Z71,Z36⟩
theorem Y18.calls (k:Nat) (A0:Option Addr) (c0:Nat) (l0:List Int) (r:List Int) (w:World) (hr0:Kd.C (Kd.int .i64) w A0 l0.length l0) (hc0:l0.length≤c0) (h:Y18.f k l0=some r):
  Calls Tryz.prog 208 #[.slice A0 l0.length c0] w fun e w'=> ∃v0_:Value,e= .returned (v0_)∧Kd.V (Kd.int .i64) 3 w' w.heap.size (fun k_=>(w.heap.size≤k_)) v0_ r∧Below w.heap.size w w':=by
 have HR0:=Aside0.mk hr0;have HC0:=Aside0.mk hc0;clear hr0 hc0;have HB:=Aside0.mk (Below.refl w.heap.size w);have H:=h;clear h;unfold Y18.f at H;have H':=Aside0.mk H;clear H;go_enter Tryz.func208,Tryz.ntmps208
 go_wp2
 go_loopg [3,4,5] k (fun kq v3 v4 v5 w'=> ∃(x3_1:List Int) (x4_1:Int) (x5_1:Int),v4= .int .i64 x4_1∧v5= .int .i64 x5_1∧Aside0 (Y18.l0 kq l0 x3_1 x4_1 x5_1=some r)∧Aside0 (kq≤k)∧Aside0 (Kd.R (Kd.int .i64) 3 w' w.heap.size (fun k_=>(w.heap.size≤k_)) v3 x3_1)∧Aside0 (Below w.heap.size w w'))
 case atStart=>exact⟨(([]:List Int)),(0),(0),Z86,Z86,H',⟨Nat.le_refl _⟩,⟨by first|exact Kd.R_nil _ _ _ _ _|exact Kd.N_nil _ _ _ _ _|exact Kd.V_nil _ _ _ _ _|exact Kd.Q_nil _ _ _ _ _|exact Kd.S_nil _ _ _ _ _⟩,⟨Z36⟩⟩
 case round=>
  clear H';obtain⟨x3_1,x4_1,x5_1,rfl,rfl,HA,HK1,HO_3,HB⟩ :=hrel;cases gk with
  |zero=>exact absurd HA.out (by simp[Y18.l0])
  |succ k1=>
   have H:=HA.out;clear HA;simp only[Y18.l0] at H;have HC2:=Aside0.mk H;clear H;go_upto_region 4 with (fail)
   go_cut [14] (fun v14 wc=> ∃(kq:Nat) (x14_1:Bool),v14= .bool x14_1∧Aside0 (Y18.j1 kq l0 x3_1 x4_1 x5_1 x14_1=some r)∧Aside0 (kq≤k1)∧Aside0 (Kd.R (Kd.int .i64) 3 wc w.heap.size (fun k_=>(w.heap.size≤k_)) u3 x3_1)∧Aside0 (Below w.heap.size w wc))
   case first=>
    have H:=HC2.out;clear HC2;obtain⟨H,c3b0⟩ | ⟨H,c3b0⟩ :=Xd H
    ·(first|rw[c3b0]| (simp only[i64_w,i32_w];rw[c3b0])|skip);have H':=Aside0.mk H;clear H;(go_wp2);go_meet
     case rel=>exact⟨_,(true),Z86,H',⟨Z83⟩,⟨Z76⟩,⟨Z36⟩⟩
    ·(first|rw[c3b0]| (simp only[i64_w,i32_w];rw[c3b0])|skip);have H':=Aside0.mk H;clear H;(go_wp2);go_meet
     case rel=>exact⟨_,((x4_1 !=0)),Z86,H',⟨Z83⟩,⟨Z76⟩,⟨Z36⟩⟩
   case rest=>
    clear HC2;obtain⟨kq,x14_1,rfl,HA,HJ1,HO_3,HB⟩ :=hcut;cases kq with
    |zero=>exact absurd HA.out (by simp[Y18.j1])
    |succ kj1=>
     have H:=HA.out;clear HA;simp only[Y18.j1] at H;by_cases c4:x14_1=true
     ·subst c4;rw[if_pos rfl] at H;obtain⟨H,c5b0⟩ | ⟨H,c5b0⟩ :=Xd H
      ·obtain⟨H,c6b0⟩ :=Xkd H;obtain⟨H,c7b0⟩ | ⟨H,c7b0⟩ :=Xd H
       ·obtain⟨H,c8⟩ :=XkI H;have LMc8:=Aside0.mk c8;clear c8;obtain⟨y516,hy516⟩ : ∃y_:List Int,y_= (x3_1++ [wrap64 ((Int.tmod (wrap64 (x4_1+ (rd l0 x5_1))) 10000)+10000)]):= ⟨_,rfl⟩
        (try rw[←hy516] at H);have Ny516:=Aside0.mk hy516;clear hy516;have H':=Aside0.mk H;clear H;obtain⟨ad515,e515,hx515_0,p515,q515⟩ :=Zi HR0.out x5_1;cases e515;replace hx515_0:=(HB.out.cell (World.block_lt_of_cell? w _ hx515_0)).trans hx515_0;(go_wp2_with(first| ((with_reducible refine gate_builtin (b:= .append) (xs:=#[.tmp 33,.tmp 35]) rfl ?_);at_builtin;refine Kd.R_append (Kd.int .i64) (w0:=w) w.heap.size rfl (.tmp 33) (.tmp 35) 165 3 (.int .i64 0) 8 rfl Tryz.underlying165 info3 rfl Z91 Z92 u3 x3_1 (wrap64 ((Int.tmod (wrap64 (x4_1+ (rd l0 x5_1))) 10000)+10000)) [.int .i64 (wrap64 ((Int.tmod (wrap64 (x4_1+ (rd l0 x5_1))) 10000)+10000))] (fun k_=>(w.heap.size≤k_)) (fun _=>False) rfl rfl ?aP (fun _ hk=>hk.elim) ?aF ?aO ?aB ?aS ?aL ?_;(case aP=>exact rfl);(case aB=>exact Z36);(case aF=>exact(fun k_ hk=>(Nat.le_trans (below_size Z36) hk)));(case aO=>exact Z76);(case aS=>exact(below_size Z36));(case aL=>have:=LMc8.out;omega);intro v517 w9 ho hb hg hat;rw[←Ny516.out] at ho;have n0_:=Aside0.mk (hb);have n1_:=Aside0.mk (ho);clear HB;clear HO_3;have HB:=n0_;have HO518:=n1_;clear n0_ n1_;clear ho hb hg hat)));go_roundg kj1
        case measure=>have:=HK1.out;have:=HJ1.out;omega
        case rel=>exact⟨(y516),(wrap64 (Int.tdiv (wrap64 ((wrap64 (x4_1+ (rd l0 x5_1))) - (wrap64 ((Int.tmod (wrap64 (x4_1+ (rd l0 x5_1))) 10000)+10000)))) 10000)),(wrap64 (x5_1+1)),Z86,Z86,H',⟨by have:=HK1.out;have:=HJ1.out;omega⟩,⟨by(with_reducible repeat(first|apply Kd.R_alloc|apply Kd.R_drewN|apply Kd.R_drew));exact HO518.out⟩,⟨Z36⟩⟩
       ·obtain⟨H,c10⟩ :=XkI H;have LMc10:=Aside0.mk c10;clear c10;obtain⟨y519,hy519⟩ : ∃y_:List Int,y_= (x3_1++ [Int.tmod (wrap64 (x4_1+ (rd l0 x5_1))) 10000]):= ⟨_,rfl⟩
        (try rw[←hy519] at H);have Ny519:=Aside0.mk hy519;clear hy519;have H':=Aside0.mk H;clear H;obtain⟨ad515,e515,hx515_0,p515,q515⟩ :=Zi HR0.out x5_1;cases e515;replace hx515_0:=(HB.out.cell (World.block_lt_of_cell? w _ hx515_0)).trans hx515_0;(go_wp2_with(first| ((with_reducible refine gate_builtin (b:= .append) (xs:=#[.tmp 33,.tmp 35]) rfl ?_);at_builtin;refine Kd.R_append (Kd.int .i64) (w0:=w) w.heap.size rfl (.tmp 33) (.tmp 35) 165 3 (.int .i64 0) 8 rfl Tryz.underlying165 info3 rfl Z91 Z92 u3 x3_1 (Int.tmod (wrap64 (x4_1+ (rd l0 x5_1))) 10000) [.int .i64 (Int.tmod (wrap64 (x4_1+ (rd l0 x5_1))) 10000)] (fun k_=>(w.heap.size≤k_)) (fun _=>False) rfl rfl ?aP (fun _ hk=>hk.elim) ?aF ?aO ?aB ?aS ?aL ?_;(case aP=>exact rfl);(case aB=>exact Z36);(case aF=>exact(fun k_ hk=>(Nat.le_trans (below_size Z36) hk)));(case aO=>exact Z76);(case aS=>exact(below_size Z36));(case aL=>have:=LMc10.out;omega);intro v520 w11 ho hb hg hat;rw[←Ny519.out] at ho;have n0_:=Aside0.mk (hb);have n1_:=Aside0.mk (ho);clear HB;clear HO_3;have HB:=n0_;have HO521:=n1_;clear n0_ n1_;clear ho hb hg hat)));go_roundg kj1
        case measure=>have:=HK1.out;have:=HJ1.out;omega
        case rel=>exact⟨(y519),(wrap64 (Int.tdiv (wrap64 ((wrap64 (x4_1+ (rd l0 x5_1))) - (Int.tmod (wrap64 (x4_1+ (rd l0 x5_1))) 10000))) 10000)),(wrap64 (x5_1+1)),Z86,Z86,H',⟨by have:=HK1.out;have:=HJ1.out;omega⟩,⟨by(with_reducible repeat(first|apply Kd.R_alloc|apply Kd.R_drewN|apply Kd.R_drew));exact HO521.out⟩,⟨Z36⟩⟩
      ·obtain⟨H,c12b0⟩ | ⟨H,c12b0⟩ :=Xd H
       ·obtain⟨H,c13⟩ :=XkI H;have LMc13:=Aside0.mk c13;clear c13;obtain⟨y522,hy522⟩ : ∃y_:List Int,y_= (x3_1++ [wrap64 ((Int.tmod x4_1 10000)+10000)]):= ⟨_,rfl⟩
        (try rw[←hy522] at H);have Ny522:=Aside0.mk hy522;clear hy522;have H':=Aside0.mk H;clear H;(go_wp2_with(first| ((with_reducible refine gate_builtin (b:= .append) (xs:=#[.tmp 33,.tmp 35]) rfl ?_);at_builtin;refine Kd.R_append (Kd.int .i64) (w0:=w) w.heap.size rfl (.tmp 33) (.tmp 35) 165 3 (.int .i64 0) 8 rfl Tryz.underlying165 info3 rfl Z91 Z92 u3 x3_1 (wrap64 ((Int.tmod x4_1 10000)+10000)) [.int .i64 (wrap64 ((Int.tmod x4_1 10000)+10000))] (fun k_=>(w.heap.size≤k_)) (fun _=>False) rfl rfl ?aP (fun _ hk=>hk.elim) ?aF ?aO ?aB ?aS ?aL ?_;(case aP=>exact rfl);(case aB=>exact Z36);(case aF=>exact(fun k_ hk=>(Nat.le_trans (below_size Z36) hk)));(case aO=>exact Z76);(case aS=>exact(below_size Z36));(case aL=>have:=LMc13.out;omega);intro v523 w14 ho hb hg hat;rw[←Ny522.out] at ho;have n0_:=Aside0.mk (hb);have n1_:=Aside0.mk (ho);clear HB;clear HO_3;have HB:=n0_;have HO524:=n1_;clear n0_ n1_;clear ho hb hg hat)));go_roundg kj1
        case measure=>have:=HK1.out;have:=HJ1.out;omega
        case rel=>exact⟨(y522),(wrap64 (Int.tdiv (wrap64 (x4_1 - (wrap64 ((Int.tmod x4_1 10000)+10000)))) 10000)),(wrap64 (x5_1+1)),Z86,Z86,H',⟨by have:=HK1.out;have:=HJ1.out;omega⟩,⟨by(with_reducible repeat(first|apply Kd.R_alloc|apply Kd.R_drewN|apply Kd.R_drew));exact HO524.out⟩,⟨Z36⟩⟩
       ·obtain⟨H,c15⟩ :=XkI H;have LMc15:=Aside0.mk c15;clear c15;obtain⟨y525,hy525⟩ : ∃y_:List Int,y_= (x3_1++ [Int.tmod x4_1 10000]):= ⟨_,rfl⟩
        (try rw[←hy525] at H);have Ny525:=Aside0.mk hy525;clear hy525;have H':=Aside0.mk H;clear H;(go_wp2_with(first| ((with_reducible refine gate_builtin (b:= .append) (xs:=#[.tmp 33,.tmp 35]) rfl ?_);at_builtin;refine Kd.R_append (Kd.int .i64) (w0:=w) w.heap.size rfl (.tmp 33) (.tmp 35) 165 3 (.int .i64 0) 8 rfl Tryz.underlying165 info3 rfl Z91 Z92 u3 x3_1 (Int.tmod x4_1 10000) [.int .i64 (Int.tmod x4_1 10000)] (fun k_=>(w.heap.size≤k_)) (fun _=>False) rfl rfl ?aP (fun _ hk=>hk.elim) ?aF ?aO ?aB ?aS ?aL ?_;(case aP=>exact rfl);(case aB=>exact Z36);(case aF=>exact(fun k_ hk=>(Nat.le_trans (below_size Z36) hk)));(case aO=>exact Z76);(case aS=>exact(below_size Z36));(case aL=>have:=LMc15.out;omega);intro v526 w16 ho hb hg hat;rw[←Ny525.out] at ho;have n0_:=Aside0.mk (hb);have n1_:=Aside0.mk (ho);clear HB;clear HO_3;have HB:=n0_;have HO527:=n1_;clear n0_ n1_;clear ho hb hg hat)));go_roundg kj1
        case measure=>have:=HK1.out;have:=HJ1.out;omega
        case rel=>exact⟨(y525),(wrap64 (Int.tdiv (wrap64 (x4_1 - (Int.tmod x4_1 10000))) 10000)),(wrap64 (x5_1+1)),Z86,Z86,H',⟨by have:=HK1.out;have:=HJ1.out;omega⟩,⟨by(with_reducible repeat(first|apply Kd.R_alloc|apply Kd.R_drewN|apply Kd.R_drew));exact HO527.out⟩,⟨Z36⟩⟩
     ·replace c4:=Bool.eq_false_iff.mpr c4;subst c4;rw[if_neg (show¬(false=true) by decide)] at H;obtain⟨t512,A17,H⟩ :=Zb H;(try dsimp only at H);obtain rfl:=Option.some.inj H;obtain⟨Ao18,co18,eo18⟩ :=Kd.R_slice HO_3.out;subst eo18;(go_wp2_with(first| (refine Zc Tryz.func207 (Y46.calls _ (fun k_=>some k_= (.slice Ao18 x3_1.length co18:Value).ownBlock) _ _ _ _ _ (Kd.R_V (Kd.R_tight rfl (HO_3.out))) A17.out) ?_;rintro e w19 ⟨v513,rfl,ho0,hb⟩;refine⟨_,rfl,?_⟩;have HO514:=Aside0.mk (Kd.V_lower (Kd.V_mono (ok':=fun k_=>(w.heap.size≤k_)) ho0 (fun k_ hk_=>Or.elim hk_ (fun hs_=>((HO_3.out).1 k_ hs_.symm)) (fun hn_=>(Nat.le_trans (below_size Z36) hn_)))) (below_size Z36));replace HO_3:=Aside0.mk (Kd.R_below Z76 hb);replace HB:=Aside0.mk (below_step Z36 hb);try clear hb;(try clear ho0))));(go_ret);exact⟨_,Z81,by(with_reducible repeat(first|apply Kd.V_alloc|apply Kd.V_drewN|apply Kd.V_drew));exact HO514.out,Z36⟩
def Y10.T7:Bool×List (List Nat×List Nat):=(true,[([],[]),([],[]),([],[]),([1,2],[1,2]),([0,3],[0,3]),([4],[4]),([],[]),([],[]),([],[]),([7,8],[7,8]),([9],[9]),([6,10],[6,10]),([5,11],[5,11]),([0,3,0,1,2,3,4,5,6,7,8,9,10,11,12],[0,3]),([13,12,0,1,2,3,4,5,6,7,8,9,10,11,12],[12,13])])
def Y10.B7:List Nat:=[0,0,0,6,15,31,0,0,0,384,896,1984,4095,8191,16383]
theorem Y10.tab7:rtab .any (opsOf Tryz.f174 7)=Y10.T7:=by kernel_rfl
theorem Y10.bits7:waitsOk Y10.T7.2 Y10.B7=true:=by kernel_rfl
theorem Y10.calls (k:Nat) (A0:Option Addr) (c0:Nat) (l0:List Int) (A1:Option Addr) (c1:Nat) (l1:List Int) (a2:Int) (a3:Int) (r:List Int) (w:World) (hr0:Kd.C (Kd.int .i64) w A0 l0.length l0) (hc0:l0.length≤c0) (hr1:Kd.C (Kd.int .i64) w A1 l1.length l1) (hc1:l1.length≤c1) (h:Y10.f k l0 l1 a2 a3=some r):
  Calls Tryz.prog 174 #[.slice A0 l0.length c0,.slice A1 l1.length c1,.int .i64 a2,.int .i64 a3] w fun e w'=> ∃v0_:Value,e= .returned (v0_)∧Kd.V (Kd.int .i64) 3 w' w.heap.size (fun k_=>(w.heap.size≤k_)) v0_ r∧Below w.heap.size w w':=by
 have HR0:=Aside0.mk hr0;have HC0:=Aside0.mk hc0;clear hr0 hc0;have HR1:=Aside0.mk hr1;have HC1:=Aside0.mk hc1;clear hr1 hc1;have HB:=Aside0.mk (Below.refl w.heap.size w);have H:=h;clear h;unfold Y10.f at H;obtain⟨y528,Ny528,H⟩ :=Zy H;obtain⟨H,c5⟩ :=XkI H;have LMc5:=Aside0.mk c5;clear c5;obtain⟨y531,hy531⟩ : ∃y_:List Int,y_= (y528++l0):= ⟨_,rfl⟩
 try rw[←hy531] at H
 have Ny531:=Aside0.mk hy531;clear hy531;have H':=Aside0.mk H;clear H;go_enter Tryz.func174,Tryz.ntmps174
 go_wp2_with(first| ((with_reducible refine gate_dst (N:=11) rfl ?_);refine Kd.R_lit (Kd.int .i64) _ 3 ?hg (N:=11) ?hd (xs:=([]:List Int)) (inner:=[]) (ok:=fun _=>True) (okp:=fun _=>True) ?hr ?hp (fun _ hk=>hk) trivial (Below.refl _ _) (Nat.le_refl _) Z93 ?_;(case hd=>rfl);(case hg=>rfl);(case hr=>first| (go_simp;done)| (go_simp;rfl));(case hp=>exact(Reps.none _ _));intro v529 w6 ho7 hb hg_ hnew_;clear hg_ hnew_;(first|rw[←Ny528.out] at ho7| (simp only[Int.reduceToNat] at ho7;rw[←Ny528.out] at ho7));have HO530:=Aside0.mk (Kd.R_lower (Kd.R_newM (M:=fun k_=>(w.heap.size≤k_)) ho7 (below_size Z36) (fun k_ h_=>h_)) (below_size Z36));replace HB:=Aside0.mk (below_step Z36 hb);clear hb ho7)| ((with_reducible refine gate_builtin (b:= .append) (xs:=#[.tmp 11,.tmp 12]) rfl ?_);at_builtin;refine Kd.R_append_rows (Kd.int .i64) (w0:=w) w.heap.size rfl (.tmp 11) (.tmp 12) 165 3 (.int .i64 0) 8 rfl Tryz.underlying165 info3 rfl Z91 Z92 v529 y528 l0 _ _ _ (fun k_=>(w.heap.size≤k_)) (fun _=>False) rfl rfl ?aO ?aR (fun _ _ h=>h) (fun _ h=>h.elim) ?aF ?aB ?aS ?aL ?_;(case aR=>repeat(first|exact(Kd.C_below HR0.out HB.out)| (with_reducible refine Kd.C_alloc ?_ _)| (with_reducible refine Kd.C_drewN ?_ _)| (with_reducible refine Kd.C_drew ?_)));(case aB=>exact Z36);(case aF=>exact(fun k_ hk=>(Nat.le_trans (below_size Z36) hk)));(case aO=>exact(by(with_reducible repeat(first|apply Kd.R_alloc|apply Kd.R_drewN|apply Kd.R_drew));exact Kd.R_mono HO530.out (fun _ hk=>hk.1)));(case aS=>exact(below_size Z36));(case aL=>have:=LMc5.out;omega);intro v532 w8 ho hb hg hat;rw[←Ny531.out] at ho;have n0_:=Aside0.mk (hb);have n1_:=Aside0.mk (ho);clear HB;clear HO530;have HB:=n0_;have HO533:=n1_;clear n0_ n1_;clear ho hb hg hat))
 go_loopg [9,10] k (fun kq v9 v10 w'=> ∃(x9_1:List Int) (x10_1:Int),v10= .int .i64 x10_1∧Aside0 (Y10.l0 kq l1 a2 a3 x9_1 x10_1=some r)∧Aside0 (kq≤k)∧Aside0 (Kd.R (Kd.int .i64) 3 w' w.heap.size (fun k_=>(w.heap.size≤k_)) v9 x9_1)∧Aside0 (Below w.heap.size w w'))
 case atStart=>exact⟨(y531),(0),Z86,H',⟨Nat.le_refl _⟩,⟨by(with_reducible repeat(first|apply Kd.R_alloc|apply Kd.R_drewN|apply Kd.R_drew));exact HO533.out⟩,⟨Z36⟩⟩
 case round=>
  clear H';obtain⟨x9_1,x10_1,rfl,HA,HK1,HO_9,HB⟩ :=hrel;cases gk with
  |zero=>exact absurd HA.out (by simp[Y10.l0])
  |succ k1=>
   have H:=HA.out;clear HA;simp only[Y10.l0] at H;obtain⟨H,c9b0⟩ | ⟨H,c9b0⟩ :=Xd H
   ·have H':=Aside0.mk H;clear H;(go_wp2);go_loopg [9] k1 (fun kq v9 w'=> ∃(x9_2:List Int),Aside0 (Y10.l1 kq l1 a2 a3 x9_2 x10_1=some r)∧Aside0 (kq≤k1)∧Aside0 (Kd.R (Kd.int .i64) 3 w' w.heap.size (fun k_=>(w.heap.size≤k_)) v9 x9_2)∧Aside0 (Below w.heap.size w w'))
    case atStart=>exact⟨(x9_1),H',⟨Nat.le_refl _⟩,⟨Z77⟩,⟨Z36⟩⟩
    case round=>
     clear H';obtain⟨x9_2,HA,HK2,HO_9,HB⟩ :=hrel;cases gk with
     |zero=>exact absurd HA.out (by simp[Y10.l1])
     |succ k2=>
      have H:=HA.out;clear HA;simp only[Y10.l1] at H;obtain⟨H,c10b0⟩ | ⟨H,c10b0⟩ :=Xd H
      ·obtain⟨H,c11⟩ :=XkI H;have LMc11:=Aside0.mk c11;clear c11;obtain⟨y537,hy537⟩ : ∃y_:List Int,y_= (x9_2++ [0]):= ⟨_,rfl⟩
       (try rw[←hy537] at H);have Ny537:=Aside0.mk hy537;clear hy537;have H':=Aside0.mk H;clear H;obtain⟨Ao12,co12,eo12⟩ :=Kd.R_slice HO_9.out;subst eo12;(go_wp2_with(first| ((with_reducible refine gate_builtin (b:= .append) (xs:=#[.tmp 26,.tmp 27]) rfl ?_);at_builtin;refine Kd.R_append (Kd.int .i64) (w0:=w) w.heap.size rfl (.tmp 26) (.tmp 27) 165 3 (.int .i64 0) 8 rfl Tryz.underlying165 info3 rfl Z91 Z92 (.slice Ao12 x9_2.length co12) x9_2 0 [.int .i64 0] (fun k_=>(w.heap.size≤k_)) (fun _=>False) rfl rfl ?aP (fun _ hk=>hk.elim) ?aF ?aO ?aB ?aS ?aL ?_;(case aP=>exact rfl);(case aB=>exact Z36);(case aF=>exact(fun k_ hk=>(Nat.le_trans (below_size Z36) hk)));(case aO=>exact Z77);(case aS=>exact(below_size Z36));(case aL=>have:=LMc11.out;omega);intro v538 w13 ho hb hg hat;rw[←Ny537.out] at ho;have n0_:=Aside0.mk (hb);have n1_:=Aside0.mk (ho);clear HB;clear HO_9;have HB:=n0_;have HO539:=n1_;clear n0_ n1_;clear ho hb hg hat)));go_roundg k2
       case measure=>have:=HK1.out;have:=HK2.out;omega
       case rel=>exact⟨(y537),H',⟨Z87⟩,⟨by(with_reducible repeat(first|apply Kd.R_alloc|apply Kd.R_drewN|apply Kd.R_drew));exact HO539.out⟩,⟨Z36⟩⟩
      ·generalize hji14:(wrap64 (x10_1+a3))=ji14 at H;(try rw[hji14] at c10b0);have hji14w:(IntKind.i64.wrap (x10_1+a3))=ji14:=(i64_w _).trans hji14;obtain⟨H,c15b0⟩ :=Xkd H;obtain⟨H,c16b0⟩ :=Xkd H;obtain⟨H,c17b0⟩ :=Xkd H;obtain⟨H,c18b0⟩ :=Xkd H;obtain⟨y542,hy542⟩ : ∃y_:List Int,y_= (x9_2.set ((ji14):Int).toNat (wrap64 ((rd x9_2 (ji14))+ (wrap64 (a2 * (rd l1 x10_1)))))):= ⟨_,rfl⟩
       (try rw[←hy542] at H);have Ny542:=Aside0.mk hy542;clear hy542;have H':=Aside0.mk H;clear H;obtain⟨Ao20,co20,eo20⟩ :=Kd.R_slice HO_9.out;subst eo20;(try go_wp2);have n0_:=Aside0.mk (Kd.R_drew HO_9.out);have n1_:=Aside0.mk (below_drew1 HB.out);clear HO_9;clear HB;have HO_9:=n0_;have HB:=n1_;clear n0_ n1_;have p540:0≤((ji14):Int):=of_decide_eq_true Z85;have q540:(ji14)< (x9_2.length:Int):=of_decide_eq_true Z85;obtain⟨ad540,e540,hx540_0⟩ :=Kd.at_int (Kd.R_reads' HO_9.out).2.2 (ji14) p540 q540;cases e540;replace p540:=eq_true p540;replace q540:=eq_true q540;obtain⟨ad541,e541,hx541_0,p541,q541⟩ :=Zi HR1.out x10_1;have hw541_0:=hx541_0;cases e541;replace hx541_0:=(HB.out.cell (World.block_lt_of_cell? w _ hx541_0)).trans hx541_0;have p19:0≤((ji14):Int):=of_decide_eq_true Z85;have q19:((ji14):Int)< ((x9_2.length:Int):Int):=of_decide_eq_true Z85;obtain⟨go19,co19,eo19,gb19,gl19,cl19,HG19⟩ :=Kd.R_form HO_9.out Z92;(first|cases eo19| (injection eo19 with ea_ en_ ec_;(first|subst ea_| (injection ea_ with ea_;subst ea_));subst ec_;clear en_));have GB19:=Aside0.mk gb19;have GG19:=Aside0.mk HG19;clear gb19 gl19 HG19;(first|simp only[add_plain] at hx540_0|skip);obtain⟨hx19_0,hf19_0⟩ :=Kd.R_celln 0 HO_9.out ((ji14):Int) p19 q19;replace p19:=eq_true p19;replace q19:=eq_true q19;have HP22:=Kd.R_putn HO_9.out ((ji14):Int) (wrap64 ((rd x9_2 (ji14))+ (wrap64 (a2 * (rd l1 x10_1)))));rw[←Ny542.out] at HP22;have HQ22:=Aside0.mk HP22;clear HP22;refine start_ (n:=15) (S:=fun w'=>w'.cell? ⟨go19,((ji14)).toNat,none⟩ =some (.int .i64 (rd x9_2 (ji14)))∧w'.cell? (ad541.add (x10_1).toNat)=some (.int .i64 (rd l1 x10_1))) (ds:=[14]) #[false,false,false,false,false,false,false,false,false,false,false,false,false,false,false] Z90 rfl rfl ⟨hx540_0,((HB.out.cell (World.block_lt_of_cell? w _ hw541_0)).trans hw541_0)⟩ (fun hHeld=>?_);refine with_tabW Y10.tab7 Y10.bits7 (fun HT_ HW_=>?_);generalize wr.drew=w21 at HO_9 HB GG19 HQ22 hf19_0 hx19_0 hx540_0 hx541_0 hHeld⊢;refine pure_ (i:=0) (N:=some 29) (v:=?_) (a':=?_) #[true,false,false,false,false,false,false,false,false,false,false,false,false,false,false] rfl rfl (any_of HT_.out Z90) (fun _ _ _ h=>h) (Or.inl ⟨by rfl,?_⟩) ?_ ?_;rotate_left
       ·intro w';(go_simp);with_reducible rfl
       rotate_left
       ·simp only[Act.put,List.setIfInBounds_toArray,List.set_cons_zero,List.set_cons_succ,i64_w,i32_w];rfl
       refine pure_ (i:=1) (N:=some 30) (v:=?_) (a':=?_) #[true,true,false,false,false,false,false,false,false,false,false,false,false,false,false] rfl rfl (any_of HT_.out Z90) (fun _ _ _ h=>h) (Or.inl ⟨by rfl,?_⟩) ?_ ?_;rotate_left
       ·intro w';(go_simp);with_reducible rfl
       rotate_left
       ·simp only[Act.put,List.setIfInBounds_toArray,List.set_cons_zero,List.set_cons_succ,i64_w,i32_w];rfl
       refine pure_ (i:=2) (N:=some 31) (v:=?_) (a':=?_) #[true,true,true,false,false,false,false,false,false,false,false,false,false,false,false] rfl rfl (any_of HT_.out Z90) (fun _ _ _ h=>h) (Or.inl ⟨by rfl,?_⟩) ?_ ?_;rotate_left
       ·intro w';(go_simp);with_reducible rfl
       rotate_left
       ·simp only[Act.put,List.setIfInBounds_toArray,List.set_cons_zero,List.set_cons_succ,i64_w,i32_w];rfl
       refine pure_ (i:=3) (N:=some 32) (v:=?_) (a':=?_) #[true,true,true,true,false,false,false,false,false,false,false,false,false,false,false] rfl rfl (any_of HT_.out Z90) (fun _ _ _ h=>h) (Or.inl ⟨by rfl,?_⟩) ?_ ?_;rotate_left
       ·intro w';(go_simp);with_reducible rfl
       rotate_left
       ·simp only[Act.put,List.setIfInBounds_toArray,List.set_cons_zero,List.set_cons_succ,i64_w,i32_w];rfl
       refine pure_ (i:=4) (N:=some 33) (v:=?_) (a':=?_) #[true,true,true,true,true,false,false,false,false,false,false,false,false,false,false] rfl rfl (any_of HT_.out Z90) (fun _ _ _ h=>h) (Or.inl ⟨by rfl,?_⟩) ?_ ?_;rotate_left
       ·intro w';(go_simp);with_reducible rfl
       rotate_left
       ·simp only[Act.put,List.setIfInBounds_toArray,List.set_cons_zero,List.set_cons_succ,i64_w,i32_w];rfl
       refine pure_ (i:=6) (N:=some 35) (v:=?_) (a':=?_) #[true,true,true,true,true,false,true,false,false,false,false,false,false,false,false] rfl rfl (any_of HT_.out Z90) (fun _ _ _ h=>h) (Or.inl ⟨by rfl,?_⟩) ?_ ?_;rotate_left
       ·intro w';(go_simp);with_reducible rfl
       rotate_left
       ·simp only[Act.put,List.setIfInBounds_toArray,List.set_cons_zero,List.set_cons_succ,i64_w,i32_w];rfl
       refine pure_ (i:=7) (N:=some 36) (v:=?_) (a':=?_) #[true,true,true,true,true,false,true,true,false,false,false,false,false,false,false] rfl rfl (any_of HT_.out Z90) (fun _ _ _ h=>h) (Or.inl ⟨by rfl,?_⟩) ?_ ?_;rotate_left
       ·intro w';(go_simp);with_reducible rfl
       rotate_left
       ·simp only[Act.put,List.setIfInBounds_toArray,List.set_cons_zero,List.set_cons_succ,i64_w,i32_w];rfl
       refine pure_ (i:=8) (N:=some 37) (v:=?_) (a':=?_) #[true,true,true,true,true,false,true,true,true,false,false,false,false,false,false] rfl rfl (any_of HT_.out Z90) (fun _ _ _ h=>h) (Or.inl ⟨by rfl,?_⟩) ?_ ?_;rotate_left
       ·intro w';(go_simp);with_reducible rfl
       rotate_left
       ·simp only[Act.put,List.setIfInBounds_toArray,List.set_cons_zero,List.set_cons_succ,i64_w,i32_w];rfl
       refine pure_ (i:=9) (N:=some 38) (v:=?_) (a':=?_) #[true,true,true,true,true,false,true,true,true,true,false,false,false,false,false] rfl rfl (any_of HT_.out Z90) (fun _ _ _ h=>h) (Or.inl ⟨by rfl,?_⟩) ?_ ?_;rotate_left
       ·intro w';(go_simp);with_reducible rfl
       rotate_left
       ·simp only[Act.put,List.setIfInBounds_toArray,List.set_cons_zero,List.set_cons_succ,i64_w,i32_w];rfl
       refine take_ (i:=5) (N:=some 34) (v:=?_) (a':=?_) #[true,true,true,true,true,true,true,true,true,true,false,false,false,false,false] rfl rfl (take_ofW HT_.out HW_.out Z90) (fun _ _ _ h=>h) (Or.inl ⟨by rfl,?_⟩) hHeld ?_ ?_;rotate_left
       ·rintro w' ⟨s0,s1⟩;(go_simp);with_reducible rfl
       rotate_left
       ·simp only[Act.put,List.setIfInBounds_toArray,List.set_cons_zero,List.set_cons_succ,i64_w,i32_w];rfl
       refine take_ (i:=10) (N:=some 39) (v:=?_) (a':=?_) #[true,true,true,true,true,true,true,true,true,true,true,false,false,false,false] rfl rfl (take_ofW HT_.out HW_.out Z90) (fun _ _ _ h=>h) (Or.inl ⟨by rfl,?_⟩) hHeld ?_ ?_;rotate_left
       ·rintro w' ⟨s0,s1⟩;(go_simp);with_reducible rfl
       rotate_left
       ·simp only[Act.put,List.setIfInBounds_toArray,List.set_cons_zero,List.set_cons_succ,i64_w,i32_w];rfl
       refine pure_ (i:=11) (N:=some 40) (v:=?_) (a':=?_) #[true,true,true,true,true,true,true,true,true,true,true,true,false,false,false] rfl rfl (any_of HT_.out Z90) (fun _ _ _ h=>h) (Or.inl ⟨by rfl,?_⟩) ?_ ?_;rotate_left
       ·intro w';(go_simp);with_reducible rfl
       rotate_left
       ·simp only[Act.put,List.setIfInBounds_toArray,List.set_cons_zero,List.set_cons_succ,i64_w,i32_w];rfl
       refine pure_ (i:=12) (N:=some 41) (v:=?_) (a':=?_) #[true,true,true,true,true,true,true,true,true,true,true,true,true,false,false] rfl rfl (any_of HT_.out Z90) (fun _ _ _ h=>h) (Or.inl ⟨by rfl,?_⟩) ?_ ?_;rotate_left
       ·intro w';(go_simp);with_reducible rfl
       rotate_left
       ·simp only[Act.put,List.setIfInBounds_toArray,List.set_cons_zero,List.set_cons_succ,i64_w,i32_w];rfl
       refine pure_ (i:=13) (N:=some 42) (v:=?_) (a':=?_) #[true,true,true,true,true,true,true,true,true,true,true,true,true,true,false] rfl rfl (any_of HT_.out Z90) (fun _ _ _ h=>h) (Or.inl ⟨by rfl,?_⟩) ?_ ?_;rotate_left
       ·intro w';(go_simp);with_reducible rfl
       rotate_left
       ·simp only[Act.put,List.setIfInBounds_toArray,List.set_cons_zero,List.set_cons_succ,i64_w,i32_w];rfl
       refine last_ (i:=14) (N:=none) #[true,true,true,true,true,true,true,true,true,true,true,true,true,true,true] rfl rfl (one_of HT_.out Z90) Z91 (fun K hK=>?_);refine skip_ (w1:=?_) (by rfl) rfl ?_ ?_;rotate_left
       ·(go_simp);rfl
       refine hK.out _ _ ?_;clear hK K;refine done_ (done_of HT_.out Z90) ?_;(try go_wp2);go_roundg k2
       case measure=>have:=HK1.out;have:=HK2.out;omega
       case rel=>exact⟨(y542),(wrap64 (x10_1+1)),Z86,H',⟨Z87⟩,⟨by(with_reducible repeat(first|apply Kd.R_alloc|apply Kd.R_drewN|apply Kd.R_drew));exact HQ22.out⟩,⟨by repeat(first| (with_reducible first|exact HB.out|apply below_alloc|apply pw_below_drewN|apply below_drew1|refine below_set ?_ GB19.out)|exact HB.out)⟩⟩
   ·obtain⟨t534,A23,H⟩ :=Zb H;(try dsimp only at H);obtain rfl:=Option.some.inj H;obtain⟨Ao24,co24,eo24⟩ :=Kd.R_slice HO_9.out;subst eo24;(go_wp2_with(first| (refine Zc Tryz.func208 (Y18.calls _ _ _ _ _ _ (by repeat(first|exact(Kd.R_reads' HO_9.out).2.2| (with_reducible refine Kd.C_alloc ?_ _)| (with_reducible refine Kd.C_drewN ?_ _)| (with_reducible refine Kd.C_drew ?_))) ((Kd.R_reads' HO_9.out).2.1) A23.out) ?_;rintro e w25 ⟨v535,rfl,ho0,hb⟩;refine⟨_,rfl,?_⟩;have HO536:=Aside0.mk (Kd.V_lower (Kd.V_mono (ok':=fun k_=>(w.heap.size≤k_)∧some k_≠(.slice Ao24 x9_1.length co24:Value).ownBlock) ho0 (fun k_ hk_=> ⟨(Nat.le_trans (below_size Z36) hk_),(Kd.fresh' (Kd.R_lt Z77) k_ hk_)⟩)) (below_size Z36));replace HO_9:=Aside0.mk (Kd.R_below Z77 hb);replace HB:=Aside0.mk (below_step Z36 hb);try clear hb;(try clear ho0))));(go_ret);exact⟨_,Z81,by(with_reducible repeat(first|apply Kd.V_alloc|apply Kd.V_drewN|apply Kd.V_drew));exact Kd.V_mono HO536.out (fun _ hk=>hk.1),Z36⟩
theorem Y30.calls (k:Nat) (A0:Option Addr) (c0:Nat) (l0:List Int) (A1:Option Addr) (c1:Nat) (l1:List Int) (r:Bool) (w:World) (hr0:Kd.C (Kd.int .i64) w A0 l0.length l0) (hc0:l0.length≤c0) (hr1:Kd.C (Kd.int .i64) w A1 l1.length l1) (hc1:l1.length≤c1) (h:Y30.f k l0 l1=some r):
  Calls Tryz.prog 188 #[.slice A0 l0.length c0,.slice A1 l1.length c1] w fun e w'=>e= .returned (.bool r)∧Drawn0 w w':=by
 have HR0:=Aside0.mk hr0;have HC0:=Aside0.mk hc0;clear hr0 hc0;have HR1:=Aside0.mk hr1;have HC1:=Aside0.mk hc1;clear hr1 hc1;have H:=h;clear h;unfold Y30.f at H;obtain⟨H,c3b0,c3b1,c3⟩ | ⟨H,c3b0,c3b1,c3⟩ :=XE H
 ·have c3b2:(l0.length==l1.length)=true:=by first|simpa using c3| (simp at c3⊢;omega)
  clear c3;have H':=Aside0.mk H;clear H;go_enter Tryz.func188,Tryz.ntmps188
  go_wp2
  repeat(go_quiet (fail);try go_wp2)
  go_loopg [5] k (fun kq v5 w'=> ∃(x5_1:Int),v5= .int .i64 x5_1∧Aside0 (Y30.l0 kq l0 l1 x5_1=some r)∧Aside0 (kq≤k)∧Drawn0 w w')
  case atStart=>exact⟨(wrap64 ((l0.length:Int) - 1)),Z86,H',⟨Nat.le_refl _⟩,Z82⟩
  case round=>
   clear H';obtain⟨x5_1,rfl,HA,HK1,⟨m1,rfl⟩⟩ :=hrel;cases gk with
   |zero=>exact absurd HA.out (by simp[Y30.l0])
   |succ k1=>
    have H:=HA.out;clear HA;simp only[Y30.l0] at H;obtain⟨H,c4⟩ | ⟨H,c4⟩ :=XI H
    ·have c4b0:decide (0≤x5_1)=true:=decide_eq_true c4;clear c4;obtain⟨H,c5b0⟩ :=Xkd H;obtain⟨H,c6b0⟩ :=Xkd H;obtain⟨H,c7b0⟩ :=Xkd H;obtain⟨H,c8b0,c8b1,-⟩ | ⟨H,c8b0,c8b1,c8⟩ :=XE H
     ·have H':=Aside0.mk H;clear H;obtain⟨ad543,e543,hx543_0,p543,q543⟩ :=Zi HR0.out x5_1;cases e543;obtain⟨ad544,e544,hx544_0,p544,q544⟩ :=Zi HR1.out x5_1;cases e544;(go_wp2);(repeat(go_quiet (fail);try go_wp2));go_roundg k1
      case measure=>have:=HK1.out;omega
      case rel=>exact⟨(wrap64 (x5_1 - 1)),Z86,H',⟨Z89⟩,Z82⟩
     ·obtain rfl:=Option.some.inj H;obtain⟨ad543,e543,hx543_0,p543,q543⟩ :=Zi HR0.out x5_1;cases e543;obtain⟨ad544,e544,hx544_0,p544,q544⟩ :=Zi HR1.out x5_1;cases e544;obtain⟨ad545,e545,hx545_0,p545,q545⟩ :=Zi HR0.out x5_1;obtain rfl:ad543=ad545:=(by injection e545)
      obtain⟨ad546,e546,hx546_0,p546,q546⟩ :=Zi HR1.out x5_1;obtain rfl:ad544=ad546:=(by injection e546)
      (go_wp2);repeat(go_quiet (fail);try go_wp2)
      (go_ret);exact⟨Z86,Z82⟩
    ·have c4b0:decide (0≤x5_1)=false:=decide_eq_false c4;clear c4;obtain rfl:=Option.some.inj H;(go_wp2);(repeat(go_quiet (fail);try go_wp2));(go_ret);exact⟨Z86,Z82⟩
 ·have c3b2:(l0.length==l1.length)=false:=by first|simpa using c3| (simp at c3⊢;omega)
  obtain rfl:=Option.some.inj H;go_enter Tryz.func188,Tryz.ntmps188
  go_wp2
  repeat(go_quiet (fail);try go_wp2)
  go_ret
  exact⟨Z86,Z82⟩
theorem Y19.calls (k:Nat) (A0:Option Addr) (c0:Nat) (l0:List Int) (A1:Option Addr) (c1:Nat) (l1:List Int) (r1:List Int) (r2:List Int) (w:World) (hr0:Kd.C (Kd.int .i64) w A0 l0.length l0) (hc0:l0.length≤c0) (hr1:Kd.C (Kd.int .i64) w A1 l1.length l1) (hc1:l1.length≤c1) (h:Y19.f k l0 l1=some (r1,r2)):
  Calls Tryz.prog 172 #[.slice A0 l0.length c0,.slice A1 l1.length c1] w fun e w'=> ∃v0_ v1_:Value,e= .returned (.tuple #[v0_,v1_])∧Kd.V (Kd.int .i64) 3 w' w.heap.size (fun k_=>(w.heap.size≤k_)) v0_ r1∧Kd.V (Kd.int .i64) 3 w' w.heap.size (fun k_=>(w.heap.size≤k_)) v1_ r2∧Below w.heap.size w w':=by
 have HR0:=Aside0.mk hr0;have HC0:=Aside0.mk hc0;clear hr0 hc0;have HR1:=Aside0.mk hr1;have HC1:=Aside0.mk hc1;clear hr1 hc1;have HB:=Aside0.mk (Below.refl w.heap.size w);have H:=h;clear h;unfold Y19.f at H;obtain⟨H,c3b0,c3b1⟩ :=Xkt H;obtain⟨H,c4b0,c4b1⟩ :=Xkt H;obtain⟨y547,hy547⟩ : ∃y_:List Int,y_= (List.replicate ((l0.length:Int):Int).toNat 0):= ⟨_,rfl⟩
 try rw[←hy547] at H
 have Ny547:=Aside0.mk hy547;clear hy547;have H':=Aside0.mk H;clear H;go_enter Tryz.func172,Tryz.ntmps172
 go_wp2_with(first| ((with_reducible refine gate_dst (N:=14) rfl ?_);refine Kd.R_make (Kd.int .i64) _ 3 rfl (N:=14) rfl 165 _ _ rfl (l0.length:Int) rfl rfl Tryz.underlying165 (.int .i64 0) 8 info3 rfl Z91 Z92 0 (ok:=fun _=>True) (okp:=fun _=>True) rfl (fun _ hk=>hk) trivial (of_decide_eq_true Z85) (Nat.le_trans (Nat.mul_le_mul_right _ (of_decide_eq_true Z85:(l0.length:Int).toNat≤35184372088832)) Z92) (Below.refl _ _) (Nat.le_refl _) ?_;intro v548 w5 ho6 hb hg_ hnew_;clear hg_ hnew_;(first|rw[←Ny547.out] at ho6| (simp only[Int.reduceToNat] at ho6;rw[←Ny547.out] at ho6));have HO549:=Aside0.mk (Kd.R_lower (Kd.R_newM (M:=fun k_=>(w.heap.size≤k_)) ho6 (below_size Z36) (fun k_ h_=>h_)) (below_size Z36));replace HB:=Aside0.mk (below_step Z36 hb);clear hb ho6))
 go_loopg [7,8] k (fun kq v7 v8 w'=> ∃(x6_1:List Int) (x7_1:List Int) (x8_1:Int),v8= .int .i64 x8_1∧Aside0 (Y19.l0 kq l0 l1 x6_1 x7_1 x8_1=some (r1,r2))∧Aside0 (kq≤k)∧Aside0 (Kd.R (Kd.int .i64) 3 w' w.heap.size (fun k_=>(w.heap.size≤k_)) v548 x6_1)∧Aside0 (Kd.V (Kd.int .i64) 3 w' w.heap.size (fun k_=>(w.heap.size≤k_)∧some k_≠(v548:Value).ownBlock) v7 x7_1)∧Aside0 (Below w.heap.size w w'))
 case atStart=>exact⟨(y547),(([]:List Int)),(wrap64 ((l0.length:Int) - 1)),Z86,H',⟨Nat.le_refl _⟩,⟨by(with_reducible repeat(first|apply Kd.R_alloc|apply Kd.R_drewN|apply Kd.R_drew));exact Kd.R_mono HO549.out (fun _ hk=>hk.1)⟩,⟨Kd.R_V (by first|exact Kd.R_nil _ _ _ 0 _|exact Kd.N_nil _ _ _ _ _|exact Kd.V_nil _ _ _ _ _|exact Kd.Q_nil _ _ _ _ _|exact Kd.S_nil _ _ _ _ _)⟩,⟨Z36⟩⟩
 case round=>
  clear H';obtain⟨x6_1,x7_1,x8_1,rfl,HA,HK1,HO_6,HO_7,HB⟩ :=hrel;cases gk with
  |zero=>exact absurd HA.out (by simp[Y19.l0])
  |succ k1=>
   have H:=HA.out;clear HA;simp only[Y19.l0] at H;obtain⟨H,c7⟩ | ⟨H,c7⟩ :=XI H
   ·have c7b0:decide (0≤x8_1)=true:=decide_eq_true c7;clear c7;obtain⟨H,c8b0⟩ :=Xkd H;obtain⟨H,c9b0⟩ :=Xkd H;obtain⟨y554,Ny554,H⟩ :=Zy H;obtain⟨H,c10⟩ :=XkI H;have LMc10:=Aside0.mk c10;clear c10;obtain⟨y557,hy557⟩ : ∃y_:List Int,y_= (y554++x7_1):= ⟨_,rfl⟩
    (try rw[←hy557] at H);have Ny557:=Aside0.mk hy557;clear hy557;obtain⟨t560,A11,H⟩ :=Zb H;(try dsimp only at H);have H':=Aside0.mk H;clear H;obtain⟨ad553,e553,hx553_0,p553,q553⟩ :=Zi HR0.out x8_1;cases e553;replace hx553_0:=(HB.out.cell (World.block_lt_of_cell? w _ hx553_0)).trans hx553_0;(go_wp2_with(first| ((with_reducible refine gate_dst (N:=26) rfl ?_);refine Kd.R_lit (Kd.int .i64) _ 3 ?hg (N:=26) ?hd (xs:=([rd l0 x8_1]:List Int)) (inner:=[.int .i64 (rd l0 x8_1)]) (ok:=fun _=>True) (okp:=fun _=>True) ?hr ?hp (fun _ hk=>hk) trivial (Below.refl _ _) (Nat.le_refl _) Z93 ?_;(case hd=>rfl);(case hg=>rfl);(case hr=>first| (go_simp;done)| (go_simp;rfl));(case hp=>exact(Reps.one (show Kd.M (Kd.int .i64) _ _ _ (rd l0 x8_1) [.int .i64 (rd l0 x8_1)] from rfl) (Reps.none _ _)));intro v555 w12 ho13 hb hg_ hnew_;clear hg_ hnew_;(first|rw[←Ny554.out] at ho13| (simp only[Int.reduceToNat] at ho13;rw[←Ny554.out] at ho13));replace HO_7:=Aside0.mk (Kd.V_elder' Z78 (Kd.R_base ho13) hb);have HO556:=Aside0.mk (Kd.R_lower (Kd.R_new' (Kd.R_newM (M:=fun k_=>(w.heap.size≤k_)) ho13 (below_size Z36) (fun k_ h_=>h_)) (Kd.R_lt Z79)) (below_size Z36));replace HO_6:=Aside0.mk (Kd.R_elder' Z79 (Kd.R_base ho13) hb);replace HB:=Aside0.mk (below_step Z36 hb);clear hb ho13;obtain⟨Ao15,co15,eo15⟩ :=Kd.V_slice HO_7.out;subst eo15)| ((with_reducible refine gate_builtin (b:= .append) (xs:=#[.tmp 26,.tmp 27]) rfl ?_);at_builtin;refine Kd.R_append_rows (Kd.int .i64) (w0:=w) w.heap.size rfl (.tmp 26) (.tmp 27) 165 3 (.int .i64 0) 8 rfl Tryz.underlying165 info3 rfl Z91 Z92 v555 y554 x7_1 _ _ _ (fun k_=>(w.heap.size≤k_)∧some k_≠(v548:Value).ownBlock) (fun _=>False) rfl rfl ?aO ?aR (fun _ _ h=>h) (fun _ h=>h.elim) ?aF ?aB ?aS ?aL ?_;(case aR=>repeat(first|exact(Kd.V_reads' HO_7.out).2.2| (with_reducible refine Kd.C_alloc ?_ _)| (with_reducible refine Kd.C_drewN ?_ _)| (with_reducible refine Kd.C_drew ?_)));(case aB=>exact Z36);(case aF=>exact(fun k_ hk=> ⟨(Nat.le_trans (below_size Z36) hk),Kd.fresh' (Kd.R_lt Z79) k_ hk⟩));(case aO=>exact(by(with_reducible repeat(first|apply Kd.R_alloc|apply Kd.R_drewN|apply Kd.R_drew));exact Kd.R_mono HO556.out (fun _ hk=> ⟨hk.1.1,hk.2⟩)));(case aS=>exact(below_size Z36));(case aL=>have:=LMc10.out;omega);intro v558 w14 ho hb hg hat;rw[←Ny557.out] at ho;have n0_:=Aside0.mk (Kd.R_after (ok:=(fun k_=>(w.heap.size≤k_))) Z79 hg hat);have n1_:=Aside0.mk (Kd.V_afterv (ok:=(fun k_=>(w.heap.size≤k_)∧some k_≠(v548:Value).ownBlock)) Z78 hg hat);have n2_:=Aside0.mk (hb);have n3_:=Aside0.mk (ho);clear HO_6;clear HO_7;clear HB;clear HO556;have HO_6:=n0_;have HO_7:=n1_;have HB:=n2_;have HO559:=n3_;clear n0_ n1_ n2_ n3_;clear ho hb hg hat;obtain⟨Ao16,co16,eo16⟩ :=Kd.R_slice HO559.out;subst eo16)| (refine Zc Tryz.func207 (Y46.calls _ (fun k_=>some k_= (.slice Ao16 y557.length co16:Value).ownBlock) _ _ _ _ _ (Kd.R_V (Kd.R_tight rfl (HO559.out))) A11.out) ?_;rintro e w17 ⟨v561,rfl,ho0,hb⟩;refine⟨_,rfl,?_⟩;replace HO_7:=Aside0.mk (Kd.V_below Z78 hb);have HO562:=Aside0.mk (Kd.V_lower (Kd.V_mono (ok':=fun k_=>(w.heap.size≤k_)∧some k_≠(v548:Value).ownBlock) ho0 (fun k_ hk_=> ⟨Or.elim hk_ (fun hs_=>((HO559.out).1 k_ hs_.symm).1) (fun hn_=>(Nat.le_trans (below_size Z36) hn_)),Or.elim hk_ (fun hs_=>((HO559.out).1 k_ hs_.symm).2) (fun hn_=>(Kd.fresh' (Kd.R_lt Z79) k_ hn_))⟩)) (below_size Z36));replace HO_6:=Aside0.mk (Kd.R_below Z79 hb);replace HO559:=Aside0.mk (Kd.R_below (by(with_reducible repeat(first|apply Kd.R_alloc|apply Kd.R_drewN|apply Kd.R_drew));exact HO559.out) hb);replace HB:=Aside0.mk (below_step Z36 hb);try clear hb;(try clear ho0))));go_loopg [9,10] k1 (fun kq v9 v10 w'=> ∃(x9_2:Int) (x10_2:Int),v9= .int .i64 x9_2∧v10= .int .i64 x10_2∧Aside0 (Y19.l1 kq l0 l1 x6_1 t560 x8_1 x9_2 x10_2=some (r1,r2))∧Aside0 (kq≤k1)∧Aside0 (Kd.R (Kd.int .i64) 3 w' w.heap.size (fun k_=>(w.heap.size≤k_)) v548 x6_1)∧Aside0 (Kd.V (Kd.int .i64) 3 w' w.heap.size (fun k_=>(w.heap.size≤k_)∧some k_≠(v548:Value).ownBlock) v561 t560)∧Aside0 (Below w.heap.size w w'))
    case atStart=>exact⟨(0),(9999),Z86,Z86,H',⟨Nat.le_refl _⟩,⟨by(with_reducible repeat(first|apply Kd.R_alloc|apply Kd.R_drewN|apply Kd.R_drew));exact Kd.R_mono HO_6.out (fun _ hk=>hk.1)⟩,⟨by(with_reducible repeat(first|apply Kd.V_alloc|apply Kd.V_drewN|apply Kd.V_drew));exact HO562.out⟩,⟨Z36⟩⟩
    case round=>
     clear H';obtain⟨x9_2,x10_2,rfl,rfl,HA,HK2,HO_6,HO_7,HB⟩ :=hrel;cases gk with
     |zero=>exact absurd HA.out (by simp[Y19.l1])
     |succ k2=>
      have H:=HA.out;clear HA;simp only[Y19.l1] at H;obtain⟨H,c18b0⟩ | ⟨H,c18b0⟩ :=Xd H
      ·obtain⟨t567,A19,H⟩ :=Zb H;(try dsimp only at H);obtain⟨t570,A20,H⟩ :=Zb H;(try dsimp only at H);by_cases c21:t570=true
       ·subst c21;rw[if_pos rfl] at H;have H':=Aside0.mk H;clear H;(go_wp2_with(first| ((with_reducible refine gate_callee (f:=174) rfl ?_);refine Zg (some 41) Tryz.func174 #[.slice none 0 0,.slice A1 l1.length c1,.int .i64 (wrap64 (Int.tdiv (wrap64 ((wrap64 (x9_2+x10_2))+1)) 2)),.int .i64 0] ?_;(refine(Y10.calls k2 _ _ ([]:List Int) _ _ l1 (wrap64 (Int.tdiv (wrap64 ((wrap64 (x9_2+x10_2))+1)) 2)) 0 t567 _ ?side1 ?side2 ?side3 ?side4 A19.out).mono ?_);(case side1=>exact Kd.C_nil _ _);(case side2=>exact Nat.le_refl _);(case side3=>repeat(first|exact(Kd.C_below HR1.out HB.out)| (with_reducible refine Kd.C_alloc ?_ _)| (with_reducible refine Kd.C_drewN ?_ _)| (with_reducible refine Kd.C_drew ?_)));(case side4=>exact HC1.out);rintro e w22 ⟨v568,rfl,ho0,hb⟩;refine⟨_,rfl,?_⟩;replace HO_7:=Aside0.mk (Kd.V_below Z78 hb);have HO569:=Aside0.mk (Kd.V_lower (Kd.V_mono (ok':=fun k_=>(w.heap.size≤k_)∧some k_≠(v548:Value).ownBlock) ho0 (fun k_ hk_=> ⟨(Nat.le_trans (below_size Z36) hk_),(Kd.fresh' (Kd.R_lt Z79) k_ hk_)⟩)) (below_size Z36));replace HO_6:=Aside0.mk (Kd.R_below Z79 hb);replace HB:=Aside0.mk (below_step Z36 hb);try clear hb;(try clear ho0);obtain⟨Ao23,co23,eo23⟩ :=Kd.V_slice HO_7.out;subst eo23;obtain⟨Ao24,co24,eo24⟩ :=Kd.V_slice HO569.out;subst eo24)| ((with_reducible refine gate_callee (f:=188) rfl ?_);refine Zg (some 42) Tryz.func188 #[.slice Ao23 t560.length co23,.slice Ao24 t567.length co24] ?_;(with_reducible refine(Y30.calls _ _ _ _ _ _ _ _ _ Z23 ((Kd.V_reads' HO_7.out).2.1) (by repeat(first|exact(Kd.V_reads' HO569.out).2.2| (with_reducible refine Kd.C_alloc ?_ _)| (with_reducible refine Kd.C_drewN ?_ _)| (with_reducible refine Kd.C_drew ?_))) ((Kd.V_reads' HO569.out).2.1) A20.out).mono ?_);rintro e w' ⟨rfl,⟨nd,rfl⟩⟩;refine⟨_,rfl,?_⟩)));go_roundg k2
        case measure=>have:=HK1.out;have:=HK2.out;omega
        case rel=>exact⟨(x9_2),(wrap64 ((wrap64 (Int.tdiv (wrap64 ((wrap64 (x9_2+x10_2))+1)) 2)) - 1)),Z86,Z86,H',⟨Z87⟩,⟨Z79⟩,⟨Z78⟩,⟨Z36⟩⟩
       ·replace c21:=Bool.eq_false_iff.mpr c21;subst c21;rw[if_neg (show¬(false=true) by decide)] at H;have H':=Aside0.mk H;clear H;(go_wp2_with(first| ((with_reducible refine gate_callee (f:=174) rfl ?_);refine Zg (some 41) Tryz.func174 #[.slice none 0 0,.slice A1 l1.length c1,.int .i64 (wrap64 (Int.tdiv (wrap64 ((wrap64 (x9_2+x10_2))+1)) 2)),.int .i64 0] ?_;(refine(Y10.calls k2 _ _ ([]:List Int) _ _ l1 (wrap64 (Int.tdiv (wrap64 ((wrap64 (x9_2+x10_2))+1)) 2)) 0 t567 _ ?side1 ?side2 ?side3 ?side4 A19.out).mono ?_);(case side1=>exact Kd.C_nil _ _);(case side2=>exact Nat.le_refl _);(case side3=>repeat(first|exact(Kd.C_below HR1.out HB.out)| (with_reducible refine Kd.C_alloc ?_ _)| (with_reducible refine Kd.C_drewN ?_ _)| (with_reducible refine Kd.C_drew ?_)));(case side4=>exact HC1.out);rintro e w25 ⟨v568,rfl,ho0,hb⟩;refine⟨_,rfl,?_⟩;replace HO_7:=Aside0.mk (Kd.V_below Z78 hb);have HO569:=Aside0.mk (Kd.V_lower (Kd.V_mono (ok':=fun k_=>(w.heap.size≤k_)∧some k_≠(v548:Value).ownBlock) ho0 (fun k_ hk_=> ⟨(Nat.le_trans (below_size Z36) hk_),(Kd.fresh' (Kd.R_lt Z79) k_ hk_)⟩)) (below_size Z36));replace HO_6:=Aside0.mk (Kd.R_below Z79 hb);replace HB:=Aside0.mk (below_step Z36 hb);try clear hb;(try clear ho0);obtain⟨Ao26,co26,eo26⟩ :=Kd.V_slice HO_7.out;subst eo26;obtain⟨Ao27,co27,eo27⟩ :=Kd.V_slice HO569.out;subst eo27)| ((with_reducible refine gate_callee (f:=188) rfl ?_);refine Zg (some 42) Tryz.func188 #[.slice Ao26 t560.length co26,.slice Ao27 t567.length co27] ?_;(with_reducible refine(Y30.calls _ _ _ _ _ _ _ _ _ Z23 ((Kd.V_reads' HO_7.out).2.1) (by repeat(first|exact(Kd.V_reads' HO569.out).2.2| (with_reducible refine Kd.C_alloc ?_ _)| (with_reducible refine Kd.C_drewN ?_ _)| (with_reducible refine Kd.C_drew ?_))) ((Kd.V_reads' HO569.out).2.1) A20.out).mono ?_);rintro e w' ⟨rfl,⟨nd,rfl⟩⟩;refine⟨_,rfl,?_⟩)));go_roundg k2
        case measure=>have:=HK1.out;have:=HK2.out;omega
        case rel=>exact⟨(wrap64 (Int.tdiv (wrap64 ((wrap64 (x9_2+x10_2))+1)) 2)),(x10_2),Z86,Z86,H',⟨Z87⟩,⟨Z79⟩,⟨Z78⟩,⟨Z36⟩⟩
      ·obtain⟨H,c28b0⟩ :=Xkd H;obtain⟨H,c29b0⟩ :=Xkd H;obtain⟨y563,hy563⟩ : ∃y_:List Int,y_= (x6_1.set (x8_1:Int).toNat x9_2):= ⟨_,rfl⟩
       (try rw[←hy563] at H);have Ny563:=Aside0.mk hy563;clear hy563;obtain⟨t564,A31,H⟩ :=Zb H;(try dsimp only at H);have H':=Aside0.mk H;clear H;have p30:0≤(x8_1:Int):=of_decide_eq_true Z85;have q30:(x8_1:Int)< ((x6_1.length:Int):Int):=of_decide_eq_true Z85;obtain⟨go30,co30,eo30,gb30,gl30,cl30,HG30⟩ :=Kd.R_form HO_6.out Z92;(first|cases eo30| (injection eo30 with ea_ en_ ec_;(first|subst ea_| (injection ea_ with ea_;subst ea_));subst ec_;clear en_));have GB30:=Aside0.mk gb30;have GG30:=Aside0.mk HG30;clear gb30 gl30 HG30;obtain⟨hx30_0,hf30_0⟩ :=Kd.R_celln 0 HO_6.out (x8_1:Int) p30 q30;replace p30:=eq_true p30;replace q30:=eq_true q30;have HP32:=Kd.R_putg HO_6.out (x8_1:Int) x9_2;(go_wp2_with(first| ((with_reducible refine gate_store (t:=3) (p:=49) rfl ?_);refine store_event (t:=3) (p:=49) (v:=?vo_w33) (w1:=(wr.setCell ⟨go30,(x8_1:Int).toNat,none⟩ (.int .i64 x9_2))) ?hg ?ho ?hn ?hr ?_;(case ho=>rfl);(case hg=>rfl);(case hn=>rfl);(case hr=>first| (go_simp;done)| (go_simp;rfl));intro w33 hw;have hg:wr.grownBy w33 (some go30):=(by rw[hw];exact HP32.2);have hp_:Kd.R (Kd.int .i64) 3 w33 w.heap.size (fun k_=>(w.heap.size≤k_)) (.slice (some ⟨go30,0,none⟩) x6_1.length co30) y563:=(by rw[hw,Ny563.out];exact HP32.1);clear HP32;replace HO_6:=Aside0.mk (hp_);replace HO_7:=Aside0.mk (Kd.V_afterv (v:=(.slice (some ⟨go30,0,none⟩) x6_1.length co30)) (v1:=(.slice (some ⟨go30,0,none⟩) x6_1.length co30)) (ok:=(fun k_=>(w.heap.size≤k_))) Z78 hg (.inl rfl));replace HB:=Aside0.mk ((by rw[hw];exact below_set (HB.out) GB30.out:Below w.heap.size w w33));clear hg hw hp_;obtain⟨Ao34,co34,eo34⟩ :=Kd.V_slice HO_7.out;subst eo34)| (refine Zc Tryz.func174 (Y10.calls _ _ _ _ _ _ _ _ _ _ _ Z23 ((Kd.V_reads' HO_7.out).2.1) Z10 HC1.out A31.out) ?_;rintro e w35 ⟨v565,rfl,ho0,hb⟩;refine⟨_,rfl,?_⟩;replace HO_7:=Aside0.mk (Kd.V_below Z78 hb);have HO566:=Aside0.mk (Kd.V_lower (Kd.V_mono (ok':=fun k_=>(w.heap.size≤k_)∧some k_≠(.slice (some ⟨go30,0,none⟩) x6_1.length co30:Value).ownBlock) ho0 (fun k_ hk_=> ⟨(Nat.le_trans (below_size Z36) hk_),(Kd.fresh' (Kd.R_lt Z79) k_ hk_)⟩)) (below_size Z36));replace HO_6:=Aside0.mk (Kd.R_below Z79 hb);replace HB:=Aside0.mk (below_step Z36 hb);try clear hb;(try clear ho0))));go_roundg k2
       case measure=>have:=HK1.out;have:=HK2.out;omega
       case rel=>exact⟨(y563),(t564),(wrap64 (x8_1 - 1)),Z86,H',⟨Z87⟩,⟨Z79⟩,⟨by(with_reducible repeat(first|apply Kd.V_alloc|apply Kd.V_drewN|apply Kd.V_drew));exact HO566.out⟩,⟨Z36⟩⟩
   ·have c7b0:decide (0≤x8_1)=false:=decide_eq_false c7;clear c7;obtain⟨t550,A36,H⟩ :=Zb H;(try dsimp only at H);simp only[Option.some.injEq,Prod.mk.injEq] at H;obtain⟨rfl,rfl⟩ :=H;obtain⟨Ao37,co37,eo37⟩ :=Kd.R_slice HO_6.out;subst eo37;(go_wp2_with(first| (refine Zc Tryz.func207 (Y46.calls _ (fun k_=>some k_= (.slice Ao37 x6_1.length co37:Value).ownBlock) _ _ _ _ _ (Kd.R_V (Kd.R_tight rfl (HO_6.out))) A36.out) ?_;rintro e w38 ⟨v551,rfl,ho0,hb⟩;refine⟨_,rfl,?_⟩;replace HO_7:=Aside0.mk (Kd.V_below Z78 hb);have HO552:=Aside0.mk (Kd.V_lower (Kd.V_mono (ok':=fun k_=>(w.heap.size≤k_)) ho0 (fun k_ hk_=>Or.elim hk_ (fun hs_=>((HO_6.out).1 k_ hs_.symm)) (fun hn_=>(Nat.le_trans (below_size Z36) hn_)))) (below_size Z36));replace HO_6:=Aside0.mk (Kd.R_below Z79 hb);replace HB:=Aside0.mk (below_step Z36 hb);try clear hb;(try clear ho0))));(go_ret2);exact⟨_,_,Z81,by(with_reducible repeat(first|apply Kd.V_alloc|apply Kd.V_drewN|apply Kd.V_drew));exact HO552.out,by(with_reducible repeat(first|apply Kd.V_alloc|apply Kd.V_drewN|apply Kd.V_drew));exact Kd.V_mono HO_7.out (fun _ hk=>hk.1),Z36⟩
theorem Y32.calls (k:Nat) (a0:ByteArray) (r:List Int) (w:World) (h:Y32.f k a0=some r):
  Calls Tryz.prog 173 #[.string a0] w fun e w'=> ∃v0_:Value,e= .returned (v0_)∧Kd.V (Kd.int .i64) 3 w' w.heap.size (fun k_=>(w.heap.size≤k_)) v0_ r∧Below w.heap.size w w':=by
 have HB:=Aside0.mk (Below.refl w.heap.size w);have H:=h;clear h;unfold Y32.f at H;have H':=Aside0.mk H;clear H;go_enter Tryz.func173,Tryz.ntmps173
 go_wp2
 go_loopg [3,4] k (fun kq v3 v4 w'=> ∃(x3_1:List Int) (x4_1:Int),v4= .int .i64 x4_1∧Aside0 (Y32.l0 kq a0 x3_1 x4_1=some r)∧Aside0 (kq≤k)∧Aside0 (Kd.R (Kd.int .i64) 3 w' w.heap.size (fun k_=>(w.heap.size≤k_)) v3 x3_1)∧Aside0 (Below w.heap.size w w'))
 case atStart=>exact⟨(([]:List Int)),((a0.size:Int)),Z86,H',⟨Nat.le_refl _⟩,⟨by first|exact Kd.R_nil _ _ _ _ _|exact Kd.N_nil _ _ _ _ _|exact Kd.V_nil _ _ _ _ _|exact Kd.Q_nil _ _ _ _ _|exact Kd.S_nil _ _ _ _ _⟩,⟨Z36⟩⟩
 case round=>
  clear H';obtain⟨x3_1,x4_1,rfl,HA,HK1,HO_3,HB⟩ :=hrel;cases gk with
  |zero=>exact absurd HA.out (by simp[Y32.l0])
  |succ k1=>
   have H:=HA.out;clear HA;simp only[Y32.l0] at H;obtain⟨H,c2⟩ | ⟨H,c2⟩ :=XI H
   ·have c2b0:decide (0<x4_1)=true:=decide_eq_true c2;clear c2;generalize hji3:(mx 0 (wrap64 (x4_1 - 4)))=ji3 at H;have hji3_:(if 0< (wrap64 (x4_1 - 4)) then(wrap64 (x4_1 - 4)) else 0)=ji3:=hji3;have H':=Aside0.mk H;clear H;(go_wp2);go_loopg [5,6] k1 (fun kq v5 v6 w'=> ∃(x5_2:Int) (x6_2:Int),v5= .int .i64 x5_2∧v6= .int .i64 x6_2∧Aside0 (Y32.l1 kq a0 x3_1 x4_1 x5_2 x6_2=some r)∧Aside0 (kq≤k1)∧Aside0 (Kd.R (Kd.int .i64) 3 w' w.heap.size (fun k_=>(w.heap.size≤k_)) u3 x3_1)∧Aside0 (Below w.heap.size w w'))
    case atStart=>exact⟨(0),(ji3),Z86,(by first|rfl| (simp;done)| (simp only[←hji3] <;> (first|rfl|simp))| (simp[*];done)),H',⟨Nat.le_refl _⟩,⟨Z76⟩,⟨Z36⟩⟩
    case round=>
     clear H';obtain⟨x5_2,x6_2,rfl,rfl,HA,HK2,HO_3,HB⟩ :=hrel;cases gk with
     |zero=>exact absurd HA.out (by simp[Y32.l1])
     |succ k2=>
      have H:=HA.out;clear HA;simp only[Y32.l1] at H;obtain⟨H,c4b0⟩ | ⟨H,c4b0⟩ :=Xd H
      ·obtain⟨H,c5b0⟩ :=Xkd H;obtain⟨H,c6b0⟩ :=Xkd H;have H':=Aside0.mk H;clear H;have p7:0≤(x6_2:Int):=of_decide_eq_true Z85;have q7:x6_2< (a0.size:Int):=of_decide_eq_true Z85;have hx7:=bt_at a0 x6_2;replace p7:=eq_true p7;replace q7:=eq_true q7;(go_wp2);go_roundg k2
       case measure=>have:=HK1.out;have:=HK2.out;omega
       case rel=>exact⟨(wrap64 ((wrap64 ((wrap64 (10 * x5_2))+ (wrap64 (bt a0 x6_2)))) - 48)),(wrap64 (x6_2+1)),Z86,Z86,H',⟨Z87⟩,⟨Z76⟩,⟨Z36⟩⟩
      ·obtain⟨H,c8⟩ :=XkI H;have LMc8:=Aside0.mk c8;clear c8;obtain⟨y574,hy574⟩ : ∃y_:List Int,y_= (x3_1++ [x5_2]):= ⟨_,rfl⟩
       (try rw[←hy574] at H);have Ny574:=Aside0.mk hy574;clear hy574;have H':=Aside0.mk H;clear H;(go_wp2_with(first| ((with_reducible refine gate_builtin (b:= .append) (xs:=#[.tmp 29,.tmp 31]) rfl ?_);at_builtin;refine Kd.R_append (Kd.int .i64) (w0:=w) w.heap.size rfl (.tmp 29) (.tmp 31) 165 3 (.int .i64 0) 8 rfl Tryz.underlying165 info3 rfl Z91 Z92 u3 x3_1 x5_2 [.int .i64 x5_2] (fun k_=>(w.heap.size≤k_)) (fun _=>False) rfl rfl ?aP (fun _ hk=>hk.elim) ?aF ?aO ?aB ?aS ?aL ?_;(case aP=>exact rfl);(case aB=>exact Z36);(case aF=>exact(fun k_ hk=>(Nat.le_trans (below_size Z36) hk)));(case aO=>exact Z76);(case aS=>exact(below_size Z36));(case aL=>have:=LMc8.out;omega);intro v575 w9 ho hb hg hat;rw[←Ny574.out] at ho;have n0_:=Aside0.mk (hb);have n1_:=Aside0.mk (ho);clear HB;clear HO_3;have HB:=n0_;have HO576:=n1_;clear n0_ n1_;clear ho hb hg hat)));go_roundg k2
       case measure=>have:=HK1.out;have:=HK2.out;omega
       case rel=>exact⟨(y574),(wrap64 (x4_1 - 4)),Z86,H',⟨Z87⟩,⟨by(with_reducible repeat(first|apply Kd.R_alloc|apply Kd.R_drewN|apply Kd.R_drew));exact HO576.out⟩,⟨Z36⟩⟩
   ·have c2b0:decide (0<x4_1)=false:=decide_eq_false c2;clear c2;obtain⟨t571,A10,H⟩ :=Zb H;(try dsimp only at H);obtain rfl:=Option.some.inj H;obtain⟨Ao11,co11,eo11⟩ :=Kd.R_slice HO_3.out;subst eo11;(go_wp2_with(first| (refine Zc Tryz.func207 (Y46.calls _ (fun k_=>some k_= (.slice Ao11 x3_1.length co11:Value).ownBlock) _ _ _ _ _ (Kd.R_V (Kd.R_tight rfl (HO_3.out))) A10.out) ?_;rintro e w12 ⟨v572,rfl,ho0,hb⟩;refine⟨_,rfl,?_⟩;have HO573:=Aside0.mk (Kd.V_lower (Kd.V_mono (ok':=fun k_=>(w.heap.size≤k_)) ho0 (fun k_ hk_=>Or.elim hk_ (fun hs_=>((HO_3.out).1 k_ hs_.symm)) (fun hn_=>(Nat.le_trans (below_size Z36) hn_)))) (below_size Z36));replace HO_3:=Aside0.mk (Kd.R_below Z76 hb);replace HB:=Aside0.mk (below_step Z36 hb);try clear hb;(try clear ho0))));(go_ret);exact⟨_,Z81,by(with_reducible repeat(first|apply Kd.V_alloc|apply Kd.V_drewN|apply Kd.V_drew));exact HO573.out,Z36⟩
theorem Y29.calls (k:Nat) (A0:Option Addr) (c0:Nat) (l0:List Int) (r:ByteArray) (w:World) (hGL:GL w) (hr0:Kd.C (Kd.int .i64) w A0 l0.length l0) (hc0:l0.length≤c0) (h:Y29.f k l0=some r):
  Calls Tryz.prog 209 #[.slice A0 l0.length c0] w fun e w'=>e= .returned (.string r)∧Below w.heap.size w w':=by
 have HGL:=Aside0.mk hGL;clear hGL;have HR0:=Aside0.mk hr0;have HC0:=Aside0.mk hc0;clear hr0 hc0;have HB:=Aside0.mk (Below.refl w.heap.size w);have H:=h;clear h;unfold Y29.f at H;obtain⟨H,c2b0,c2b1,-⟩ | ⟨H,c2b0,c2b1,c2⟩ :=XE H
 ·obtain rfl:=Option.some.inj H;go_enter Tryz.func209,Tryz.ntmps209
  go_wp2
  go_ret
  exact⟨Z81,Z36⟩
 ·have c2b2: ¬(l0= []):=fun h_=>c2 (by rw[h_];rfl)
  generalize hji3:(wrap64 ((l0.length:Int) - 1))=ji3 at H;have hji3w:(IntKind.i64.wrap ((l0.length:Int) - 1))=ji3:=(i64_w _).trans hji3;obtain⟨H,c4b0⟩ :=Xkd H;obtain⟨H,c5b0⟩ :=Xkd H;obtain⟨t578,A6,H⟩ :=Zb H;try dsimp only at H
  have H':=Aside0.mk H;clear H;have p577:0≤((ji3):Int):=of_decide_eq_true Z85;have q577:(ji3)< (l0.length:Int):=of_decide_eq_true Z85;obtain⟨ad577,e577,hx577_0⟩ :=Kd.at_int HR0.out (ji3) p577 q577;cases e577;replace p577:=eq_true p577;replace q577:=eq_true q577;go_enter Tryz.func209,Tryz.ntmps209
  go_wp2_with(first| ((with_reducible refine gate_callee (f:=122) rfl ?_);refine goesL_ (some 15) rfl rfl Tryz.func122 Z90 rfl #[.int .i64 (rd l0 (ji3))] rfl (by(try simp only[List.map_toArray,List.map_cons,List.map_nil]);first|done| (simp only[hji3];rfl)|rfl| (simp only[List.length_drop,List.length_take];rfl)) ?_;(with_reducible refine(Y36.calls _ _ _ (GL_below Z36 HGL.out) A6.out).mono ?_);rintro e w7 ⟨rfl,hb⟩;refine⟨_,rfl,?_⟩;replace HB:=Zn hb;try clear hb))
  go_loopg [3,4] k (fun kq v3 v4 w'=> ∃(x3_1:ByteArray) (x4_1:Int),v3= .string x3_1∧v4= .int .i64 x4_1∧Aside0 (Y29.l0 kq l0 x3_1 x4_1=some r)∧Aside0 (kq≤k)∧Aside0 (Below w.heap.size w w'))
  case atStart=>exact⟨(t578),(wrap64 ((l0.length:Int) - 2)),Z86,Z86,H',⟨Nat.le_refl _⟩,⟨Z36⟩⟩
  case round=>
   clear H';obtain⟨x3_1,x4_1,rfl,rfl,HA,HK1,HB⟩ :=hrel;cases gk with
   |zero=>exact absurd HA.out (by simp[Y29.l0])
   |succ k1=>
    have H:=HA.out;clear HA;simp only[Y29.l0] at H;obtain⟨H,c8⟩ | ⟨H,c8⟩ :=XI H
    ·have c8b0:decide (0≤x4_1)=true:=decide_eq_true c8;clear c8;obtain⟨H,c9b0⟩ :=Xkd H;obtain⟨H,c10b0⟩ :=Xkd H;obtain⟨t580,A11,H⟩ :=Zb H;(try dsimp only at H);obtain⟨H,c12b0,c12b1⟩ :=Xkt H;obtain⟨H,c13b0,c13b1,c13⟩ :=XkT H;(try have c13b2:(9223372036854775807<x3_1.size+ (t580.extract 1 t580.size).size)=False:=eq_false (Nat.not_lt.2 c13));have H':=Aside0.mk H;clear H;obtain⟨ad579,e579,hx579_0,p579,q579⟩ :=Zi HR0.out x4_1;obtain rfl:ad577=ad579:=(by injection e579)
     replace hx579_0:=(HB.out.cell (World.block_lt_of_cell? w _ hx579_0)).trans hx579_0;(go_wp2_with(first| (refine Zm Tryz.func122 (Y36.calls _ _ _ (GL_below Z36 HGL.out) A11.out) fun w14 hb=>?_;replace HB:=Zn hb;try clear hb)));go_roundg k1
     case measure=>have:=HK1.out;omega
     case rel=>exact⟨(x3_1++ (t580.extract 1 t580.size)),(wrap64 (x4_1 - 1)),Z86,Z86,H',⟨Z89⟩,⟨Z36⟩⟩
    ·have c8b0:decide (0≤x4_1)=false:=decide_eq_false c8;clear c8;obtain rfl:=Option.some.inj H;(go_wp2);(go_ret);exact⟨Z24,Z36⟩
theorem Y31.calls (k:Nat) (a0:Bool) (A1:Option Addr) (c1:Nat) (l1:List Int) (r:ByteArray) (w:World) (hGL:GL w) (hr1:Kd.C (Kd.int .i64) w A1 l1.length l1) (hc1:l1.length≤c1) (h:Y31.f k a0 l1=some r):
  Calls Tryz.prog 175 #[.bool a0,.slice A1 l1.length c1] w fun e w'=>e= .returned (.string r)∧Below w.heap.size w w':=by
 have HGL:=Aside0.mk hGL;clear hGL;have HR1:=Aside0.mk hr1;have HC1:=Aside0.mk hc1;clear hr1 hc1;have HB:=Aside0.mk (Below.refl w.heap.size w);have H:=h;clear h;unfold Y31.f at H;obtain⟨t581,A3,H⟩ :=Zb H;try dsimp only at H
 have HC4:=Aside0.mk H;clear H;go_enter Tryz.func175,Tryz.ntmps175
 go_upto_region 2 with (first| (refine Zc Tryz.func207 (Y46.calls _ (fun k_=>k_<w.heap.size) _ _ _ _ _ (Kd.V_mk HC1.out (Kd.F_below (Kd.C_F (Kd.heap_int .i64) HR1.out) Z36)) A3.out) ?_;rintro e w5 ⟨v582,rfl,ho0,hb⟩;refine⟨_,rfl,?_⟩;have HO583:=Aside0.mk (Kd.V_lower (Kd.V_mono (ok':=fun k_=>True) ho0 (fun k_ hk_=>trivial)) (below_size Z36));replace HB:=Aside0.mk (below_step Z36 hb);try clear hb;(try clear ho0)))
 (try simp only[Act.put,List.setIfInBounds_toArray,List.set_cons_zero,List.set_cons_succ]);go_cut [12] (fun v12 wc=> ∃(kq:Nat) (x12_3:Bool),v12= .bool x12_3∧Aside0 (Y31.j0 kq t581 x12_3=some r)∧Aside0 (kq≤k)∧Aside0 (Kd.V (Kd.int .i64) 3 wc w.heap.size (fun _=>True) v582 t581)∧Aside0 (Below w.heap.size w wc))
 case first=>
  have H:=HC4.out;clear HC4;by_cases c6:a0=true
  ·subst c6;rw[if_pos rfl] at H;have H':=Aside0.mk H;clear H;obtain⟨Ao7,co7,eo7⟩ :=Kd.V_slice HO583.out;subst eo7;(go_wp2);go_meet
   case rel=>exact⟨_,(decide ((t581.length:Int) > 0)),Z86,H',⟨Z88⟩,⟨by(with_reducible repeat(first|apply Kd.V_alloc|apply Kd.V_drewN|apply Kd.V_drew));exact HO583.out⟩,⟨Z36⟩⟩
  ·replace c6:=Bool.eq_false_iff.mpr c6;subst c6;rw[if_neg (show¬(false=true) by decide)] at H;have H':=Aside0.mk H;clear H;(go_wp2);go_meet
   case rel=>exact⟨_,(false),Z86,H',⟨Z88⟩,⟨by(with_reducible repeat(first|apply Kd.V_alloc|apply Kd.V_drewN|apply Kd.V_drew));exact HO583.out⟩,⟨Z36⟩⟩
 case rest=>
  clear HC4;obtain⟨kq,x12_3,rfl,HA,HJ3,HO_1,HB⟩ :=hcut;cases kq with
  |zero=>exact absurd HA.out (by simp[Y31.j0])
  |succ kj3=>
   have H:=HA.out;clear HA;simp only[Y31.j0] at H;by_cases c8:x12_3=true
   ·subst c8;rw[if_pos rfl] at H;obtain⟨t584,A9,H⟩ :=Zb H;(try dsimp only at H);obtain⟨H,c10b0,c10b1,c10⟩ :=XkT H;(try have c10b2:(9223372036854775807<1+t584.size)=False:=eq_false (Nat.not_lt.2 c10));obtain rfl:=Option.some.inj H;obtain⟨Ao11,co11,eo11⟩ :=Kd.V_slice HO_1.out;subst eo11;(go_wp2_with(first| (refine Zm Tryz.func209 (Y29.calls _ _ _ _ _ _ (GL_below Z36 HGL.out) (by repeat(first|exact(Kd.V_reads' HO_1.out).2.2| (with_reducible refine Kd.C_alloc ?_ _)| (with_reducible refine Kd.C_drewN ?_ _)| (with_reducible refine Kd.C_drew ?_))) ((Kd.V_reads' HO_1.out).2.1) A9.out) fun w12 hb=>?_;replace HO_1:=Aside0.mk (Kd.V_below (by(with_reducible repeat(first|apply Kd.V_alloc|apply Kd.V_drewN|apply Kd.V_drew));exact HO_1.out) hb);replace HB:=Aside0.mk (below_step Z36 hb);try clear hb)));(go_ret);exact⟨Z81,Z36⟩
   ·replace c8:=Bool.eq_false_iff.mpr c8;subst c8;rw[if_neg (show¬(false=true) by decide)] at H;obtain⟨t585,A13,H⟩ :=Zb H;(try dsimp only at H);obtain rfl:=Option.some.inj H;obtain⟨Ao14,co14,eo14⟩ :=Kd.V_slice HO_1.out;subst eo14;(go_wp2_with(first| (refine Zm Tryz.func209 (Y29.calls _ _ _ _ _ _ (GL_below Z36 HGL.out) (by repeat(first|exact(Kd.V_reads' HO_1.out).2.2| (with_reducible refine Kd.C_alloc ?_ _)| (with_reducible refine Kd.C_drewN ?_ _)| (with_reducible refine Kd.C_drew ?_))) ((Kd.V_reads' HO_1.out).2.1) A13.out) fun w15 hb=>?_;replace HO_1:=Aside0.mk (Kd.V_below (by(with_reducible repeat(first|apply Kd.V_alloc|apply Kd.V_drewN|apply Kd.V_drew));exact HO_1.out) hb);replace HB:=Aside0.mk (below_step Z36 hb);try clear hb)));(go_ret);exact⟨Z81,Z36⟩
theorem Y50.calls (a0:Int) (r:ByteArray) (w:World) (hGL:GL w) (h:Y50.f a0=some r):
  Calls Tryz.prog 38 #[.int .i64 a0] w fun e w'=>e= .returned (.string r)∧Below w.heap.size w w':=by
 have HGL:=Aside0.mk hGL;clear hGL;have HB:=Aside0.mk (Below.refl w.heap.size w);have H:=h;clear h;unfold Y50.f at H;obtain⟨t499,A2,H⟩ :=Zb H;try dsimp only at H
 obtain rfl:=Option.some.inj H;go_enter Tryz.func38,Tryz.ntmps38
 go_wp2_with(first| (refine Zm Tryz.func122 (Y36.calls _ _ _ (GL_below Z36 HGL.out) A2.out) fun w3 hb=>?_;replace HB:=Zn hb;try clear hb))
 go_ret
 exact⟨Z81,Z36⟩
theorem Y9.calls (k:Nat) (a0:ByteArray) (a1:ByteArray) (r1:ByteArray) (r2:ByteArray) (w:World) (hGL:GL w) (h:Y9.f k a0 a1=some (r1,r2)):
  Calls Tryz.prog 118 #[.string a0,.string a1] w fun e w'=>e= .returned (.tuple #[.string r1,.string r2])∧Below w.heap.size w w':=by
 have HGL:=Aside0.mk hGL;clear hGL;have HB:=Aside0.mk (Below.refl w.heap.size w);have H:=h;clear h;unfold Y9.f at H;obtain⟨⟨t586,t587⟩,A3,H⟩ :=Zb H;try dsimp only at H
 obtain⟨⟨t588,t589⟩,A4,H⟩ :=Zb H;try dsimp only at H
 have HC5:=Aside0.mk H;clear H;go_enter Tryz.func118,Tryz.ntmps118
 go_upto_region 3 with (first| (go_at_call 171;(with_reducible refine(Y17.calls _ _ _ _ _ A3.out).mono ?_);rintro e w' ⟨rfl,⟨nd,rfl⟩⟩;(try first|exact⟨rfl,_,World.drewN_drewN _ _ _⟩ |exact⟨rfl,_,Eq.trans (World.drewN_drewN _ _ _) (congrArg (World.drewN _) (Nat.add_assoc _ _ _))⟩))| (go_at_call 171;(with_reducible refine(Y17.calls _ _ _ _ _ A4.out).mono ?_);rintro e w' ⟨rfl,⟨nd,rfl⟩⟩;(try first|exact⟨rfl,_,World.drewN_drewN _ _ _⟩ |exact⟨rfl,_,Eq.trans (World.drewN_drewN _ _ _) (congrArg (World.drewN _) (Nat.add_assoc _ _ _))⟩)))
 repeat(go_quiet (first| (go_at_call 171;(with_reducible refine(Y17.calls _ _ _ _ _ A3.out).mono ?_);rintro e w' ⟨rfl,⟨nd,rfl⟩⟩;(try first|exact⟨rfl,_,World.drewN_drewN _ _ _⟩ |exact⟨rfl,_,Eq.trans (World.drewN_drewN _ _ _) (congrArg (World.drewN _) (Nat.add_assoc _ _ _))⟩))| (go_at_call 171;(with_reducible refine(Y17.calls _ _ _ _ _ A4.out).mono ?_);rintro e w' ⟨rfl,⟨nd,rfl⟩⟩;(try first|exact⟨rfl,_,World.drewN_drewN _ _ _⟩ |exact⟨rfl,_,Eq.trans (World.drewN_drewN _ _ _) (congrArg (World.drewN _) (Nat.add_assoc _ _ _))⟩)));go_upto_region 3 with (first| (go_at_call 171;(with_reducible refine(Y17.calls _ _ _ _ _ A3.out).mono ?_);rintro e w' ⟨rfl,⟨nd,rfl⟩⟩;(try first|exact⟨rfl,_,World.drewN_drewN _ _ _⟩ |exact⟨rfl,_,Eq.trans (World.drewN_drewN _ _ _) (congrArg (World.drewN _) (Nat.add_assoc _ _ _))⟩))| (go_at_call 171;(with_reducible refine(Y17.calls _ _ _ _ _ A4.out).mono ?_);rintro e w' ⟨rfl,⟨nd,rfl⟩⟩;(try first|exact⟨rfl,_,World.drewN_drewN _ _ _⟩ |exact⟨rfl,_,Eq.trans (World.drewN_drewN _ _ _) (congrArg (World.drewN _) (Nat.add_assoc _ _ _))⟩))))
 (try simp only[Act.put,List.setIfInBounds_toArray,List.set_cons_zero,List.set_cons_succ]);go_cut [31] (fun v31 wc=> ∃(kq:Nat) (x31_4:Bool),v31= .bool x31_4∧Aside0 (Y9.j0 kq a0 a1 t586 t588 x31_4=some (r1,r2))∧Aside0 (kq≤k)∧Aside0 (Below w.heap.size w wc))
 case first=>
  have H:=HC5.out;clear HC5;by_cases c6:t587=true
  ·subst c6;rw[if_pos rfl] at H;have H':=Aside0.mk H;clear H;(go_wp2);(repeat(go_quiet (fail);try go_wp2));go_meet
   case rel=>exact⟨_,(t589),Z86,H',⟨Z88⟩,⟨Z36⟩⟩
  ·replace c6:=Bool.eq_false_iff.mpr c6;subst c6;rw[if_neg (show¬(false=true) by decide)] at H;have H':=Aside0.mk H;clear H;(go_wp2);(repeat(go_quiet (fail);try go_wp2));go_meet
   case rel=>exact⟨_,(false),Z86,H',⟨Z88⟩,⟨Z36⟩⟩
 case rest=>
  clear HC5;obtain⟨kq,x31_4,rfl,HA,HJ4,HB⟩ :=hcut;cases kq with
  |zero=>exact absurd HA.out (by simp[Y9.j0])
  |succ kj4=>
   have H:=HA.out;clear HA;simp only[Y9.j0] at H;by_cases c7:x31_4=true
   ·subst c7;rw[if_pos rfl] at H;obtain⟨H,c8b0,c8b1,c8⟩ :=XqE H;obtain⟨H,c9b0⟩ | ⟨H,c9b0⟩ :=Xd H
    ·generalize hji10:(mx t588 (wrap64 (-t588)))=ji10 at H;have hji10_:(if t588< (wrap64 (-t588)) then(wrap64 (-t588)) else t588)=ji10:=hji10;obtain⟨t590,A11,H⟩ :=Zb H;(try dsimp only at H);obtain⟨t591,A12,H⟩ :=Zb H;(try dsimp only at H);simp only[Option.some.injEq,Prod.mk.injEq] at H;obtain⟨rfl,rfl⟩ :=H;(go_wp2_with(first| (go_at_call 38;(with_reducible refine(Y50.calls _ _ _ (GL_below Z36 HGL.out) A11.out).mono ?_);rintro e w13 ⟨rfl,hb⟩;replace HB:=Zn hb;try clear hb)| (go_at_call 38;(with_reducible refine(Y50.calls _ _ _ (GL_below Z36 HGL.out) A12.out).mono ?_);rintro e w14 ⟨rfl,hb⟩;replace HB:=Zn hb;try clear hb)));(repeat(go_quiet (first| (go_at_call 38;(with_reducible refine(Y50.calls _ _ _ (GL_below Z36 HGL.out) A11.out).mono ?_);rintro e w13 ⟨rfl,hb⟩;replace HB:=Zn hb;try clear hb)| (go_at_call 38;(with_reducible refine(Y50.calls _ _ _ (GL_below Z36 HGL.out) A12.out).mono ?_);rintro e w14 ⟨rfl,hb⟩;replace HB:=Zn hb;try clear hb));try go_wp2_with(first| (go_at_call 38;(with_reducible refine(Y50.calls _ _ _ (GL_below Z36 HGL.out) A11.out).mono ?_);rintro e w13 ⟨rfl,hb⟩;replace HB:=Zn hb;try clear hb)| (go_at_call 38;(with_reducible refine(Y50.calls _ _ _ (GL_below Z36 HGL.out) A12.out).mono ?_);rintro e w14 ⟨rfl,hb⟩;replace HB:=Zn hb;try clear hb))));(go_ret2);exact⟨by first|rfl| (simp[errW_none,errW_some] <;> rfl)| (simp only[←hji10];first|rfl| (simp[errW_none,errW_some] <;> rfl))| (simp[*,errW_none,errW_some] <;> rfl),Z36⟩
    ·obtain⟨t592,A15,H⟩ :=Zb H;(try dsimp only at H);obtain⟨t593,A16,H⟩ :=Zb H;(try dsimp only at H);simp only[Option.some.injEq,Prod.mk.injEq] at H;obtain⟨rfl,rfl⟩ :=H;(go_wp2_with(first| (go_at_call 38;(with_reducible refine(Y50.calls _ _ _ (GL_below Z36 HGL.out) A15.out).mono ?_);rintro e w17 ⟨rfl,hb⟩;replace HB:=Zn hb;try clear hb)| (go_at_call 38;(with_reducible refine(Y50.calls _ _ _ (GL_below Z36 HGL.out) A16.out).mono ?_);rintro e w18 ⟨rfl,hb⟩;replace HB:=Zn hb;try clear hb)));(repeat(go_quiet (first| (go_at_call 38;(with_reducible refine(Y50.calls _ _ _ (GL_below Z36 HGL.out) A15.out).mono ?_);rintro e w17 ⟨rfl,hb⟩;replace HB:=Zn hb;try clear hb)| (go_at_call 38;(with_reducible refine(Y50.calls _ _ _ (GL_below Z36 HGL.out) A16.out).mono ?_);rintro e w18 ⟨rfl,hb⟩;replace HB:=Zn hb;try clear hb));try go_wp2_with(first| (go_at_call 38;(with_reducible refine(Y50.calls _ _ _ (GL_below Z36 HGL.out) A15.out).mono ?_);rintro e w17 ⟨rfl,hb⟩;replace HB:=Zn hb;try clear hb)| (go_at_call 38;(with_reducible refine(Y50.calls _ _ _ (GL_below Z36 HGL.out) A16.out).mono ?_);rintro e w18 ⟨rfl,hb⟩;replace HB:=Zn hb;try clear hb))));(go_ret2);exact⟨Z81,Z36⟩
   ·replace c7:=Bool.eq_false_iff.mpr c7;subst c7;rw[if_neg (show¬(false=true) by decide)] at H;obtain⟨⟨t594,t595⟩,A19,H⟩ :=Zb H;(try dsimp only at H);obtain⟨⟨t596,t597⟩,A20,H⟩ :=Zb H;(try dsimp only at H);obtain⟨t598,A21,H⟩ :=Zb H;(try dsimp only at H);obtain⟨t601,A22,H⟩ :=Zb H;(try dsimp only at H);obtain⟨⟨t604,t607⟩,A23,H⟩ :=Zb H;(try dsimp only at H);have HC24:=Aside0.mk H;clear H;go_upto_region 12 with (first| (go_at_call 115;(with_reducible refine(Y16.calls _ _ _ _ A19.out).mono ?_);rintro e w' ⟨rfl,⟨nd,rfl⟩⟩;(try first|exact⟨rfl,_,World.drewN_drewN _ _ _⟩ |exact⟨rfl,_,Eq.trans (World.drewN_drewN _ _ _) (congrArg (World.drewN _) (Nat.add_assoc _ _ _))⟩))| (go_at_call 115;(with_reducible refine(Y16.calls _ _ _ _ A20.out).mono ?_);rintro e w' ⟨rfl,⟨nd,rfl⟩⟩;(try first|exact⟨rfl,_,World.drewN_drewN _ _ _⟩ |exact⟨rfl,_,Eq.trans (World.drewN_drewN _ _ _) (congrArg (World.drewN _) (Nat.add_assoc _ _ _))⟩))| (go_at_call 173;(with_reducible refine(Y32.calls _ _ _ _ A21.out).mono ?_);rintro e w25 ⟨v599,rfl,ho0,hb⟩;have HO600:=Aside0.mk (Kd.V_lower (Kd.V_mono (ok':=fun k_=>True) ho0 (fun k_ hk_=>trivial)) (below_size Z36));replace HB:=Aside0.mk (below_step Z36 hb);try clear hb;(try clear ho0))| (go_at_call 173;(with_reducible refine(Y32.calls _ _ _ _ A22.out).mono ?_);rintro e w26 ⟨v602,rfl,ho0,hb⟩;replace HO600:=Aside0.mk (Kd.V_below Z62 hb);have HO603:=Aside0.mk (Kd.V_lower (Kd.V_mono (ok':=fun k_=>True) ho0 (fun k_ hk_=>trivial)) (below_size Z36));replace HB:=Aside0.mk (below_step Z36 hb);try clear hb;(try clear ho0);obtain⟨Ao27,co27,eo27⟩ :=Kd.V_slice HO600.out;subst eo27;obtain⟨Ao28,co28,eo28⟩ :=Kd.V_slice HO603.out;subst eo28)| (go_at_call 172;(with_reducible refine(Y19.calls _ _ _ _ _ _ _ _ _ _ Z12 ((Kd.V_reads' HO600.out).2.1) Z13 ((Kd.V_reads' HO603.out).2.1) A23.out).mono ?_);rintro e w29 ⟨v605,v608,rfl,ho0,ho1,hb⟩;replace HO600:=Aside0.mk (Kd.V_below Z62 hb);replace HO603:=Aside0.mk (Kd.V_below (by(with_reducible repeat(first|apply Kd.V_alloc|apply Kd.V_drewN|apply Kd.V_drew));exact HO603.out) hb);have HO606:=Aside0.mk (Kd.V_lower (Kd.V_mono (ok':=fun k_=>True) ho0 (fun k_ hk_=>trivial)) (below_size Z36));have HO609:=Aside0.mk (Kd.V_lower (Kd.V_mono (ok':=fun k_=>True) ho1 (fun k_ hk_=>trivial)) (below_size Z36));replace HB:=Aside0.mk (below_step Z36 hb);try clear hb;(try clear ho0);(try clear ho1)))
    (repeat(go_quiet (first| (go_at_call 115;(with_reducible refine(Y16.calls _ _ _ _ A19.out).mono ?_);rintro e w' ⟨rfl,⟨nd,rfl⟩⟩;(try first|exact⟨rfl,_,World.drewN_drewN _ _ _⟩ |exact⟨rfl,_,Eq.trans (World.drewN_drewN _ _ _) (congrArg (World.drewN _) (Nat.add_assoc _ _ _))⟩))| (go_at_call 115;(with_reducible refine(Y16.calls _ _ _ _ A20.out).mono ?_);rintro e w' ⟨rfl,⟨nd,rfl⟩⟩;(try first|exact⟨rfl,_,World.drewN_drewN _ _ _⟩ |exact⟨rfl,_,Eq.trans (World.drewN_drewN _ _ _) (congrArg (World.drewN _) (Nat.add_assoc _ _ _))⟩))| (go_at_call 173;(with_reducible refine(Y32.calls _ _ _ _ A21.out).mono ?_);rintro e w25 ⟨v599,rfl,ho0,hb⟩;have HO600:=Aside0.mk (Kd.V_lower (Kd.V_mono (ok':=fun k_=>True) ho0 (fun k_ hk_=>trivial)) (below_size Z36));replace HB:=Aside0.mk (below_step Z36 hb);try clear hb;(try clear ho0))| (go_at_call 173;(with_reducible refine(Y32.calls _ _ _ _ A22.out).mono ?_);rintro e w26 ⟨v602,rfl,ho0,hb⟩;replace HO600:=Aside0.mk (Kd.V_below Z62 hb);have HO603:=Aside0.mk (Kd.V_lower (Kd.V_mono (ok':=fun k_=>True) ho0 (fun k_ hk_=>trivial)) (below_size Z36));replace HB:=Aside0.mk (below_step Z36 hb);try clear hb;(try clear ho0);obtain⟨Ao27,co27,eo27⟩ :=Kd.V_slice HO600.out;subst eo27;obtain⟨Ao28,co28,eo28⟩ :=Kd.V_slice HO603.out;subst eo28)| (go_at_call 172;(with_reducible refine(Y19.calls _ _ _ _ _ _ _ _ _ _ Z12 ((Kd.V_reads' HO600.out).2.1) Z13 ((Kd.V_reads' HO603.out).2.1) A23.out).mono ?_);rintro e w29 ⟨v605,v608,rfl,ho0,ho1,hb⟩;replace HO600:=Aside0.mk (Kd.V_below Z62 hb);replace HO603:=Aside0.mk (Kd.V_below (by(with_reducible repeat(first|apply Kd.V_alloc|apply Kd.V_drewN|apply Kd.V_drew));exact HO603.out) hb);have HO606:=Aside0.mk (Kd.V_lower (Kd.V_mono (ok':=fun k_=>True) ho0 (fun k_ hk_=>trivial)) (below_size Z36));have HO609:=Aside0.mk (Kd.V_lower (Kd.V_mono (ok':=fun k_=>True) ho1 (fun k_ hk_=>trivial)) (below_size Z36));replace HB:=Aside0.mk (below_step Z36 hb);try clear hb;(try clear ho0);(try clear ho1)));go_upto_region 12 with (first| (go_at_call 115;(with_reducible refine(Y16.calls _ _ _ _ A19.out).mono ?_);rintro e w' ⟨rfl,⟨nd,rfl⟩⟩;(try first|exact⟨rfl,_,World.drewN_drewN _ _ _⟩ |exact⟨rfl,_,Eq.trans (World.drewN_drewN _ _ _) (congrArg (World.drewN _) (Nat.add_assoc _ _ _))⟩))| (go_at_call 115;(with_reducible refine(Y16.calls _ _ _ _ A20.out).mono ?_);rintro e w' ⟨rfl,⟨nd,rfl⟩⟩;(try first|exact⟨rfl,_,World.drewN_drewN _ _ _⟩ |exact⟨rfl,_,Eq.trans (World.drewN_drewN _ _ _) (congrArg (World.drewN _) (Nat.add_assoc _ _ _))⟩))| (go_at_call 173;(with_reducible refine(Y32.calls _ _ _ _ A21.out).mono ?_);rintro e w25 ⟨v599,rfl,ho0,hb⟩;have HO600:=Aside0.mk (Kd.V_lower (Kd.V_mono (ok':=fun k_=>True) ho0 (fun k_ hk_=>trivial)) (below_size Z36));replace HB:=Aside0.mk (below_step Z36 hb);try clear hb;(try clear ho0))| (go_at_call 173;(with_reducible refine(Y32.calls _ _ _ _ A22.out).mono ?_);rintro e w26 ⟨v602,rfl,ho0,hb⟩;replace HO600:=Aside0.mk (Kd.V_below Z62 hb);have HO603:=Aside0.mk (Kd.V_lower (Kd.V_mono (ok':=fun k_=>True) ho0 (fun k_ hk_=>trivial)) (below_size Z36));replace HB:=Aside0.mk (below_step Z36 hb);try clear hb;(try clear ho0);obtain⟨Ao27,co27,eo27⟩ :=Kd.V_slice HO600.out;subst eo27;obtain⟨Ao28,co28,eo28⟩ :=Kd.V_slice HO603.out;subst eo28)| (go_at_call 172;(with_reducible refine(Y19.calls _ _ _ _ _ _ _ _ _ _ Z12 ((Kd.V_reads' HO600.out).2.1) Z13 ((Kd.V_reads' HO603.out).2.1) A23.out).mono ?_);rintro e w29 ⟨v605,v608,rfl,ho0,ho1,hb⟩;replace HO600:=Aside0.mk (Kd.V_below Z62 hb);replace HO603:=Aside0.mk (Kd.V_below (by(with_reducible repeat(first|apply Kd.V_alloc|apply Kd.V_drewN|apply Kd.V_drew));exact HO603.out) hb);have HO606:=Aside0.mk (Kd.V_lower (Kd.V_mono (ok':=fun k_=>True) ho0 (fun k_ hk_=>trivial)) (below_size Z36));have HO609:=Aside0.mk (Kd.V_lower (Kd.V_mono (ok':=fun k_=>True) ho1 (fun k_ hk_=>trivial)) (below_size Z36));replace HB:=Aside0.mk (below_step Z36 hb);try clear hb;(try clear ho0);(try clear ho1)))));(try simp only[Act.put,List.setIfInBounds_toArray,List.set_cons_zero,List.set_cons_succ])
    go_cut [78] (fun v78 wc=> ∃(kq:Nat) (x78_23:Bool),v78= .bool x78_23∧Aside0 (Y9.j1 kq t594 t596 t597 t604 t607 x78_23=some (r1,r2))∧Aside0 (kq≤kj4)∧Aside0 (Kd.V (Kd.int .i64) 3 wc w.heap.size (fun _=>True) v605 t604)∧Aside0 (Kd.V (Kd.int .i64) 3 wc w.heap.size (fun _=>True) v608 t607)∧Aside0 (Below w.heap.size w wc))
    case first=>
     have H:=HC24.out;clear HC24;by_cases c30:t594=true
     ·subst c30;rw[if_pos rfl] at H;have H':=Aside0.mk H;clear H;obtain⟨Ao31,co31,eo31⟩ :=Kd.V_slice HO609.out;subst eo31;(go_wp2);(repeat(go_quiet (fail);try go_wp2));go_meet
      case rel=>exact⟨_,(decide ((t607.length:Int) > 0)),Z86,H',⟨by have:=HJ4.out;first|omega|exact Nat.le_refl _⟩,⟨by(with_reducible repeat(first|apply Kd.V_alloc|apply Kd.V_drewN|apply Kd.V_drew));exact HO606.out⟩,⟨by(with_reducible repeat(first|apply Kd.V_alloc|apply Kd.V_drewN|apply Kd.V_drew));exact HO609.out⟩,⟨Z36⟩⟩
     ·replace c30:=Bool.eq_false_iff.mpr c30;subst c30;rw[if_neg (show¬(false=true) by decide)] at H;have H':=Aside0.mk H;clear H;(go_wp2);(repeat(go_quiet (fail);try go_wp2));go_meet
      case rel=>exact⟨_,(false),Z86,H',⟨by have:=HJ4.out;first|omega|exact Nat.le_refl _⟩,⟨by(with_reducible repeat(first|apply Kd.V_alloc|apply Kd.V_drewN|apply Kd.V_drew));exact HO606.out⟩,⟨by(with_reducible repeat(first|apply Kd.V_alloc|apply Kd.V_drewN|apply Kd.V_drew));exact HO609.out⟩,⟨Z36⟩⟩
    case rest=>
     clear HC24;obtain⟨kq,x78_23,rfl,HA,HJ23,HO_16,HO_17,HB⟩ :=hcut;cases kq with
     |zero=>exact absurd HA.out (by simp[Y9.j1])
     |succ kj23=>
      have H:=HA.out;clear HA;simp only[Y9.j1] at H;by_cases c32:x78_23=true
      ·subst c32;rw[if_pos rfl] at H;obtain⟨y610,hy610⟩ : ∃y_:List Int,y_= (([1]:List Int)):= ⟨_,rfl⟩
       (try rw[←hy610] at H);have Ny610:=Aside0.mk hy610;clear hy610;obtain⟨t613,A33,H⟩ :=Zb H;(try dsimp only at H);obtain⟨t616,A34,H⟩ :=Zb H;(try dsimp only at H);obtain⟨t619,A35,H⟩ :=Zb H;(try dsimp only at H);obtain⟨t622,A36,H⟩ :=Zb H;(try dsimp only at H);obtain⟨t623,A37,H⟩ :=Zb H;(try dsimp only at H);simp only[Option.some.injEq,Prod.mk.injEq] at H;obtain⟨rfl,rfl⟩ :=H;(go_wp2_with(first| ((with_reducible refine gate_dst (N:=80) rfl ?_);(try(refine gate_guard (by rfl) ?_;dsimp only));refine Kd.R_lit (Kd.int .i64) _ 3 ?hg (N:=80) ?hd (xs:=([1]:List Int)) (inner:=[.int .i64 1]) (ok:=fun _=>True) (okp:=fun _=>True) ?hr ?hp (fun _ hk=>hk) trivial (Below.refl _ _) (Nat.le_refl _) Z93 ?_;(case hd=>rfl);(case hg=>rfl);(case hr=>first| (go_simp;done)| (go_simp;rfl));(case hp=>exact(Reps.one (show Kd.M (Kd.int .i64) _ _ _ 1 [.int .i64 1] from rfl) (Reps.none _ _)));intro v611 w38 ho39 hb hg_ hnew_;clear hg_ hnew_;(first|rw[←Ny610.out] at ho39| (simp only[Int.reduceToNat] at ho39;rw[←Ny610.out] at ho39));replace HO_16:=Aside0.mk (Kd.V_elder' Z63 (Kd.R_base ho39) hb);replace HO_17:=Aside0.mk (Kd.V_elder' Z64 (Kd.R_base ho39) hb);have HO612:=Aside0.mk (Kd.R_lower ho39 (below_size Z36));replace HB:=Aside0.mk (below_step Z36 hb);clear hb ho39;obtain⟨Ao40,co40,eo40⟩ :=Kd.V_slice HO_16.out;subst eo40;obtain⟨Ao41,co41,eo41⟩ :=Kd.R_slice HO612.out;subst eo41)| (go_at_call 174;(with_reducible refine(Y10.calls _ _ _ _ _ _ _ _ _ _ _ Z14 ((Kd.V_reads' HO_16.out).2.1) Z15 ((Kd.R_reads' HO612.out).2.1) A33.out).mono ?_);rintro e w42 ⟨v614,rfl,ho0,hb⟩;replace HO_16:=Aside0.mk (Kd.V_below Z63 hb);replace HO_17:=Aside0.mk (Kd.V_below Z64 hb);have HO615:=Aside0.mk (Kd.V_lower (Kd.V_mono (ok':=fun k_=>some k_≠(.slice Ao41 y610.length co41:Value).ownBlock) ho0 (fun k_ hk_=>(Kd.fresh' (Kd.R_lt Z65) k_ hk_))) (below_size Z36));replace HO612:=Aside0.mk (Kd.R_below Z65 hb);replace HB:=Aside0.mk (below_step Z36 hb);try clear hb;(try clear ho0))| (go_at_call 173;(with_reducible refine(Y32.calls _ _ _ _ A34.out).mono ?_);rintro e w43 ⟨v617,rfl,ho0,hb⟩;replace HO_16:=Aside0.mk (Kd.V_below Z63 hb);replace HO_17:=Aside0.mk (Kd.V_below Z64 hb);replace HO615:=Aside0.mk (Kd.V_below Z66 hb);have HO618:=Aside0.mk (Kd.V_lower (Kd.V_mono (ok':=fun k_=>some k_≠(.slice Ao41 y610.length co41:Value).ownBlock) ho0 (fun k_ hk_=>(Kd.fresh' (Kd.R_lt Z65) k_ hk_))) (below_size Z36));replace HO612:=Aside0.mk (Kd.R_below Z65 hb);replace HB:=Aside0.mk (below_step Z36 hb);try clear hb;(try clear ho0);obtain⟨Ao44,co44,eo44⟩ :=Kd.V_slice HO618.out;subst eo44;obtain⟨Ao45,co45,eo45⟩ :=Kd.V_slice HO_17.out;subst eo45)| (go_at_call 174;(with_reducible refine(Y10.calls _ _ _ _ _ _ _ _ _ _ _ Z16 ((Kd.V_reads' HO618.out).2.1) Z17 ((Kd.V_reads' HO_17.out).2.1) A35.out).mono ?_);rintro e w46 ⟨v620,rfl,ho0,hb⟩;replace HO_16:=Aside0.mk (Kd.V_below Z63 hb);replace HO_17:=Aside0.mk (Kd.V_below Z64 hb);replace HO615:=Aside0.mk (Kd.V_below Z66 hb);replace HO618:=Aside0.mk (Kd.V_below Z67 hb);have HO621:=Aside0.mk (Kd.V_lower (Kd.V_mono (ok':=fun k_=>some k_≠(.slice Ao41 y610.length co41:Value).ownBlock) ho0 (fun k_ hk_=>(Kd.fresh' (Kd.R_lt Z65) k_ hk_))) (below_size Z36));replace HO612:=Aside0.mk (Kd.R_below Z65 hb);replace HB:=Aside0.mk (below_step Z36 hb);try clear hb;(try clear ho0);obtain⟨Ao47,co47,eo47⟩ :=Kd.V_slice HO615.out;subst eo47)| (go_at_call 175;(try rw[show(!(t594==t596))= (t594 !=t596) from rfl]);(with_reducible refine(Y31.calls _ _ _ _ _ _ _ (GL_below Z36 HGL.out) Z18 ((Kd.V_reads' HO615.out).2.1) A36.out).mono ?_);rintro e w48 ⟨rfl,hb⟩;replace HO_16:=Aside0.mk (Kd.V_below Z63 hb);replace HO_17:=Aside0.mk (Kd.V_below Z64 hb);replace HO612:=Aside0.mk (Kd.R_below Z65 hb);replace HO615:=Aside0.mk (Kd.V_below Z66 hb);replace HO618:=Aside0.mk (Kd.V_below Z67 hb);replace HO621:=Aside0.mk (Kd.V_below Z68 hb);replace HB:=Aside0.mk (below_step Z36 hb);try clear hb;obtain⟨Ao49,co49,eo49⟩ :=Kd.V_slice HO621.out;subst eo49)| (go_at_call 175;(with_reducible refine(Y31.calls _ _ _ _ _ _ _ (GL_below Z36 HGL.out) Z19 ((Kd.V_reads' HO621.out).2.1) A37.out).mono ?_);rintro e w50 ⟨rfl,hb⟩;replace HO_16:=Aside0.mk (Kd.V_below Z63 hb);replace HO_17:=Aside0.mk (Kd.V_below Z64 hb);replace HO612:=Aside0.mk (Kd.R_below Z65 hb);replace HO615:=Aside0.mk (Kd.V_below Z66 hb);replace HO618:=Aside0.mk (Kd.V_below Z67 hb);replace HO621:=Aside0.mk (Kd.V_below Z68 hb);replace HB:=Aside0.mk (below_step Z36 hb);try clear hb)));(repeat(go_quiet (first| ((with_reducible refine gate_dst (N:=80) rfl ?_);(try(refine gate_guard (by rfl) ?_;dsimp only));refine Kd.R_lit (Kd.int .i64) _ 3 ?hg (N:=80) ?hd (xs:=([1]:List Int)) (inner:=[.int .i64 1]) (ok:=fun _=>True) (okp:=fun _=>True) ?hr ?hp (fun _ hk=>hk) trivial (Below.refl _ _) (Nat.le_refl _) Z93 ?_;(case hd=>rfl);(case hg=>rfl);(case hr=>first| (go_simp;done)| (go_simp;rfl));(case hp=>exact(Reps.one (show Kd.M (Kd.int .i64) _ _ _ 1 [.int .i64 1] from rfl) (Reps.none _ _)));intro v611 w38 ho39 hb hg_ hnew_;clear hg_ hnew_;(first|rw[←Ny610.out] at ho39| (simp only[Int.reduceToNat] at ho39;rw[←Ny610.out] at ho39));replace HO_16:=Aside0.mk (Kd.V_elder' Z63 (Kd.R_base ho39) hb);replace HO_17:=Aside0.mk (Kd.V_elder' Z64 (Kd.R_base ho39) hb);have HO612:=Aside0.mk (Kd.R_lower ho39 (below_size Z36));replace HB:=Aside0.mk (below_step Z36 hb);clear hb ho39;obtain⟨Ao40,co40,eo40⟩ :=Kd.V_slice HO_16.out;subst eo40;obtain⟨Ao41,co41,eo41⟩ :=Kd.R_slice HO612.out;subst eo41)| (go_at_call 174;(with_reducible refine(Y10.calls _ _ _ _ _ _ _ _ _ _ _ Z14 ((Kd.V_reads' HO_16.out).2.1) Z15 ((Kd.R_reads' HO612.out).2.1) A33.out).mono ?_);rintro e w42 ⟨v614,rfl,ho0,hb⟩;replace HO_16:=Aside0.mk (Kd.V_below Z63 hb);replace HO_17:=Aside0.mk (Kd.V_below Z64 hb);have HO615:=Aside0.mk (Kd.V_lower (Kd.V_mono (ok':=fun k_=>some k_≠(.slice Ao41 y610.length co41:Value).ownBlock) ho0 (fun k_ hk_=>(Kd.fresh' (Kd.R_lt Z65) k_ hk_))) (below_size Z36));replace HO612:=Aside0.mk (Kd.R_below Z65 hb);replace HB:=Aside0.mk (below_step Z36 hb);try clear hb;(try clear ho0))| (go_at_call 173;(with_reducible refine(Y32.calls _ _ _ _ A34.out).mono ?_);rintro e w43 ⟨v617,rfl,ho0,hb⟩;replace HO_16:=Aside0.mk (Kd.V_below Z63 hb);replace HO_17:=Aside0.mk (Kd.V_below Z64 hb);replace HO615:=Aside0.mk (Kd.V_below Z66 hb);have HO618:=Aside0.mk (Kd.V_lower (Kd.V_mono (ok':=fun k_=>some k_≠(.slice Ao41 y610.length co41:Value).ownBlock) ho0 (fun k_ hk_=>(Kd.fresh' (Kd.R_lt Z65) k_ hk_))) (below_size Z36));replace HO612:=Aside0.mk (Kd.R_below Z65 hb);replace HB:=Aside0.mk (below_step Z36 hb);try clear hb;(try clear ho0);obtain⟨Ao44,co44,eo44⟩ :=Kd.V_slice HO618.out;subst eo44;obtain⟨Ao45,co45,eo45⟩ :=Kd.V_slice HO_17.out;subst eo45)| (go_at_call 174;(with_reducible refine(Y10.calls _ _ _ _ _ _ _ _ _ _ _ Z16 ((Kd.V_reads' HO618.out).2.1) Z17 ((Kd.V_reads' HO_17.out).2.1) A35.out).mono ?_);rintro e w46 ⟨v620,rfl,ho0,hb⟩;replace HO_16:=Aside0.mk (Kd.V_below Z63 hb);replace HO_17:=Aside0.mk (Kd.V_below Z64 hb);replace HO615:=Aside0.mk (Kd.V_below Z66 hb);replace HO618:=Aside0.mk (Kd.V_below Z67 hb);have HO621:=Aside0.mk (Kd.V_lower (Kd.V_mono (ok':=fun k_=>some k_≠(.slice Ao41 y610.length co41:Value).ownBlock) ho0 (fun k_ hk_=>(Kd.fresh' (Kd.R_lt Z65) k_ hk_))) (below_size Z36));replace HO612:=Aside0.mk (Kd.R_below Z65 hb);replace HB:=Aside0.mk (below_step Z36 hb);try clear hb;(try clear ho0);obtain⟨Ao47,co47,eo47⟩ :=Kd.V_slice HO615.out;subst eo47)| (go_at_call 175;(try rw[show(!(t594==t596))= (t594 !=t596) from rfl]);(with_reducible refine(Y31.calls _ _ _ _ _ _ _ (GL_below Z36 HGL.out) Z18 ((Kd.V_reads' HO615.out).2.1) A36.out).mono ?_);rintro e w48 ⟨rfl,hb⟩;replace HO_16:=Aside0.mk (Kd.V_below Z63 hb);replace HO_17:=Aside0.mk (Kd.V_below Z64 hb);replace HO612:=Aside0.mk (Kd.R_below Z65 hb);replace HO615:=Aside0.mk (Kd.V_below Z66 hb);replace HO618:=Aside0.mk (Kd.V_below Z67 hb);replace HO621:=Aside0.mk (Kd.V_below Z68 hb);replace HB:=Aside0.mk (below_step Z36 hb);try clear hb;obtain⟨Ao49,co49,eo49⟩ :=Kd.V_slice HO621.out;subst eo49)| (go_at_call 175;(with_reducible refine(Y31.calls _ _ _ _ _ _ _ (GL_below Z36 HGL.out) Z19 ((Kd.V_reads' HO621.out).2.1) A37.out).mono ?_);rintro e w50 ⟨rfl,hb⟩;replace HO_16:=Aside0.mk (Kd.V_below Z63 hb);replace HO_17:=Aside0.mk (Kd.V_below Z64 hb);replace HO612:=Aside0.mk (Kd.R_below Z65 hb);replace HO615:=Aside0.mk (Kd.V_below Z66 hb);replace HO618:=Aside0.mk (Kd.V_below Z67 hb);replace HO621:=Aside0.mk (Kd.V_below Z68 hb);replace HB:=Aside0.mk (below_step Z36 hb);try clear hb));try go_wp2_with(first| ((with_reducible refine gate_dst (N:=80) rfl ?_);(try(refine gate_guard (by rfl) ?_;dsimp only));refine Kd.R_lit (Kd.int .i64) _ 3 ?hg (N:=80) ?hd (xs:=([1]:List Int)) (inner:=[.int .i64 1]) (ok:=fun _=>True) (okp:=fun _=>True) ?hr ?hp (fun _ hk=>hk) trivial (Below.refl _ _) (Nat.le_refl _) Z93 ?_;(case hd=>rfl);(case hg=>rfl);(case hr=>first| (go_simp;done)| (go_simp;rfl));(case hp=>exact(Reps.one (show Kd.M (Kd.int .i64) _ _ _ 1 [.int .i64 1] from rfl) (Reps.none _ _)));intro v611 w38 ho39 hb hg_ hnew_;clear hg_ hnew_;(first|rw[←Ny610.out] at ho39| (simp only[Int.reduceToNat] at ho39;rw[←Ny610.out] at ho39));replace HO_16:=Aside0.mk (Kd.V_elder' Z63 (Kd.R_base ho39) hb);replace HO_17:=Aside0.mk (Kd.V_elder' Z64 (Kd.R_base ho39) hb);have HO612:=Aside0.mk (Kd.R_lower ho39 (below_size Z36));replace HB:=Aside0.mk (below_step Z36 hb);clear hb ho39;obtain⟨Ao40,co40,eo40⟩ :=Kd.V_slice HO_16.out;subst eo40;obtain⟨Ao41,co41,eo41⟩ :=Kd.R_slice HO612.out;subst eo41)| (go_at_call 174;(with_reducible refine(Y10.calls _ _ _ _ _ _ _ _ _ _ _ Z14 ((Kd.V_reads' HO_16.out).2.1) Z15 ((Kd.R_reads' HO612.out).2.1) A33.out).mono ?_);rintro e w42 ⟨v614,rfl,ho0,hb⟩;replace HO_16:=Aside0.mk (Kd.V_below Z63 hb);replace HO_17:=Aside0.mk (Kd.V_below Z64 hb);have HO615:=Aside0.mk (Kd.V_lower (Kd.V_mono (ok':=fun k_=>some k_≠(.slice Ao41 y610.length co41:Value).ownBlock) ho0 (fun k_ hk_=>(Kd.fresh' (Kd.R_lt Z65) k_ hk_))) (below_size Z36));replace HO612:=Aside0.mk (Kd.R_below Z65 hb);replace HB:=Aside0.mk (below_step Z36 hb);try clear hb;(try clear ho0))| (go_at_call 173;(with_reducible refine(Y32.calls _ _ _ _ A34.out).mono ?_);rintro e w43 ⟨v617,rfl,ho0,hb⟩;replace HO_16:=Aside0.mk (Kd.V_below Z63 hb);replace HO_17:=Aside0.mk (Kd.V_below Z64 hb);replace HO615:=Aside0.mk (Kd.V_below Z66 hb);have HO618:=Aside0.mk (Kd.V_lower (Kd.V_mono (ok':=fun k_=>some k_≠(.slice Ao41 y610.length co41:Value).ownBlock) ho0 (fun k_ hk_=>(Kd.fresh' (Kd.R_lt Z65) k_ hk_))) (below_size Z36));replace HO612:=Aside0.mk (Kd.R_below Z65 hb);replace HB:=Aside0.mk (below_step Z36 hb);try clear hb;(try clear ho0);obtain⟨Ao44,co44,eo44⟩ :=Kd.V_slice HO618.out;subst eo44;obtain⟨Ao45,co45,eo45⟩ :=Kd.V_slice HO_17.out;subst eo45)| (go_at_call 174;(with_reducible refine(Y10.calls _ _ _ _ _ _ _ _ _ _ _ Z16 ((Kd.V_reads' HO618.out).2.1) Z17 ((Kd.V_reads' HO_17.out).2.1) A35.out).mono ?_);rintro e w46 ⟨v620,rfl,ho0,hb⟩;replace HO_16:=Aside0.mk (Kd.V_below Z63 hb);replace HO_17:=Aside0.mk (Kd.V_below Z64 hb);replace HO615:=Aside0.mk (Kd.V_below Z66 hb);replace HO618:=Aside0.mk (Kd.V_below Z67 hb);have HO621:=Aside0.mk (Kd.V_lower (Kd.V_mono (ok':=fun k_=>some k_≠(.slice Ao41 y610.length co41:Value).ownBlock) ho0 (fun k_ hk_=>(Kd.fresh' (Kd.R_lt Z65) k_ hk_))) (below_size Z36));replace HO612:=Aside0.mk (Kd.R_below Z65 hb);replace HB:=Aside0.mk (below_step Z36 hb);try clear hb;(try clear ho0);obtain⟨Ao47,co47,eo47⟩ :=Kd.V_slice HO615.out;subst eo47)| (go_at_call 175;(try rw[show(!(t594==t596))= (t594 !=t596) from rfl]);(with_reducible refine(Y31.calls _ _ _ _ _ _ _ (GL_below Z36 HGL.out) Z18 ((Kd.V_reads' HO615.out).2.1) A36.out).mono ?_);rintro e w48 ⟨rfl,hb⟩;replace HO_16:=Aside0.mk (Kd.V_below Z63 hb);replace HO_17:=Aside0.mk (Kd.V_below Z64 hb);replace HO612:=Aside0.mk (Kd.R_below Z65 hb);replace HO615:=Aside0.mk (Kd.V_below Z66 hb);replace HO618:=Aside0.mk (Kd.V_below Z67 hb);replace HO621:=Aside0.mk (Kd.V_below Z68 hb);replace HB:=Aside0.mk (below_step Z36 hb);try clear hb;obtain⟨Ao49,co49,eo49⟩ :=Kd.V_slice HO621.out;subst eo49)| (go_at_call 175;(with_reducible refine(Y31.calls _ _ _ _ _ _ _ (GL_below Z36 HGL.out) Z19 ((Kd.V_reads' HO621.out).2.1) A37.out).mono ?_);rintro e w50 ⟨rfl,hb⟩;replace HO_16:=Aside0.mk (Kd.V_below Z63 hb);replace HO_17:=Aside0.mk (Kd.V_below Z64 hb);replace HO612:=Aside0.mk (Kd.R_below Z65 hb);replace HO615:=Aside0.mk (Kd.V_below Z66 hb);replace HO618:=Aside0.mk (Kd.V_below Z67 hb);replace HO621:=Aside0.mk (Kd.V_below Z68 hb);replace HB:=Aside0.mk (below_step Z36 hb);try clear hb))));(go_ret2);exact⟨Z81,Z36⟩
      ·replace c32:=Bool.eq_false_iff.mpr c32;subst c32;rw[if_neg (show¬(false=true) by decide)] at H;obtain⟨t624,A51,H⟩ :=Zb H;(try dsimp only at H);obtain⟨t625,A52,H⟩ :=Zb H;(try dsimp only at H);simp only[Option.some.injEq,Prod.mk.injEq] at H;obtain⟨rfl,rfl⟩ :=H;obtain⟨Ao53,co53,eo53⟩ :=Kd.V_slice HO_16.out;subst eo53;(go_wp2_with(first| (go_at_call 175;(try rw[show(!(t594==t596))= (t594 !=t596) from rfl]);(with_reducible refine(Y31.calls _ _ _ _ _ _ _ (GL_below Z36 HGL.out) Z14 ((Kd.V_reads' HO_16.out).2.1) A51.out).mono ?_);rintro e w54 ⟨rfl,hb⟩;replace HO_16:=Aside0.mk (Kd.V_below Z63 hb);replace HO_17:=Aside0.mk (Kd.V_below Z64 hb);replace HB:=Aside0.mk (below_step Z36 hb);try clear hb;obtain⟨Ao55,co55,eo55⟩ :=Kd.V_slice HO_17.out;subst eo55)| (go_at_call 175;(with_reducible refine(Y31.calls _ _ _ _ _ _ _ (GL_below Z36 HGL.out) Z17 ((Kd.V_reads' HO_17.out).2.1) A52.out).mono ?_);rintro e w56 ⟨rfl,hb⟩;replace HO_16:=Aside0.mk (Kd.V_below Z63 hb);replace HO_17:=Aside0.mk (Kd.V_below Z64 hb);replace HB:=Aside0.mk (below_step Z36 hb);try clear hb)));(repeat(go_quiet (first| (go_at_call 175;(try rw[show(!(t594==t596))= (t594 !=t596) from rfl]);(with_reducible refine(Y31.calls _ _ _ _ _ _ _ (GL_below Z36 HGL.out) Z14 ((Kd.V_reads' HO_16.out).2.1) A51.out).mono ?_);rintro e w54 ⟨rfl,hb⟩;replace HO_16:=Aside0.mk (Kd.V_below Z63 hb);replace HO_17:=Aside0.mk (Kd.V_below Z64 hb);replace HB:=Aside0.mk (below_step Z36 hb);try clear hb;obtain⟨Ao55,co55,eo55⟩ :=Kd.V_slice HO_17.out;subst eo55)| (go_at_call 175;(with_reducible refine(Y31.calls _ _ _ _ _ _ _ (GL_below Z36 HGL.out) Z17 ((Kd.V_reads' HO_17.out).2.1) A52.out).mono ?_);rintro e w56 ⟨rfl,hb⟩;replace HO_16:=Aside0.mk (Kd.V_below Z63 hb);replace HO_17:=Aside0.mk (Kd.V_below Z64 hb);replace HB:=Aside0.mk (below_step Z36 hb);try clear hb));try go_wp2_with(first| (go_at_call 175;(try rw[show(!(t594==t596))= (t594 !=t596) from rfl]);(with_reducible refine(Y31.calls _ _ _ _ _ _ _ (GL_below Z36 HGL.out) Z14 ((Kd.V_reads' HO_16.out).2.1) A51.out).mono ?_);rintro e w54 ⟨rfl,hb⟩;replace HO_16:=Aside0.mk (Kd.V_below Z63 hb);replace HO_17:=Aside0.mk (Kd.V_below Z64 hb);replace HB:=Aside0.mk (below_step Z36 hb);try clear hb;obtain⟨Ao55,co55,eo55⟩ :=Kd.V_slice HO_17.out;subst eo55)| (go_at_call 175;(with_reducible refine(Y31.calls _ _ _ _ _ _ _ (GL_below Z36 HGL.out) Z17 ((Kd.V_reads' HO_17.out).2.1) A52.out).mono ?_);rintro e w56 ⟨rfl,hb⟩;replace HO_16:=Aside0.mk (Kd.V_below Z63 hb);replace HO_17:=Aside0.mk (Kd.V_below Z64 hb);replace HB:=Aside0.mk (below_step Z36 hb);try clear hb))));(go_ret2);exact⟨Z81,Z36⟩
theorem Y41.calls (a0:ByteArray) (r:ByteArray) (w:World) (h:Y41.f a0=some r):
  Calls Tryz.prog 169 #[.string a0] w fun e w'=>e= .returned (.string r)∧Drawn0 w w':=by
 have H:=h;clear h;unfold Y41.f at H;obtain⟨⟨t626,t627⟩,A2,H⟩ :=Zb H;try dsimp only at H
 obtain rfl:=Option.some.inj H;go_enter Tryz.func169,Tryz.ntmps169
 go_wp2_with(first| (refine Zq Tryz.func115 (Y16.calls _ _ _ _ A2.out) fun nd=>?_))
 go_ret
 exact⟨Z86,Z82⟩
theorem Y43.calls (k:Nat) (a0:ByteArray) (a1:ByteArray) (r:ByteArray) (w:World) (hGL:GL w) (h:Y43.f k a0 a1=some r):
  Calls Tryz.prog 110 #[.string a0,.string a1] w fun e w'=>e= .returned (.string r)∧Below w.heap.size w w':=by
 have HGL:=Aside0.mk hGL;clear hGL;have HB:=Aside0.mk (Below.refl w.heap.size w);have H:=h;clear h;unfold Y43.f at H;obtain⟨t628,A3,H⟩ :=Zb H;try dsimp only at H
 obtain⟨t629,A4,H⟩ :=Zb H;try dsimp only at H
 have H':=Aside0.mk H;clear H;go_enter Tryz.func110,Tryz.ntmps110
 go_wp2_with(first| (refine Zq Tryz.func169 (Y41.calls _ _ _ A3.out) fun nd=>?_)| (refine Zq Tryz.func169 (Y41.calls _ _ _ A4.out) fun nd=>?_))
 go_loopg [0,1] k (fun kq v0 v1 w'=> ∃(x0_1:ByteArray) (x1_1:ByteArray),v0= .string x0_1∧v1= .string x1_1∧Aside0 (Y43.l0 kq x0_1 x1_1=some r)∧Aside0 (kq≤k)∧Aside0 (Below w.heap.size w w'))
 case atStart=>exact⟨(t628),(t629),Z86,Z86,H',⟨Nat.le_refl _⟩,⟨Z36⟩⟩
 case round=>
  clear H';obtain⟨x0_1,x1_1,rfl,rfl,HA,HK1,HB⟩ :=hrel;cases gk with
  |zero=>exact absurd HA.out (by simp[Y43.l0])
  |succ k1=>
   have H:=HA.out;clear HA;simp only[Y43.l0] at H;obtain⟨H,c5b0,c5b1,-⟩ | ⟨H,c5b0,c5b1,c5⟩ :=XE H
   ·obtain rfl:=Option.some.inj H;(go_wp2);(go_ret);exact⟨Z81,Z36⟩
   ·obtain⟨⟨t630,t631⟩,A6,H⟩ :=Zb H;(try dsimp only at H);have H':=Aside0.mk H;clear H;(go_wp2_with(first| (refine Zm Tryz.func118 (Y9.calls _ _ _ _ _ _ (GL_below Z36 HGL.out) A6.out) fun w7 hb=>?_;replace HB:=Zn hb;try clear hb)));go_roundg k1
    case measure=>have:=HK1.out;omega
    case rel=>exact⟨(x1_1),(t631),Z86,Z86,H',⟨Z89⟩,⟨Z36⟩⟩
theorem Y24.calls (k:Nat) (a0:ByteArray) (a1:ByteArray) (r:ByteArray) (w:World) (hGL:GL w) (h:Y24.f k a0 a1=some r):
  Calls Tryz.prog 116 #[.string a0,.string a1] w fun e w'=>e= .returned (.string r)∧Below w.heap.size w w':=by
 have HGL:=Aside0.mk hGL;clear hGL;have HB:=Aside0.mk (Below.refl w.heap.size w);have H:=h;clear h;unfold Y24.f at H;obtain⟨⟨t632,t633⟩,A3,H⟩ :=Zb H;try dsimp only at H
 obtain⟨⟨t634,t635⟩,A4,H⟩ :=Zb H;try dsimp only at H
 have HC5:=Aside0.mk H;clear H;go_enter Tryz.func116,Tryz.ntmps116
 go_upto_if 22 with (first| (go_at_call 170;(with_reducible refine(Y35.calls _ _ _ _ A3.out).mono ?_);rintro e w6 ⟨rfl,hb⟩;replace HB:=Zn hb;try clear hb;(try simp only[errW_none,errW_some]))| (go_at_call 170;(with_reducible refine(Y35.calls _ _ _ _ A4.out).mono ?_);rintro e w7 ⟨rfl,hb⟩;replace HB:=Zn hb;try clear hb;(try simp only[errW_none,errW_some])))
 repeat(go_quiet (first| (go_at_call 170;(with_reducible refine(Y35.calls _ _ _ _ A3.out).mono ?_);rintro e w6 ⟨rfl,hb⟩;replace HB:=Zn hb;try clear hb;(try simp only[errW_none,errW_some]))| (go_at_call 170;(with_reducible refine(Y35.calls _ _ _ _ A4.out).mono ?_);rintro e w7 ⟨rfl,hb⟩;replace HB:=Zn hb;try clear hb;(try simp only[errW_none,errW_some])));go_upto_if 22 with (first| (go_at_call 170;(with_reducible refine(Y35.calls _ _ _ _ A3.out).mono ?_);rintro e w6 ⟨rfl,hb⟩;replace HB:=Zn hb;try clear hb;(try simp only[errW_none,errW_some]))| (go_at_call 170;(with_reducible refine(Y35.calls _ _ _ _ A4.out).mono ?_);rintro e w7 ⟨rfl,hb⟩;replace HB:=Zn hb;try clear hb;(try simp only[errW_none,errW_some]))))
 (try simp only[Act.put,List.setIfInBounds_toArray,List.set_cons_zero,List.set_cons_succ]);go_cut [5,7] (fun v5 v7 wc=> ∃(kq:Nat) (x5_4:Int) (x7_4:Int),v5= .int .i64 x5_4∧v7= .int .i64 x7_4∧Aside0 (Y24.j0 kq x5_4 x7_4=some r)∧Aside0 (kq≤k)∧Aside0 (Below w.heap.size w wc))
 case first=>
  have H:=HC5.out;clear HC5;obtain⟨H,c8b0⟩ | ⟨H,c8b0⟩ :=Xd H
  ·(first|rw[c8b0]| (simp only[i64_w,i32_w];rw[c8b0])|skip);have H':=Aside0.mk H;clear H;(go_wp2);(repeat(go_quiet (fail);try go_wp2));go_meet
   case rel=>exact⟨_,(wrap64 (-t632)),(wrap64 (-t634)),Z86,Z86,H',⟨Z88⟩,⟨Z36⟩⟩
  ·(first|rw[c8b0]| (simp only[i64_w,i32_w];rw[c8b0])|skip);have H':=Aside0.mk H;clear H;(go_wp2);(repeat(go_quiet (fail);try go_wp2));go_meet
   case rel=>exact⟨_,(t632),(t634),Z86,Z86,H',⟨Z88⟩,⟨Z36⟩⟩
 case rest=>
  clear HC5;obtain⟨kq,x5_4,x7_4,rfl,rfl,HA,HJ4,HB⟩ :=hcut;cases kq with
  |zero=>exact absurd HA.out (by simp[Y24.j0])
  |succ kj4=>
   have H:=HA.out;clear HA;simp only[Y24.j0] at H;have HC9:=Aside0.mk H;clear H;go_upto_if 30 with (fail)
   (repeat(go_quiet (fail);go_upto_if 30 with (fail)));go_cut [9] (fun v9 wc=> ∃(kq:Nat) (x9_8:Int),v9= .int .i64 x9_8∧Aside0 (Y24.j1 kq x5_4 x7_4 x9_8 x7_4=some r)∧Aside0 (kq≤kj4)∧Aside0 (Below w.heap.size w wc))
   case first=>
    have H:=HC9.out;clear HC9;obtain⟨H,c10b0⟩ | ⟨H,c10b0⟩ :=Xd H
    ·(first|rw[c10b0]| (simp only[i64_w,i32_w];rw[c10b0])|skip);have H':=Aside0.mk H;clear H;(go_wp2);(repeat(go_quiet (fail);try go_wp2));go_meet
     case rel=>exact⟨_,(wrap64 (-x5_4)),Z86,H',⟨by have:=HJ4.out;first|omega|exact Nat.le_refl _⟩,⟨Z36⟩⟩
    ·(first|rw[c10b0]| (simp only[i64_w,i32_w];rw[c10b0])|skip);have H':=Aside0.mk H;clear H;(go_wp2);(repeat(go_quiet (fail);try go_wp2));go_meet
     case rel=>exact⟨_,(x5_4),Z86,H',⟨by have:=HJ4.out;first|omega|exact Nat.le_refl _⟩,⟨Z36⟩⟩
   case rest=>
    clear HC9;obtain⟨kq,x9_8,rfl,HA,HJ8,HB⟩ :=hcut;cases kq with
    |zero=>exact absurd HA.out (by simp[Y24.j1])
    |succ kj8=>
     have H:=HA.out;clear HA;simp only[Y24.j1] at H;have H':=Aside0.mk H;clear H;(go_wp2);(repeat(go_quiet (fail);try go_wp2));go_loopg [9,10] kj8 (fun kq v9 v10 w'=> ∃(x9_3:Int) (x10_3:Int),v9= .int .i64 x9_3∧v10= .int .i64 x10_3∧Aside0 (Y24.l0 kq x5_4 x7_4 x9_3 x10_3=some r)∧Aside0 (kq≤kj8)∧Aside0 (Below w.heap.size w w'))
     case atStart=>exact⟨(x9_8),(x7_4),Z86,Z86,H',⟨Nat.le_refl _⟩,⟨Z36⟩⟩
     case round=>
      clear H';obtain⟨x9_3,x10_3,rfl,rfl,HA,HK3,HB⟩ :=hrel;cases gk with
      |zero=>exact absurd HA.out (by simp[Y24.l0])
      |succ k3=>
       have H:=HA.out;clear HA;simp only[Y24.l0] at H;obtain⟨H,c11b0,c11b1,-⟩ | ⟨H,c11b0,c11b1,c11⟩ :=XE H
       ·obtain⟨H,c12b0,c12b1,c12⟩ :=XqE H;obtain⟨H,c13b0,c13b1,-⟩ | ⟨H,c13b0,c13b1,c13⟩ :=XE H
        ·obtain⟨t636,A14,H⟩ :=Zb H;(try dsimp only at H);obtain rfl:=Option.some.inj H;(go_wp2_with(first| (go_at_call 122;(with_reducible refine(Y36.calls _ _ _ (GL_below Z36 HGL.out) A14.out).mono ?_);rintro e w15 ⟨rfl,hb⟩;replace HB:=Zn hb;try clear hb)));(repeat(go_quiet (first| (go_at_call 122;(with_reducible refine(Y36.calls _ _ _ (GL_below Z36 HGL.out) A14.out).mono ?_);rintro e w15 ⟨rfl,hb⟩;replace HB:=Zn hb;try clear hb));try go_wp2_with(first| (go_at_call 122;(with_reducible refine(Y36.calls _ _ _ (GL_below Z36 HGL.out) A14.out).mono ?_);rintro e w15 ⟨rfl,hb⟩;replace HB:=Zn hb;try clear hb))));(go_ret);exact⟨Z81,Z36⟩
        ·obtain⟨t637,A16,H⟩ :=Zb H;(try dsimp only at H);obtain⟨H,c17b0,c17b1,c17⟩ :=XkT H;(try have c17b2:(9223372036854775807<t637.size+1)=False:=eq_false (Nat.not_lt.2 c17));obtain⟨t638,A18,H⟩ :=Zb H;(try dsimp only at H);obtain⟨H,c19b0,c19b1,c19⟩ :=XkT H;(try have c19b2:(9223372036854775807< (t637++ (⟨#[47]⟩ :ByteArray)).size+t638.size)=False:=eq_false (Nat.not_lt.2 c19));obtain rfl:=Option.some.inj H;(go_wp2_with(first| (go_at_call 122;(with_reducible refine(Y36.calls _ _ _ (GL_below Z36 HGL.out) A16.out).mono ?_);rintro e w20 ⟨rfl,hb⟩;replace HB:=Zn hb;try clear hb)| (go_at_call 122;(with_reducible refine(Y36.calls _ _ _ (GL_below Z36 HGL.out) A18.out).mono ?_);rintro e w21 ⟨rfl,hb⟩;replace HB:=Zn hb;try clear hb)));(repeat(go_quiet (first| (go_at_call 122;(with_reducible refine(Y36.calls _ _ _ (GL_below Z36 HGL.out) A16.out).mono ?_);rintro e w20 ⟨rfl,hb⟩;replace HB:=Zn hb;try clear hb)| (go_at_call 122;(with_reducible refine(Y36.calls _ _ _ (GL_below Z36 HGL.out) A18.out).mono ?_);rintro e w21 ⟨rfl,hb⟩;replace HB:=Zn hb;try clear hb));try go_wp2_with(first| (go_at_call 122;(with_reducible refine(Y36.calls _ _ _ (GL_below Z36 HGL.out) A16.out).mono ?_);rintro e w20 ⟨rfl,hb⟩;replace HB:=Zn hb;try clear hb)| (go_at_call 122;(with_reducible refine(Y36.calls _ _ _ (GL_below Z36 HGL.out) A18.out).mono ?_);rintro e w21 ⟨rfl,hb⟩;replace HB:=Zn hb;try clear hb))));(go_ret);exact⟨Z81,Z36⟩
       ·have H':=Aside0.mk H;clear H;(go_wp2);(repeat(go_quiet (fail);try go_wp2));go_roundg k3
        case measure=>have:=HJ4.out;have:=HJ8.out;have:=HK3.out;omega
        case rel=>exact⟨(x10_3),(Int.tmod x9_3 x10_3),Z86,Z86,H',⟨by have:=HJ4.out;have:=HJ8.out;have:=HK3.out;omega⟩,⟨Z36⟩⟩
theorem Y28.calls (a0:ByteArray) (r:Int) (w:World) (h:Y28.f a0=some r):
  Calls Tryz.prog 117 #[.string a0] w fun e w'=>e= .returned (.int .i64 r)∧Drawn0 w w':=by
 have H:=h;clear h;unfold Y28.f at H;obtain⟨⟨t639,t640⟩,A2,H⟩ :=Zb H;try dsimp only at H
 by_cases c3:t639=true
 ·subst c3;rw[if_pos rfl] at H;obtain rfl:=Option.some.inj H;go_enter Tryz.func117,Tryz.ntmps117
  go_wp2_with(first| (refine Zq Tryz.func115 (Y16.calls _ _ _ _ A2.out) fun nd=>?_))
  go_ret
  exact⟨Z86,Z82⟩
 ·replace c3:=Bool.eq_false_iff.mpr c3;subst c3;rw[if_neg (show¬(false=true) by decide)] at H;obtain⟨H,c4b0,c4b1,-⟩ | ⟨H,c4b0,c4b1,c4⟩ :=XE H
  ·obtain rfl:=Option.some.inj H;(go_enter Tryz.func117,Tryz.ntmps117);(go_wp2_with(first| (refine Zq Tryz.func115 (Y16.calls _ _ _ _ A2.out) fun nd=>?_)));(go_ret);exact⟨Z86,Z82⟩
  ·obtain rfl:=Option.some.inj H;(go_enter Tryz.func117,Tryz.ntmps117);(go_wp2_with(first| (refine Zq Tryz.func115 (Y16.calls _ _ _ _ A2.out) fun nd=>?_)));(go_ret);exact⟨Z86,Z82⟩
theorem Y7.calls (k:Nat) (a0:ByteArray) (a1:ByteArray) (r:ByteArray) (w:World) (hGL:GL w) (h:Y7.f k a0 a1=some r):
  Calls Tryz.prog 34 #[.string a0,.string a1] w fun e w'=>e= .returned (.string r)∧Below w.heap.size w w':=by
 have HGL:=Aside0.mk hGL;clear hGL;have HB:=Aside0.mk (Below.refl w.heap.size w);have H:=h;clear h;unfold Y7.f at H;have HC3:=Aside0.mk H;clear H;go_enter Tryz.func34,Tryz.ntmps34
 go_upto_region 1 with (fail)
 go_cut [13] (fun v13 wc=> ∃(kq:Nat) (x13_2:Bool),v13= .bool x13_2∧Aside0 (Y7.j0 kq a0 a1 x13_2=some r)∧Aside0 (kq≤k)∧Aside0 (Below w.heap.size w wc))
 case first=>
  have H:=HC3.out;clear HC3;obtain⟨H,c4b0,c4⟩ | ⟨H,c4b0,c4⟩ :=XD H
  ·have c4b1:decide (a0.size≤9)=true:=decide_eq_true Z92;clear c4;(first|rw[c4b0]| (simp only[i64_w,i32_w];rw[c4b0])|skip);have H':=Aside0.mk H;clear H;(go_wp2);go_meet
   case rel=>exact⟨_,(decide ((a1.size:Int)≤9)),Z86,H',⟨Z88⟩,⟨Z36⟩⟩
  ·have c4b1:decide (a0.size≤9)=false:=decide_eq_false Z92;clear c4;(first|rw[c4b0]| (simp only[i64_w,i32_w];rw[c4b0])|skip);have H':=Aside0.mk H;clear H;(go_wp2);go_meet
   case rel=>exact⟨_,(false),Z86,H',⟨Z88⟩,⟨Z36⟩⟩
 case rest=>
  clear HC3;obtain⟨kq,x13_2,rfl,HA,HJ2,HB⟩ :=hcut;cases kq with
  |zero=>exact absurd HA.out (by simp[Y7.j0])
  |succ kj2=>
   have H:=HA.out;clear HA;simp only[Y7.j0] at H;by_cases c5:x13_2=true
   ·subst c5;rw[if_pos rfl] at H;obtain⟨t641,A6,H⟩ :=Zb H;(try dsimp only at H);obtain rfl:=Option.some.inj H;(go_wp2_with(first| (refine Zm Tryz.func116 (Y24.calls _ _ _ _ _ (GL_below Z36 HGL.out) A6.out) fun w7 hb=>?_;replace HB:=Zn hb;try clear hb)));(go_ret);exact⟨Z81,Z36⟩
   ·replace c5:=Bool.eq_false_iff.mpr c5;subst c5;rw[if_neg (show¬(false=true) by decide)] at H;obtain⟨t642,A8,H⟩ :=Zb H;(try dsimp only at H);have HC9:=Aside0.mk H;clear H;go_upto_if 19 with (first| (refine Zq Tryz.func117 (Y28.calls _ _ _ A8.out) fun nd=>?_))
    (try simp only[Act.put,List.setIfInBounds_toArray,List.set_cons_zero,List.set_cons_succ]);go_cut [0,1] (fun v0 v1 wc=> ∃(kq:Nat) (x0_8:ByteArray) (x1_8:ByteArray),v0= .string x0_8∧v1= .string x1_8∧Aside0 (Y7.j1 kq x0_8 x1_8=some r)∧Aside0 (kq≤kj2)∧Aside0 (Below w.heap.size w wc))
    case first=>
     have H:=HC9.out;clear HC9;obtain⟨H,c10b0⟩ | ⟨H,c10b0⟩ :=Xd H
     ·(first|rw[c10b0]| (simp only[i64_w,i32_w];rw[c10b0])|skip);obtain⟨t643,A11,H⟩ :=Zb H;(try dsimp only at H);obtain⟨t644,A12,H⟩ :=Zb H;(try dsimp only at H);have H':=Aside0.mk H;clear H;(go_wp2_with(first| (refine Zq Tryz.func108 (Y44.calls _ _ _ A11.out) fun nd=>?_)| (refine Zq Tryz.func108 (Y44.calls _ _ _ A12.out) fun nd=>?_)));go_meet
      case rel=>exact⟨_,(t643),(t644),Z86,Z86,H',⟨Z84⟩,⟨Z36⟩⟩
     ·(first|rw[c10b0]| (simp only[i64_w,i32_w];rw[c10b0])|skip);have H':=Aside0.mk H;clear H;(go_wp2);go_meet
      case rel=>exact⟨_,(a0),(a1),Z86,Z86,H',⟨Z84⟩,⟨Z36⟩⟩
    case rest=>
     clear HC9;obtain⟨kq,x0_8,x1_8,rfl,rfl,HA,HJ8,HB⟩ :=hcut;cases kq with
     |zero=>exact absurd HA.out (by simp[Y7.j1])
     |succ kj8=>
      have H:=HA.out;clear HA;simp only[Y7.j1] at H;obtain⟨t645,A13,H⟩ :=Zb H;(try dsimp only at H);obtain⟨⟨t646,t647⟩,A14,H⟩ :=Zb H;(try dsimp only at H);obtain⟨⟨t648,t649⟩,A15,H⟩ :=Zb H;(try dsimp only at H);obtain⟨H,c16b0,c16b1,-⟩ | ⟨H,c16b0,c16b1,c16⟩ :=XE H
      ·obtain rfl:=Option.some.inj H;(go_wp2_with(first| (refine Zm Tryz.func110 (Y43.calls _ _ _ _ _ (GL_below Z36 HGL.out) A13.out) fun w17 hb=>?_;replace HB:=Zn hb;try clear hb)| (refine Zm Tryz.func118 (Y9.calls _ _ _ _ _ _ (GL_below Z36 HGL.out) A14.out) fun w18 hb=>?_;replace HB:=Zn hb;try clear hb)| (refine Zm Tryz.func118 (Y9.calls _ _ _ _ _ _ (GL_below Z36 HGL.out) A15.out) fun w19 hb=>?_;replace HB:=Zn hb;try clear hb)));(go_ret);exact⟨Z81,Z36⟩
      ·obtain⟨H,c20b0,c20b1,c20⟩ :=XkT H;(try have c20b2:(9223372036854775807<t646.size+1)=False:=eq_false (Nat.not_lt.2 c20));obtain⟨H,c21b0,c21b1,c21⟩ :=XkT H;(try have c21b2:(9223372036854775807< (t646++ (⟨#[47]⟩ :ByteArray)).size+t648.size)=False:=eq_false (Nat.not_lt.2 c21));obtain rfl:=Option.some.inj H;(go_wp2_with(first| (refine Zm Tryz.func110 (Y43.calls _ _ _ _ _ (GL_below Z36 HGL.out) A13.out) fun w22 hb=>?_;replace HB:=Zn hb;try clear hb)| (refine Zm Tryz.func118 (Y9.calls _ _ _ _ _ _ (GL_below Z36 HGL.out) A14.out) fun w23 hb=>?_;replace HB:=Zn hb;try clear hb)| (refine Zm Tryz.func118 (Y9.calls _ _ _ _ _ _ (GL_below Z36 HGL.out) A15.out) fun w24 hb=>?_;replace HB:=Zn hb;try clear hb)));(go_ret);exact⟨Z81,Z36⟩
theorem Y20.calls (k:Nat) (a0:ByteArray) (r1:ByteArray) (r2:Int) (w:World) (hGL:GL w) (h:Y20.f k a0=some (r1,r2)):
  Calls Tryz.prog 29 #[.string a0] w fun e w'=>e= .returned (.tuple #[.string r1,.int .i64 r2])∧Below w.heap.size w w':=by
 have HGL:=Aside0.mk hGL;clear hGL;have HB:=Aside0.mk (Below.refl w.heap.size w);have H:=h;clear h;unfold Y20.f at H;obtain⟨H,c2b0,c2b1,-⟩ | ⟨H,c2b0,c2b1,c2⟩ :=XE H
 ·simp only[Option.some.injEq,Prod.mk.injEq] at H;obtain⟨rfl,rfl⟩ :=H;go_enter Tryz.func29,Tryz.ntmps29
  go_wp2
  repeat(go_quiet (fail);try go_wp2)
  go_ret2
  exact⟨Z81,Z36⟩
 ·have HC3:=Aside0.mk H;clear H;go_enter Tryz.func29,Tryz.ntmps29
  go_upto_region 4 with (fail)
  repeat(go_quiet (fail);go_upto_region 4 with (fail))
  go_cut [20] (fun v20 wc=> ∃(kq:Nat) (x20_2:Bool),v20= .bool x20_2∧Aside0 (Y20.j0 kq a0 a0 x20_2=some (r1,r2))∧Aside0 (kq≤k)∧Aside0 (Below w.heap.size w wc))
  case first=>
   have H:=HC3.out;clear HC3;obtain⟨H,c4b0,c4⟩ :=XkD H;have c4b1:decide (0<a0.size)=true:=decide_eq_true Z92;clear c4;(first|rw[c4b0]| (simp only[i64_w,i32_w];rw[c4b0])|skip);obtain⟨H,c6b0,c6b1,-⟩ | ⟨H,c6b0,c6b1,c6⟩ :=XE H
   ·have H':=Aside0.mk H;clear H;have p5:0≤(0:Int):=Z92;have q5:0<a0.size:=(by have:(0:Int)< (a0.size:Int):=of_decide_eq_true Z85;omega)
    have hx5: ∀h:0<a0.size,((a0[0]'h).toNat:Int)=bt a0 0:=bt_at a0 0;clear p5;have qi5:(0< (a0.size:Int))=True:=eq_true (of_decide_eq_true Z85);replace q5:=eq_true q5;(go_wp2);(repeat(go_quiet (fail);try go_wp2));go_meet
    case rel=>exact⟨_,(true),Z86,H',⟨Z88⟩,⟨Z36⟩⟩
   ·have H':=Aside0.mk H;clear H;have p5:0≤(0:Int):=Z92;have q5:0<a0.size:=(by have:(0:Int)< (a0.size:Int):=of_decide_eq_true Z85;omega)
    have hx5: ∀h:0<a0.size,((a0[0]'h).toNat:Int)=bt a0 0:=bt_at a0 0;clear p5;have qi5:(0< (a0.size:Int))=True:=eq_true (of_decide_eq_true Z85);replace q5:=eq_true q5;have p7:0≤(0:Int):=Z92;have q7:0<a0.size:=(by have:(0:Int)< (a0.size:Int):=of_decide_eq_true Z85;omega)
    have hx7: ∀h:0<a0.size,((a0[0]'h).toNat:Int)=bt a0 0:=bt_at a0 0;clear p7;have qi7:(0< (a0.size:Int))=True:=eq_true (of_decide_eq_true Z85);replace q7:=eq_true q7;(go_wp2);(repeat(go_quiet (fail);try go_wp2));go_meet
    case rel=>exact⟨_,(((bt a0 0)==45)),Z86,H',⟨Z88⟩,⟨Z36⟩⟩
  case rest=>
   clear HC3;obtain⟨kq,x20_2,rfl,HA,HJ2,HB⟩ :=hcut;cases kq with
   |zero=>exact absurd HA.out (by simp[Y20.j0])
   |succ kj2=>
    have H:=HA.out;clear HA;simp only[Y20.j0] at H;have HC8:=Aside0.mk H;clear H;go_upto_if 20 with (fail)
    (repeat(go_quiet (fail);go_upto_if 20 with (fail)));go_cut [4] (fun v4 wc=> ∃(kq:Nat) (x4_7:ByteArray),v4= .string x4_7∧Aside0 (Y20.j1 kq a0 x4_7=some (r1,r2))∧Aside0 (kq≤kj2)∧Aside0 (Below w.heap.size w wc))
    case first=>
     have H:=HC8.out;clear HC8;by_cases c9:x20_2=true
     ·subst c9;rw[if_pos rfl] at H;obtain⟨H,c10b0,c10b1⟩ :=Xkt H;have H':=Aside0.mk H;clear H;(go_wp2);(repeat(go_quiet (fail);try go_wp2));go_meet
      case rel=>exact⟨_,(a0.extract 1 a0.size),Z86,H',⟨Z84⟩,⟨Z36⟩⟩
     ·replace c9:=Bool.eq_false_iff.mpr c9;subst c9;rw[if_neg (show¬(false=true) by decide)] at H;have H':=Aside0.mk H;clear H;(go_wp2);(repeat(go_quiet (fail);try go_wp2));go_meet
      case rel=>exact⟨_,(a0),Z86,H',⟨Z84⟩,⟨Z36⟩⟩
    case rest=>
     clear HC8;obtain⟨kq,x4_7,rfl,HA,HJ7,HB⟩ :=hcut;cases kq with
     |zero=>exact absurd HA.out (by simp[Y20.j1])
     |succ kj7=>
      have H:=HA.out;clear HA;simp only[Y20.j1] at H;obtain⟨t650,A11,H⟩ :=Zb H;(try dsimp only at H);have HC12:=Aside0.mk H;clear H;go_upto_if 27 with (first| (go_at_call 102;(with_reducible refine(Y37.calls _ _ t650 _ A11.out).mono ?_);rintro e w13 ⟨rfl,hb⟩;replace HB:=Zn hb;try clear hb))
      (repeat(go_quiet (first| (go_at_call 102;(with_reducible refine(Y37.calls _ _ t650 _ A11.out).mono ?_);rintro e w13 ⟨rfl,hb⟩;replace HB:=Zn hb;try clear hb));go_upto_if 27 with (first| (go_at_call 102;(with_reducible refine(Y37.calls _ _ t650 _ A11.out).mono ?_);rintro e w13 ⟨rfl,hb⟩;replace HB:=Zn hb;try clear hb))));(try simp only[Act.put,List.setIfInBounds_toArray,List.set_cons_zero,List.set_cons_succ])
      go_cut [6,7] (fun v6 v7 wc=> ∃(kq:Nat) (x6_11:ByteArray) (x7_11:ByteArray),v6= .string x6_11∧v7= .string x7_11∧Aside0 (Y20.j2 kq a0 x4_7 t650 x6_11 x7_11=some (r1,r2))∧Aside0 (kq≤kj7)∧Aside0 (Below w.heap.size w wc))
      case first=>
       have H:=HC12.out;clear HC12;obtain⟨H,c14⟩ | ⟨H,c14⟩ :=XI H
       ·have c14b0:decide (0≤t650)=true:=decide_eq_true c14;clear c14;(first|rw[c14b0]| (simp only[i64_w,i32_w];rw[c14b0])|skip);obtain⟨H,c15b0,c15b1⟩ :=Xkt H;obtain⟨H,c16b0,c16b1⟩ :=Xkt H;generalize hji17:(wrap64 (t650+1))=ji17 at H;have hji17w:(IntKind.i64.wrap (t650+1))=ji17:=(i64_w _).trans hji17;obtain⟨H,c18b0,c18b1⟩ :=Xkt H;obtain⟨H,c19b0,c19b1⟩ :=Xkt H;have H':=Aside0.mk H;clear H;(go_wp2);(repeat(go_quiet (fail);try go_wp2));go_meet
        case rel=>exact⟨_,(x4_7.extract 0 (t650:Int).toNat),(x4_7.extract ((ji17):Int).toNat x4_7.size),Z86,(by first|rfl| (simp;done)| (simp only[←hji17] <;> (first|rfl|simp))| (simp[*];done)),H',⟨by have:=HJ2.out;have:=HJ7.out;first|omega|exact Nat.le_refl _⟩,⟨Z36⟩⟩
       ·have c14b0:decide (0≤t650)=false:=decide_eq_false c14;clear c14;(first|rw[c14b0]| (simp only[i64_w,i32_w];rw[c14b0])|skip);have H':=Aside0.mk H;clear H;(go_wp2);(repeat(go_quiet (fail);try go_wp2));go_meet
        case rel=>exact⟨_,(x4_7),((⟨#[]⟩ :ByteArray)),Z86,Z86,H',⟨by have:=HJ2.out;have:=HJ7.out;first|omega|exact Nat.le_refl _⟩,⟨Z36⟩⟩
      case rest=>
       clear HC12;obtain⟨kq,x6_11,x7_11,rfl,rfl,HA,HJ11,HB⟩ :=hcut;cases kq with
       |zero=>exact absurd HA.out (by simp[Y20.j2])
       |succ kj11=>
        have H:=HA.out;clear HA;simp only[Y20.j2] at H;have HC20:=Aside0.mk H;clear H;go_upto_region 10 with (fail)
        (repeat(go_quiet (fail);go_upto_region 10 with (fail)));go_cut [46] (fun v46 wc=> ∃(kq:Nat) (x46_19:Bool),v46= .bool x46_19∧Aside0 (Y20.j3 kq a0 x4_7 t650 x6_11 x7_11 x46_19=some (r1,r2))∧Aside0 (kq≤kj11)∧Aside0 (Below w.heap.size w wc))
        case first=>
         have H:=HC20.out;clear HC20;obtain⟨t651,A21,H⟩ :=Zb H;(try dsimp only at H);by_cases c22:t651=true
         ·subst c22;rw[if_pos rfl] at H;obtain⟨H,c23⟩ | ⟨H,c23⟩ :=XI H
          ·have c23b0:decide (0≤t650)=true:=decide_eq_true c23;clear c23;(first|rw[c23b0]| (simp only[i64_w,i32_w];rw[c23b0])|skip);obtain⟨t652,A24,H⟩ :=Zb H;(try dsimp only at H);have H':=Aside0.mk H;clear H;(go_wp2_with(first| (go_at_call 106;(with_reducible refine(Y11.calls _ _ _ _ A21.out).mono ?_);rintro e w' ⟨rfl,⟨nd,rfl⟩⟩;(try first|exact⟨rfl,_,World.drewN_drewN _ _ _⟩ |exact⟨rfl,_,Eq.trans (World.drewN_drewN _ _ _) (congrArg (World.drewN _) (Nat.add_assoc _ _ _))⟩))| (go_at_call 106;(with_reducible refine(Y11.calls _ _ _ _ A24.out).mono ?_);rintro e w' ⟨rfl,⟨nd,rfl⟩⟩;(try first|exact⟨rfl,_,World.drewN_drewN _ _ _⟩ |exact⟨rfl,_,Eq.trans (World.drewN_drewN _ _ _) (congrArg (World.drewN _) (Nat.add_assoc _ _ _))⟩))));go_meet
           case rel=>exact⟨_,(!t652),Z86,H',⟨by have:=HJ2.out;have:=HJ7.out;have:=HJ11.out;first|omega|exact Nat.le_refl _⟩,⟨Z36⟩⟩
          ·have c23b0:decide (0≤t650)=false:=decide_eq_false c23;clear c23;(first|rw[c23b0]| (simp only[i64_w,i32_w];rw[c23b0])|skip);have H':=Aside0.mk H;clear H;(go_wp2_with(first| (go_at_call 106;(with_reducible refine(Y11.calls _ _ _ _ A21.out).mono ?_);rintro e w' ⟨rfl,⟨nd,rfl⟩⟩;(try first|exact⟨rfl,_,World.drewN_drewN _ _ _⟩ |exact⟨rfl,_,Eq.trans (World.drewN_drewN _ _ _) (congrArg (World.drewN _) (Nat.add_assoc _ _ _))⟩))));go_meet
           case rel=>exact⟨_,(false),Z86,H',⟨by have:=HJ2.out;have:=HJ7.out;have:=HJ11.out;first|omega|exact Nat.le_refl _⟩,⟨Z36⟩⟩
         ·replace c22:=Bool.eq_false_iff.mpr c22;subst c22;rw[if_neg (show¬(false=true) by decide)] at H;have H':=Aside0.mk H;clear H;(go_wp2_with(first| (go_at_call 106;(with_reducible refine(Y11.calls _ _ _ _ A21.out).mono ?_);rintro e w' ⟨rfl,⟨nd,rfl⟩⟩;(try first|exact⟨rfl,_,World.drewN_drewN _ _ _⟩ |exact⟨rfl,_,Eq.trans (World.drewN_drewN _ _ _) (congrArg (World.drewN _) (Nat.add_assoc _ _ _))⟩))));go_meet
          case rel=>exact⟨_,(true),Z86,H',⟨by have:=HJ2.out;have:=HJ7.out;have:=HJ11.out;first|omega|exact Nat.le_refl _⟩,⟨Z36⟩⟩
        case rest=>
         clear HC20;obtain⟨kq,x46_19,rfl,HA,HJ19,HB⟩ :=hcut;cases kq with
         |zero=>exact absurd HA.out (by simp[Y20.j3])
         |succ kj19=>
          have H:=HA.out;clear HA;simp only[Y20.j3] at H;by_cases c25:x46_19=true
          ·subst c25;rw[if_pos rfl] at H;simp only[Option.some.injEq,Prod.mk.injEq] at H;obtain⟨rfl,rfl⟩ :=H;(go_wp2);(repeat(go_quiet (fail);try go_wp2));(go_ret2);exact⟨Z81,Z36⟩
          ·replace c25:=Bool.eq_false_iff.mpr c25;subst c25;rw[if_neg (show¬(false=true) by decide)] at H;obtain⟨H,c26⟩ | ⟨H,c26⟩ :=XI H
           ·have c26b0:decide (200< (a0.size:Int))=true:=decide_eq_true c26;have c26b1:decide (200<a0.size)=true:=decide_eq_true Z92;clear c26;simp only[Option.some.injEq,Prod.mk.injEq] at H;obtain⟨rfl,rfl⟩ :=H;(go_wp2);(repeat(go_quiet (fail);try go_wp2));(go_ret2);exact⟨Z81,Z36⟩
           ·have c26b0:decide (200< (a0.size:Int))=false:=decide_eq_false c26;have c26b1:decide (200<a0.size)=false:=decide_eq_false Z92;clear c26;obtain⟨t653,A27,H⟩ :=Zb H;(try dsimp only at H);have HC28:=Aside0.mk H;clear H;go_upto_region 15 with (first| (go_at_call 107;(with_reducible refine(Y23.calls _ _ _ _ A27.out).mono ?_);rintro e w' ⟨rfl,⟨nd,rfl⟩⟩;(try first|exact⟨rfl,_,World.drewN_drewN _ _ _⟩ |exact⟨rfl,_,Eq.trans (World.drewN_drewN _ _ _) (congrArg (World.drewN _) (Nat.add_assoc _ _ _))⟩)))
            (repeat(go_quiet (first| (go_at_call 107;(with_reducible refine(Y23.calls _ _ _ _ A27.out).mono ?_);rintro e w' ⟨rfl,⟨nd,rfl⟩⟩;(try first|exact⟨rfl,_,World.drewN_drewN _ _ _⟩ |exact⟨rfl,_,Eq.trans (World.drewN_drewN _ _ _) (congrArg (World.drewN _) (Nat.add_assoc _ _ _))⟩)));go_upto_region 15 with (first| (go_at_call 107;(with_reducible refine(Y23.calls _ _ _ _ A27.out).mono ?_);rintro e w' ⟨rfl,⟨nd,rfl⟩⟩;(try first|exact⟨rfl,_,World.drewN_drewN _ _ _⟩ |exact⟨rfl,_,Eq.trans (World.drewN_drewN _ _ _) (congrArg (World.drewN _) (Nat.add_assoc _ _ _))⟩)))));(try simp only[Act.put,List.setIfInBounds_toArray,List.set_cons_zero,List.set_cons_succ])
            go_cut [59] (fun v59 wc=> ∃(kq:Nat) (x59_27:Bool),v59= .bool x59_27∧Aside0 (Y20.j4 kq a0 x4_7 t650 x6_11 x7_11 t653 (⟨#[49]⟩ :ByteArray) x59_27=some (r1,r2))∧Aside0 (kq≤kj19)∧Aside0 (Below w.heap.size w wc))
            case first=>
             have H:=HC28.out;clear HC28;obtain⟨H,c29⟩ | ⟨H,c29⟩ :=XI H
             ·have c29b0:decide (0≤t650)=true:=decide_eq_true c29;clear c29;(first|rw[c29b0]| (simp only[i64_w,i32_w];rw[c29b0])|skip);obtain⟨H,c30b0⟩ :=Xkd H;obtain⟨H,c31b0⟩ :=Xkd H;have H':=Aside0.mk H;clear H;have p32:0≤(t650:Int):=of_decide_eq_true Z85;have q32:t650< (x4_7.size:Int):=of_decide_eq_true Z85;have hx32:=bt_at x4_7 t650;replace p32:=eq_true p32;replace q32:=eq_true q32;(go_wp2);(repeat(go_quiet (fail);try go_wp2));go_meet
              case rel=>exact⟨_,(((bt x4_7 t650)==47)),Z86,H',⟨by have:=HJ2.out;have:=HJ7.out;have:=HJ11.out;have:=HJ19.out;first|omega|exact Nat.le_refl _⟩,⟨Z36⟩⟩
             ·have c29b0:decide (0≤t650)=false:=decide_eq_false c29;clear c29;(first|rw[c29b0]| (simp only[i64_w,i32_w];rw[c29b0])|skip);have H':=Aside0.mk H;clear H;(go_wp2);(repeat(go_quiet (fail);try go_wp2));go_meet
              case rel=>exact⟨_,(false),Z86,H',⟨by have:=HJ2.out;have:=HJ7.out;have:=HJ11.out;have:=HJ19.out;first|omega|exact Nat.le_refl _⟩,⟨Z36⟩⟩
            case rest=>
             clear HC28;obtain⟨kq,x59_27,rfl,HA,HJ27,HB⟩ :=hcut;cases kq with
             |zero=>exact absurd HA.out (by simp[Y20.j4])
             |succ kj27=>
              have H:=HA.out;clear HA;simp only[Y20.j4] at H;have HC33:=Aside0.mk H;clear H;go_upto_if 59 with (fail)
              (repeat(go_quiet (fail);go_upto_if 59 with (fail)));go_cut [9] (fun v9 wc=> ∃(kq:Nat) (x9_32:ByteArray),v9= .string x9_32∧Aside0 (Y20.j5 kq a0 x4_7 t650 x6_11 x7_11 t653 x9_32=some (r1,r2))∧Aside0 (kq≤kj27)∧Aside0 (Below w.heap.size w wc))
              case first=>
               have H:=HC33.out;clear HC33;by_cases c34:x59_27=true
               ·subst c34;rw[if_pos rfl] at H;obtain⟨t654,A35,H⟩ :=Zb H;(try dsimp only at H);have H':=Aside0.mk H;clear H;(go_wp2_with(first| (go_at_call 107;(with_reducible refine(Y23.calls _ _ _ _ A35.out).mono ?_);rintro e w' ⟨rfl,⟨nd,rfl⟩⟩;(try first|exact⟨rfl,_,World.drewN_drewN _ _ _⟩ |exact⟨rfl,_,Eq.trans (World.drewN_drewN _ _ _) (congrArg (World.drewN _) (Nat.add_assoc _ _ _))⟩))));go_meet
                case rel=>exact⟨_,(t654),Z86,H',⟨by have:=HJ2.out;have:=HJ7.out;have:=HJ11.out;have:=HJ19.out;have:=HJ27.out;first|omega|exact Nat.le_refl _⟩,⟨Z36⟩⟩
               ·replace c34:=Bool.eq_false_iff.mpr c34;subst c34;rw[if_neg (show¬(false=true) by decide)] at H;have H':=Aside0.mk H;clear H;(go_wp2);(repeat(go_quiet (fail);try go_wp2));go_meet
                case rel=>exact⟨_,((⟨#[49]⟩ :ByteArray)),Z86,H',⟨by have:=HJ2.out;have:=HJ7.out;have:=HJ11.out;have:=HJ19.out;have:=HJ27.out;first|omega|exact Nat.le_refl _⟩,⟨Z36⟩⟩
              case rest=>
               clear HC33;obtain⟨kq,x9_32,rfl,HA,HJ32,HB⟩ :=hcut;cases kq with
               |zero=>exact absurd HA.out (by simp[Y20.j5])
               |succ kj32=>
                have H:=HA.out;clear HA;simp only[Y20.j5] at H;have HC36:=Aside0.mk H;clear H;go_upto_region 17 with (fail)
                (repeat(go_quiet (fail);go_upto_region 17 with (fail)));go_cut [69] (fun v69 wc=> ∃(kq:Nat) (x69_35:Bool),v69= .bool x69_35∧Aside0 (Y20.j6 kq a0 x6_11 x7_11 t653 x9_32 x69_35=some (r1,r2))∧Aside0 (kq≤kj32)∧Aside0 (Below w.heap.size w wc))
                case first=>
                 have H:=HC36.out;clear HC36;obtain⟨H,c37⟩ | ⟨H,c37⟩ :=XI H
                 ·have c37b0:decide (0≤t650)=true:=decide_eq_true c37;clear c37;(first|rw[c37b0]| (simp only[i64_w,i32_w];rw[c37b0])|skip);obtain⟨H,c38b0⟩ :=Xkd H;obtain⟨H,c39b0⟩ :=Xkd H;have H':=Aside0.mk H;clear H;have p40:0≤(t650:Int):=of_decide_eq_true Z85;have q40:t650< (x4_7.size:Int):=of_decide_eq_true Z85;have hx40:=bt_at x4_7 t650;replace p40:=eq_true p40;replace q40:=eq_true q40;(go_wp2);(repeat(go_quiet (fail);try go_wp2));go_meet
                  case rel=>exact⟨_,(((bt x4_7 t650)==46)),Z86,H',⟨by have:=HJ2.out;have:=HJ7.out;have:=HJ11.out;have:=HJ19.out;have:=HJ27.out;have:=HJ32.out;first|omega|exact Nat.le_refl _⟩,⟨Z36⟩⟩
                 ·have c37b0:decide (0≤t650)=false:=decide_eq_false c37;clear c37;(first|rw[c37b0]| (simp only[i64_w,i32_w];rw[c37b0])|skip);have H':=Aside0.mk H;clear H;(go_wp2);(repeat(go_quiet (fail);try go_wp2));go_meet
                  case rel=>exact⟨_,(false),Z86,H',⟨by have:=HJ2.out;have:=HJ7.out;have:=HJ11.out;have:=HJ19.out;have:=HJ27.out;have:=HJ32.out;first|omega|exact Nat.le_refl _⟩,⟨Z36⟩⟩
                case rest=>
                 clear HC36;obtain⟨kq,x69_35,rfl,HA,HJ35,HB⟩ :=hcut;cases kq with
                 |zero=>exact absurd HA.out (by simp[Y20.j6])
                 |succ kj35=>
                  have H:=HA.out;clear HA;simp only[Y20.j6] at H;have HC41:=Aside0.mk H;clear H;go_upto_if 69 with (fail)
                  (repeat(go_quiet (fail);go_upto_if 69 with (fail)));go_cut [8,9] (fun v8 v9 wc=> ∃(kq:Nat) (x8_40:ByteArray) (x9_40:ByteArray),v8= .string x8_40∧v9= .string x9_40∧Aside0 (Y20.j7 kq a0 x8_40 x9_40=some (r1,r2))∧Aside0 (kq≤kj35)∧Aside0 (Below w.heap.size w wc))
                  case first=>
                   have H:=HC41.out;clear HC41;by_cases c42:x69_35=true
                   ·subst c42;rw[if_pos rfl] at H;obtain⟨H,c43b0,c43b1,c43⟩ :=XkT H;(try have c43b2:(9223372036854775807<x6_11.size+x7_11.size)=False:=eq_false (Nat.not_lt.2 c43));obtain⟨t655,A44,H⟩ :=Zb H;(try dsimp only at H);obtain⟨t656,A45,H⟩ :=Zb H;(try dsimp only at H);obtain⟨H,c46b0,c46b1,c46⟩ :=XkT H;(try have c46b2:(9223372036854775807<1+t656.size)=False:=eq_false (Nat.not_lt.2 c46));have H':=Aside0.mk H;clear H;(go_wp2_with(first| (go_at_call 107;(with_reducible refine(Y23.calls _ _ _ _ A44.out).mono ?_);rintro e w' ⟨rfl,⟨nd,rfl⟩⟩;(try first|exact⟨rfl,_,World.drewN_drewN _ _ _⟩ |exact⟨rfl,_,Eq.trans (World.drewN_drewN _ _ _) (congrArg (World.drewN _) (Nat.add_assoc _ _ _))⟩))| (go_at_call 27;(with_reducible refine(Y58.calls _ _ _ _ A45.out).mono ?_);rintro e w47 ⟨rfl,hb⟩;replace HB:=Zn hb;try clear hb)));go_meet
                    case rel=>exact⟨_,(t655),((⟨#[49]⟩ :ByteArray)++t656),Z86,Z86,H',⟨by have:=HJ2.out;have:=HJ7.out;have:=HJ11.out;have:=HJ19.out;have:=HJ27.out;have:=HJ32.out;have:=HJ35.out;first|omega|exact Nat.le_refl _⟩,⟨Z36⟩⟩
                   ·replace c42:=Bool.eq_false_iff.mpr c42;subst c42;rw[if_neg (show¬(false=true) by decide)] at H;have H':=Aside0.mk H;clear H;(go_wp2);(repeat(go_quiet (fail);try go_wp2));go_meet
                    case rel=>exact⟨_,(t653),(x9_32),Z86,Z86,H',⟨by have:=HJ2.out;have:=HJ7.out;have:=HJ11.out;have:=HJ19.out;have:=HJ27.out;have:=HJ32.out;have:=HJ35.out;first|omega|exact Nat.le_refl _⟩,⟨Z36⟩⟩
                  case rest=>
                   clear HC41;obtain⟨kq,x8_40,x9_40,rfl,rfl,HA,HJ40,HB⟩ :=hcut;cases kq with
                   |zero=>exact absurd HA.out (by simp[Y20.j7])
                   |succ kj40=>
                    have H:=HA.out;clear HA;simp only[Y20.j7] at H;obtain⟨H,c48b0,c48b1,-⟩ | ⟨H,c48b0,c48b1,c48⟩ :=XE H
                    ·simp only[Option.some.injEq,Prod.mk.injEq] at H;obtain⟨rfl,rfl⟩ :=H;(go_wp2);(repeat(go_quiet (fail);try go_wp2));(go_ret2);exact⟨Z81,Z36⟩
                    ·obtain⟨H,c49b0,c49⟩ :=XkD H;have c49b1:decide (0<a0.size)=true:=decide_eq_true Z92;clear c49;obtain⟨H,c51b0,c51b1,-⟩ | ⟨H,c51b0,c51b1,c51⟩ :=XE H
                     ·obtain⟨t657,A52,H⟩ :=Zb H;(try dsimp only at H);obtain⟨t658,A53,H⟩ :=Zb H;(try dsimp only at H);simp only[Option.some.injEq,Prod.mk.injEq] at H;obtain⟨rfl,rfl⟩ :=H;have p50:0≤(0:Int):=Z92;have q50:0<a0.size:=(by have:(0:Int)< (a0.size:Int):=of_decide_eq_true Z85;omega)
                      have hx50: ∀h:0<a0.size,((a0[0]'h).toNat:Int)=bt a0 0:=bt_at a0 0;clear p50;have qi50:(0< (a0.size:Int))=True:=eq_true (of_decide_eq_true Z85);replace q50:=eq_true q50;(go_wp2_with(first| (go_at_call 108;(with_reducible refine(Y44.calls _ _ _ A52.out).mono ?_);rintro e w' ⟨rfl,⟨nd,rfl⟩⟩;(try first|exact⟨rfl,_,World.drewN_drewN _ _ _⟩ |exact⟨rfl,_,Eq.trans (World.drewN_drewN _ _ _) (congrArg (World.drewN _) (Nat.add_assoc _ _ _))⟩))| (go_at_call 34;(with_reducible refine(Y7.calls _ _ _ _ _ (GL_below Z36 HGL.out) A53.out).mono ?_);rintro e w54 ⟨rfl,hb⟩;replace HB:=Zn hb;try clear hb)));(go_ret2);exact⟨Z81,Z36⟩
                     ·obtain⟨t659,A55,H⟩ :=Zb H;(try dsimp only at H);simp only[Option.some.injEq,Prod.mk.injEq] at H;obtain⟨rfl,rfl⟩ :=H;have p50:0≤(0:Int):=Z92;have q50:0<a0.size:=(by have:(0:Int)< (a0.size:Int):=of_decide_eq_true Z85;omega)
                      have hx50: ∀h:0<a0.size,((a0[0]'h).toNat:Int)=bt a0 0:=bt_at a0 0;clear p50;have qi50:(0< (a0.size:Int))=True:=eq_true (of_decide_eq_true Z85);replace q50:=eq_true q50;(go_wp2_with(first| (go_at_call 34;(with_reducible refine(Y7.calls _ _ _ _ _ (GL_below Z36 HGL.out) A55.out).mono ?_);rintro e w56 ⟨rfl,hb⟩;replace HB:=Zn hb;try clear hb)));(go_ret2);exact⟨Z81,Z36⟩
theorem Y42.calls (k:Nat) (a0:ByteArray) (a1:ByteArray) (r:ByteArray) (w:World) (hGL:GL w) (h:Y42.f k a0 a1=some r):
  Calls Tryz.prog 138 #[.string a0,.string a1] w fun e w'=>e= .returned (.string r)∧Below w.heap.size w w':=by
 have HGL:=Aside0.mk hGL;clear hGL;have HB:=Aside0.mk (Below.refl w.heap.size w);have H:=h;clear h;unfold Y42.f at H;obtain⟨⟨t666,t667⟩,A3,H⟩ :=Zb H;try dsimp only at H
 obtain⟨⟨t668,t669⟩,A4,H⟩ :=Zb H;try dsimp only at H
 have HC5:=Aside0.mk H;clear H;go_enter Tryz.func138,Tryz.ntmps138
 go_upto_region 3 with (first| (refine Zq Tryz.func171 (Y17.calls _ _ _ _ _ A3.out) fun nd=>?_)| (refine Zq Tryz.func171 (Y17.calls _ _ _ _ _ A4.out) fun nd=>?_))
 (try simp only[Act.put,List.setIfInBounds_toArray,List.set_cons_zero,List.set_cons_succ]);go_cut [28] (fun v28 wc=> ∃(kq:Nat) (x28_4:Bool),v28= .bool x28_4∧Aside0 (Y42.j0 kq a0 a1 t666 t668 x28_4=some r)∧Aside0 (kq≤k)∧Aside0 (Below w.heap.size w wc))
 case first=>
  have H:=HC5.out;clear HC5;by_cases c6:t667=true
  ·subst c6;rw[if_pos rfl] at H;have H':=Aside0.mk H;clear H;(go_wp2);go_meet
   case rel=>exact⟨_,(t669),Z86,H',⟨Z88⟩,⟨Z36⟩⟩
  ·replace c6:=Bool.eq_false_iff.mpr c6;subst c6;rw[if_neg (show¬(false=true) by decide)] at H;have H':=Aside0.mk H;clear H;(go_wp2);go_meet
   case rel=>exact⟨_,(false),Z86,H',⟨Z88⟩,⟨Z36⟩⟩
 case rest=>
  clear HC5;obtain⟨kq,x28_4,rfl,HA,HJ4,HB⟩ :=hcut;cases kq with
  |zero=>exact absurd HA.out (by simp[Y42.j0])
  |succ kj4=>
   have H:=HA.out;clear HA;simp only[Y42.j0] at H;by_cases c7:x28_4=true
   ·subst c7;rw[if_pos rfl] at H;obtain⟨t670,A8,H⟩ :=Zb H;(try dsimp only at H);obtain rfl:=Option.some.inj H;(go_wp2_with(first| (refine Zm Tryz.func38 (Y50.calls _ _ _ (GL_below Z36 HGL.out) A8.out) fun w9 hb=>?_;replace HB:=Zn hb;try clear hb)));(go_ret);exact⟨Z81,Z36⟩
   ·replace c7:=Bool.eq_false_iff.mpr c7;subst c7;rw[if_neg (show¬(false=true) by decide)] at H;obtain⟨⟨t671,t672⟩,A10,H⟩ :=Zb H;(try dsimp only at H);obtain⟨⟨t673,t674⟩,A11,H⟩ :=Zb H;(try dsimp only at H);obtain⟨t675,A12,H⟩ :=Zb H;(try dsimp only at H);obtain⟨t678,A13,H⟩ :=Zb H;(try dsimp only at H);obtain⟨H,c14⟩ | ⟨H,c14⟩ :=XI H
    ·have c14b0:(t671==t673)=true:=c14;(try(have c14b1:decide (t671=t673)=true:=by simpa using c14));(try(have c14b2:(t671==t673)=true:=by simpa using c14));clear c14;obtain⟨t681,A15,H⟩ :=Zb H;(try dsimp only at H);obtain⟨t684,A16,H⟩ :=Zb H;(try dsimp only at H);obtain rfl:=Option.some.inj H;(go_wp2_with(first| (refine Zq Tryz.func115 (Y16.calls _ _ _ _ A10.out) fun nd=>?_)| (refine Zq Tryz.func115 (Y16.calls _ _ _ _ A11.out) fun nd=>?_)| (refine Zc Tryz.func173 (Y32.calls _ _ _ _ A12.out) ?_;rintro e w17 ⟨v676,rfl,ho0,hb⟩;refine⟨_,rfl,?_⟩;have HO677:=Aside0.mk (Kd.V_lower (Kd.V_mono (ok':=fun k_=>True) ho0 (fun k_ hk_=>trivial)) (below_size Z36));replace HB:=Aside0.mk (below_step Z36 hb);try clear hb;(try clear ho0))| (refine Zc Tryz.func173 (Y32.calls _ _ _ _ A13.out) ?_;rintro e w18 ⟨v679,rfl,ho0,hb⟩;refine⟨_,rfl,?_⟩;replace HO677:=Aside0.mk (Kd.V_below Z69 hb);have HO680:=Aside0.mk (Kd.V_lower (Kd.V_mono (ok':=fun k_=>True) ho0 (fun k_ hk_=>trivial)) (below_size Z36));replace HB:=Aside0.mk (below_step Z36 hb);try clear hb;(try clear ho0);obtain⟨Ao19,co19,eo19⟩ :=Kd.V_slice HO677.out;subst eo19;obtain⟨Ao20,co20,eo20⟩ :=Kd.V_slice HO680.out;subst eo20)| (refine Zc Tryz.func174 (Y10.calls _ _ _ _ _ _ _ _ _ _ _ Z20 ((Kd.V_reads' HO677.out).2.1) Z21 ((Kd.V_reads' HO680.out).2.1) A15.out) ?_;rintro e w21 ⟨v682,rfl,ho0,hb⟩;refine⟨_,rfl,?_⟩;replace HO677:=Aside0.mk (Kd.V_below Z69 hb);replace HO680:=Aside0.mk (Kd.V_below Z70 hb);have HO683:=Aside0.mk (Kd.V_lower (Kd.V_mono (ok':=fun k_=>True) ho0 (fun k_ hk_=>trivial)) (below_size Z36));replace HB:=Aside0.mk (below_step Z36 hb);try clear hb;(try clear ho0);obtain⟨Ao22,co22,eo22⟩ :=Kd.V_slice HO683.out;subst eo22)| (refine Zm Tryz.func175 (Y31.calls _ _ _ _ _ _ _ (GL_below Z36 HGL.out) (by repeat(first|exact(Kd.V_reads' HO683.out).2.2| (with_reducible refine Kd.C_alloc ?_ _)| (with_reducible refine Kd.C_drewN ?_ _)| (with_reducible refine Kd.C_drew ?_))) ((Kd.V_reads' HO683.out).2.1) A16.out) fun w23 hb=>?_;replace HO677:=Aside0.mk (Kd.V_below Z69 hb);replace HO680:=Aside0.mk (Kd.V_below Z70 hb);replace HO683:=Aside0.mk (Kd.V_below (by(with_reducible repeat(first|apply Kd.V_alloc|apply Kd.V_drewN|apply Kd.V_drew));exact HO683.out) hb);replace HB:=Aside0.mk (below_step Z36 hb);try clear hb)));(go_ret);exact⟨Z81,Z36⟩
    ·have c14b0:(t671==t673)=false:=by simpa using c14
     (try(have c14b1:decide (t671=t673)=false:=by simpa using c14));(try(have c14b2:(t671==t673)=false:=by simpa using c14));(try(have c14b3: ¬(t671=t673):=by simpa using c14));clear c14;obtain⟨t685,A24,H⟩ :=Zb H;(try dsimp only at H);by_cases c25:t685=true
     ·subst c25;rw[if_pos rfl] at H;obtain⟨t686,A26,H⟩ :=Zb H;(try dsimp only at H);obtain⟨t689,A27,H⟩ :=Zb H;(try dsimp only at H);obtain rfl:=Option.some.inj H;(go_wp2_with(first| (refine Zq Tryz.func115 (Y16.calls _ _ _ _ A10.out) fun nd=>?_)| (refine Zq Tryz.func115 (Y16.calls _ _ _ _ A11.out) fun nd=>?_)| (refine Zc Tryz.func173 (Y32.calls _ _ _ _ A12.out) ?_;rintro e w28 ⟨v676,rfl,ho0,hb⟩;refine⟨_,rfl,?_⟩;have HO677:=Aside0.mk (Kd.V_lower (Kd.V_mono (ok':=fun k_=>True) ho0 (fun k_ hk_=>trivial)) (below_size Z36));replace HB:=Aside0.mk (below_step Z36 hb);try clear hb;(try clear ho0))| (refine Zc Tryz.func173 (Y32.calls _ _ _ _ A13.out) ?_;rintro e w29 ⟨v679,rfl,ho0,hb⟩;refine⟨_,rfl,?_⟩;replace HO677:=Aside0.mk (Kd.V_below Z69 hb);have HO680:=Aside0.mk (Kd.V_lower (Kd.V_mono (ok':=fun k_=>True) ho0 (fun k_ hk_=>trivial)) (below_size Z36));replace HB:=Aside0.mk (below_step Z36 hb);try clear hb;(try clear ho0);obtain⟨Ao30,co30,eo30⟩ :=Kd.V_slice HO677.out;subst eo30;obtain⟨Ao31,co31,eo31⟩ :=Kd.V_slice HO680.out;subst eo31)| (refine Zq Tryz.func188 (Y30.calls _ _ _ _ _ _ _ _ _ Z20 ((Kd.V_reads' HO677.out).2.1) Z21 ((Kd.V_reads' HO680.out).2.1) A24.out) fun nd=>?_)| (refine Zc Tryz.func174 (Y10.calls _ _ _ _ _ _ _ _ _ _ _ Z21 ((Kd.V_reads' HO680.out).2.1) Z20 ((Kd.V_reads' HO677.out).2.1) A26.out) ?_;rintro e w32 ⟨v687,rfl,ho0,hb⟩;refine⟨_,rfl,?_⟩;replace HO677:=Aside0.mk (Kd.V_below Z69 hb);replace HO680:=Aside0.mk (Kd.V_below Z70 hb);have HO688:=Aside0.mk (Kd.V_lower (Kd.V_mono (ok':=fun k_=>True) ho0 (fun k_ hk_=>trivial)) (below_size Z36));replace HB:=Aside0.mk (below_step Z36 hb);try clear hb;(try clear ho0);obtain⟨Ao33,co33,eo33⟩ :=Kd.V_slice HO688.out;subst eo33)| (refine Zm Tryz.func175 (Y31.calls _ _ _ _ _ _ _ (GL_below Z36 HGL.out) (by repeat(first|exact(Kd.V_reads' HO688.out).2.2| (with_reducible refine Kd.C_alloc ?_ _)| (with_reducible refine Kd.C_drewN ?_ _)| (with_reducible refine Kd.C_drew ?_))) ((Kd.V_reads' HO688.out).2.1) A27.out) fun w34 hb=>?_;replace HO677:=Aside0.mk (Kd.V_below Z69 hb);replace HO680:=Aside0.mk (Kd.V_below Z70 hb);replace HO688:=Aside0.mk (Kd.V_below (by(with_reducible repeat(first|apply Kd.V_alloc|apply Kd.V_drewN|apply Kd.V_drew));exact HO688.out) hb);replace HB:=Aside0.mk (below_step Z36 hb);try clear hb)));(go_ret);exact⟨Z81,Z36⟩
     ·replace c25:=Bool.eq_false_iff.mpr c25;subst c25;rw[if_neg (show¬(false=true) by decide)] at H;obtain⟨t690,A35,H⟩ :=Zb H;(try dsimp only at H);obtain⟨t693,A36,H⟩ :=Zb H;(try dsimp only at H);obtain rfl:=Option.some.inj H;(go_wp2_with(first| (refine Zq Tryz.func115 (Y16.calls _ _ _ _ A10.out) fun nd=>?_)| (refine Zq Tryz.func115 (Y16.calls _ _ _ _ A11.out) fun nd=>?_)| (refine Zc Tryz.func173 (Y32.calls _ _ _ _ A12.out) ?_;rintro e w37 ⟨v676,rfl,ho0,hb⟩;refine⟨_,rfl,?_⟩;have HO677:=Aside0.mk (Kd.V_lower (Kd.V_mono (ok':=fun k_=>True) ho0 (fun k_ hk_=>trivial)) (below_size Z36));replace HB:=Aside0.mk (below_step Z36 hb);try clear hb;(try clear ho0))| (refine Zc Tryz.func173 (Y32.calls _ _ _ _ A13.out) ?_;rintro e w38 ⟨v679,rfl,ho0,hb⟩;refine⟨_,rfl,?_⟩;replace HO677:=Aside0.mk (Kd.V_below Z69 hb);have HO680:=Aside0.mk (Kd.V_lower (Kd.V_mono (ok':=fun k_=>True) ho0 (fun k_ hk_=>trivial)) (below_size Z36));replace HB:=Aside0.mk (below_step Z36 hb);try clear hb;(try clear ho0);obtain⟨Ao39,co39,eo39⟩ :=Kd.V_slice HO677.out;subst eo39;obtain⟨Ao40,co40,eo40⟩ :=Kd.V_slice HO680.out;subst eo40)| (refine Zq Tryz.func188 (Y30.calls _ _ _ _ _ _ _ _ _ Z20 ((Kd.V_reads' HO677.out).2.1) Z21 ((Kd.V_reads' HO680.out).2.1) A24.out) fun nd=>?_)| (refine Zc Tryz.func174 (Y10.calls _ _ _ _ _ _ _ _ _ _ _ Z20 ((Kd.V_reads' HO677.out).2.1) Z21 ((Kd.V_reads' HO680.out).2.1) A35.out) ?_;rintro e w41 ⟨v691,rfl,ho0,hb⟩;refine⟨_,rfl,?_⟩;replace HO677:=Aside0.mk (Kd.V_below Z69 hb);replace HO680:=Aside0.mk (Kd.V_below Z70 hb);have HO692:=Aside0.mk (Kd.V_lower (Kd.V_mono (ok':=fun k_=>True) ho0 (fun k_ hk_=>trivial)) (below_size Z36));replace HB:=Aside0.mk (below_step Z36 hb);try clear hb;(try clear ho0);obtain⟨Ao42,co42,eo42⟩ :=Kd.V_slice HO692.out;subst eo42)| (refine Zm Tryz.func175 (Y31.calls _ _ _ _ _ _ _ (GL_below Z36 HGL.out) (by repeat(first|exact(Kd.V_reads' HO692.out).2.2| (with_reducible refine Kd.C_alloc ?_ _)| (with_reducible refine Kd.C_drewN ?_ _)| (with_reducible refine Kd.C_drew ?_))) ((Kd.V_reads' HO692.out).2.1) A36.out) fun w43 hb=>?_;replace HO677:=Aside0.mk (Kd.V_below Z69 hb);replace HO680:=Aside0.mk (Kd.V_below Z70 hb);replace HO692:=Aside0.mk (Kd.V_below (by(with_reducible repeat(first|apply Kd.V_alloc|apply Kd.V_drewN|apply Kd.V_drew));exact HO692.out) hb);replace HB:=Aside0.mk (below_step Z36 hb);try clear hb)));(go_ret);exact⟨Z81,Z36⟩
theorem Y45.calls (k:Nat) (a0:ByteArray) (a1:ByteArray) (r:ByteArray) (w:World) (hGL:GL w) (h:Y45.f k a0 a1=some r):
  Calls Tryz.prog 168 #[.string a0,.string a1] w fun e w'=>e= .returned (.string r)∧Below w.heap.size w w':=by
 have HGL:=Aside0.mk hGL;clear hGL;have HB:=Aside0.mk (Below.refl w.heap.size w);have H:=h;clear h;unfold Y45.f at H;obtain⟨t694,A3,H⟩ :=Zb H;try dsimp only at H
 obtain⟨t695,A4,H⟩ :=Zb H;try dsimp only at H
 obtain rfl:=Option.some.inj H;go_enter Tryz.func168,Tryz.ntmps168
 go_wp2_with(first| (refine Zq Tryz.func108 (Y44.calls _ _ _ A3.out) fun nd=>?_)| (refine Zm Tryz.func138 (Y42.calls _ _ _ _ _ (GL_below Z36 HGL.out) A4.out) fun w5 hb=>?_;replace HB:=Zn hb;try clear hb))
 go_ret
 exact⟨Z81,Z36⟩
theorem Y8.calls (k:Nat) (a0:ByteArray) (a1:ByteArray) (r:Int) (w:World) (hGL:GL w) (h:Y8.f k a0 a1=some r):
  Calls Tryz.prog 109 #[.string a0,.string a1] w fun e w'=>e= .returned (.int .i64 r)∧Below w.heap.size w w':=by
 have HGL:=Aside0.mk hGL;clear hGL;have HB:=Aside0.mk (Below.refl w.heap.size w);have H:=h;clear h;unfold Y8.f at H;obtain⟨t696,A3,H⟩ :=Zb H;try dsimp only at H
 obtain⟨t697,A4,H⟩ :=Zb H;try dsimp only at H
 obtain rfl:=Option.some.inj H;go_enter Tryz.func109,Tryz.ntmps109
 go_wp2_with(first| (refine Zm Tryz.func168 (Y45.calls _ _ _ _ _ (GL_below Z36 HGL.out) A3.out) fun w5 hb=>?_;replace HB:=Zn hb;try clear hb)| (refine Zq Tryz.func117 (Y28.calls _ _ _ A4.out) fun nd=>?_))
 go_ret
 exact⟨Z81,Z36⟩
theorem Y2.calls (k:Nat) (a0:ByteArray) (r:Bool) (w:World) (h:Y2.f k a0=some r):
  Calls Tryz.prog 127 #[.string a0] w fun e w'=>e= .returned (.bool r)∧Drawn0 w w':=by
 have H:=h;clear h;unfold Y2.f at H;obtain⟨⟨t660,t661⟩,A2,H⟩ :=Zb H;try dsimp only at H
 have H':=Aside0.mk H;clear H;go_enter Tryz.func127,Tryz.ntmps127
 go_wp2_with(first| (refine Zq Tryz.func115 (Y16.calls _ _ _ _ A2.out) fun nd=>?_))
 go_loopg [5] k (fun kq v5 w'=> ∃(x5_1:Int),v5= .int .i64 x5_1∧Aside0 (Y2.l0 kq t660 t661 x5_1=some r)∧Aside0 (kq≤k)∧Drawn0 w w')
 case atStart=>exact⟨(0),Z86,H',⟨Nat.le_refl _⟩,Z82⟩
 case round=>
  clear H';obtain⟨x5_1,rfl,HA,HK1,⟨m1,rfl⟩⟩ :=hrel;cases gk with
  |zero=>exact absurd HA.out (by simp[Y2.l0])
  |succ k1=>
   have H:=HA.out;clear HA;simp only[Y2.l0] at H;obtain⟨H,c3b0⟩ | ⟨H,c3b0⟩ :=Xd H
   ·obtain⟨H,c4b0⟩ :=Xkd H;obtain⟨H,c6b0⟩ | ⟨H,c6b0⟩ :=Xd H
    ·obtain rfl:=Option.some.inj H;have p5:0≤(x5_1:Int):=of_decide_eq_true Z85;have q5:x5_1< (t661.size:Int):=of_decide_eq_true Z85;have hx5:=bt_at t661 x5_1;replace p5:=eq_true p5;replace q5:=eq_true q5;(go_wp2);(go_ret);exact⟨Z86,Z82⟩
    ·obtain⟨H,c8⟩ | ⟨H,c8⟩ :=XI H
     ·have c8b0:decide (57< (bt t661 x5_1))=true:=decide_eq_true c8;clear c8;obtain rfl:=Option.some.inj H;have p5:0≤(x5_1:Int):=of_decide_eq_true Z85;have q5:x5_1< (t661.size:Int):=of_decide_eq_true Z85;have hx5:=bt_at t661 x5_1;replace p5:=eq_true p5;replace q5:=eq_true q5;have p7:0≤(x5_1:Int):=of_decide_eq_true Z85;have q7:x5_1< (t661.size:Int):=of_decide_eq_true Z85;have hx7:=bt_at t661 x5_1;replace p7:=eq_true p7;replace q7:=eq_true q7;(go_wp2);(go_ret);exact⟨Z86,Z82⟩
     ·have c8b0:decide (57< (bt t661 x5_1))=false:=decide_eq_false c8;clear c8;have H':=Aside0.mk H;clear H;have p5:0≤(x5_1:Int):=of_decide_eq_true Z85;have q5:x5_1< (t661.size:Int):=of_decide_eq_true Z85;have hx5:=bt_at t661 x5_1;replace p5:=eq_true p5;replace q5:=eq_true q5;have p7:0≤(x5_1:Int):=of_decide_eq_true Z85;have q7:x5_1< (t661.size:Int):=of_decide_eq_true Z85;have hx7:=bt_at t661 x5_1;replace p7:=eq_true p7;replace q7:=eq_true q7;(go_wp2);go_roundg k1
      case measure=>have:=HK1.out;omega
      case rel=>exact⟨(wrap64 (x5_1+1)),Z86,H',⟨Z89⟩,Z82⟩
   ·obtain⟨H,c9b0,c9b1,-⟩ | ⟨H,c9b0,c9b1,c9⟩ :=XE H
    ·obtain rfl:=Option.some.inj H;(go_wp2);(go_ret);exact⟨Z86,Z82⟩
    ·obtain⟨H,c10b0,c10⟩ :=XkD H;have c10b1:decide (0<t661.size)=true:=decide_eq_true Z92;clear c10;obtain⟨H,c12b0,c12b1,-⟩ | ⟨H,c12b0,c12b1,c12⟩ :=XE H
     ·by_cases c13:t660=true
      ·subst c13;rw[if_pos rfl] at H;obtain rfl:=Option.some.inj H;have p11:0≤(0:Int):=Z92;have q11:0<t661.size:=(by have:(0:Int)< (t661.size:Int):=of_decide_eq_true Z85;omega)
       have hx11: ∀h:0<t661.size,((t661[0]'h).toNat:Int)=bt t661 0:=bt_at t661 0;clear p11;have qi11:(0< (t661.size:Int))=True:=eq_true (of_decide_eq_true Z85);replace q11:=eq_true q11;(go_wp2);(go_ret);exact⟨Z86,Z82⟩
      ·replace c13:=Bool.eq_false_iff.mpr c13;subst c13;rw[if_neg (show¬(false=true) by decide)] at H;obtain⟨H,c14⟩ | ⟨H,c14⟩ :=XI H
       ·have c14b0:decide (1< (t661.size:Int))=true:=decide_eq_true c14;have c14b1:decide (1<t661.size)=true:=decide_eq_true Z92;clear c14;obtain rfl:=Option.some.inj H;have p11:0≤(0:Int):=Z92;have q11:0<t661.size:=(by have:(0:Int)< (t661.size:Int):=of_decide_eq_true Z85;omega)
        have hx11: ∀h:0<t661.size,((t661[0]'h).toNat:Int)=bt t661 0:=bt_at t661 0;clear p11;have qi11:(0< (t661.size:Int))=True:=eq_true (of_decide_eq_true Z85);replace q11:=eq_true q11;(go_wp2);(go_ret);exact⟨Z86,Z82⟩
       ·have c14b0:decide (1< (t661.size:Int))=false:=decide_eq_false c14;have c14b1:decide (1<t661.size)=false:=decide_eq_false Z92;clear c14;obtain rfl:=Option.some.inj H;have p11:0≤(0:Int):=Z92;have q11:0<t661.size:=(by have:(0:Int)< (t661.size:Int):=of_decide_eq_true Z85;omega)
        have hx11: ∀h:0<t661.size,((t661[0]'h).toNat:Int)=bt t661 0:=bt_at t661 0;clear p11;have qi11:(0< (t661.size:Int))=True:=eq_true (of_decide_eq_true Z85);replace q11:=eq_true q11;(go_wp2);(go_ret);exact⟨Z86,Z82⟩
     ·obtain rfl:=Option.some.inj H;have p11:0≤(0:Int):=Z92;have q11:0<t661.size:=(by have:(0:Int)< (t661.size:Int):=of_decide_eq_true Z85;omega)
      have hx11: ∀h:0<t661.size,((t661[0]'h).toNat:Int)=bt t661 0:=bt_at t661 0;clear p11;have qi11:(0< (t661.size:Int))=True:=eq_true (of_decide_eq_true Z85);replace q11:=eq_true q11;(go_wp2);(go_ret);exact⟨Z86,Z82⟩
theorem Y14.calls (k:Nat) (a0:ByteArray) (r:Bool) (w:World) (h:Y14.f k a0=some r):
  Calls Tryz.prog 43 #[.string a0] w fun e w'=>e= .returned (.bool r)∧Drawn0 w w':=by
 have H:=h;clear h;unfold Y14.f at H;obtain⟨⟨t662,t663⟩,A2,H⟩ :=Zb H;try dsimp only at H
 obtain⟨t664,A3,H⟩ :=Zb H;try dsimp only at H
 by_cases c4:t664=true
 ·subst c4;rw[if_pos rfl] at H;obtain rfl:=Option.some.inj H;go_enter Tryz.func43,Tryz.ntmps43
  go_wp2_with(first| (refine Zq Tryz.func115 (Y16.calls _ _ _ _ A2.out) fun nd=>?_)| (refine Zq Tryz.func127 (Y2.calls _ _ _ _ A3.out) fun nd=>?_))
  go_ret
  exact⟨Z86,Z82⟩
 ·replace c4:=Bool.eq_false_iff.mpr c4;subst c4;rw[if_neg (show¬(false=true) by decide)] at H;obtain rfl:=Option.some.inj H;go_enter Tryz.func43,Tryz.ntmps43
  go_wp2_with(first| (refine Zq Tryz.func115 (Y16.calls _ _ _ _ A2.out) fun nd=>?_)| (refine Zq Tryz.func127 (Y2.calls _ _ _ _ A3.out) fun nd=>?_))
  go_ret
  exact⟨Z86,Z82⟩
theorem Y21.calls (a0:ByteArray) (r1:ByteArray) (r2:ByteArray) (w:World) (h:Y21.f a0=some (r1,r2)):
  Calls Tryz.prog 85 #[.string a0] w fun e w'=>e= .returned (.tuple #[.string r1,.string r2])∧Drawn0 w w':=by
 have H:=h;clear h;unfold Y21.f at H;obtain⟨t665,A2,H⟩ :=Zb H;try dsimp only at H
 obtain⟨H,c3b0⟩ | ⟨H,c3b0⟩ :=Xd H
 ·simp only[Option.some.injEq,Prod.mk.injEq] at H;obtain⟨rfl,rfl⟩ :=H;go_enter Tryz.func85,Tryz.ntmps85
  go_wp2_with(first| (go_at_call 90;(with_reducible refine(Y27.calls _ _ _ _ A2.out).mono ?_);rintro e w' ⟨rfl,⟨nd,rfl⟩⟩;(try first|exact⟨rfl,_,World.drewN_drewN _ _ _⟩ |exact⟨rfl,_,Eq.trans (World.drewN_drewN _ _ _) (congrArg (World.drewN _) (Nat.add_assoc _ _ _))⟩)))
  repeat(go_quiet (first| (go_at_call 90;(with_reducible refine(Y27.calls _ _ _ _ A2.out).mono ?_);rintro e w' ⟨rfl,⟨nd,rfl⟩⟩;(try first|exact⟨rfl,_,World.drewN_drewN _ _ _⟩ |exact⟨rfl,_,Eq.trans (World.drewN_drewN _ _ _) (congrArg (World.drewN _) (Nat.add_assoc _ _ _))⟩)));try go_wp2_with(first| (go_at_call 90;(with_reducible refine(Y27.calls _ _ _ _ A2.out).mono ?_);rintro e w' ⟨rfl,⟨nd,rfl⟩⟩;(try first|exact⟨rfl,_,World.drewN_drewN _ _ _⟩ |exact⟨rfl,_,Eq.trans (World.drewN_drewN _ _ _) (congrArg (World.drewN _) (Nat.add_assoc _ _ _))⟩))))
  go_ret2
  exact⟨Z86,Z82⟩
 ·obtain⟨H,c4b0,c4b1⟩ :=Xkt H;obtain⟨H,c5b0,c5b1⟩ :=Xkt H;generalize hji6:(wrap64 (t665+1))=ji6 at H;(try rw[hji6] at A2);have hji6w:(IntKind.i64.wrap (t665+1))=ji6:=(i64_w _).trans hji6;obtain⟨H,c7b0,c7b1⟩ :=Xkt H;obtain⟨H,c8b0,c8b1⟩ :=Xkt H;simp only[Option.some.injEq,Prod.mk.injEq] at H;obtain⟨rfl,rfl⟩ :=H;go_enter Tryz.func85,Tryz.ntmps85
  go_wp2_with(first| (go_at_call 90;(with_reducible refine(Y27.calls _ _ _ _ A2.out).mono ?_);rintro e w' ⟨rfl,⟨nd,rfl⟩⟩;(try first|exact⟨rfl,_,World.drewN_drewN _ _ _⟩ |exact⟨rfl,_,Eq.trans (World.drewN_drewN _ _ _) (congrArg (World.drewN _) (Nat.add_assoc _ _ _))⟩)))
  repeat(go_quiet (first| (go_at_call 90;(with_reducible refine(Y27.calls _ _ _ _ A2.out).mono ?_);rintro e w' ⟨rfl,⟨nd,rfl⟩⟩;(try first|exact⟨rfl,_,World.drewN_drewN _ _ _⟩ |exact⟨rfl,_,Eq.trans (World.drewN_drewN _ _ _) (congrArg (World.drewN _) (Nat.add_assoc _ _ _))⟩)));try go_wp2_with(first| (go_at_call 90;(with_reducible refine(Y27.calls _ _ _ _ A2.out).mono ?_);rintro e w' ⟨rfl,⟨nd,rfl⟩⟩;(try first|exact⟨rfl,_,World.drewN_drewN _ _ _⟩ |exact⟨rfl,_,Eq.trans (World.drewN_drewN _ _ _) (congrArg (World.drewN _) (Nat.add_assoc _ _ _))⟩))))
  go_ret2
  exact⟨by first|rfl| (simp;done)| (simp only[←hji6] <;> (first|rfl|simp))| (simp[*];done),Z82⟩
theorem Y22.calls (k:Nat) (a0:ByteArray) (r:Bool) (w:World) (hGL:GL w) (h:Y22.f k a0=some r):
  Calls Tryz.prog 30 #[.string a0] w fun e w'=>e= .returned (.bool r)∧Below w.heap.size w w':=by
 have HGL:=Aside0.mk hGL;clear hGL;have HB:=Aside0.mk (Below.refl w.heap.size w);have H:=h;clear h;unfold Y22.f at H;obtain⟨⟨t698,t699⟩,A2,H⟩ :=Zb H;try dsimp only at H
 have HC3:=Aside0.mk H;clear H;go_enter Tryz.func30,Tryz.ntmps30
 go_upto_region 2 with (first| (refine Zq Tryz.func85 (Y21.calls _ _ _ _ A2.out) fun nd=>?_))
 (try simp only[Act.put,List.setIfInBounds_toArray,List.set_cons_zero,List.set_cons_succ]);go_cut [17] (fun v17 wc=> ∃(kq:Nat) (x17_2:Bool),v17= .bool x17_2∧Aside0 (Y22.j0 kq a0 t698 t699 x17_2=some r)∧Aside0 (kq≤k)∧Aside0 (Below w.heap.size w wc))
 case first=>
  have H:=HC3.out;clear HC3;obtain⟨t700,A4,H⟩ :=Zb H;try dsimp only at H
  by_cases c5:t700=true
  ·subst c5;rw[if_pos rfl] at H;obtain⟨t701,A6,H⟩ :=Zb H;(try dsimp only at H);have H':=Aside0.mk H;clear H;(go_wp2_with(first| (refine Zq Tryz.func43 (Y14.calls _ _ _ _ A4.out) fun nd=>?_)| (go_at_call 43;(with_reducible refine(Y14.calls _ _ _ _ A6.out).mono ?_);rintro e w' ⟨rfl,⟨nd,rfl⟩⟩)));go_meet
   case rel=>exact⟨_,(!t701),Z86,H',⟨Z88⟩,⟨Z36⟩⟩
  ·replace c5:=Bool.eq_false_iff.mpr c5;subst c5;rw[if_neg (show¬(false=true) by decide)] at H;have H':=Aside0.mk H;clear H;(go_wp2_with(first| (refine Zq Tryz.func43 (Y14.calls _ _ _ _ A4.out) fun nd=>?_)));go_meet
   case rel=>exact⟨_,(true),Z86,H',⟨Z88⟩,⟨Z36⟩⟩
 case rest=>
  clear HC3;obtain⟨kq,x17_2,rfl,HA,HJ2,HB⟩ :=hcut;cases kq with
  |zero=>exact absurd HA.out (by simp[Y22.j0])
  |succ kj2=>
   have H:=HA.out;clear HA;simp only[Y22.j0] at H;by_cases c7:x17_2=true
   ·subst c7;rw[if_pos rfl] at H;obtain rfl:=Option.some.inj H;(go_wp2);(go_ret);exact⟨Z81,Z36⟩
   ·replace c7:=Bool.eq_false_iff.mpr c7;subst c7;rw[if_neg (show¬(false=true) by decide)] at H;obtain⟨t702,A8,H⟩ :=Zb H;(try dsimp only at H);obtain⟨H,c9b0⟩ | ⟨H,c9b0⟩ :=Xd H
    ·obtain rfl:=Option.some.inj H;(go_wp2_with(first| (refine Zq Tryz.func90 (Y27.calls _ _ _ _ A8.out) fun nd=>?_)));(go_ret);exact⟨Z81,Z36⟩
    ·obtain⟨t703,A10,H⟩ :=Zb H;(try dsimp only at H);obtain⟨H,c11⟩ | ⟨H,c11⟩ :=XI H
     ·have c11b0:decide (0<t703)=true:=decide_eq_true c11;clear c11;obtain⟨H,c12b0,c12b1,-⟩ | ⟨H,c12b0,c12b1,c12⟩ :=XE H
      ·obtain rfl:=Option.some.inj H;(go_wp2_with(first| (refine Zq Tryz.func90 (Y27.calls _ _ _ _ A8.out) fun nd=>?_)| (refine Zm Tryz.func109 (Y8.calls _ _ _ _ _ (GL_below Z36 HGL.out) A10.out) fun w13 hb=>?_;replace HB:=Zn hb;try clear hb)));(go_ret);exact⟨Z81,Z36⟩
      ·obtain⟨t704,A14,H⟩ :=Zb H;(try dsimp only at H);obtain rfl:=Option.some.inj H;(go_wp2_with(first| (refine Zq Tryz.func90 (Y27.calls _ _ _ _ A8.out) fun nd=>?_)| (refine Zm Tryz.func109 (Y8.calls _ _ _ _ _ (GL_below Z36 HGL.out) A10.out) fun w15 hb=>?_;replace HB:=Zn hb;try clear hb)| (go_at_call 110;(with_reducible refine(Y43.calls _ _ _ _ _ (GL_below Z36 HGL.out) A14.out).mono ?_);rintro e w16 ⟨rfl,hb⟩;replace HB:=Zn hb;try clear hb)));(go_ret);exact⟨Z81,Z36⟩
     ·have c11b0:decide (0<t703)=false:=decide_eq_false c11;clear c11;obtain rfl:=Option.some.inj H;(go_wp2_with(first| (refine Zq Tryz.func90 (Y27.calls _ _ _ _ A8.out) fun nd=>?_)| (refine Zm Tryz.func109 (Y8.calls _ _ _ _ _ (GL_below Z36 HGL.out) A10.out) fun w17 hb=>?_;replace HB:=Zn hb;try clear hb)));(go_ret);exact⟨Z81,Z36⟩
theorem Y0.calls (k:Nat) (a0:ByteArray) (a1:Int) (r:Bool) (w:World) (hGL:GL w) (h:Y0.f k a0 a1=some r):
  Calls Tryz.prog 6 #[.string a0,.int .u8 a1] w fun e w'=>e= .returned (.bool r)∧Below w.heap.size w w':=by
 have HGL:=Aside0.mk hGL;clear hGL;have HB:=Aside0.mk (Below.refl w.heap.size w);have H:=h;clear h;unfold Y0.f at H;have HC3:=Aside0.mk H;clear H;go_enter Tryz.func6,Tryz.ntmps6
 go_upto_region 1 with (fail)
 go_cut [18] (fun v18 wc=> ∃(kq:Nat) (x18_2:Bool),v18= .bool x18_2∧Aside0 (Y0.j0 kq a0 a1 x18_2=some r)∧Aside0 (kq≤k)∧Aside0 (Below w.heap.size w wc))
 case first=>
  have H:=HC3.out;clear HC3;obtain⟨t705,A4,H⟩ :=Zb H;try dsimp only at H
  by_cases c5:t705=true
  ·subst c5;rw[if_pos rfl] at H;have H':=Aside0.mk H;clear H;(go_wp2_with(first| (refine Zm Tryz.func26 (Y13.calls _ _ _ (GL_below Z36 HGL.out) A4.out) fun w6 hb=>?_;replace HB:=Zn hb;try clear hb)));go_meet
   case rel=>exact⟨_,(decide ((a0.size:Int) > 80)),Z86,H',⟨Z88⟩,⟨Z36⟩⟩
  ·replace c5:=Bool.eq_false_iff.mpr c5;subst c5;rw[if_neg (show¬(false=true) by decide)] at H;have H':=Aside0.mk H;clear H;(go_wp2_with(first| (refine Zm Tryz.func26 (Y13.calls _ _ _ (GL_below Z36 HGL.out) A4.out) fun w7 hb=>?_;replace HB:=Zn hb;try clear hb)));go_meet
   case rel=>exact⟨_,(true),Z86,H',⟨Z88⟩,⟨Z36⟩⟩
 case rest=>
  clear HC3;obtain⟨kq,x18_2,rfl,HA,HJ2,HB⟩ :=hcut;cases kq with
  |zero=>exact absurd HA.out (by simp[Y0.j0])
  |succ kj2=>
   have H:=HA.out;clear HA;simp only[Y0.j0] at H;by_cases c8:x18_2=true
   ·subst c8;rw[if_pos rfl] at H;obtain⟨t706,A9,H⟩ :=Zb H;(try dsimp only at H);obtain rfl:=Option.some.inj H;(go_wp2_with(first| (refine Zm Tryz.func26 (Y13.calls _ _ _ (GL_below Z36 HGL.out) A9.out) fun w10 hb=>?_;replace HB:=Zn hb;try clear hb)));(go_ret);exact⟨Z81,Z36⟩
   ·replace c8:=Bool.eq_false_iff.mpr c8;subst c8;rw[if_neg (show¬(false=true) by decide)] at H;obtain⟨t707,A11,H⟩ :=Zb H;(try dsimp only at H);obtain⟨H,c12b0,c12b1,c12⟩ :=XkT H;(try have c12b2:(9223372036854775807<a0.size+t707.size)=False:=eq_false (Nat.not_lt.2 c12));obtain⟨⟨t708,t709⟩,A13,H⟩ :=Zb H;(try dsimp only at H);obtain⟨⟨t710,t711⟩,A14,H⟩ :=Zb H;(try dsimp only at H);have HC15:=Aside0.mk H;clear H;go_upto_region 6 with (first| (refine Zm Tryz.func27 (Y58.calls _ _ _ _ A11.out) fun w16 hb=>?_;replace HB:=Zn hb;try clear hb)| (refine Zm Tryz.func28 (Y52.calls _ _ _ _ _ (GL_below Z36 HGL.out) A13.out) fun w17 hb=>?_;replace HB:=Zn hb;try clear hb)| (refine Zm Tryz.func29 (Y20.calls _ _ _ _ _ (GL_below Z36 HGL.out) A14.out) fun w18 hb=>?_;replace HB:=Zn hb;try clear hb))
    (try simp only[Act.put,List.setIfInBounds_toArray,List.set_cons_zero,List.set_cons_succ]);go_cut [43] (fun v43 wc=> ∃(kq:Nat) (x43_14:Bool),v43= .bool x43_14∧Aside0 (Y0.j1 kq a0 x43_14=some r)∧Aside0 (kq≤kj2)∧Aside0 (Below w.heap.size w wc))
    case first=>
     have H:=HC15.out;clear HC15;obtain⟨H,c19b0,c19b1,-⟩ | ⟨H,c19b0,c19b1,c19⟩ :=XE H
     ·(first|rw[c19b0]| (simp only[i64_w,i32_w];rw[c19b0])|skip);have H':=Aside0.mk H;clear H;(go_wp2);go_meet
      case rel=>exact⟨_,((t709 !=t711)),Z86,H',⟨Z84⟩,⟨Z36⟩⟩
     ·(first|rw[c19b0]| (simp only[i64_w,i32_w];rw[c19b0])|skip);have H':=Aside0.mk H;clear H;(go_wp2);go_meet
      case rel=>exact⟨_,(true),Z86,H',⟨Z84⟩,⟨Z36⟩⟩
    case rest=>
     clear HC15;obtain⟨kq,x43_14,rfl,HA,HJ14,HB⟩ :=hcut;cases kq with
     |zero=>exact absurd HA.out (by simp[Y0.j1])
     |succ kj14=>
      have H:=HA.out;clear HA;simp only[Y0.j1] at H;by_cases c20:x43_14=true
      ·subst c20;rw[if_pos rfl] at H;obtain rfl:=Option.some.inj H;(go_wp2);(go_ret);exact⟨Z81,Z36⟩
      ·replace c20:=Bool.eq_false_iff.mpr c20;subst c20;rw[if_neg (show¬(false=true) by decide)] at H;obtain⟨t712,A21,H⟩ :=Zb H;(try dsimp only at H);by_cases c22:t712=true
       ·subst c22;rw[if_pos rfl] at H;obtain⟨⟨t713,t714⟩,A23,H⟩ :=Zb H;(try dsimp only at H);obtain⟨H,c24b0,c24b1,-⟩ | ⟨H,c24b0,c24b1,c24⟩ :=XE H
        ·obtain rfl:=Option.some.inj H;(go_wp2_with(first| (refine Zm Tryz.func30 (Y22.calls _ _ _ _ (GL_below Z36 HGL.out) A21.out) fun w25 hb=>?_;replace HB:=Zn hb;try clear hb)| (refine Zm Tryz.func28 (Y52.calls _ _ _ _ _ (GL_below Z36 HGL.out) A23.out) fun w26 hb=>?_;replace HB:=Zn hb;try clear hb)));(go_ret);exact⟨Z81,Z36⟩
        ·obtain rfl:=Option.some.inj H;(go_wp2_with(first| (refine Zm Tryz.func30 (Y22.calls _ _ _ _ (GL_below Z36 HGL.out) A21.out) fun w27 hb=>?_;replace HB:=Zn hb;try clear hb)| (refine Zm Tryz.func28 (Y52.calls _ _ _ _ _ (GL_below Z36 HGL.out) A23.out) fun w28 hb=>?_;replace HB:=Zn hb;try clear hb)));(go_ret);exact⟨Z81,Z36⟩
       ·replace c22:=Bool.eq_false_iff.mpr c22;subst c22;rw[if_neg (show¬(false=true) by decide)] at H;obtain rfl:=Option.some.inj H;(go_wp2_with(first| (refine Zm Tryz.func30 (Y22.calls _ _ _ _ (GL_below Z36 HGL.out) A21.out) fun w29 hb=>?_;replace HB:=Zn hb;try clear hb)));(go_ret);exact⟨Z81,Z36⟩
end Go.Proofs.YtnfgokmecllpbaaGreatDoor.Print
end
section
namespace Go.Klippe
def pv (B:Nat):List Nat→Nat
 | []=>0
 |x::p=>x+B * pv B p
def pd (B n:Nat):List Nat:=
 if h:n=0∨B<2 then [] else n % B::pd B (n / B)
 termination_by n
 decreasing_by
  have h1:n≠0:=fun e=>h (Or.inl e)
  have h2: ¬B<2:=fun e=>h (Or.inr e)
  exact Nat.div_lt_self (by omega) (by omega)
def bdd (B:Nat) (p:List Nat):Prop:= ∀x∈p,x<B
def trd (p:List Nat):Prop:= ∀q x,p=q++ [x]→x≠0
theorem pv_nil (B:Nat):pv B []=0:=rfl
theorem pv_cons (B x:Nat) (p:List Nat):pv B (x::p)=x+B * pv B p:=rfl
theorem pv_append (B:Nat) (p q:List Nat):pv B (p++q)=pv B p+B ^ p.length * pv B q:=by
 induction p with
 |nil=>simp[pv_nil]
 |cons x p ih=>
  rw[List.cons_append,pv_cons,ih,pv_cons,List.length_cons,Nat.pow_succ,Nat.mul_add,←Nat.mul_assoc,Nat.mul_comm B (B ^ p.length)];omega
theorem pv_snoc (B:Nat) (p:List Nat) (x:Nat):pv B (p++ [x])=pv B p+B ^ p.length * x:=by
 rw[pv_append];simp[pv_cons,pv_nil]
theorem bdd_nil (B:Nat):bdd B []:=by intro x hx;simp at hx
theorem bdd_cons {B x:Nat} {p:List Nat}:bdd B (x::p)↔x<B∧bdd B p:=by simp[bdd]
theorem bdd_append {B:Nat} {p q:List Nat}:bdd B (p++q)↔bdd B p∧bdd B q:=by
 constructor
 ·intro h;exact⟨fun x hx=>h x (List.mem_append_left _ hx),fun x hx=>h x (List.mem_append_right _ hx)⟩
 ·rintro⟨h1,h2⟩ x hx;rcases List.mem_append.1 hx with hx|hx
  ·exact h1 x hx
  ·exact h2 x hx
theorem bdd_take {B:Nat} {p:List Nat} (h:bdd B p) (k:Nat):bdd B (p.take k):=fun x hx=>h x (List.mem_of_mem_take hx)
theorem bdd_drop {B:Nat} {p:List Nat} (h:bdd B p) (k:Nat):bdd B (p.drop k):=fun x hx=>h x (List.mem_of_mem_drop hx)
theorem pv_lt {B:Nat} (hB:1≤B) {p:List Nat} (h:bdd B p):pv B p<B ^ p.length:=by
 induction p with
 |nil=>simp[pv_nil]
 |cons x p ih=>
  obtain⟨hx,hp⟩ :=bdd_cons.1 h;have:=ih hp;rw[pv_cons,List.length_cons,Nat.pow_succ,Nat.mul_comm (B ^ p.length)];have h1:B * (pv B p+1)≤B * B ^ p.length:=Nat.mul_le_mul_left _ (by omega);rw[Nat.mul_add] at h1;omega
theorem pd_zero (B:Nat):pd B 0= []:=by rw[pd];simp
theorem pd_pos {B n:Nat} (hB:2≤B) (hn:n≠0):pd B n=n % B::pd B (n / B):=by
 rw[pd,dif_neg];omega
theorem pv_pd {B:Nat} (hB:2≤B) (n:Nat):pv B (pd B n)=n:=by
 induction n using Nat.strongRecOn with
 |_ n ih=>
  by_cases hn:n=0
  ·subst hn;rw[pd_zero];rfl
  ·rw[pd_pos hB hn,pv_cons,ih _ (Nat.div_lt_self (by omega) (by omega))];exact Nat.mod_add_div n B
theorem bdd_pd {B:Nat} (hB:2≤B) (n:Nat):bdd B (pd B n):=by
 induction n using Nat.strongRecOn with
 |_ n ih=>
  by_cases hn:n=0
  ·subst hn;rw[pd_zero];exact bdd_nil _
  ·rw[pd_pos hB hn];exact bdd_cons.2 ⟨Nat.mod_lt _ (by omega),ih _ (Nat.div_lt_self (by omega) (by omega))⟩
theorem pd_eq_nil {B n:Nat} (hB:2≤B):pd B n= []↔n=0:=by
 constructor
 ·intro h;have:=pv_pd hB n;rw[h] at this;exact this.symm
 ·rintro rfl;exact pd_zero B
theorem trd_pd {B:Nat} (hB:2≤B) (n:Nat):trd (pd B n):=by
 induction n using Nat.strongRecOn with
 |_ n ih=>
  intro q x e;by_cases hn:n=0
  ·subst hn;rw[pd_zero] at e;simp at e
  ·rw[pd_pos hB hn] at e;cases q with
   |nil=>
    simp only[List.nil_append,List.cons.injEq] at e;obtain⟨e1,e2⟩ :=e;have h0:=(pd_eq_nil hB).1 e2;rw[←e1];have:=Nat.mod_add_div n B;rw[h0] at this;simp at this;omega
   |cons y q=>
    simp only[List.cons_append,List.cons.injEq] at e;exact ih _ (Nat.div_lt_self (by omega) (by omega)) q x e.2
theorem pd_pv {B:Nat} (hB:2≤B): ∀(p:List Nat),bdd B p→trd p→pd B (pv B p)=p:=by
 intro p
 induction p with
 |nil=>intro _ _;rw[pv_nil,pd_zero]
 |cons x p ih=>
  intro h1 h2;obtain⟨hx,hp⟩ :=bdd_cons.1 h1;have htp:trd p:=fun q y e=>h2 (x::q) y (by rw[e];rfl)
  have hne:pv B (x::p)≠0:=by
   rw[pv_cons];intro h0;have hx0:x=0:=by omega
   have hp0:B * pv B p=0:=by omega
   rcases Nat.mul_eq_zero.1 hp0 with h|h
   ·omega
   ·have:=ih hp htp;rw[h,pd_zero] at this;subst this;exact h2 [] x rfl hx0
  rw[pd_pos hB hne,pv_cons];have e1:(x+B * pv B p) % B=x:=by rw[Nat.add_mul_mod_self_left];exact Nat.mod_eq_of_lt hx
  have e2:(x+B * pv B p) / B=pv B p:=by rw[Nat.add_mul_div_left _ _ (by omega),Nat.div_eq_of_lt hx];omega
  rw[e1,e2,ih hp htp]
def trim:List Nat→List Nat
 | []=>[]
 |x::p=>if trim p= []∧x=0 then [] else x::trim p
theorem pv_trim (B:Nat) (p:List Nat):pv B (trim p)=pv B p:=by
 induction p with
 |nil=>rfl
 |cons x p ih=>
  rw[trim];split
  ·rename_i h
   rw[pv_cons,←ih,h.1,h.2];simp[pv_nil]
  ·rw[pv_cons,pv_cons,ih]
theorem bdd_trim {B:Nat} {p:List Nat} (h:bdd B p):bdd B (trim p):=by
 induction p with
 |nil=>exact h
 |cons x p ih=>
  obtain⟨hx,hp⟩ :=bdd_cons.1 h;rw[trim];split
  ·exact bdd_nil _
  ·exact bdd_cons.2 ⟨hx,ih hp⟩
theorem trd_trim (p:List Nat):trd (trim p):=by
 induction p with
 |nil=>intro q x e;simp[trim] at e
 |cons x p ih=>
  intro q y e;rw[trim] at e;split at e
  ·simp at e
  ·rename_i h
   cases q with
   |nil=>
    simp only[List.nil_append,List.cons.injEq] at e;rw[←e.1];intro h0;exact h ⟨e.2,h0⟩
   |cons z q=>
    simp only[List.cons_append,List.cons.injEq] at e;exact ih q y e.2
theorem trim_eq {B:Nat} (hB:2≤B) {p:List Nat} (h:bdd B p):trim p=pd B (pv B p):=by
 rw[←pv_trim B p,pd_pv hB _ (bdd_trim h) (trd_trim p)]
theorem trim_snoc_zero (p:List Nat):trim (p++ [0])=trim p:=by
 induction p with
 |nil=>simp[trim]
 |cons x p ih=>rw[List.cons_append,trim,trim,ih]
theorem trim_of_trd {p:List Nat} (h:trd p):trim p=p:=by
 induction p with
 |nil=>rfl
 |cons x p ih=>
  have htp:trd p:=fun q y e=>h (x::q) y (by rw[e];rfl)
  rw[trim,ih htp,if_neg];rintro⟨rfl,hx⟩;exact h [] x rfl hx
theorem trim_snoc_pos (p:List Nat) {x:Nat} (h:x≠0):trim (p++ [x])=p++ [x]:=by
 apply trim_of_trd;intro q y e;have:=List.append_inj_right' e rfl;simp at this;omega
theorem pow_le_pd {B n:Nat} (hB:2≤B) (hn:n≠0):B ^ ((pd B n).length - 1)≤n:=by
 induction n using Nat.strongRecOn with
 |_ n ih=>
  rw[pd_pos hB hn,List.length_cons,Nat.add_sub_cancel];by_cases h:n / B=0
  ·rw[h,pd_zero];simp;omega
  ·have h1:=ih _ (Nat.div_lt_self (by omega) (by omega)) h;have h2:(pd B (n / B)).length≠0:=by
    intro h0;exact h ((pd_eq_nil hB).1 (List.length_eq_zero_iff.1 h0))
   obtain⟨k,hk⟩ : ∃k,(pd B (n / B)).length=k+1:= ⟨_,(Nat.succ_pred_eq_of_ne_zero h2).symm⟩
   rw[hk] at h1⊢;rw[Nat.add_sub_cancel] at h1;rw[Nat.pow_succ]
   calc B ^ k * B≤n / B * B:=Nat.mul_le_mul_right _ h1
    _≤n:=Nat.div_mul_le_self n B
theorem lt_pow_pd {B:Nat} (hB:2≤B) (n:Nat):n<B ^ (pd B n).length:=by
 have:=pv_lt (by omega) (bdd_pd hB n)
 rwa [pv_pd hB] at this
theorem pd_length_le {B n k:Nat} (hB:2≤B) (h:n<B ^ k):(pd B n).length≤k:=by
 by_cases hn:n=0
 ·subst hn;rw[pd_zero];simp
 ·have h1:=pow_le_pd hB hn;have h2:B ^ ((pd B n).length - 1)<B ^ k:=Nat.lt_of_le_of_lt h1 h;have:=(Nat.pow_lt_pow_iff_right (by omega:1<B)).1 h2;omega
theorem pd_length_mono {B m n:Nat} (hB:2≤B) (h:m≤n):(pd B m).length≤(pd B n).length:=
 pd_length_le hB (Nat.lt_of_le_of_lt h (lt_pow_pd hB n))
theorem lt_of_pd_length {B m n:Nat} (hB:2≤B) (h:(pd B m).length< (pd B n).length):m<n:=by
 apply Nat.lt_of_not_le;intro hle;have:=pd_length_mono hB hle;omega
theorem pv_lt_of_last {B:Nat} (hB:1≤B) {p q:List Nat} {x y:Nat} (hl:p.length=q.length) (hp:bdd B p) (hxy:x<y):pv B (p++ [x])<pv B (q++ [y]):=by
 rw[pv_snoc,pv_snoc,hl];have h1:=pv_lt hB hp;rw[hl] at h1;have h2:B ^ q.length * (x+1)≤B ^ q.length * y:=Nat.mul_le_mul_left _ hxy;rw[Nat.mul_add] at h2;omega
end Go.Klippe
end
section
namespace Go.Proofs.YtnfgokmecllpbaaGreatDoor.Print
open Go.RowKit Go.Proofs.YtnfgokmecllpbaaGreatDoorW.PrintWords Go.Proofs.YtnfgokmecllpbaaGreatDoorW.PrintLast Go.Proofs.YtnfgokmecllpbaaGreatDoorW.PrintMore
theorem w64 {z:Int} (h0:-9223372036854775808≤z) (h1:z<9223372036854775808):wrap64 z=z:=by
 unfold wrap64;omega
theorem rd_nat {l:List Int} {i:Nat} (h:i<l.length):rd l (i:Int)=l[i]:=by
 unfold rd;rw[Int.toNat_natCast,List.getD_eq_getElem?_getD,List.getElem?_eq_getElem h];rfl
theorem rd_last (q:List Int) (x:Int):rd (q++ [x]) (q.length:Int)=x:=by
 rw[rd_nat (by simp)];simp
def trimI (l:List Int):List Int:=(l.reverse.dropWhile (·==0)).reverse
theorem trimI_nil:trimI []= []:=rfl
theorem trimI_zero (q:List Int):trimI (q++ [0])=trimI q:=by simp[trimI]
theorem trimI_pos (q:List Int) {x:Int} (h:x≠0):trimI (q++ [x])=q++ [x]:=by simp[trimI,h]
theorem trim_l0: ∀(k:Nat) (l:List Int),l.length<k→l.length<4611686018427387904→Y72.l0 k l=some (trimI l):=by
 intro k
 induction k with
 |zero=>intro l h;omega
 |succ k ih=>
  intro l h hb;rcases List.eq_nil_or_concat l with rfl| ⟨q,x,rfl⟩
  ·simp[Y72.l0,trimI_nil]
  ·rw[List.concat_eq_append] at h hb⊢;have hl:((q++ [x]).length:Int)= (q.length:Int)+1:=by simp
   have hw:wrap64 (((q++ [x]).length:Int) - 1)= (q.length:Int):=by rw[hl,w64 (by omega) (by rw[List.length_append] at hb;simp at hb;omega)];omega
   unfold Y72.l0;rw[hw,rd_last,if_pos (by rw[hl];omega),if_pos (by omega),if_pos (by rw[hl];omega)];by_cases hx:x=0
   ·subst hx;rw[if_pos rfl,if_pos (by rw[hl];omega),Int.toNat_natCast,List.take_left,trimI_zero];exact ih q (by simp at h;omega) (by simp at hb;omega)
   ·rw[if_neg hx,trimI_pos q hx]
theorem trim_f (k:Nat) (l:List Int) (h:l.length<k) (hb:l.length<4611686018427387904):Y72.f k l=some (trimI l):=trim_l0 k l h hb
def ordN (a b:Nat):Int:=if a=b then 0 else if a<b then -1 else 1
def cI (p:List Nat):List Int:=p.map Int.ofNat
theorem cI_length (p:List Nat):(cI p).length=p.length:=by simp[cI]
theorem rd_cI {p:List Nat} {i:Nat} (h:i<p.length):rd (cI p) (i:Int)= (p[i]:Int):=by
 rw[rd_nat (by rw[cI_length];exact h)];simp[cI]
open Go.Klippe in
theorem order_l0 (B:Nat) (hB:1≤B) (p q:List Nat) (hp:bdd B p) (hq:bdd B q) (hl:p.length=q.length) (hb:p.length<4611686018427387904):
  ∀(j k:Nat),j<k→j≤p.length→Y60.l0 k (cI p) (cI q) ((j:Int) - 1)=some (ordN (pv B (p.take j)) (pv B (q.take j))):=by
 intro j
 induction j with
 |zero=>
  intro k hk _;obtain⟨k,rfl⟩ : ∃k',k=k'+1:= ⟨k - 1,by omega⟩
  unfold Y60.l0;rw[if_neg (by omega)];simp[ordN]
 |succ j ih=>
  intro k hk hj;obtain⟨k,rfl⟩ : ∃k',k=k'+1:= ⟨k - 1,by omega⟩
  have hj1:j<p.length:=by omega
  have hj2:j<q.length:=by omega
  have e:((j+1:Nat):Int) - 1= (j:Int):=by omega
  unfold Y60.l0;rw[e,if_pos (by omega),if_pos (by omega),if_pos (by rw[cI_length];omega),if_pos (by rw[cI_length];omega),rd_cI hj1,rd_cI hj2,w64 (by omega) (by omega)];have t1:p.take (j+1)=p.take j++ [p[j]]:=by rw[List.take_succ_eq_append_getElem hj1]
  have t2:q.take (j+1)=q.take j++ [q[j]]:=by rw[List.take_succ_eq_append_getElem hj2]
  rw[t1,t2];have l1:(p.take j).length= (q.take j).length:=by simp;omega
  by_cases h1:p[j]=q[j]
  ·rw[if_pos (by omega),ih k (by omega) (by omega),h1,pv_snoc,pv_snoc,l1];congr 1;unfold ordN;simp
  ·rw[if_neg (by omega)];by_cases h2:p[j]<q[j]
   ·rw[if_pos (by omega)];have:=pv_lt_of_last hB l1 (bdd_take hp j) h2;unfold ordN;rw[if_neg (by omega),if_pos this]
   ·rw[if_neg (by omega)];have:=pv_lt_of_last hB l1.symm (bdd_take hq j) (show q[j]<p[j] by omega);unfold ordN;rw[if_neg (by omega),if_neg (by omega)]
def pI (n:Nat):List Int:=cI (Go.Klippe.pd 1000000000 n)
theorem pI_length (n:Nat):(pI n).length= (Go.Klippe.pd 1000000000 n).length:=cI_length _
open Go.Klippe in
theorem order_f (m n k:Nat) (hk:(pI m).length<k) (hb:(pI m).length<4611686018427387904):Y60.f k (pI m) (pI n)=some (ordN m n):=by
 have hB:2≤1000000000:=by decide
 unfold Y60.f;by_cases hl:(pd 1000000000 m).length= (pd 1000000000 n).length
 ·rw[if_pos (by rw[pI_length,pI_length,hl]),pI_length,w64 (by omega) (by rw[pI_length] at hb;omega)];have:=order_l0 1000000000 (by decide) (pd 1000000000 m) (pd 1000000000 n) (bdd_pd hB m) (bdd_pd hB n) hl (by rw[pI_length] at hb;exact hb) (pd 1000000000 m).length k (by rw[pI_length] at hk;exact hk) (Nat.le_refl _);rw[List.take_length,hl,List.take_length,pv_pd hB,pv_pd hB] at this;rw[hl];exact this
 ·rw[if_neg (by rw[pI_length,pI_length];omega)];by_cases h2:(pd 1000000000 m).length< (pd 1000000000 n).length
  ·have:=lt_of_pd_length hB h2;rw[if_pos (by rw[pI_length,pI_length];omega)];unfold ordN;rw[if_neg (by omega),if_pos this]
  ·have:=lt_of_pd_length hB (show(pd 1000000000 n).length< (pd 1000000000 m).length by omega);rw[if_neg (by rw[pI_length,pI_length];omega)];unfold ordN;rw[if_neg (by omega),if_neg (by omega)]
end Go.Proofs.YtnfgokmecllpbaaGreatDoor.Print
end
section
namespace Go.Proofs.YtnfgokmecllpbaaGreatDoor.Print
open Go.RowKit Go.Klippe Go.Proofs.YtnfgokmecllpbaaGreatDoorW.PrintWords Go.Proofs.YtnfgokmecllpbaaGreatDoorW.PrintLast Go.Proofs.YtnfgokmecllpbaaGreatDoorW.PrintMore
theorem u64w {z:Int} (h0:0≤z) (h1:z<18446744073709551616):IntKind.u64.wrap z=z:=by
 rw[IntKind.wrap_u64];omega
theorem cI_append (p q:List Nat):cI (p++q)=cI p++cI q:=by simp[cI]
theorem trimI_cI (p:List Nat):trimI (cI p)=cI (trim p):=by
 induction hn:p.length generalizing p with
 |zero=>obtain rfl:=List.length_eq_zero_iff.1 hn;rfl
 |succ n ih=>
  rcases List.eq_nil_or_concat p with rfl| ⟨q,x,rfl⟩
  ·rfl
  ·rw[List.concat_eq_append] at hn⊢;rw[cI_append];by_cases hx:x=0
   ·subst hx;rw[trim_snoc_zero];exact(trimI_zero (cI q)).trans (ih q (by simp at hn;omega))
   ·rw[trim_snoc_pos q hx,cI_append];exact trimI_pos (cI q) (by show(x:Int)≠0;omega)
theorem plus_step {B:Nat} {s P Q:List Nat} {c t i:Nat} (hs:s.length=i) (h:pv B s+B ^ i * c=pv B P+pv B Q) (x y:Nat) (ht:t=c+x+y) (hP:P.length=i) (hQ:Q.length=i):
  pv B (s++ [t % B])+B ^ (i+1) * (t / B)=pv B (P++ [x])+pv B (Q++ [y]):=by
 rw[pv_snoc,pv_snoc,pv_snoc,hs,hP,hQ,Nat.pow_succ];have h1:B ^ i * (t % B)+B ^ i * B * (t / B)=B ^ i * t:=by
  rw[Nat.mul_assoc,←Nat.mul_add,Nat.mod_add_div]
 have h2:B ^ i * t=B ^ i * c+B ^ i * x+B ^ i * y:=by rw[ht,Nat.mul_add,Nat.mul_add]
 omega
theorem plus_step1 {B:Nat} {s P:List Nat} {c t i q:Nat} (hs:s.length=i) (h:pv B s+B ^ i * c=pv B P+q) (x:Nat) (ht:t=c+x) (hP:P.length=i):
  pv B (s++ [t % B])+B ^ (i+1) * (t / B)=pv B (P++ [x])+q:=by
 rw[pv_snoc,pv_snoc,hs,hP,Nat.pow_succ];have h1:B ^ i * (t % B)+B ^ i * B * (t / B)=B ^ i * t:=by
  rw[Nat.mul_assoc,←Nat.mul_add,Nat.mod_add_div]
 have h2:B ^ i * t=B ^ i * c+B ^ i * x:=by rw[ht,Nat.mul_add]
 omega
theorem plusg_l0 (p q:List Nat) (hp:bdd 1000000000 p) (hq:bdd 1000000000 q) (hl:q.length≤p.length) (hb:p.length<17592186044000):
  ∀(m i:Nat) (s:List Nat) (c k:Nat),p.length - i=m→i≤p.length→s.length=i→c≤1→bdd 1000000000 s→pv 1000000000 s+1000000000 ^ i * c=pv 1000000000 (p.take i)+pv 1000000000 (q.take i)→m+p.length+3<k→
   Y61.l0 k (cI q) (cI s) (c:Int) (cI p) (p.length:Int) (i:Int)=some (cI (pd 1000000000 (pv 1000000000 p+pv 1000000000 q))):=by
 intro m
 induction m with
 |zero=>
  intro i s c k hm hi hs hc hbs hv hk;obtain⟨k,rfl⟩ : ∃k',k=k'+1:= ⟨k - 1,by omega⟩
  have hie:i=p.length:=by omega
  unfold Y61.l0;rw[if_neg (by omega),if_pos (by rw[cI_length];omega),show cI s++ [(c:Int)]=cI (s++ [c]) from(cI_append s [c]).symm,trim_f _ _ (by rw[cI_length];simp;omega) (by rw[cI_length];simp;omega),trimI_cI];have hbd:bdd 1000000000 (s++ [c]):=bdd_append.2 ⟨hbs,by intro x hx;simp at hx;omega⟩;rw[trim_eq (by decide) hbd,pv_snoc,hs,hv,hie,List.take_length,List.take_of_length_le hl];rfl
 |succ m ih=>
  intro i s c k hm hi hs hc hbs hv hk;have HV:=Aside0.mk hv;clear hv;obtain⟨k,rfl⟩ : ∃k',k=k'+1:= ⟨k - 1,by omega⟩
  have hip:i<p.length:=by omega
  have hx:=hp _ (List.getElem_mem hip);unfold Y61.l0;rw[if_pos (by omega),if_pos (by omega),if_pos (by rw[cI_length];omega),rd_cI hip];have hi1:wrap64 ((i:Int)+1)= ((i+1:Nat):Int):=by rw[w64 (by omega) (by omega)];omega
  by_cases hiq:i<q.length
  ·have hy:=hq _ (List.getElem_mem hiq);obtain⟨t,ht⟩ : ∃t,t=c+p[i]+q[i]:= ⟨_,rfl⟩
   rw[if_pos (by rw[cI_length];omega),if_pos (by rw[cI_length];omega),rd_cI hiq,u64w (z:=(c:Int)+ (p[i]:Int)) (by omega) (by omega),u64w (z:=(c:Int)+ (p[i]:Int)+ (q[i]:Int)) (by omega) (by omega),
    show(c:Int)+ (p[i]:Int)+ (q[i]:Int)= (t:Int) by omega,Int.tmod_eq_emod_of_nonneg (by omega),Int.tdiv_eq_ediv_of_nonneg (by omega),hi1,
    show(t:Int) % 1000000000= ((t % 1000000000:Nat):Int) by omega,show(t:Int) / 1000000000= ((t / 1000000000:Nat):Int) by omega,u64w (by omega) (by omega),
    show cI s++ [((t % 1000000000:Nat):Int)]=cI (s++ [t % 1000000000]) from(cI_append s [_]).symm]
   refine ih (i+1) (s++ [t % 1000000000]) (t / 1000000000) k (by omega) (by omega) (by rw[List.length_append,hs];rfl) (by omega) (bdd_append.2 ⟨hbs,by intro x hx;rw[List.mem_singleton] at hx;omega⟩) ?_ (by omega);rw[List.take_succ_eq_append_getElem hip,List.take_succ_eq_append_getElem hiq];exact plus_step hs HV.out _ _ ht (by simp;omega) (by simp;omega)
  ·obtain⟨t,ht⟩ : ∃t,t=c+p[i]:= ⟨_,rfl⟩
   rw[if_neg (by rw[cI_length];omega),if_pos (by rw[cI_length];omega),u64w (z:=(c:Int)+ (p[i]:Int)) (by omega) (by omega),
    show(c:Int)+ (p[i]:Int)= (t:Int) by omega,Int.tmod_eq_emod_of_nonneg (by omega),Int.tdiv_eq_ediv_of_nonneg (by omega),hi1,
    show(t:Int) % 1000000000= ((t % 1000000000:Nat):Int) by omega,show(t:Int) / 1000000000= ((t / 1000000000:Nat):Int) by omega,u64w (by omega) (by omega),
    show cI s++ [((t % 1000000000:Nat):Int)]=cI (s++ [t % 1000000000]) from(cI_append s [_]).symm]
   refine ih (i+1) (s++ [t % 1000000000]) (t / 1000000000) k (by omega) (by omega) (by rw[List.length_append,hs];rfl) (by omega) (bdd_append.2 ⟨hbs,by intro x hx;rw[List.mem_singleton] at hx;omega⟩) ?_ (by omega);rw[List.take_succ_eq_append_getElem hip,show q.take (i+1)=q.take i by rw[List.take_of_length_le (by omega),List.take_of_length_le (by omega)]];exact plus_step1 hs HV.out _ ht (by simp;omega)
theorem plusg_f (m n k:Nat) (hl:(pI n).length≤(pI m).length) (hb:(pI m).length<17592186044000) (hk:2 * (pI m).length+3<k):Y61.f k (pI m) (pI n)=some (pI (m+n)):=by
 have hB:2≤1000000000:=by decide
 unfold Y61.f;rw[w64 (by omega) (by omega),if_pos (by omega),if_pos (by omega)];have h:=plusg_l0 (pd 1000000000 m) (pd 1000000000 n) (bdd_pd hB m) (bdd_pd hB n) (by rw[←pI_length,←pI_length];exact hl) (by rw[←pI_length];exact hb) (pd 1000000000 m).length 0 [] 0 k (by omega) (Nat.zero_le _) rfl (Nat.zero_le _) (bdd_nil _) (by simp[pv_nil]) (by rw[←pI_length];omega);rw[pv_pd hB,pv_pd hB] at h;rw[pI_length];exact h
theorem plus_f (m n k:Nat) (hb:(pI m).length<17592186044000) (hb2:(pI n).length<17592186044000) (hk:2 * (pI m).length+2 * (pI n).length+3<k):Y71.f k (pI m) (pI n)=some (pI (m+n)):=by
 unfold Y71.f;split
 ·rw[plusg_f n m k (by omega) hb2 (by omega),Nat.add_comm]
 ·exact plusg_f m n k (by omega) hb (by omega)
end Go.Proofs.YtnfgokmecllpbaaGreatDoor.Print
end
section
namespace Go.Klippe
theorem pv_set {B:Nat}: ∀(p:List Nat) (j v:Nat) (h:j<p.length),pv B (p.set j v)+B ^ j * p[j]=pv B p+B ^ j * v
 | [],j,v,h=>by simp at h
 |x::p,0,v,h=>by simp[pv_cons];omega
 |x::p,j+1,v,h=>by
  have h':j<p.length:=by simpa using h
  have e:=pv_set (B:=B) p j v h';rw[List.set_cons_succ,List.getElem_cons_succ,pv_cons,pv_cons,Nat.pow_succ];have h2:B * (pv B (p.set j v)+B ^ j * p[j])=B * (pv B p+B ^ j * v):=by rw[e]
  rw[Nat.mul_add,Nat.mul_add,←Nat.mul_assoc,←Nat.mul_assoc,Nat.mul_comm B (B ^ j)] at h2;omega
theorem bdd_set {B:Nat} {p:List Nat} (h:bdd B p) (j:Nat) {v:Nat} (hv:v<B):bdd B (p.set j v):=by
 intro x hx;rcases List.mem_or_eq_of_mem_set hx with h1|h1
 ·exact h x h1
 ·omega
theorem set_step {B:Nat} {p:List Nat} {j c e t:Nat} (h:j<p.length) (ht:t=c+p[j]+e):
  pv B (p.set j (t % B))+B ^ (j+1) * (t / B)=pv B p+B ^ j * c+B ^ j * e:=by
 have h1:=pv_set (B:=B) p j (t % B) h;have h2:B ^ j * (t % B)+B ^ j * B * (t / B)=B ^ j * t:=by
  rw[Nat.mul_assoc,←Nat.mul_add,Nat.mod_add_div]
 have h3:B ^ j * t=B ^ j * c+B ^ j * p[j]+B ^ j * e:=by rw[ht,Nat.mul_add,Nat.mul_add]
 rw[Nat.pow_succ];omega
theorem pv_take_succ {B:Nat} (p:List Nat) {i:Nat} (h:i<p.length):pv B (p.take (i+1))=pv B (p.take i)+B ^ i * p[i]:=by
 rw[List.take_succ_eq_append_getElem h,pv_snoc,List.length_take,Nat.min_eq_left (by omega)]
theorem times_step {B W:Nat} {p q:List Nat} {i k c x t:Nat} (hk:k<q.length) (hj:i+k<p.length) (ht:t=c+p[i+k]+x * q[k])
  (hv:pv B p+B ^ (i+k) * c=W+B ^ i * (x * pv B (q.take k))):
  pv B (p.set (i+k) (t % B))+B ^ (i+ (k+1)) * (t / B)=W+B ^ i * (x * pv B (q.take (k+1))):=by
 have h1:=set_step (B:=B) hj ht;rw[pv_take_succ q hk,Nat.mul_add,Nat.mul_add];have h2:B ^ i * (x * (B ^ k * q[k]))=B ^ (i+k) * (x * q[k]):=by
  rw[Nat.pow_add];simp only[Nat.mul_assoc,Nat.mul_left_comm]
 rw[h2,show i+ (k+1)=i+k+1 by omega];omega
theorem carry_step {B V:Nat} {p:List Nat} {j c t:Nat} (hj:j<p.length) (ht:t=c+p[j]) (hv:pv B p+B ^ j * c=V):
  pv B (p.set j (t % B))+B ^ (j+1) * (t / B)=V:=by
 have h1:=set_step (B:=B) (e:=0) hj ht;omega
theorem carry_in {B V:Nat} (hB:1≤B) {p:List Nat} {j c:Nat} (hv:pv B p+B ^ j * c=V) (hV:V<B ^ p.length) (hc:c≠0):j<p.length:=by
 apply Nat.lt_of_not_le;intro h;have h1:B ^ p.length≤B ^ j:=Nat.pow_le_pow_right hB h;have h2:B ^ j * 1≤B ^ j * c:=Nat.mul_le_mul_left _ (by omega);omega
theorem times_row {B:Nat} {p q:List Nat} {i:Nat} (h:i<p.length):pv B (p.take i) * pv B q+B ^ i * (p[i] * pv B q)=pv B (p.take (i+1)) * pv B q:=by
 rw[pv_take_succ p h,Nat.add_mul,Nat.mul_assoc]
theorem times_lt {B:Nat} (hB:1≤B) {p q:List Nat} (hp:bdd B p) (hq:bdd B q) (i:Nat):pv B (p.take i) * pv B q<B ^ (p.length+q.length+1):=by
 have h1:=pv_lt hB (bdd_take hp i);have h2:=pv_lt hB hq;have h3:(p.take i).length≤p.length:=by rw[List.length_take];omega
 have h4:B ^ (p.take i).length≤B ^ p.length:=Nat.pow_le_pow_right hB h3;have h5:pv B (p.take i) * pv B q≤B ^ p.length * pv B q:=Nat.mul_le_mul_right _ (by omega);have h6:B ^ p.length * pv B q<B ^ p.length * B ^ q.length:=Nat.mul_lt_mul_of_pos_left h2 (Nat.pow_pos hB);rw[←Nat.pow_add] at h6;have h7:B ^ (p.length+q.length)≤B ^ (p.length+q.length+1):=Nat.pow_le_pow_right hB (by omega);omega
theorem minus_step {B:Nat} {s P Q:List Nat} {c i d x y c':Nat} (hs:s.length=i) (h:pv B s+pv B Q=pv B P+B ^ i * c) (hd:d+c+y=x+B * c') (hP:P.length=i) (hQ:Q.length=i):
  pv B (s++ [d])+pv B (Q++ [y])=pv B (P++ [x])+B ^ (i+1) * c':=by
 rw[pv_snoc,pv_snoc,pv_snoc,hs,hP,hQ,Nat.pow_succ];have h1:B ^ i * (d+c+y)=B ^ i * (x+B * c'):=by rw[hd]
 rw[Nat.mul_add,Nat.mul_add,Nat.mul_add,←Nat.mul_assoc] at h1;omega
theorem minus_step1 {B:Nat} {s P:List Nat} {c i d x c' q:Nat} (hs:s.length=i) (h:pv B s+q=pv B P+B ^ i * c) (hd:d+c=x+B * c') (hP:P.length=i):
  pv B (s++ [d])+q=pv B (P++ [x])+B ^ (i+1) * c':=by
 rw[pv_snoc,pv_snoc,hs,hP,Nat.pow_succ];have h1:B ^ i * (d+c)=B ^ i * (x+B * c'):=by rw[hd]
 rw[Nat.mul_add,Nat.mul_add,←Nat.mul_assoc] at h1;omega
theorem minus_end {B:Nat} (hB:1≤B) {s:List Nat} {m n c:Nat} (hb:bdd B s) (h:pv B s+n=m+B ^ s.length * c) (hn:n≤m):pv B s=m - n:=by
 have h1:=pv_lt hB hb;rcases Nat.eq_zero_or_pos c with rfl|hc
 ·omega
 ·have h2:B ^ s.length * 1≤B ^ s.length * c:=Nat.mul_le_mul_left _ hc;omega
def Eu {α:Type} (F:Nat→Option α) (r:α):Prop:= ∃k0,∀k,k0≤k→F k=some r
variable {α β:Type}
theorem Eu.some (r:α):Eu (fun _=>Option.some r) r:= ⟨0,fun _ _=>rfl⟩
theorem Eu.of (n:Nat) {F:Nat→Option α} {r:α} (h: ∀k,n≤k→F k=Option.some r):Eu F r:= ⟨n,h⟩
theorem Eu.const {x:Option α} {r:α} (h:x=Option.some r):Eu (fun _=>x) r:= ⟨0,fun _ _=>h⟩
theorem Eu.succ {F:Nat→Option α} {r:α} (h:Eu (fun k=>F (k+1)) r):Eu F r:=by
 obtain⟨n,hn⟩ :=h;refine⟨n+1,fun k hk=>?_⟩;obtain⟨j,rfl⟩ : ∃j,k=j+1:= ⟨k - 1,by omega⟩
 exact hn j (by omega)
theorem Eu.bind {F:Nat→Option α} {G:Nat→α→Option β} {a:α} {r:β} (h:Eu F a) (h2:Eu (fun k=>G k a) r):Eu (fun k=>(F k).bind (G k)) r:=by
 obtain⟨n,hn⟩ :=h;obtain⟨m,hm⟩ :=h2;refine⟨n+m,fun k hk=>?_⟩;show(F k).bind (G k)=Option.some r;rw[hn k (by omega)];exact hm k (by omega)
theorem Eu.bindc {x:Option α} {G:Nat→α→Option β} {a:α} {r:β} (h:x=Option.some a) (h2:Eu (fun k=>G k a) r):Eu (fun k=>x.bind (G k)) r:=Eu.bind (Eu.const h) h2
theorem Eu.ifp {c:Prop} [Decidable c] {A B:Nat→Option α} {r:α} (h:c) (h2:Eu A r):Eu (fun k=>if c then A k else B k) r:=by
 simpa only[if_pos h] using h2
theorem Eu.ifn {c:Prop} [Decidable c] {A B:Nat→Option α} {r:α} (h: ¬c) (h2:Eu B r):Eu (fun k=>if c then A k else B k) r:=by
 simpa only[if_neg h] using h2
theorem Eu.ite {c:Prop} [Decidable c] {A B:Nat→Option α} {r:α} (h1:c→Eu A r) (h2: ¬c→Eu B r):Eu (fun k=>if c then A k else B k) r:=by
 by_cases h:c
 ·exact Eu.ifp h (h1 h)
 ·exact Eu.ifn h (h2 h)
theorem Eu.eq {F:Nat→Option α} {r s:α} (h:Eu F r) (e:r=s):Eu F s:=e ▸ h
end Go.Klippe
end
section
namespace Go.Proofs.YtnfgokmecllpbaaGreatDoor.Print
open Go.RowKit Go.Klippe Go.Proofs.YtnfgokmecllpbaaGreatDoorW.PrintWords Go.Proofs.YtnfgokmecllpbaaGreatDoorW.PrintLast Go.Proofs.YtnfgokmecllpbaaGreatDoorW.PrintMore
theorem w64_succ {i:Nat} (h:i<4611686018427387904):wrap64 ((i:Int)+1)= ((i+1:Nat):Int):=by rw[w64 (by omega) (by omega)];omega
theorem w64_add {i j:Nat} (h:i<4611686018427387904) (h2:j<4611686018427387904):wrap64 ((i:Int)+ (j:Int))= ((i+j:Nat):Int):=by rw[w64 (by omega) (by omega)];omega
theorem lt_big {i n:Nat} (h:i<n) (hb:n<17592186044000):i<4611686018427387904:=by omega
theorem cI_snoc (s:List Nat) (d:Nat):cI s++ [(d:Int)]=cI (s++ [d]):=(cI_append s [d]).symm
theorem minus_l0 (p q:List Nat) (hp:bdd 1000000000 p) (hq:bdd 1000000000 q) (hl:q.length≤p.length) (hb:p.length<17592186044000) (hqp:pv 1000000000 q≤pv 1000000000 p):
  ∀(m i:Nat) (s:List Nat) (c k:Nat),p.length - i=m→i≤p.length→s.length=i→c≤1→bdd 1000000000 s→pv 1000000000 s+pv 1000000000 (q.take i)=pv 1000000000 (p.take i)+1000000000 ^ i * c→m+p.length+3<k→
   Y59.l0 k (cI q) (cI s) (c:Int) (cI p) (p.length:Int) (i:Int)=some (cI (pd 1000000000 (pv 1000000000 p - pv 1000000000 q))):=by
 intro m
 induction m with
 |zero=>
  intro i s c k hm hi hs hc hbs hv hk;obtain⟨k,rfl⟩ : ∃k',k=k'+1:= ⟨k - 1,by omega⟩
  have hie:i=p.length:=by omega
  unfold Y59.l0;rw[if_neg (by omega),trim_f _ _ (by rw[cI_length];omega) (by rw[cI_length];omega),trimI_cI,trim_eq (by decide) hbs];rw[hie,List.take_length,List.take_of_length_le hl,←hie,←hs] at hv;rw[minus_end (by decide) hbs hv hqp];rfl
 |succ m ih=>
  intro i s c k hm hi hs hc hbs hv hk;have HV:=Aside0.mk hv;clear hv hqp;obtain⟨k,rfl⟩ : ∃k',k=k'+1:= ⟨k - 1,by omega⟩
  have hip:i<p.length:=by omega
  have hx:=hp _ (List.getElem_mem hip);unfold Y59.l0;have hi1:wrap64 ((i:Int)+1)= ((i+1:Nat):Int):=by rw[w64 (by omega) (by omega)];omega
  rw[if_pos (by omega),if_pos (by omega),if_pos (by rw[cI_length];omega),rd_cI hip,hi1];by_cases hiq:i<q.length
  ·have hy:=hq _ (List.getElem_mem hiq);rw[if_pos (by rw[cI_length];omega),rd_cI hiq,u64w (z:=(c:Int)+ (q[i]:Int)) (by omega) (by omega),u64w (z:=(p[i]:Int)+1000000000) (by omega) (by omega)];by_cases hlt:p[i]<c+q[i]
   ·rw[if_pos (by omega),if_pos (by rw[cI_length];omega),u64w (by omega) (by omega),show(p[i]:Int)+1000000000 - ((c:Int)+ (q[i]:Int))= ((p[i]+1000000000 - (c+q[i]):Nat):Int) by omega,cI_snoc];refine ih (i+1) _ 1 k (by omega) (by omega) (by rw[List.length_append,hs];rfl) (by omega) (bdd_append.2 ⟨hbs,by intro x hx;rw[List.mem_singleton] at hx;omega⟩) ?_ (by omega);rw[List.take_succ_eq_append_getElem hip,List.take_succ_eq_append_getElem hiq];exact minus_step hs HV.out (by omega) (by simp;omega) (by simp;omega)
   ·rw[if_neg (by omega),if_pos (by rw[cI_length];omega),u64w (by omega) (by omega),show(p[i]:Int) - ((c:Int)+ (q[i]:Int))= ((p[i] - (c+q[i]):Nat):Int) by omega,cI_snoc];refine ih (i+1) _ 0 k (by omega) (by omega) (by rw[List.length_append,hs];rfl) (by omega) (bdd_append.2 ⟨hbs,by intro x hx;rw[List.mem_singleton] at hx;omega⟩) ?_ (by omega);rw[List.take_succ_eq_append_getElem hip,List.take_succ_eq_append_getElem hiq];exact minus_step hs HV.out (by omega) (by simp;omega) (by simp;omega)
  ·rw[if_neg (by rw[cI_length];omega),u64w (z:=(p[i]:Int)+1000000000) (by omega) (by omega)];by_cases hlt:p[i]<c
   ·rw[if_pos (by omega),if_pos (by rw[cI_length];omega),u64w (by omega) (by omega),show(p[i]:Int)+1000000000 - (c:Int)= ((p[i]+1000000000 - c:Nat):Int) by omega,cI_snoc];refine ih (i+1) _ 1 k (by omega) (by omega) (by rw[List.length_append,hs];rfl) (by omega) (bdd_append.2 ⟨hbs,by intro x hx;rw[List.mem_singleton] at hx;omega⟩) ?_ (by omega);rw[List.take_succ_eq_append_getElem hip,show q.take (i+1)=q.take i by rw[List.take_of_length_le (by omega),List.take_of_length_le (by omega)]];exact minus_step1 hs HV.out (by omega) (by simp;omega)
   ·rw[if_neg (by omega),if_pos (by rw[cI_length];omega),u64w (by omega) (by omega),show(p[i]:Int) - (c:Int)= ((p[i] - c:Nat):Int) by omega,cI_snoc];refine ih (i+1) _ 0 k (by omega) (by omega) (by rw[List.length_append,hs];rfl) (by omega) (bdd_append.2 ⟨hbs,by intro x hx;rw[List.mem_singleton] at hx;omega⟩) ?_ (by omega);rw[List.take_succ_eq_append_getElem hip,show q.take (i+1)=q.take i by rw[List.take_of_length_le (by omega),List.take_of_length_le (by omega)]];exact minus_step1 hs HV.out (by omega) (by simp;omega)
theorem pI_length_mono {m n:Nat} (h:m≤n):(pI m).length≤(pI n).length:=by
 rw[pI_length,pI_length];exact pd_length_mono (by decide) h
theorem minus_f (m n k:Nat) (h:n≤m) (hb:(pI m).length<17592186044000) (hk:2 * (pI m).length+3<k):Y59.f k (pI m) (pI n)=some (pI (m - n)):=by
 have hB:2≤1000000000:=by decide
 unfold Y59.f;rw[if_pos (by omega),if_pos (by omega)];have hl:=pI_length_mono h;have h:=minus_l0 (pd 1000000000 m) (pd 1000000000 n) (bdd_pd hB m) (bdd_pd hB n) (by rw[←pI_length,←pI_length];exact hl) (by rw[←pI_length];exact hb) (by rw[pv_pd hB,pv_pd hB];exact h) (pd 1000000000 m).length 0 [] 0 k (by omega) (Nat.zero_le _) rfl (Nat.zero_le _) (bdd_nil _) (by simp[pv_nil]) (by rw[←pI_length];omega);rw[pv_pd hB,pv_pd hB] at h;rw[pI_length];exact h
theorem cI_set (p:List Nat) (j v:Nat):(cI p).set j (v:Int)=cI (p.set j v):=by simp[cI,List.map_set]
theorem times_l2 (q a:List Nat) (V:Nat) (r:List Int) (n i:Nat) (x21:Int):
  ∀(m j:Nat) (p:List Nat) (c:Nat),p.length - j=m→j≤p.length→p.length<17592186044000→c<1000000000→bdd 1000000000 p→pv 1000000000 p+1000000000 ^ j * c=V→V<1000000000 ^ p.length→
   (∀p':List Nat,p'.length=p.length→bdd 1000000000 p'→pv 1000000000 p'=V→Eu (fun k=>Y64.l0 k (cI q) (cI p') (cI a) (n:Int) (wrap64 (x21+1))) r)→
   Eu (fun k=>Y64.l2 k (cI q) (cI p) (c:Int) (j:Int) (cI a) (n:Int) x21) r:=by
 intro m
 induction m with
 |zero=>
  intro j p c hm hj hb hc hbp hv hV hr;have hc0:c=0:=by
   apply Classical.byContradiction;intro h;have:=carry_in (by decide) hv hV h;omega
  subst hc0;refine Eu.succ ?_;simp only[Y64.l2];exact Eu.ifn (by omega) (hr p rfl hbp (by rw[Nat.mul_zero] at hv;exact hv))
 |succ m ih=>
  intro j p c hm hj hb hc hbp hv hV hr;by_cases hc0:c=0
  ·subst hc0;refine Eu.succ ?_;simp only[Y64.l2];exact Eu.ifn (by omega) (hr p rfl hbp (by rw[Nat.mul_zero] at hv;exact hv))
  ·have hjp:j<p.length:=by omega
   have hx:=hbp _ (List.getElem_mem hjp);have HV:=Aside0.mk hv;have HV2:=Aside0.mk hV;clear hv hV;obtain⟨t,ht⟩ : ∃t,t=c+p[j]:= ⟨_,rfl⟩
   refine Eu.succ ?_;simp only[Y64.l2];refine Eu.ifp (by omega) (Eu.ifp (by omega) (Eu.ifp (by rw[cI_length];omega) ?_));have hj1:wrap64 ((j:Int)+1)= ((j+1:Nat):Int):=by rw[w64 (by omega) (by omega)];omega
   rw[rd_cI hjp,u64w (z:=(c:Int)+ (p[j]:Int)) (by omega) (by omega),show(c:Int)+ (p[j]:Int)= (t:Int) by omega,Int.tmod_eq_emod_of_nonneg (by omega),Int.tdiv_eq_ediv_of_nonneg (by omega),hj1,
    show(t:Int) % 1000000000= ((t % 1000000000:Nat):Int) by omega,show(t:Int) / 1000000000= ((t / 1000000000:Nat):Int) by omega,u64w (by omega) (by omega),Int.toNat_natCast,cI_set]
   refine ih (j+1) (p.set j (t % 1000000000)) (t / 1000000000) (by rw[List.length_set];omega) (by rw[List.length_set];omega) (by rw[List.length_set];omega) (by omega) (bdd_set hbp j (by omega)) ?_ ?_ ?_
   ·exact carry_step hjp ht HV.out
   ·rw[List.length_set];exact HV2.out
   ·intro p' h1;rw[List.length_set] at h1;exact hr p' h1
theorem times_num {c x y z t:Nat} (hx:x<1000000000) (hc:c<1000000000) (hy:y<1000000000) (hz:z<1000000000) (ht:t=c+z+x * y):
  t / 1000000000<1000000000∧Int.tmod (IntKind.u64.wrap ((c:Int)+IntKind.u64.wrap ((z:Int)+IntKind.u64.wrap ((x:Int) * (y:Int))))) 1000000000= ((t % 1000000000:Nat):Int)∧
   IntKind.u64.wrap (Int.tdiv (IntKind.u64.wrap ((c:Int)+IntKind.u64.wrap ((z:Int)+IntKind.u64.wrap ((x:Int) * (y:Int))))) 1000000000)= ((t / 1000000000:Nat):Int):=by
 have hxy:x * y≤999999999 * 999999999:=Nat.mul_le_mul (by omega) (by omega);have hm1:(x:Int) * (y:Int)= ((x * y:Nat):Int):=by rw[Int.natCast_mul]
 rw[hm1];generalize x * y=u at *;rw[u64w (z:=(u:Int)) (by omega) (by omega),u64w (z:=(z:Int)+ (u:Int)) (by omega) (by omega),u64w (z:=(c:Int)+ ((z:Int)+ (u:Int))) (by omega) (by omega),show(c:Int)+ ((z:Int)+ (u:Int))= (t:Int) by omega,Int.tmod_eq_emod_of_nonneg (by omega),Int.tdiv_eq_ediv_of_nonneg (by omega),
  u64w (z:=(t:Int) / 1000000000) (by omega) (by omega)]
 refine⟨?_,?_,?_⟩ <;> omega
theorem times_l1 (q a:List Nat) (W x:Nat) (hq:bdd 1000000000 q) (hx:x<1000000000) (r:List Int) (n i:Nat) (x21:Int):
  ∀(m k0:Nat) (p:List Nat) (c:Nat),q.length - k0=m→k0≤q.length→p.length<17592186044000→i+q.length<p.length→c<1000000000→bdd 1000000000 p→pv 1000000000 p+1000000000 ^ (i+k0) * c=W+1000000000 ^ i * (x * pv 1000000000 (q.take k0))→
   W+1000000000 ^ i * (x * pv 1000000000 q)<1000000000 ^ p.length→
   (∀p':List Nat,p'.length=p.length→bdd 1000000000 p'→pv 1000000000 p'=W+1000000000 ^ i * (x * pv 1000000000 q)→Eu (fun k=>Y64.l0 k (cI q) (cI p') (cI a) (n:Int) (wrap64 (x21+1))) r)→
   Eu (fun k=>Y64.l1 k (cI q) (cI p) (i:Int) (x:Int) (c:Int) (cI a) (n:Int) x21 (cI q) (q.length:Int) (k0:Int)) r:=by
 intro m
 induction m with
 |zero=>
  intro k0 p c hm hj hb hip hc hbp hv hV hr;have hk0:k0=q.length:=by omega
  refine Eu.succ ?_;simp only[Y64.l1];refine Eu.ifn (by omega) ?_;rw[hk0,List.take_length] at hv;rw[cI_length,w64 (by omega) (by omega),show(i:Int)+ (q.length:Int)= ((i+q.length:Nat):Int) by omega];exact times_l2 q a _ r n i x21 _ (i+q.length) p c rfl (by omega) hb hc hbp hv hV hr
 |succ m ih=>
  intro k0 p c hm hj hb hip hc hbp hv hV hr;have HV:=Aside0.mk hv;have HV2:=Aside0.mk hV;clear hv hV;have hkq:k0<q.length:=by omega
  have hjp:i+k0<p.length:=by omega
  have f1:(k0:Int)< (q.length:Int):=by omega
  have f2:(0:Int)≤(k0:Int):=by omega
  have f3:(k0:Int)< ((cI q).length:Int):=by rw[cI_length];exact f1
  have f4:(0:Int)≤((i+k0:Nat):Int):=by omega
  have f5:((i+k0:Nat):Int)< ((cI p).length:Int):=by rw[cI_length];omega
  have f6:q.length - (k0+1)=m:=by omega
  have f7:i<p.length:=by omega
  have f8:k0<p.length:=by omega
  have hik:wrap64 ((i:Int)+ (k0:Int))= ((i+k0:Nat):Int):=w64_add (lt_big f7 hb) (lt_big f8 hb);have hj1:wrap64 ((k0:Int)+1)= ((k0+1:Nat):Int):=w64_succ (lt_big f8 hb);have hst: ∀t,t=c+p[i+k0]+x * q[k0]→_:=fun t ht=>times_step (B:=1000000000) (W:=W) hkq hjp ht HV.out
  have r1:=rd_cI hkq;have r2:=rd_cI hjp;have hy:=hq _ (List.getElem_mem hkq);have hz:=hbp _ (List.getElem_mem hjp);refine Eu.succ ?_;simp only[Y64.l1];rw[hik];refine Eu.ifp f1 (Eu.ifp f2 (Eu.ifp f3 (Eu.ifp f4 (Eu.ifp f5 ?_))));rw[r1,r2,hj1,Int.toNat_natCast];generalize q[k0]=y at *;generalize p[i+k0]=z at *;obtain⟨t,ht⟩ : ∃t,t=c+z+x * y:= ⟨_,rfl⟩
  obtain⟨g0,g1,g2⟩ :=times_num hx hc hy hz ht;rw[g1,g2,cI_set];have g3:=hst t ht;exact ih (k0+1) (p.set (i+k0) (t % 1000000000)) (t / 1000000000) f6 hkq (by rw[List.length_set];exact hb) (by rw[List.length_set];exact hip) g0 (bdd_set hbp _ (Nat.mod_lt _ (by decide))) g3 (by rw[List.length_set];exact HV2.out)
   (fun p' h1=>hr p' (h1.trans (List.length_set ..)))
theorem times_l0 (q a:List Nat) (hq:bdd 1000000000 q) (ha:bdd 1000000000 a) (hb:a.length+q.length+1<17592186044000):
  ∀(m i:Nat) (p:List Nat),a.length - i=m→i≤a.length→p.length=a.length+q.length+1→bdd 1000000000 p→pv 1000000000 p=pv 1000000000 (a.take i) * pv 1000000000 q→
   Eu (fun k=>Y64.l0 k (cI q) (cI p) (cI a) (a.length:Int) (i:Int)) (cI (pd 1000000000 (pv 1000000000 a * pv 1000000000 q))):=by
 intro m
 induction m with
 |zero=>
  intro i p hm hi hp hbp hv;refine Eu.succ ?_;simp only[Y64.l0];refine Eu.ifn (by omega) ?_;refine Eu.bind (a:=trimI (cI p)) (Eu.of ((cI p).length+1) fun k hk=>trim_f k _ (by omega) (by rw[cI_length];omega)) ?_;rw[trimI_cI,trim_eq (by decide) hbp,hv,show i=a.length by omega,List.take_length];exact Eu.some _
 |succ m ih=>
  intro i p hm hi hp hbp hv;have hia:i<a.length:=by omega
  have hx:=ha _ (List.getElem_mem hia);refine Eu.succ ?_;simp only[Y64.l0];refine Eu.ifp (by omega) (Eu.ifp (by omega) (Eu.ifp (by rw[cI_length];omega) ?_));rw[rd_cI hia,cI_length];have g1:a.length - (i+1)=m:=by omega
  have g2:i+1≤a.length:=by omega
  have g3:p.length<17592186044000:=by omega
  have g4:i+q.length<p.length:=by omega
  have hi1:wrap64 ((i:Int)+1)= ((i+1:Nat):Int):=by rw[w64 (by omega) (by omega)];omega
  have hrow:=times_row (B:=1000000000) (p:=a) (q:=q) hia;refine times_l1 q a (pv 1000000000 (a.take i) * pv 1000000000 q) a[i] hq hx _ a.length i (i:Int) q.length 0 p 0 rfl (Nat.zero_le _) g3 g4 (by decide) hbp ?_ ?_ ?_
  ·rw[hv];simp[pv_nil]
  ·rw[hrow,hp];exact times_lt (by decide) ha hq (i+1)
  ·intro p' h1 h2 h3;rw[hi1];exact ih (i+1) p' g1 g2 (h1.trans hp) h2 (by rw[h3,hrow])
theorem pv_zeros (B n:Nat):pv B (List.replicate n 0)=0:=by
 induction n with
 |zero=>rfl
 |succ n ih=>rw[List.replicate_succ,pv_cons,ih];simp
theorem times_ev (m n:Nat) (hb:(pI m).length+ (pI n).length<17592186043000):Eu (fun k=>Y64.f k (pI m) (pI n)) (pI (m * n)):=by
 have hB:2≤1000000000:=by decide
 unfold Y64.f;rw[w64 (z:=((pI m).length:Int)+ ((pI n).length:Int)) (by omega) (by omega),w64 (by omega) (by omega),show((pI m).length:Int)+ ((pI n).length:Int)+1= (((pI m).length+ (pI n).length+1:Nat):Int) by omega,Int.toNat_natCast];refine Eu.ifp (by omega) (Eu.ifp (by omega) ?_);have h:=times_l0 (pd 1000000000 n) (pd 1000000000 m) (bdd_pd hB n) (bdd_pd hB m) (by rw[←pI_length,←pI_length];omega) (pd 1000000000 m).length 0 (List.replicate ((pI m).length+ (pI n).length+1) 0) (by omega) (Nat.zero_le _) (by rw[List.length_replicate,pI_length,pI_length]) (by intro x hx;rw[List.mem_replicate] at hx;omega) (by simp[pv_zeros,pv_nil]);rw[pv_pd hB,pv_pd hB] at h;have hz:cI (List.replicate ((pI m).length+ (pI n).length+1) 0)=List.replicate ((pI m).length+ (pI n).length+1) 0:=by simp[cI]
 rw[hz] at h;rw[show((pI m).length:Int)= ((pd 1000000000 m).length:Int) by rw[pI_length]];exact h
theorem minus_ev (m n:Nat) (h:n≤m) (hb:(pI m).length<17592186044000):Eu (fun k=>Y59.f k (pI m) (pI n)) (pI (m - n)):=
 Eu.of (2 * (pI m).length+4) fun k hk=>minus_f m n k h hb (by omega)
theorem plus_ev (m n:Nat) (hb:(pI m).length<17592186044000) (hb2:(pI n).length<17592186044000):Eu (fun k=>Y71.f k (pI m) (pI n)) (pI (m+n)):=
 Eu.of (2 * (pI m).length+2 * (pI n).length+4) fun k hk=>plus_f m n k hb hb2 (by omega)
theorem order_ev (m n:Nat) (hb:(pI m).length<4611686018427387904):Eu (fun k=>Y60.f k (pI m) (pI n)) (ordN m n):=
 Eu.of ((pI m).length+1) fun k hk=>order_f m n k (by omega) hb
theorem trim_ev (p:List Nat) (hb:bdd 1000000000 p) (hl:p.length<4611686018427387904):Eu (fun k=>Y72.f k (cI p)) (pI (pv 1000000000 p)):=by
 refine Eu.of (p.length+1) fun k hk=>?_
 rw[trim_f k _ (by rw[cI_length];omega) (by rw[cI_length];exact hl),trimI_cI,trim_eq (by decide) hb];rfl
theorem small_ev (m d:Nat) (hd:d<1000000000) (hb:(pI m).length<1759218604000):Eu (fun k=>Y63.f k (pI m) (d:Int)) (pI (m * d)):=by
 unfold Y63.f;have h1:=trim_ev [d] (by intro x hx;rw[List.mem_singleton] at hx;omega) (by simp);rw[show pv 1000000000 [d]=d by simp[pv_cons,pv_nil]] at h1;refine Eu.bind h1 ?_;have hl:(pI d).length≤1:=by rw[pI_length];exact pd_length_le (by decide) (by rw[Nat.pow_one];exact hd)
 exact Eu.bind (times_ev m d (by omega)) (Eu.some _)
end Go.Proofs.YtnfgokmecllpbaaGreatDoor.Print
end
section
namespace Go.Klippe
theorem pd_get {B:Nat} (hB:2≤B) (n i:Nat):(pd B n).getD i 0=n / B ^ i % B:=by
 induction i generalizing n with
 |zero=>
  by_cases hn:n=0
  ·subst hn;simp[pd_zero]
  ·rw[pd_pos hB hn];simp
 |succ i ih=>
  by_cases hn:n=0
  ·subst hn;simp[pd_zero]
  ·rw[pd_pos hB hn,List.getD_cons_succ,ih,Nat.div_div_eq_div_mul,Nat.pow_succ,Nat.mul_comm]
theorem pd_top {B:Nat} (hB:2≤B) (n:Nat):(pd B n).getD ((pd B n).length - 1) 0=n / B ^ ((pd B n).length - 1):=by
 rw[pd_get hB];apply Nat.mod_eq_of_lt;by_cases hn:n=0
 ·subst hn;simp[pd_zero];omega
 ·have h1:(pd B n).length≠0:=by intro h;exact hn ((pd_eq_nil hB).1 (List.length_eq_zero_iff.1 h))
  have h2:=lt_pow_pd hB n;obtain⟨k,hk⟩ : ∃k,(pd B n).length=k+1:= ⟨_,(Nat.succ_pred_eq_of_ne_zero h1).symm⟩
  rw[hk] at h2⊢;rw[Nat.add_sub_cancel];rw[Nat.pow_succ] at h2;exact Nat.div_lt_of_lt_mul h2
theorem pd_top_pos {B n:Nat} (hB:2≤B) (hn:n≠0):1≤n / B ^ ((pd B n).length - 1):=
 (Nat.le_div_iff_mul_le (Nat.pow_pos (by omega))).2 (by rw[Nat.one_mul];exact pow_le_pd hB hn)
theorem est_ge {B R b k:Nat} (hb:1≤b / B ^ k) (hR:R<B * b):R / b≤min (R / B ^ k / (b / B ^ k)) (B - 1):=by
 have hb0:0<b:=by
  rcases Nat.eq_zero_or_pos b with h|h
  ·rw[h] at hb;simp at hb
  ·exact h
 apply Nat.le_min.2;constructor
 ·rw[Nat.le_div_iff_mul_le hb];have h0:0<B ^ k:=by
   rcases Nat.eq_zero_or_pos (B ^ k) with h|h
   ·rw[h] at hb;simp at hb
   ·exact h
  rw[Nat.le_div_iff_mul_le h0]
  calc R / b * (b / B ^ k) * B ^ k=R / b * (b / B ^ k * B ^ k):=Nat.mul_assoc _ _ _
   _≤R / b * b:=Nat.mul_le_mul_left _ (Nat.div_mul_le_self _ _)
   _≤R:=Nat.div_mul_le_self _ _
 ·have:R / b<B:=Nat.div_lt_of_lt_mul (by rw[Nat.mul_comm];exact hR);omega
theorem quo_of {R b d:Nat} (h1:d * b≤R) (h2:R / b≤d) (hb:0<b):d=R / b:=
 Nat.le_antisymm ((Nat.le_div_iff_mul_le hb).2 h1) h2
theorem quo_lt {R b d:Nat} (h1:R<d * b) (hb:0<b):R / b≤d - 1:=by
 have:R / b<d:=Nat.div_lt_of_lt_mul (by rw[Nat.mul_comm];exact h1);omega
theorem quo_step {B A b i:Nat} (hb:0<b) (hB:0<B):
  A / B ^ i / b=A / B ^ (i+1) / b * B+ (A / B ^ (i+1) % b * B+A / B ^ i % B) / b∧A / B ^ i % b= (A / B ^ (i+1) % b * B+A / B ^ i % B) % b:=by
 have e:A / B ^ i=A / B ^ (i+1) / b * B * b+ (A / B ^ (i+1) % b * B+A / B ^ i % B):=by
  have h1:=Nat.div_add_mod (A / B ^ i) B;have h2:A / B ^ i / B=A / B ^ (i+1):=by rw[Nat.div_div_eq_div_mul,Nat.pow_succ]
  have h3:=Nat.div_add_mod (A / B ^ (i+1)) b;rw[h2] at h1;have h4:A / B ^ (i+1) / b * B * b+A / B ^ (i+1) % b * B=B * (A / B ^ (i+1)):=by
   rw[Nat.mul_right_comm,←Nat.add_mul,Nat.mul_comm (A / B ^ (i+1) / b) b,h3,Nat.mul_comm]
  omega
 constructor
 ·have h5:A / B ^ i / b= (A / B ^ (i+1) / b * B * b+ (A / B ^ (i+1) % b * B+A / B ^ i % B)) / b:=by rw[←e]
  rw[h5,Nat.add_comm,Nat.add_mul_div_right _ _ hb,Nat.add_comm]
 ·have h5:A / B ^ i % b= (A / B ^ (i+1) / b * B * b+ (A / B ^ (i+1) % b * B+A / B ^ i % B)) % b:=by rw[←e]
  rw[h5,Nat.add_comm,Nat.add_mul_mod_self_right]
theorem rest_lt {B r x b:Nat} (hr:r<b) (hx:x<B):r * B+x<B * b:=by
 have h:(r+1) * B≤b * B:=Nat.mul_le_mul_right _ hr;rw[Nat.add_mul,Nat.one_mul] at h;rw[Nat.mul_comm B b];omega
def IsRoot (r n:Nat):Prop:=r * r≤n∧n< (r+1) * (r+1)
theorem isRoot_unique {r s n:Nat} (h1:IsRoot r n) (h2:IsRoot s n):r=s:=by
 have key: ∀{r s:Nat},IsRoot r n→IsRoot s n→r≤s:=by
  intro r s h1 h2;apply Nat.le_of_not_lt;intro h;have:(s+1) * (s+1)≤r * r:=Nat.mul_le_mul h h;have:=h1.1;have:=h2.2;omega
 exact Nat.le_antisymm (key h1 h2) (key h2 h1)
theorem sq_expand (y:Nat):(2 * y+2) * (2 * y+2)=4 * ((y+1) * (y+1)):=by
 have:2 * y+2=2 * (y+1):=by omega
 rw[this,Nat.mul_mul_mul_comm]
theorem newton_above {n x:Nat} (hx:0<x):n< ((x+n / x) / 2+1) * ((x+n / x) / 2+1):=by
 have hq:=Nat.div_add_mod n x;have hr:=Nat.mod_lt n hx;generalize hQ:n / x=q at *;generalize hR:n % x=r at *;generalize hY:(x+q) / 2=y;have hy:x+q+1≤2 * y+2:=by omega
 have h1:(x+q+1) * (x+q+1)≤(2 * y+2) * (2 * y+2):=Nat.mul_le_mul hy hy;rw[sq_expand] at h1;have h2:4 * n< (x+q+1) * (x+q+1):=by
  rcases Nat.le_total x (q+1) with h|h
  ·obtain⟨c,hc⟩ :=Nat.exists_eq_add_of_le h
   -- q + 1 = x + c
   have e1:(x+q+1) * (x+q+1)=4 * (x * x)+4 * (x * c)+c * c:=by
    have:x+q+1=2 * x+c:=by omega
    rw[this];grind
   have e2:x * q+x=x * x+x * c:=by
    rw[←Nat.mul_add,←hc,Nat.mul_add];omega
   omega
  ·obtain⟨c,hc⟩ :=Nat.exists_eq_add_of_le h
   -- x = q + 1 + c
   subst hc;have e1:(q+1+c+q+1) * (q+1+c+q+1)=4 * ((q+1) * (q+1))+4 * ((q+1) * c)+c * c:=by
    have:q+1+c+q+1=2 * (q+1)+c:=by omega
    rw[this];grind
   have e2:(q+1+c) * q+ (q+1+c)= (q+1) * (q+1)+ (q+1) * c:=by
    have:(q+1+c) * q+ (q+1+c)= (q+1+c) * (q+1):=by rw[Nat.mul_add];omega
    rw[this,Nat.add_mul,Nat.mul_comm c]
   omega
 omega
theorem newton_stop {n x:Nat} (hx:0<x) (h:x≤(x+n / x) / 2):x * x≤n:=by
 have:x≤n / x:=by omega
 exact(Nat.le_div_iff_mul_le hx).1 this
theorem newton_pos {n x:Nat} (hn:0<n) (hx:0<x):0< (x+n / x) / 2:=by
 by_cases h:2≤x
 ·generalize n / x=q;omega
 ·have:x=1:=by omega
  subst this;rw[Nat.div_one];omega
end Go.Klippe
end
section
namespace Go.Klippe
def hiP (A i:Nat):Nat:=A / 1000000000 ^ i
theorem hiP_zero (A:Nat):hiP A 0=A:=by unfold hiP;rw[Nat.pow_zero,Nat.div_one]
theorem hiP_quo {A b:Nat} (i:Nat) (hb:0<b):hiP A i / b=hiP A (i+1) / b * 1000000000+ (hiP A (i+1) % b * 1000000000+hiP A i % 1000000000) / b∧hiP A i % b= (hiP A (i+1) % b * 1000000000+hiP A i % 1000000000) % b:=
 quo_step hb (by decide)
theorem hiP_succ (A i:Nat):hiP A i=hiP A (i+1) * 1000000000+hiP A i % 1000000000:=by
 unfold hiP;rw[Nat.pow_succ,←Nat.div_div_eq_div_mul];generalize A / 1000000000 ^ i=u;omega
theorem hiP_digit (A i:Nat) (h:i< (pd 1000000000 A).length):(pd 1000000000 A)[i]=hiP A i % 1000000000:=by
 have:=pd_get (B:=1000000000) (by decide) A i;rw[List.getD_eq_getElem?_getD,List.getElem?_eq_getElem h] at this;exact this
theorem hiP_top (A i:Nat) (h:(pd 1000000000 A).length=i+1):(pd 1000000000 A)[i]=hiP A i:=by
 have:=pd_top (B:=1000000000) (by decide) A;rw[h,Nat.add_sub_cancel,List.getD_eq_getElem?_getD,List.getElem?_eq_getElem (by omega)] at this;exact this
theorem hiP_all (A:Nat):hiP A (pd 1000000000 A).length=0:=by
 unfold hiP;exact Nat.div_eq_of_lt (lt_pow_pd (by decide) A)
theorem hiP_pos {A i:Nat} (hA:A≠0) (h:(pd 1000000000 A).length=i+1):1≤hiP A i:=by
 have:=pd_top_pos (B:=1000000000) (by decide) hA;rw[h] at this;exact this
theorem est_hiP {R b i:Nat} (hb:b≠0) (h:(pd 1000000000 b).length=i+1) (hR:R<1000000000 * b):R / b≤min (hiP R i / hiP b i) 999999999:=
 est_ge (hiP_pos hb h) hR
theorem len_mul (m d:Nat) (hd:d≤1000000000):(pd 1000000000 (m * d)).length≤(pd 1000000000 m).length+1:=by
 by_cases hm:m=0
 ·subst hm;rw[Nat.zero_mul,pd_zero];exact Nat.zero_le _
 ·refine pd_length_le (by decide) ?_;rw[Nat.pow_succ];have h1:=lt_pow_pd (B:=1000000000) (by decide) m;have h2:m * d≤m * 1000000000:=Nat.mul_le_mul_left _ hd;have h3:m * 1000000000<1000000000 ^ (pd 1000000000 m).length * 1000000000:=Nat.mul_lt_mul_of_pos_right h1 (by decide);exact Nat.lt_of_le_of_lt h2 h3
theorem len_lt_mul {R b:Nat} (h:R<1000000000 * b):(pd 1000000000 R).length≤(pd 1000000000 b).length+1:=by
 have h1:=len_mul b 1000000000 (Nat.le_refl _);have h2:=pd_length_mono (B:=1000000000) (by decide) (Nat.le_of_lt h);rw[Nat.mul_comm] at h2;exact Nat.le_trans h2 h1
end Go.Klippe
namespace Go.Proofs.YtnfgokmecllpbaaGreatDoor.Print
open Go.RowKit Go.Klippe Go.Proofs.YtnfgokmecllpbaaGreatDoorW.PrintWords Go.Proofs.YtnfgokmecllpbaaGreatDoorW.PrintLast Go.Proofs.YtnfgokmecllpbaaGreatDoorW.PrintMore
theorem div1_nat (b:Nat) (hb:0<b) (hB:b<1000000000): ∀(p:List Nat),bdd 1000000000 p→
  ∃(qs:List Nat) (r:Nat),div1 (b:Int) (cI p)= (cI qs,(r:Int))∧qs.length=p.length∧bdd 1000000000 qs∧r<b∧pv 1000000000 qs * b+r=pv 1000000000 p
 | [],_=> ⟨[],0,rfl,rfl,bdd_nil _,hb,by rw[pv_nil,Nat.zero_mul]⟩
 |x::p,h=>by
  obtain⟨qs,r,h1,h2,h3,h4,h5⟩ :=div1_nat b hb hB p (bdd_cons.1 h).2;have hx:=(bdd_cons.1 h).1;refine⟨(r * 1000000000+x) / b::qs,(r * 1000000000+x) % b,?_,by simp[h2],bdd_cons.2 ⟨?_,h3⟩,Nat.mod_lt _ hb,?_⟩
  ·show((((div1 (b:Int) (cI p)).2 * 1000000000+ (x:Int)) / (b:Int)):: (div1 (b:Int) (cI p)).1,((div1 (b:Int) (cI p)).2 * 1000000000+ (x:Int)) % (b:Int))=_
   rw[h1];rfl
  ·exact Nat.div_lt_of_lt_mul (by rw[Nat.mul_comm];have:=rest_lt (B:=1000000000) h4 hx;omega)
  ·rw[pv_cons,pv_cons,←h5];have:=Nat.div_add_mod (r * 1000000000+x) b;rw[Nat.add_mul,Nat.mul_assoc,Nat.mul_add];rw[Nat.mul_comm] at this;omega
theorem ofNat_lt_base (x:Nat) (h:x<1000000000):Int.ofNat x<1000000000:=by
 have h2:(x:Int)<1000000000:=by omega
 exact h2
theorem okP_cI {p:List Nat} (h:bdd 1000000000 p):okP (cI p)=true:=by
 unfold okP cI;rw[List.all_eq_true];intro z hz;obtain⟨x,hx,rfl⟩ :=List.mem_map.1 hz;have h1:=ofNat_lt_base x (h x hx);have h0:0≤Int.ofNat x:=Int.natCast_nonneg x;rw[Bool.and_eq_true,decide_eq_true_eq,decide_eq_true_eq];exact⟨h0,h1⟩
theorem pI_one {n:Nat} (h0:0<n) (h:n<1000000000):pI n= [(n:Int)]:=by
 unfold pI;rw[pd_pos (by decide) (by omega),Nat.mod_eq_of_lt h,Nat.div_eq_of_lt h,pd_zero];rfl
theorem pI_zero:pI 0= []:=by unfold pI;rw[pd_zero];rfl
theorem pI_nil {n:Nat}:pI n= []↔n=0:=by
 constructor
 ·intro h;have h1:(pI n).length=0:=by rw[h];rfl
  rw[pI_length] at h1;exact(pd_eq_nil (by decide)).1 (List.length_eq_zero_iff.1 h1)
 ·rintro rfl;exact pI_zero
theorem divide1_f (m n:Nat) (h0:0<n) (hn:n<1000000000) (hl:(pI m).length<4000000000000):Y39.f (pI m) [(n:Int)]=some (pI (m / n),pI (m % n)):=by
 unfold Y39.f;have hok:okP (pI m)=true:=okP_cI (bdd_pd (by decide) m);have ho:Y60.f ((pI m).length+2) (pI m) [(n:Int)]=some (ordN m n):=by rw[←pI_one h0 hn];exact order_f m n _ (by omega) (by omega)
 simp only;rw[if_pos ⟨by omega,by omega,hok,hl⟩,ho];simp only;by_cases hlt:m<n
 ·have ht:ordN m n= -1:=by unfold ordN;rw[if_neg (by omega),if_pos hlt]
  rw[ht,if_pos (by decide),Nat.div_eq_of_lt hlt,Nat.mod_eq_of_lt hlt,pI_zero]
 ·have ht: ¬ordN m n<0:=by unfold ordN;split <;> simp[hlt]
  rw[if_neg ht,if_neg (by rw[pI_nil];omega)];obtain⟨qs,r,h1,h2,h3,h4,h5⟩ :=div1_nat n h0 hn (pd 1000000000 m) (bdd_pd (by decide) m);rw[pv_pd (by decide)] at h5;have hq:pv 1000000000 qs=m / n:=by
   rw[←h5,Nat.add_comm,Nat.add_mul_div_right _ _ h0,Nat.div_eq_of_lt h4,Nat.zero_add]
  have hr:r=m % n:=by rw[←h5,Nat.add_comm,Nat.add_mul_mod_self_right,Nat.mod_eq_of_lt h4]
  have h1':div1 (n:Int) (pI m)= (cI qs,(r:Int)):=h1;rw[h1'];have hlq:(cI qs).length= (pI m).length:=by rw[cI_length,h2,pI_length]
  have e1:=trim_f ((pI m).length+1) (cI qs) (by omega) (by omega);have e2:=trim_f 2 (cI [r]) (by rw[cI_length];exact Nat.lt_succ_self 1) (by rw[cI_length];exact Nat.lt_of_lt_of_le (Nat.lt_succ_self 1) (by decide));have e3:bdd 1000000000 [r]:=by intro x hx;rw[List.mem_singleton] at hx;omega
  rw[trimI_cI,trim_eq (by decide) h3,hq] at e1;rw[trimI_cI,trim_eq (by decide) e3,show pv 1000000000 [r]=r by simp[pv_cons,pv_nil],hr] at e2;simp only;rw[e1];show Option.bind (Y72.f 2 (cI [r])) _=_;rw[hr,e2];rfl
theorem div_l1 (x0 q:List Int) (R b:Nat) (x9 x10 x11:Int) (r:List Int×List Int) (hb:b≠0) (hl:(pI b).length<1000000000000) (hlR:(pI R).length<1000000000000) (h0:0≤x11) (hx:x11< (q.length:Int))
  (hr:Eu (fun k=>Y40.l0 k x0 (pI (R % b)) x9 x10 (wrap64 (x11 - 1)) (pI b) (q.set x11.toNat ((R / b:Nat):Int))) r):
  ∀d:Nat,R / b≤d→d<1000000000→Eu (fun k=>Y40.l1 k x0 (pI R) x9 x10 x11 (d:Int) (pI (b * d)) (pI b) q) r:=by
 intro d
 induction d with
 |zero=>
  intro h1 h2;refine Eu.succ ?_;simp only[Y40.l1];have hR:R / b=0:=Nat.le_zero.1 h1;have hRb:R % b=R:=by have:=Nat.div_add_mod R b;rw[hR,Nat.mul_zero,Nat.zero_add] at this;exact this
  refine Eu.bind (order_ev (b * 0) R (by rw[Nat.mul_zero,pI_zero];decide)) ?_;have ho: ¬ordN (b * 0) R > 0:=by rw[Nat.mul_zero];unfold ordN;split <;> (try split) <;> omega
  refine Eu.ifn ho (Eu.bind (minus_ev R (b * 0) (by omega) (by omega)) (Eu.ifp h0 (Eu.ifp hx ?_)));rw[hR,hRb] at hr;rw[Nat.mul_zero,Nat.sub_zero];exact hr
 |succ d ih=>
  intro h1 h2;refine Eu.succ ?_;simp only[Y40.l1];have hlm:(pI (b * (d+1))).length≤(pI b).length+1:=by rw[pI_length,pI_length];exact len_mul b (d+1) (by omega)
  refine Eu.bind (order_ev (b * (d+1)) R (by omega)) ?_;by_cases hc:R<b * (d+1)
  ·have ho:ordN (b * (d+1)) R > 0:=by unfold ordN;rw[if_neg (by omega),if_neg (by omega)];decide
   refine Eu.ifp ho (Eu.bind (minus_ev (b * (d+1)) b (Nat.le_mul_of_pos_right _ (by omega)) (by omega)) ?_);have e:b * (d+1) - b=b * d:=by rw[Nat.mul_add,Nat.mul_one,Nat.add_sub_cancel]
   rw[e,u64w (by omega) (by omega),show((d+1:Nat):Int) - 1= (d:Int) by omega];refine ih ?_ (by omega);have:=quo_lt (R:=R) (b:=b) (d:=d+1) (by rw[Nat.mul_comm];exact hc) (by omega);omega
  ·have hq:d+1=R / b:=quo_of (by rw[Nat.mul_comm];omega) h1 (by omega);have ho: ¬ordN (b * (d+1)) R > 0:=by unfold ordN;split <;> (try split) <;> omega
   have hm:R - b * (d+1)=R % b:=by have:=Nat.div_add_mod R b;rw[←hq] at this;omega
   refine Eu.ifn ho (Eu.bind (minus_ev R (b * (d+1)) (by omega) (by omega)) (Eu.ifp h0 (Eu.ifp hx ?_)));rw[hm,hq];exact hr
theorem div_j1 (x0 q:List Int) (R b i:Nat) (x9 x11:Int) (r:List Int×List Int) (hb:b≠0) (hi:(pd 1000000000 b).length=i+1) (hl:(pI b).length<1000000000000) (hlR:(pI R).length<1000000000000) (h0:0≤x11) (hx:x11< (q.length:Int)) (hR:R<1000000000 * b) (hv:hiP R i<1000000000000000000)
  (hr:Eu (fun k=>Y40.l0 k x0 (pI (R % b)) x9 (hiP b i:Int) (wrap64 (x11 - 1)) (pI b) (q.set x11.toNat ((R / b:Nat):Int))) r):
  Eu (fun k=>Y40.j1 k x0 (pI R) x9 (hiP b i:Int) x11 (hiP R i:Int) (pI b) q) r:=by
 refine Eu.succ ?_;simp only[Y40.j1];have hp:=hiP_pos hb hi;have he:=est_hiP hb hi hR;generalize hiP b i=t at *;generalize hiP R i=v at *;have hvt:v / t≤v:=Nat.div_le_self _ _;refine Eu.ifn (by omega) ?_;have hd:mn (IntKind.u64.wrap (Int.tdiv (v:Int) (t:Int))) 999999999= ((min (v / t) 999999999:Nat):Int):=by
  have e1:Int.tdiv (v:Int) (t:Int)= ((v / t:Nat):Int):=by rw[Int.tdiv_eq_ediv_of_nonneg (Int.natCast_nonneg _)];rfl
  rw[e1];clear he hr;generalize v / t=u at *;rw[u64w (by omega) (by omega)];unfold mn;split <;> omega
 rw[hd];refine Eu.bind (small_ev b (min (v / t) 999999999) (by omega) (by omega)) ?_;exact div_l1 x0 q R b x9 (t:Int) x11 r hb hl hlR h0 hx hr (min (v / t) 999999999) he (by omega)
end Go.Proofs.YtnfgokmecllpbaaGreatDoor.Print
end
section
namespace Go.Klippe
theorem q_step {B:Nat} {q:List Nat} {j d Q:Nat} (h:j<q.length) (h0:q[j]=0) (hv:pv B q=B ^ (j+1) * Q):pv B (q.set j d)=B ^ j * (Q * B+d):=by
 have h1:=pv_set (B:=B) q j d h;rw[h0,hv,Nat.mul_zero,Nat.add_zero] at h1;rw[h1,Nat.pow_succ,Nat.mul_add,Nat.mul_assoc,Nat.mul_comm B Q]
theorem q_same {B:Nat} {q:List Nat} {j Q:Nat} (hv:pv B q=B ^ (j+1) * Q):pv B q=B ^ j * (Q * B):=by
 rw[hv,Nat.pow_succ,Nat.mul_assoc,Nat.mul_comm B Q]
end Go.Klippe
namespace Go.Proofs.YtnfgokmecllpbaaGreatDoor.Print
open Go.RowKit Go.Klippe Go.Proofs.YtnfgokmecllpbaaGreatDoorW.PrintWords Go.Proofs.YtnfgokmecllpbaaGreatDoorW.PrintLast Go.Proofs.YtnfgokmecllpbaaGreatDoorW.PrintMore
theorem cI_cons' (x:Nat) (p:List Nat):cI (x::p)= [(x:Int)]++cI p:=rfl
theorem pI_def (n:Nat):cI (pd 1000000000 n)=pI n:=rfl
theorem w64_nat {n:Nat} (h:n<4611686018427387904):wrap64 (n:Int)= (n:Int):=by rw[w64 (by omega) (by omega)]
theorem w64_pred {n i:Nat} (h:n=i+1) (h2:n<4611686018427387904):wrap64 ((n:Int) - 1)= (i:Int):=by rw[w64 (by omega) (by omega)];omega
theorem w64_pred2 {n i:Nat} (h:n=i+2) (h2:n<4611686018427387904):wrap64 ((n:Int) - 2)= (i:Int):=by rw[w64 (by omega) (by omega)];omega
theorem w64_predj {j:Nat} (h2:j<4611686018427387904):wrap64 ((j:Int) - 1)= (j:Int) - 1:=by rw[w64 (by omega) (by omega)]
theorem pI_lt {n:Nat} {x:Nat} (h:x< (pd 1000000000 n).length):(pd 1000000000 n)[x]<1000000000:=bdd_pd (by decide) n _ (List.getElem_mem h)
theorem rd_pI {n x:Nat} (h:x< (pd 1000000000 n).length):rd (pI n) (x:Int)= (((pd 1000000000 n)[x]:Nat):Int):=rd_cI h
theorem div_est (x0 q:List Int) (R b i:Nat) (x9 x11:Int) (r:List Int×List Int) (hb:b≠0) (hi:(pd 1000000000 b).length=i+1) (hl:(pI b).length<100000000000) (h0:0≤x11) (hx:x11< (q.length:Int)) (hR:R<1000000000 * b) (hge:b≤R)
  (hr:Eu (fun k=>Y40.l0 k x0 (pI (R % b)) x9 (hiP b i:Int) (wrap64 (x11 - 1)) (pI b) (q.set x11.toNat ((R / b:Nat):Int))) r):
  Eu (fun k=>(if 0≤(wrap64 (((pI R).length:Int) - 1)) then(if(wrap64 (((pI R).length:Int) - 1))< ((pI R).length:Int) then(if((pI R).length:Int) > ((pI b).length:Int) then(if 0≤(wrap64 (((pI R).length:Int) - 2)) then(if(wrap64 (((pI R).length:Int) - 2))< ((pI R).length:Int) then(Y40.j1 k x0 (pI R) x9 (hiP b i:Int) x11 (IntKind.u64.wrap ((IntKind.u64.wrap ((rd (pI R) (wrap64 (((pI R).length:Int) - 1))) * 1000000000))+ (rd (pI R) (wrap64 (((pI R).length:Int) - 2))))) (pI b) q) else(none)) else(none)) else(Y40.j1 k x0 (pI R) x9 (hiP b i:Int) x11 (rd (pI R) (wrap64 (((pI R).length:Int) - 1))) (pI b) q)) else(none)) else(none))) r:=by
 have h1:=len_lt_mul hR;have h2:=pd_length_mono (B:=1000000000) (by decide) hge;have lR:(pI R).length= (pd 1000000000 R).length:=pI_length R;have lb:(pI b).length= (pd 1000000000 b).length:=pI_length b;have hlR:(pI R).length<1000000000001:=by omega
 by_cases hc:(pd 1000000000 R).length=i+1
 ·have e:(pI R).length=i+1:=lR.trans hc;rw[w64_pred e (by omega)];have hii:i< (pd 1000000000 R).length:=by omega
  refine Eu.ifp (by omega) (Eu.ifp (by omega) (Eu.ifn (by omega) ?_));rw[rd_pI hii,hiP_top R i hc];have hd:=pI_lt hii;rw[hiP_top R i hc] at hd;exact div_j1 x0 q R b i x9 x11 r hb hi (by omega) (by omega) h0 hx hR (by omega) hr
 ·have hc2:(pd 1000000000 R).length= (i+1)+1:=by omega
  have e:(pI R).length= (i+1)+1:=lR.trans hc2;rw[w64_pred e (by omega),w64_pred2 (i:=i) e (by omega)];have hii:i< (pd 1000000000 R).length:=by omega
  have hii1:i+1< (pd 1000000000 R).length:=by omega
  refine Eu.ifp (by omega) (Eu.ifp (by omega) (Eu.ifp (by omega) (Eu.ifp (by omega) (Eu.ifp (by omega) ?_))));rw[rd_pI hii,rd_pI hii1,hiP_top R (i+1) hc2,hiP_digit R i hii];have hd:=pI_lt hii1;rw[hiP_top R (i+1) hc2] at hd;have hs:=hiP_succ R i;have hj:=fun hv=>div_j1 x0 q R b i x9 x11 r hb hi (by omega) (by omega) h0 hx hR hv hr
  generalize hiP R (i+1)=t at *;generalize hiP R i=v at *;rw[u64w (z:=(t:Int) * 1000000000) (by omega) (by omega),u64w (by omega) (by omega),show(t:Int) * 1000000000+ ((v % 1000000000:Nat):Int)= (v:Int) by omega];exact hj (by omega)
theorem div_l0 (A b f i:Nat) (hb:b≠0) (hi:(pd 1000000000 b).length=i+1) (hf:0<f) (hfB:f<1000000000) (hl:(pI b).length<100000000000) (hlA:(pI A).length<1000000000000):
  ∀(j:Nat) (q:List Nat),j≤(pd 1000000000 A).length→q.length= (pd 1000000000 A).length→bdd 1000000000 q→(∀t (h:t<q.length),t<j→q[t]=0)→pv 1000000000 q=1000000000 ^ j * (hiP A j / b)→
   Eu (fun k=>Y40.l0 k (pI A) (pI (hiP A j % b)) (f:Int) (hiP b i:Int) ((j:Int) - 1) (pI b) (cI q)) (pI (A / b),pI (A % b / f)):=by
 intro j
 induction j with
 |zero=>
  intro q hj hq hbq hz hv;rw[hiP_zero,Nat.pow_zero,Nat.one_mul] at hv;rw[hiP_zero];refine Eu.succ ?_;simp only[Y40.l0];refine Eu.ifn (by omega) ?_;have hlr:(pI (A % b)).length≤(pI b).length:=pI_length_mono (Nat.le_of_lt (Nat.mod_lt _ (by omega)));refine Eu.bindc (divide1_f (A % b) f hf hfB (by omega)) ?_;have h1:=trim_ev q hbq (by rw[hq,←pI_length];omega);rw[hv] at h1;exact Eu.bind h1 (Eu.some _)
 |succ j ih=>
  intro q hj hq hbq hz hv;have hb0:0<b:=by omega
  have hjq:j<q.length:=by omega
  have hjA:j< (pd 1000000000 A).length:=by omega
  have hjl:j< (pI A).length:=by rw[pI_length];exact hjA
  have hj62:j<4611686018427387904:=by omega
  have hq2:=q_step (d:=(hiP A (j+1) % b * 1000000000+hiP A j % 1000000000) / b) hjq (hz j hjq (by omega)) hv;have hq3:=q_same hv;obtain⟨e1,e2⟩ :=hiP_quo (A:=A) (b:=b) j hb0;have hR0:hiP A (j+1) % b<b:=Nat.mod_lt _ hb0;have hdig:=hiP_digit A j hjA;have hx0:hiP A j % 1000000000<1000000000:=Nat.mod_lt _ (by decide);have hR:hiP A (j+1) % b * 1000000000+hiP A j % 1000000000<1000000000 * b:=rest_lt hR0 hx0;have ih0:=ih q (by omega) hq hbq (fun t h ht=>hz t h (by omega));have ih1:=ih (q.set j ((hiP A (j+1) % b * 1000000000+hiP A j % 1000000000) / b)) (by omega) (by rw[List.length_set];exact hq)
   (bdd_set hbq j (Nat.div_lt_of_lt_mul (by omega)))
   (fun t h ht=>by rw[List.getElem_set_ne (by omega)];exact hz t (by rw[List.length_set] at h;exact h) (by omega))
  rw[e1] at ih0 ih1;rw[e2] at ih0 ih1;have hlr:(pI (hiP A (j+1) % b)).length≤(pI b).length:=pI_length_mono (Nat.le_of_lt hR0);clear e1 e2 hv hz ih;generalize hiP A (j+1) % b=R at *;generalize hiP A (j+1) / b=Q at *;have hrd:rd (pI A) (j:Int)= ((hiP A j % 1000000000:Nat):Int):=by rw[rd_pI hjA,hdig]
  have htr:=trim_ev (hiP A j % 1000000000::pd 1000000000 R) (bdd_cons.2 ⟨hx0,bdd_pd (by decide) R⟩) (by rw[List.length_cons,←pI_length];omega);rw[pv_cons,pv_pd (by decide),cI_cons',pI_def] at htr;clear hdig;generalize hiP A j % 1000000000=x at *;have eR:x+1000000000 * R=R * 1000000000+x:=by omega
  rw[eR] at htr;refine Eu.succ ?_;simp only[Y40.l0];rw[show((j+1:Nat):Int) - 1= (j:Int) by omega,hrd];refine Eu.ifp (by omega) (Eu.ifp (by omega) (Eu.ifp (by omega) (Eu.bindc (a:=[(x:Int)]) rfl (Eu.ifp (by rw[List.length_singleton];omega) (Eu.bind (a:=pI (R * 1000000000+x)) htr ?_)))));clear eR;obtain⟨S,hS⟩ : ∃S,R * 1000000000+x=S:= ⟨_,rfl⟩
  simp only[hS] at hR hq2 ih0 ih1⊢;clear hS;refine Eu.bind (order_ev S b (by have:=len_lt_mul hR;rw[←pI_length,←pI_length] at this;omega)) ?_;by_cases hc:S<b
  ·refine Eu.ifp (by unfold ordN;rw[if_neg (by omega),if_pos hc];decide) ?_;have h3:=ih0 (by rw[hq3,Nat.div_eq_of_lt hc,Nat.add_zero]);rw[Nat.mod_eq_of_lt hc] at h3;rw[w64_predj hj62];exact h3
  ·refine Eu.ifn (by unfold ordN;split <;> (try split) <;> omega) ?_;have h3:=ih1 hq2;refine div_est (pI A) (cI q) S b i (f:Int) (j:Int) _ hb hi hl (by omega) (by rw[cI_length];omega) hR (by omega) ?_;rw[w64_predj hj62,Int.toNat_natCast,cI_set];exact h3
theorem divide3_ev (m n:Nat) (hn:n≠0) (hn1:(pI n).length≠1) (hlm:(pI m).length<10000000000) (hln:(pI n).length<10000000000):Eu (fun k=>Y40.f k (pI m) (pI n)) (pI (m / n),pI (m % n)):=by
 unfold Y40.f;refine Eu.bind (order_ev m n (by omega)) ?_;by_cases hlt:m<n
 ·refine Eu.ifp (by unfold ordN;rw[if_neg (by omega),if_pos hlt];decide) ?_;rw[Nat.div_eq_of_lt hlt,Nat.mod_eq_of_lt hlt,pI_zero];exact Eu.some _
 ·refine Eu.ifn (by unfold ordN;split <;> (try split) <;> omega) (Eu.ifn (by omega) ?_);have h0:(pd 1000000000 n).length≠0:=fun h=>hn ((pd_eq_nil (by decide)).1 (List.length_eq_zero_iff.1 h))
  obtain⟨i,hi⟩ : ∃i,(pd 1000000000 n).length=i+1:= ⟨_,(Nat.succ_pred_eq_of_ne_zero h0).symm⟩
  have e:(pI n).length=i+1:=(pI_length n).trans hi;have hii:i< (pd 1000000000 n).length:=by omega
  have htop:=hiP_pos hn hi;have htB:=pI_lt hii;rw[hiP_top n i hi] at htB;have hf1:0<1000000000 / (hiP n i+1):=Nat.div_pos (by omega) (by omega);have hf2:1000000000 / (hiP n i+1)<1000000000:=Nat.div_lt_self (by decide) (by omega);rw[w64_pred e (by omega),rd_pI hii,hiP_top n i hi];have ew:IntKind.u64.wrap ((hiP n i:Int)+1)= ((hiP n i+1:Nat):Int):=by rw[u64w (by omega) (by omega)];rfl
  have ef:IntKind.u64.wrap ((1000000000:Int) / ((hiP n i+1:Nat):Int))= ((1000000000 / (hiP n i+1):Nat):Int):=by
   rw[show(1000000000:Int) / ((hiP n i+1:Nat):Int)= ((1000000000 / (hiP n i+1):Nat):Int) from rfl,u64w (by omega) (by omega)]
  rw[ew,ef];refine Eu.ifp (by omega) (Eu.ifp (by omega) (Eu.ifn (by omega) ?_));generalize 1000000000 / (hiP n i+1)=f at *;refine Eu.bind (small_ev m f hf2 (by omega)) (Eu.bind (small_ev n f hf2 (by omega)) ?_);have la:=len_mul m f (by omega);have lb:=len_mul n f (by omega);rw[←pI_length,←pI_length] at la lb;have hb:n * f≠0:=Nat.mul_ne_zero hn (by omega);have h0':(pd 1000000000 (n * f)).length≠0:=fun h=>hb ((pd_eq_nil (by decide)).1 (List.length_eq_zero_iff.1 h))
  obtain⟨i',hi'⟩ : ∃i,(pd 1000000000 (n * f)).length=i+1:= ⟨_,(Nat.succ_pred_eq_of_ne_zero h0').symm⟩
  have e':(pI (n * f)).length=i'+1:=(pI_length _).trans hi';have hii':i'< (pd 1000000000 (n * f)).length:=by omega
  rw[Int.toNat_natCast,w64_pred e' (by omega),rd_pI hii',hiP_top _ i' hi',w64_predj (by omega)];refine Eu.ifp (by omega) (Eu.ifp (by omega) (Eu.ifp (by omega) (Eu.ifp (by omega) ?_)));have h:=div_l0 (m * f) (n * f) f i' hb hi' hf1 hf2 (by omega) (by omega) (pd 1000000000 (m * f)).length (List.replicate (pd 1000000000 (m * f)).length 0) (Nat.le_refl _) (by rw[List.length_replicate])
   (by intro x hx;rw[List.mem_replicate] at hx;omega) (by intro t h _;rw[List.getElem_replicate]) (by rw[pv_zeros,hiP_all,Nat.zero_div,Nat.mul_zero])
  rw[hiP_all,Nat.zero_mod,pI_zero,Nat.mul_div_mul_right _ _ hf1,Nat.mul_mod_mul_right,Nat.mul_div_cancel _ hf1] at h;have hz:cI (List.replicate (pd 1000000000 (m * f)).length 0)=List.replicate (pI (m * f)).length 0:=by rw[pI_length];simp[cI]
  rw[hz] at h;rw[show(((pI (m * f)).length:Nat):Int)= ((pd 1000000000 (m * f)).length:Int) by rw[pI_length]];exact h
theorem divide_ev (m n:Nat) (hn:n≠0) (hlm:(pI m).length<10000000000) (hln:(pI n).length<10000000000):Eu (fun k=>Y49.f k (pI m) (pI n)) (pI (m / n),pI (m % n)):=by
 unfold Y49.f;refine Eu.ite (fun h=>?_) (fun h=>divide3_ev m n hn h hlm hln);have hB:n<1000000000:=by
  have:=lt_pow_pd (B:=1000000000) (by decide) n;rw[←pI_length,h,Nat.pow_one] at this;exact this
 rw[pI_one (by omega) hB];exact Eu.const (divide1_f m n (by omega) hB (by omega))
end Go.Proofs.YtnfgokmecllpbaaGreatDoor.Print
end
section
namespace Go.Klippe
open Go.Lib
def isD (b:UInt8):Bool:=48≤b.toNat && b.toNat≤57
def dd (b:UInt8):Nat:=b.toNat - 48
def dstep (acc:Nat) (b:UInt8):Nat:=acc * 10+dd b
def dvF (acc:Nat) (l:List UInt8):Nat:=l.foldl dstep acc
theorem dvF_nil (acc:Nat):dvF acc []=acc:=rfl
theorem dvF_cons (acc:Nat) (b:UInt8) (r:List UInt8):dvF acc (b::r)=dvF (acc * 10+dd b) r:=by unfold dvF;rw[List.foldl_cons,dstep]
def dv (l:List UInt8):Nat:=dvF 0 l
theorem dvF_append (l m:List UInt8): ∀acc,dvF acc (l++m)=dvF (dvF acc l) m:=by
 induction l with
 |nil=>intro acc;rfl
 |cons b r ih=>intro acc;rw[List.cons_append,dvF_cons,dvF_cons,ih]
theorem dvF_eq (l:List UInt8): ∀acc,dvF acc l=acc * 10 ^ l.length+dv l:=by
 induction l with
 |nil=>intro acc;simp[dvF_nil,dv]
 |cons b r ih=>
  intro acc;rw[dv,dvF_cons,dvF_cons,ih,ih (0 * 10+dd b)];simp only[List.length_cons,Nat.pow_succ,Nat.zero_mul,Nat.zero_add];rw[Nat.add_mul,Nat.mul_assoc acc 10,Nat.mul_comm 10 (10 ^ r.length)];omega
theorem dv_append (l m:List UInt8):dv (l++m)=dv l * 10 ^ m.length+dv m:=by
 rw[dv,dvF_append,dvF_eq];rfl
theorem dv_cons (b:UInt8) (r:List UInt8):dv (b::r)=dd b * 10 ^ r.length+dv r:=by
 rw[dv,dvF_cons,dvF_eq];simp
theorem dv_snoc (l:List UInt8) (b:UInt8):dv (l++ [b])=dv l * 10+dd b:=by
 rw[dv_append];simp[dv,dvF_nil,dvF_cons]
theorem dv_lt (l:List UInt8) (h: ∀b∈l,isD b=true):dv l<10 ^ l.length:=by
 induction l with
 |nil=>simp[dv,dvF_nil]
 |cons b r ih=>
  rw[dv_cons];have h1:=ih fun b hb=>h b (List.mem_cons_of_mem _ hb)
  have h2:=h b List.mem_cons_self;simp[isD] at h2;simp only[List.length_cons,Nat.pow_succ];have:dd b * 10 ^ r.length≤9 * 10 ^ r.length:=Nat.mul_le_mul_right _ (by unfold dd;omega);omega
theorem toNat_ofNat_lt {n:Nat} (h:n<256):(UInt8.ofNat n).toNat=n:=by
 simp;omega
theorem decDigits_big {u:Nat} (h: ¬u<10):decDigits u=decDigits (u / 10)++ [UInt8.ofNat (48+u % 10)]:=by
 rw[decDigits,dif_neg h]
theorem isD_of_dig {n:Nat} (h:n<10):isD (UInt8.ofNat (48+n))=true:=by
 unfold isD;rw[toNat_ofNat_lt (by omega)];simp;omega
theorem decDigits_isD (u:Nat): ∀b∈decDigits u,isD b=true:=by
 induction u using Nat.strongRecOn with
 |_ u ih=>
  intro b hb;by_cases h:u<10
  ·rw[decDigits_one h] at hb;simp at hb;subst hb;have:=isD_of_dig h
   simpa using this
  ·rw[decDigits_big h] at hb;rcases List.mem_append.1 hb with hb|hb
   ·exact ih _ (by omega) b hb
   ·have hm:u % 10<10:=Nat.mod_lt _ (by decide);have:=isD_of_dig hm;rw[List.mem_singleton.1 hb];exact this
theorem dv_decDigits (u:Nat):dv (decDigits u)=u:=by
 induction u using Nat.strongRecOn with
 |_ u ih=>
  by_cases h:u<10
  ·rw[decDigits_one h];simp only[dv,dvF_nil,dvF_cons,dd];rw[toNat_ofNat_lt (by omega)];omega
  ·rw[decDigits_big h,dv_snoc,ih _ (by omega),dd,toNat_ofNat_lt (by omega)];omega
theorem decDigits_ne_nil (u:Nat):decDigits u≠[]:=by
 intro h;have:=decDigits_length u;rw[h] at this;have:=nDigits_pos u;simp at *;omega
theorem decDigits_head (u:Nat) (h:u≠0): ∃b r,decDigits u=b::r∧49≤b.toNat∧b.toNat≤57:=by
 induction u using Nat.strongRecOn with
 |_ u ih=>
  by_cases hl:u<10
  ·exact⟨_,_,decDigits_one hl,by rw[toNat_ofNat_lt (by omega)];omega,by rw[toNat_ofNat_lt (by omega)];omega⟩
  ·obtain⟨b,r,e,h1,h2⟩ :=ih (u / 10) (by omega) (by omega);exact⟨b,r++ [UInt8.ofNat (48+u % 10)],by rw[decDigits_big hl,e];rfl,h1,h2⟩
theorem decDigits_zero:decDigits 0= [48]:=by rw[decDigits_one (by decide)];rfl
theorem decDigits_dv (l:List UInt8): ∀(_: ∀b∈l,isD b=true) (b:UInt8) (r:List UInt8),l=b::r→b.toNat≠48∨r= []→decDigits (dv l)=l:=by
 induction hn:l.length generalizing l with
 |zero=>intro _ b r e;rw[e] at hn;simp at hn
 |succ n ih=>
  intro h b r e hb;have hne:l≠[]:=by rw[e];simp
  obtain⟨m,c,rfl⟩ : ∃m c,l=m++ [c]:= ⟨l.dropLast,l.getLast hne,(List.dropLast_concat_getLast hne).symm⟩
  have hc:=h c (by simp);simp[isD] at hc;cases m with
  |nil=>
   simp only[List.nil_append];have hd:dv [c]=c.toNat - 48:=by simp[dv,dvF_nil,dvF_cons,dd]
   rw[hd,decDigits_one (by omega)];have:48+ (c.toNat - 48)=c.toNat:=by omega
   rw[this];simp
  |cons b' m'=>
   simp only[List.cons_append,List.cons.injEq] at e;obtain⟨rfl,e⟩ :=e;have hb':b'.toNat≠48:=by
    rcases hb with hb|hb
    ·exact hb
    ·rw[hb] at e;simp at e
   have hd1: ∀x∈b'::m',isD x=true:=fun x hx=>h x (List.mem_append_left _ hx)
   have hih:=ih (b'::m') (by simpa using hn) hd1 b' m' rfl (Or.inl hb');have hbD:=hd1 b' List.mem_cons_self;simp[isD] at hbD;have hpos:1≤dv (b'::m'):=by
    rw[dv_cons];have:1 * 10 ^ m'.length≤dd b' * 10 ^ m'.length:=Nat.mul_le_mul_right _ (by unfold dd;omega);have:=Nat.one_le_pow m'.length 10 (by decide);omega
   rw[dv_snoc,dd];have hbig: ¬dv (b'::m') * 10+ (c.toNat - 48)<10:=by omega
   rw[decDigits_big hbig];have e1:(dv (b'::m') * 10+ (c.toNat - 48)) / 10=dv (b'::m'):=by omega
   have e2:(dv (b'::m') * 10+ (c.toNat - 48)) % 10=c.toNat - 48:=by omega
   rw[e1,e2,hih];have:48+ (c.toNat - 48)=c.toNat:=by omega
   rw[this];simp
theorem decDigits_inj {a b:Nat} (h:decDigits a=decDigits b):a=b:=by
 have:=congrArg dv h
 rwa [dv_decDigits,dv_decDigits] at this
theorem itoa_nonneg {z:Int} (h:0≤z):itoa z=decDigits z.toNat:=by
 unfold itoa;rw[if_neg (by omega)]
theorem itoa_neg {z:Int} (h:z<0):itoa z=45::decDigits z.natAbs:=by
 unfold itoa;rw[if_pos h]
theorem head_not_minus (u:Nat): ∀r,decDigits u≠45::r:=by
 intro r h;have:=decDigits_isD u 45 (by rw[h];simp)
 revert this;decide
theorem itoa_inj {a b:Int} (h:itoa a=itoa b):a=b:=by
 by_cases ha:a<0 <;> by_cases hb:b<0
 ·rw[itoa_neg ha,itoa_neg hb] at h;simp only[List.cons.injEq,true_and] at h;have:=decDigits_inj h;omega
 ·rw[itoa_neg ha,itoa_nonneg (by omega)] at h;exact absurd h.symm (head_not_minus _ _)
 ·rw[itoa_neg hb,itoa_nonneg (by omega)] at h;exact absurd h (head_not_minus _ _)
 ·rw[itoa_nonneg (by omega),itoa_nonneg (by omega)] at h;have:=decDigits_inj h;omega
theorem itoa_ne_nil (z:Int):itoa z≠[]:=by
 by_cases h:z<0
 ·rw[itoa_neg h];simp
 ·rw[itoa_nonneg (by omega)];exact decDigits_ne_nil _
def pad (k u:Nat):List UInt8:=(List.range k).map fun t=>dg u (k - 1 - t)
theorem pad_length (k u:Nat):(pad k u).length=k:=by simp[pad]
theorem pad_succ (k u:Nat):pad (k+1) u=pad k (u / 10)++ [UInt8.ofNat (48+u % 10)]:=by
 unfold pad;rw[List.range_succ,List.map_append];congr 1
 ·refine List.map_congr_left fun t ht=>?_
  have ht':t<k:=List.mem_range.1 ht;rw[show k+1 - 1 - t= (k - 1 - t)+1 by omega,dg_succ]
 ·simp[dg]
theorem decDigits_join (k:Nat): ∀(q r:Nat),q≠0→r<10 ^ k→decDigits (q * 10 ^ k+r)=decDigits q++pad k r:=by
 induction k with
 |zero=>intro q r hq hr;simp at hr;subst hr;simp[pad]
 |succ k ih=>
  intro q r hq hr;have hp:1≤10 ^ (k+1):=Nat.one_le_pow _ _ (by decide);have h10:10≤10 ^ (k+1):=by rw[Nat.pow_succ];have:=Nat.one_le_pow k 10 (by decide);omega
  have hm:1 * 10 ^ (k+1)≤q * 10 ^ (k+1):=Nat.mul_le_mul_right _ (by omega);rw[decDigits_big (by omega),pad_succ,←List.append_assoc];have e1:(q * 10 ^ (k+1)+r) / 10=q * 10 ^ k+r / 10:=by
   rw[Nat.pow_succ,←Nat.mul_assoc];omega
  have e2:(q * 10 ^ (k+1)+r) % 10=r % 10:=by
   rw[Nat.pow_succ,←Nat.mul_assoc];omega
  rw[e1,e2,ih q (r / 10) hq (by rw[Nat.pow_succ] at hr;omega)]
theorem nDigits_le_of_lt {k u:Nat} (hk:1≤k) (h:u<10 ^ k):nDigits u≤k:=by
 induction k generalizing u with
 |zero=>omega
 |succ k ih=>
  by_cases hu:u<10
  ·rw[nDigits_small hu];omega
  ·rw[nDigits_big hu];cases k with
   |zero=>simp at h;omega
   |succ k=>rw[Nat.pow_succ] at h;have:=ih (u:=u / 10) (by omega) (by omega);omega
theorem pad_eq (k u:Nat) (hk:1≤k) (h:u<10 ^ k):pad k u=List.replicate (k - nDigits u) 48++decDigits u:=by
 induction k generalizing u with
 |zero=>omega
 |succ k ih=>
  rw[pad_succ];by_cases hu:u<10
  ·rw[nDigits_small hu,decDigits_one hu,Nat.div_eq_of_lt hu,Nat.mod_eq_of_lt hu];have:pad k 0=List.replicate k 48:=by
    unfold pad;rw[List.eq_replicate_iff];refine⟨by simp,fun b hb=>?_⟩;obtain⟨t,_,rfl⟩ :=List.mem_map.1 hb;simp[dg]
   rw[this];simp
  ·cases k with
   |zero=>simp at h;omega
   |succ k=>
    rw[ih (u / 10) (by omega) (by rw[Nat.pow_succ] at h;omega),nDigits_big hu,decDigits_big hu,List.append_assoc];congr 2;omega
theorem decFrom_eq (l:List UInt8): ∀acc,(∀b∈l,isD b=true)→decFrom acc l=some (dvF acc l):=by
 induction l with
 |nil=>intro acc _;rfl
 |cons b r ih=>
  intro acc h;have hb:=h b List.mem_cons_self;simp[isD] at hb;rw[dvF_cons];simp only[decFrom,digitVal];rw[if_pos hb];exact ih _ fun x hx=>h x (List.mem_cons_of_mem _ hx)
theorem decNat_decDigits (u:Nat):decNat (decDigits u)=some u:=by
 unfold decNat;rw[if_neg (by simp[decDigits_ne_nil]),decFrom_eq _ _ (decDigits_isD u)];have:=dv_decDigits u;unfold dv at this;rw[this]
theorem atoi_itoa (z:Int):atoi (itoa z)=some z:=by
 by_cases h:z<0
 ·rw[itoa_neg h];simp only[atoi,beq_self_eq_true,if_true,decNat_decDigits,Option.map_some];congr 1;omega
 ·rw[itoa_nonneg (by omega)];obtain⟨b,r,e⟩ : ∃b r,decDigits z.toNat=b::r:=by
   cases hd:decDigits z.toNat with
   |nil=>exact absurd hd (decDigits_ne_nil _)
   |cons b r=>exact⟨b,r,rfl⟩
  have hb:=decDigits_isD z.toNat b (by rw[e];simp);have h1:(b==45)=false:=by
   simp only[beq_eq_false_iff_ne,ne_eq];intro h;subst h;revert hb;decide
  have h2:(b==43)=false:=by
   simp only[beq_eq_false_iff_ne,ne_eq];intro h;subst h;revert hb;decide
  rw[e];simp only[atoi,h1,h2,Bool.false_eq_true,if_false];rw[←e,decNat_decDigits];simp;omega
theorem nDigits_len (u:Nat):(decDigits u).length=nDigits u:=decDigits_length u
def closeT (d:Nat):List Nat→List UInt8
 | []=>[]
 |x::p=>if p= [] then decDigits x else closeT d p++pad d x
theorem trd_tail {x:Nat} {p:List Nat} (h:trd (x::p)):trd p:=fun q y e=>h (x::q) y (by rw[e];rfl)
theorem pv_ne_zero {B:Nat} (hB:1≤B): ∀(p:List Nat),trd p→p≠[]→pv B p≠0
 | [],_,h=>absurd rfl h
 | [x],ht,_=>by
  have:=ht [] x rfl;rw[pv_cons,pv_nil];omega
 |x::y::p,ht,_=>by
  have h1:=pv_ne_zero hB (y::p) (trd_tail ht) (by simp);rw[pv_cons];have h2:1 * pv B (y::p)≤B * pv B (y::p):=Nat.mul_le_mul_right _ hB;omega
theorem closeT_eq (d:Nat): ∀(p:List Nat),bdd (10 ^ d) p→trd p→p≠[]→closeT d p=decDigits (pv (10 ^ d) p)
 | [],_,_,h=>absurd rfl h
 | [x],_,_,_=>by
  show(if([]:List Nat)= [] then decDigits x else _)=_
  rw[if_pos rfl,pv_cons,pv_nil,Nat.mul_zero,Nat.add_zero]
 |x::y::p,hb,ht,_=>by
  have ih:=closeT_eq d (y::p) (bdd_cons.1 hb).2 (trd_tail ht) (by simp);show(if(y::p)= [] then decDigits x else closeT d (y::p)++pad d x)=_;rw[if_neg (by simp),ih,←decDigits_join d _ _ (pv_ne_zero (Nat.pow_pos (by decide)) (y::p) (trd_tail ht) (by simp)) (bdd_cons.1 hb).1,pv_cons (10 ^ d) x (y::p),Nat.mul_comm,Nat.add_comm]
theorem dv_cut (s:List UInt8) (k d:Nat) (h:s.length=k+d):dv s=dv (s.take k) * 10 ^ d+dv (s.drop k):=by
 conv=>lhs;rw[←List.take_append_drop k s]
 rw[dv_append,List.length_drop,show s.length - k=d by omega]
end Go.Klippe
end
section
namespace Go.Klippe
def bs (l:List UInt8):ByteArray:= ⟨l.toArray⟩
theorem bs_data (l:List UInt8):(bs l).data.toList=l:=by simp[bs]
theorem bs_eta (s:ByteArray):bs s.data.toList=s:=by cases s;simp[bs]
theorem bs_size (l:List UInt8):(bs l).size=l.length:=by simp[bs,ByteArray.size]
theorem bs_toList (l:List UInt8):(bs l).toList=l:=by rw[Go.ByteArray.toList_eq,bs_data]
theorem bs_ext {s:ByteArray} {l:List UInt8} (h:s.data.toList=l):s=bs l:=by rw[←h,bs_eta]
theorem bs_extract (l:List UInt8) (a b:Nat):(bs l).extract a b=bs ((l.drop a).take (b - a)):=by
 apply bs_ext;rw[←Go.ByteArray.toList_eq,Lib.extract_toList,bs_data]
theorem bs_extract_end (l:List UInt8) (a:Nat):(bs l).extract a l.length=bs (l.drop a):=by
 rw[bs_extract,List.take_of_length_le (by rw[List.length_drop];exact Nat.le_refl _)]
theorem bs_extract0 (l:List UInt8) (b:Nat):(bs l).extract 0 b=bs (l.take b):=by
 rw[bs_extract,List.drop_zero,Nat.sub_zero]
theorem bs_append (a b:List UInt8):bs a++bs b=bs (a++b):=by
 apply bs_ext;rw[ByteArray.data_append,Array.toList_append,bs_data,bs_data]
end Go.Klippe
namespace Go.Proofs.YtnfgokmecllpbaaGreatDoor.Print
open Go.RowKit Go.Klippe Go.Proofs.YtnfgokmecllpbaaGreatDoorW.PrintWords Go.Proofs.YtnfgokmecllpbaaGreatDoorW.PrintLast Go.Proofs.YtnfgokmecllpbaaGreatDoorW.PrintMore
theorem bt_bs {l:List UInt8} {i:Nat} (h:i<l.length):bt (bs l) (i:Int)= ((l[i]).toNat:Int):=by
 unfold bt;rw[dif_pos (by rw[bs_size,Int.toNat_natCast];exact h)];have h2:i< (bs l).size:=by rw[bs_size];exact h
 have e:(bs l)[i]'h2=l[i]:=by
  have h3:(bs l)[i]'h2= (bs l).data[i]'h2:=rfl;rw[h3];simp[bs];rfl
 simp only[Int.toNat_natCast,e];rfl
theorem hasPrefix1 (l:List UInt8) (c:UInt8):Y5.f (bs l) (bs [c])=some (decide (l.head? =some c)):=by
 unfold Y5.f;rw[bs_size,bs_size];cases l with
 |nil=>rfl
 |cons b r=>
  rw[if_pos (by simp;omega),if_pos (by simp),if_pos (by simp;omega),bs_toList,show((([c]:List UInt8).length:Int)).toNat=1 from rfl,bs_extract0,bs_toList];simp;exact Bool.eq_iff_iff.2 (by simp)
theorem cutPrefix_yes (c:UInt8) (r:List UInt8):Y4.f (bs (c::r)) (bs [c])=some (bs r,true):=by
 unfold Y4.f;rw[hasPrefix1,bs_size,bs_size];simp only[List.head?_cons,decide_true,Option.bind_some,if_true];rw[if_pos (by simp),if_pos (by simp;omega),show((([c]:List UInt8).length:Int)).toNat=1 from rfl,bs_extract_end];rfl
theorem cutPrefix_no {c:UInt8} {l:List UInt8} (h:l.head? ≠some c):Y4.f (bs l) (bs [c])=some (bs l,false):=by
 unfold Y4.f;rw[hasPrefix1,decide_eq_false h];rfl
theorem trimPrefix_yes (c:UInt8) (r:List UInt8):Y12.f (bs (c::r)) (bs [c])=some (bs r):=by
 unfold Y12.f Y1.f;rw[hasPrefix1,bs_size,bs_size];simp only[List.head?_cons,decide_true,Option.bind_some,if_true];rw[if_pos (by simp),if_pos (by simp;omega),show((([c]:List UInt8).length:Int)).toNat=1 from rfl,bs_extract_end];rfl
theorem trimPrefix_no {c:UInt8} {l:List UInt8} (h:l.head? ≠some c):Y12.f (bs l) (bs [c])=some (bs l):=by
 unfold Y12.f Y1.f;rw[hasPrefix1,decide_eq_false h];rfl
theorem minus_lit:(⟨#[45]⟩ :ByteArray)=bs [45]:=rfl
theorem digits_head (u:Nat):(Lib.decDigits u).head? ≠some 45:=by
 intro h;cases e:Lib.decDigits u with
 |nil=>rw[e] at h;simp at h
 |cons b r=>rw[e] at h;simp at h;subst h;exact head_not_minus u r e
def tI (z:Int):ByteArray:=bs (Lib.itoa z)
theorem tI_nat (n:Nat):tI (n:Int)=bs (Lib.decDigits n):=by unfold tI;rw[itoa_nonneg (Int.natCast_nonneg n),Int.toNat_natCast]
theorem cutPrefix_tI (z:Int):Y25.f (tI z) (⟨#[45]⟩ :ByteArray)=some (bs (Lib.decDigits z.natAbs),decide (z<0)):=by
 unfold Y25.f tI;rw[minus_lit];by_cases h:z<0
 ·rw[itoa_neg h,cutPrefix_yes,decide_eq_true h];rfl
 ·rw[itoa_nonneg (by omega),cutPrefix_no (digits_head _),decide_eq_false h,show z.toNat=z.natAbs by omega];rfl
theorem trimPrefix_tI (z:Int):Y12.f (tI z) (⟨#[45]⟩ :ByteArray)=some (bs (Lib.decDigits z.natAbs)):=by
 unfold tI;rw[minus_lit];by_cases h:z<0
 ·rw[itoa_neg h,trimPrefix_yes]
 ·rw[itoa_nonneg (by omega),trimPrefix_no (digits_head _),show z.toNat=z.natAbs by omega]
theorem hasPrefix_tI (z:Int):Y26.f (tI z) (⟨#[45]⟩ :ByteArray)=some (decide (z<0)):=by
 unfold Y26.f tI;rw[minus_lit,hasPrefix1];by_cases h:z<0
 ·rw[itoa_neg h,decide_eq_true h];simp
 ·rw[itoa_nonneg (by omega),decide_eq_false h,decide_eq_false (digits_head _)];rfl
theorem tI_zero:tI 0= (⟨#[48]⟩ :ByteArray):=by
 unfold tI;rw[itoa_nonneg (by decide)];rw[show(0:Int).toNat=0 from rfl,decDigits_zero];rfl
theorem tI_toList_zero (z:Int):(tI z).toList= ([48]:List UInt8)↔z=0:=by
 have h:([48]:List UInt8)=Lib.itoa 0:=by rw[itoa_nonneg (by decide),show(0:Int).toNat=0 from rfl,decDigits_zero]
 unfold tI;rw[bs_toList,h];exact⟨itoa_inj,fun e=>by rw[e]⟩
theorem dvF_ge (l:List UInt8) (acc:Nat):acc≤dvF acc l:=by
 rw[dvF_eq];have:acc * 1≤acc * 10 ^ l.length:=Nat.mul_le_mul_left _ (Nat.pow_pos (by decide));omega
theorem parseUintM_digits (l:List UInt8): ∀(acc:Nat),(∀b∈l,isD b=true)→dvF acc l<1000000000000000000→Lib.parseUintM (2 ^ 64 - 1) acc l= .ok (dvF acc l):=by
 induction l with
 |nil=>intro acc _ _;rfl
 |cons c r ih=>
  intro acc h hlt;have hc:=h c List.mem_cons_self;unfold isD at hc;rw[Bool.and_eq_true,decide_eq_true_eq,decide_eq_true_eq] at hc;rw[dvF_cons] at hlt;have h1:=dvF_ge r (acc * 10+dd c);unfold Lib.parseUintM;have hM:(2:Nat) ^ 64 - 1=18446744073709551615:=by decide
  have hd:dd c=c.toNat - 48:=rfl;rw[if_pos hc,if_neg (by omega),if_neg (by rw[hM];omega),dvF_cons];exact ih (acc * 10+dd c) (fun b hb=>h b (List.mem_cons_of_mem _ hb)) hlt
theorem parseUint_digits {l:List UInt8} (hne:l≠[]) (h: ∀b∈l,isD b=true) (hl:l.length≤18):Y3.f (bs l) 10 64=some ((dv l:Int),none):=by
 unfold Y3.f;rw[if_pos ⟨by rw[bs_size];omega,rfl,rfl⟩,bs_data];unfold Lib.parseUintB;have hv:=dv_lt l h;have hp:10 ^ l.length≤10 ^ 18:=Nat.pow_le_pow_right (by decide) hl;have h18:(10:Nat) ^ 18=1000000000000000000:=by decide
 rw[if_neg hne,parseUintM_digits l 0 h (by show dv l<_;omega)];rfl
end Go.Proofs.YtnfgokmecllpbaaGreatDoor.Print
end
section
namespace Go.Proofs.YtnfgokmecllpbaaGreatDoor.Print
open Go.RowKit Go.Klippe Go.Proofs.YtnfgokmecllpbaaGreatDoorW.PrintWords Go.Proofs.YtnfgokmecllpbaaGreatDoorW.PrintLast Go.Proofs.YtnfgokmecllpbaaGreatDoorW.PrintMore
theorem open_step {P n w u V:Nat} (hV:V=u * 1000000000+w) {B:Nat} (p:List Nat) (x:Nat) (hx:x=w) (hB:B=1000000000):pv B (p++ [x])+B ^ (p++ [x]).length * u=pv B p+B ^ p.length * V:=by
 subst hx;subst hB;rw[pv_snoc,List.length_append,List.length_singleton,Nat.pow_succ,hV,Nat.mul_add,Nat.mul_assoc,Nat.mul_comm u];omega
theorem mx_len (n:Nat) (h:n<4611686018427387904):mx (wrap64 ((n:Int) - 9)) 0= ((n - 9:Nat):Int):=by
 rw[w64 (by omega) (by omega)];unfold mx;split <;> omega
theorem open_l0 (m:Bool): ∀(n:Nat) (s:List UInt8) (p:List Nat),s.length≤n→(∀b∈s,isD b=true)→bdd 1000000000 p→p.length+s.length<1000000000000→
  Eu (fun k=>Y70.l0 k (bs s) m (cI p)) (m,pI (pv 1000000000 p+1000000000 ^ p.length * dv s)):=by
 intro n
 induction n with
 |zero=>
  intro s p hs hd hb hl;obtain rfl:s= []:=List.length_eq_zero_iff.1 (by omega);refine Eu.succ ?_;simp only[Y70.l0];refine Eu.ifn (by rw[bs_size];simp) (Eu.bind (trim_ev p hb (by omega)) ?_);rw[show dv []=0 from rfl,Nat.mul_zero,Nat.add_zero];exact Eu.some _
 |succ n ih=>
  intro s p hs hd hb hl;by_cases he:s= []
  ·subst he;refine Eu.succ ?_;simp only[Y70.l0];refine Eu.ifn (by rw[bs_size];simp) (Eu.bind (trim_ev p hb (by omega)) ?_);rw[show dv []=0 from rfl,Nat.mul_zero,Nat.add_zero];exact Eu.some _
  ·have h1:0<s.length:=List.length_pos_iff.2 he;refine Eu.succ ?_;simp only[Y70.l0];rw[bs_size,mx_len _ (by omega),Int.toNat_natCast,bs_extract_end,bs_extract0];have hne:s.drop (s.length - 9)≠[]:=by intro h;have:=congrArg List.length h;rw[List.length_drop] at this;simp at this;omega
   have hld:(s.drop (s.length - 9)).length≤9:=by rw[List.length_drop];omega
   have hlt:(s.take (s.length - 9)).length=s.length - 9:=by rw[List.length_take];omega
   have hdd: ∀b∈s.drop (s.length - 9),isD b=true:=fun b hb=>hd b (List.mem_of_mem_drop hb)
   have hdt: ∀b∈s.take (s.length - 9),isD b=true:=fun b hb=>hd b (List.mem_of_mem_take hb)
   refine Eu.ifp (by omega) (Eu.ifp (by omega) (Eu.ifp (by omega) (Eu.bindc (parseUint_digits hne hdd (by omega)) (Eu.ifp (by rw[cI_length];omega) ?_))));have hv:dv (s.drop (s.length - 9))<1000000000:=by
    have h2:=dv_lt _ hdd;have h3:10 ^ (s.drop (s.length - 9)).length≤10 ^ 9:=Nat.pow_le_pow_right (by decide) hld;have h4:(10:Nat) ^ 9=1000000000:=by decide
    omega
   have hV:dv s=dv (s.take (s.length - 9)) * 1000000000+dv (s.drop (s.length - 9)):=by
    by_cases h9:9≤s.length
    ·exact dv_cut s (s.length - 9) 9 (by omega)
    ·rw[show s.length - 9=0 by omega,List.take_zero,List.drop_zero,show dv []=0 from rfl,Nat.zero_mul,Nat.zero_add]
   have h:=ih (s.take (s.length - 9)) (p++ [dv (s.drop (s.length - 9))]) (by omega) hdt (bdd_append.2 ⟨hb,by intro x hx;rw[List.mem_singleton] at hx;omega⟩) (by rw[List.length_append,List.length_singleton,hlt];omega);rw[open_step (P:=0) (n:=0) hV p _ rfl rfl,cI_append] at h;exact h
theorem open_ev (z:Int) (hl:(Lib.decDigits z.natAbs).length<100000000000):Eu (fun k=>Y70.f k (tI z)) (decide (z<0),pI z.natAbs):=by
 unfold Y70.f;refine Eu.bindc (cutPrefix_tI z) ?_;have h:=open_l0 (decide (z<0)) (Lib.decDigits z.natAbs).length (Lib.decDigits z.natAbs) [] (Nat.le_refl _) (decDigits_isD _) (bdd_nil _) (by rw[List.length_nil];omega);rw[pv_nil,dv_decDigits,List.length_nil,Nat.pow_zero,Nat.one_mul,Nat.zero_add] at h;simp only;rw[bs_size];generalize (Lib.decDigits z.natAbs).length=u at *;rw[w64 (z:=(u:Int) / 9) (by omega) (by omega),w64 (by omega) (by omega)];exact Eu.ifp (by omega) (Eu.ifp (by omega) h)
theorem back_vals (n:Nat):(back n).map (fun x=>x.val)= (List.range n).reverse:=by
 apply List.ext_getElem
 ·simp[back]
 ·intro i h1 h2;simp[back]
theorem pieceT_pad (n i x:Nat) (h:i+1<n) (hx:x<1000000000):pieceT n i (x:Int)=pad 9 x:=by
 unfold pieceT;rw[if_pos h,Int.toNat_natCast,pad_eq 9 x (by decide) hx,nDigits_len]
theorem pieceT_top (n i x:Nat) (h: ¬i+1<n):pieceT n i (x:Int)=Lib.decDigits x:=by
 unfold pieceT;rw[if_neg h,Int.toNat_natCast,List.nil_append]
theorem close_join: ∀(p:List Nat) (n off:Nat),off+p.length=n→bdd 1000000000 p→((List.range p.length).reverse.flatMap fun i=>pieceT n (off+i) ((p.getD i 0:Nat):Int))=closeT 9 p
 | [],n,off,_,_=>rfl
 |x::p,n,off,h,hb=>by
  have ih:=close_join p n (off+1) (by rw[List.length_cons] at h;omega) (bdd_cons.1 hb).2;rw[List.length_cons,List.range_succ_eq_map,List.reverse_cons,List.flatMap_append,←List.map_reverse,List.flatMap_map];have e:(List.range p.length).reverse.flatMap (fun a=>pieceT n (off+Nat.succ a) (((x::p).getD (Nat.succ a) 0:Nat):Int))=closeT 9 p:=by
   rw[←ih];congr 1
   funext a
   rw[show off+Nat.succ a=off+1+a by omega];rfl
  rw[e];have e2:([0]:List Nat).flatMap (fun i=>pieceT n (off+i) (((x::p).getD i 0:Nat):Int))=pieceT n off (x:Int):=by simp
  rw[e2];show closeT 9 p++pieceT n off (x:Int)= (if p= [] then Lib.decDigits x else closeT 9 p++pad 9 x)
  by_cases hp:p= []
  ·subst hp;rw[if_pos rfl,pieceT_top _ _ _ (by simp at h;omega)];rfl
  ·have hl:0<p.length:=List.length_pos_iff.2 hp;rw[if_neg hp,pieceT_pad _ _ _ (by rw[List.length_cons] at h;omega) (bdd_cons.1 hb).1]
theorem closeL_eq (m:Bool) (p:List Nat) (hb:bdd 1000000000 p):closeL m (cI p) (back (cI p).length)= (if m then [45] else [])++closeT 9 p:=by
 unfold closeL;congr 1;rw[←close_join p p.length 0 (by omega) hb,cI_length];have e: ∀x:Fin (cI p).length,pieceT p.length x.val (rd (cI p) (x.val:Int))=pieceT p.length (0+x.val) ((p.getD x.val 0:Nat):Int):=by
  intro x;have hx:x.val<p.length:=Nat.lt_of_lt_of_eq x.isLt (cI_length p);rw[rd_cI hx,Nat.zero_add,List.getD_eq_getElem?_getD,List.getElem?_eq_getElem hx];rfl
 have e1:(back (cI p).length).flatMap (fun x=>pieceT p.length x.val (rd (cI p) (x.val:Int)))= ((back (cI p).length).map fun x=>x.val).flatMap (fun i=>pieceT p.length (0+i) ((p.getD i 0:Nat):Int)):=by
  rw[List.flatMap_map];congr 1
  funext x
  exact e x
 rw[back_vals,cI_length] at e1;rw[←e1]
theorem close_f (m:Bool) (n:Nat) (hl:(pI n).length<4000000000000):Y6.f m (pI n)=some (tI (if m then -(n:Int) else n)):=by
 unfold Y6.f;rw[if_pos ⟨okP_cI (bdd_pd (by decide) n),hl⟩];by_cases h0:n=0
 ·subst h0;rw[if_pos pI_zero];have:(if m then -((0:Nat):Int) else((0:Nat):Int))=0:=by cases m <;> rfl
  rw[this,tI_zero]
 ·rw[if_neg (by rw[pI_nil];exact h0)];have hc:=closeL_eq m (pd 1000000000 n) (bdd_pd (by decide) n);have hc':closeL m (pI n) (back (pI n).length)= (if m then [45] else [])++closeT 9 (pd 1000000000 n):=hc;rw[hc'];have ht:=closeT_eq 9 (pd 1000000000 n) (bdd_pd (by decide) n) (trd_pd (by decide) n) (by rw[Ne,pd_eq_nil (by decide)];exact h0);rw[show(10:Nat) ^ 9=1000000000 from rfl,pv_pd (by decide)] at ht;rw[ht];cases m with
  |false=>exact congrArg some (tI_nat n).symm
  |true=>
   have:Lib.itoa (-(n:Int))=45::Lib.decDigits n:=by rw[itoa_neg (by omega)];congr 2;omega
   show some (bs ([45]++Lib.decDigits n))=some (bs (Lib.itoa (-(n:Int))))
   rw[this];rfl
end Go.Proofs.YtnfgokmecllpbaaGreatDoor.Print
end
section
namespace Go.Klippe
def nb (k:Nat) (z:Int):Prop:=z.natAbs<10 ^ k
theorem nb_mono {k m:Nat} {z:Int} (h:nb k z) (hk:k≤m):nb m z:=Nat.lt_of_lt_of_le h (Nat.pow_le_pow_right (by decide) hk)
theorem nb_add {k m:Nat} {x y:Int} (h:nb k x) (h2:nb k y):nb (k+1) (x+y):=by
 unfold nb at *;rw[Nat.pow_succ];have:=Int.natAbs_add_le x y;omega
theorem nb_mul {k m:Nat} {x y:Int} (h:nb k x) (h2:nb m y):nb (k+m) (x * y):=by
 unfold nb at *;rw[Nat.pow_add,Int.natAbs_mul];exact Nat.mul_lt_mul'' h h2
theorem nb_neg {k:Nat} {x:Int} (h:nb k x):nb k (-x):=by unfold nb at *;rw[Int.natAbs_neg];exact h
theorem nb_digits {k:Nat} {z:Int} (hk:1≤k) (h:nb k z):(Lib.decDigits z.natAbs).length≤k:=by
 rw[nDigits_len];exact nDigits_le_of_lt hk h
theorem nb_of_digits {z:Int}:nb (Lib.decDigits z.natAbs).length z:=by
 unfold nb;have:=dv_lt (Lib.decDigits z.natAbs) (decDigits_isD _);rw[dv_decDigits] at this;exact this
theorem itoa_length_ge (z:Int):(Lib.decDigits z.natAbs).length≤(Lib.itoa z).length:=by
 by_cases h:z<0
 ·rw[itoa_neg h,List.length_cons];omega
 ·rw[itoa_nonneg (by omega),show z.toNat=z.natAbs by omega];exact Nat.le_refl _
theorem itoa_length_le (z:Int):(Lib.itoa z).length≤(Lib.decDigits z.natAbs).length+1:=by
 by_cases h:z<0
 ·rw[itoa_neg h,List.length_cons];omega
 ·rw[itoa_nonneg (by omega),show z.toNat=z.natAbs by omega];omega
theorem nb_of_length {z:Int} {k:Nat} (h:(Lib.itoa z).length≤k):nb k z:=nb_mono nb_of_digits (Nat.le_trans (itoa_length_ge z) h)
theorem sign_close {z:Int}:(if decide (z<0)=true then -(z.natAbs:Int) else(z.natAbs:Int))=z:=by
 by_cases h:z<0
 ·rw[if_pos (decide_eq_true h)];omega
 ·rw[if_neg (by rw[decide_eq_true_eq];exact h)];omega
end Go.Klippe
namespace Go.Proofs.YtnfgokmecllpbaaGreatDoor.Print
open Go.RowKit Go.Klippe Go.Proofs.YtnfgokmecllpbaaGreatDoorW.PrintWords Go.Proofs.YtnfgokmecllpbaaGreatDoorW.PrintLast Go.Proofs.YtnfgokmecllpbaaGreatDoorW.PrintMore
def Bz (z:Int):Prop:=nb 100000 z
theorem Bz_digits {z:Int} (h:Bz z):(Lib.decDigits z.natAbs).length<100000000000:=Nat.lt_of_le_of_lt (nb_digits (by decide) h) (by decide)
theorem pI_le_digits (n:Nat):(pI n).length≤(Lib.decDigits n).length:=by
 rw[pI_length];have h1:=dv_lt (Lib.decDigits n) (decDigits_isD _);rw[dv_decDigits] at h1;exact pd_length_le (by decide) (Nat.lt_of_lt_of_le h1 (Nat.pow_le_pow_left (by decide) _))
theorem Bz_pI {z:Int} (h:Bz z):(pI z.natAbs).length≤100000:=Nat.le_trans (pI_le_digits _) (nb_digits (by decide) h)
theorem Of_f {z:Int} (h:nb 18 z):Y83.f z=some (tI z):=by
 unfold Y83.f Y36.f;unfold nb at h;have h18:(10:Nat) ^ 18=1000000000000000000:=by decide
 rw[if_pos ⟨by omega,by omega⟩];rfl
theorem Itoa_f {z:Int} (h0:-9223372036854775808≤z) (h1:z<9223372036854775808):Y36.f z=some (tI z):=by
 unfold Y36.f;rw[if_pos ⟨h0,by omega⟩];rfl
theorem quick_f (z:Int) (m:Nat) (hm:m≤18):Y62.f (tI z) (m:Int)=some (if(Lib.itoa z).length≤m then(z,true) else(0,false)):=by
 unfold Y62.f tI;rw[bs_size];by_cases h:(Lib.itoa z).length≤m
 ·rw[if_neg (by omega),if_pos h];unfold Y35.f;rw[if_pos (by rw[bs_size];omega),bs_data,atoi_itoa];rfl
 ·rw[if_pos (by omega),if_neg h]
theorem Add_j0 (a b:Int) (ha:Bz a) (hb:Bz b):Eu (fun k=>Y77.j0 k (tI a) (tI b)) (tI (a+b)):=by
 have la:=Bz_pI ha;have lb:=Bz_pI hb;refine Eu.succ ?_;simp only[Y77.j0];refine Eu.bind (open_ev a (Bz_digits ha)) (Eu.bind (open_ev b (Bz_digits hb)) ?_);refine Eu.ite (fun h=>?_) (fun h=>?_)
 ·have hs:(a<0↔b<0):=by
   simp only[beq_iff_eq] at h;exact decide_eq_decide.1 h
  have hl:(pI (a.natAbs+b.natAbs)).length<4000000000000:=by
   have h1:nb 100001 (a+b):=nb_add (m:=0) ha hb;have h2:a.natAbs+b.natAbs= (a+b).natAbs:=by omega
   rw[h2];exact Nat.lt_of_le_of_lt (Nat.le_trans (pI_le_digits _) (nb_digits (by decide) h1)) (by decide)
  refine Eu.bind (plus_ev _ _ (by omega) (by omega)) (Eu.bindc (close_f _ _ hl) ?_);refine(Eu.some _).eq ?_;congr 1;by_cases h0:a<0
  ·simp only[decide_eq_true h0,if_true];omega
  ·simp only[decide_eq_false h0,if_false,Bool.false_eq_true];omega
 ·have hs: ¬(a<0↔b<0):=by
   simp only[beq_iff_eq] at h;exact fun hh=>h (decide_eq_decide.2 hh)
  refine Eu.bind (order_ev _ _ (by omega)) ?_;by_cases hlt:a.natAbs<b.natAbs
  ·refine Eu.ifp (by unfold ordN;rw[if_neg (by omega),if_pos hlt];decide) ?_;refine Eu.bind (minus_ev _ _ (by omega) (by omega)) (Eu.bindc (close_f _ _ (by have:=pI_length_mono (Nat.sub_le b.natAbs a.natAbs);omega)) ?_);refine(Eu.some _).eq ?_;congr 1;by_cases h0:b<0
   ·simp only[decide_eq_true h0,if_true];omega
   ·simp only[decide_eq_false h0,if_false,Bool.false_eq_true];omega
  ·refine Eu.ifn (by unfold ordN;split <;> (try split) <;> omega) ?_;refine Eu.bind (minus_ev _ _ (by omega) (by omega)) (Eu.bindc (close_f _ _ (by have:=pI_length_mono (Nat.sub_le a.natAbs b.natAbs);omega)) ?_);refine(Eu.some _).eq ?_;congr 1;by_cases h0:a<0
   ·simp only[decide_eq_true h0,if_true];omega
   ·simp only[decide_eq_false h0,if_false,Bool.false_eq_true];omega
theorem Add_ev (a b:Int) (ha:Bz a) (hb:Bz b):Eu (fun k=>Y77.f k (tI a) (tI b)) (tI (a+b)):=by
 unfold Y77.f;refine Eu.bindc (quick_f a 18 (by decide)) ?_;by_cases h1:(Lib.itoa a).length≤18
 ·rw[if_pos h1];refine Eu.ifp rfl (Eu.bindc (quick_f b 18 (by decide)) ?_);by_cases h2:(Lib.itoa b).length≤18
  ·rw[if_pos h2];refine Eu.ifp rfl ?_;have n1:=nb_of_length h1;have n2:=nb_of_length h2;unfold nb at n1 n2;have h18:(10:Nat) ^ 18=1000000000000000000:=by decide
   simp only;rw[w64 (by omega) (by omega)];unfold Y83.f;exact Eu.bindc (by rw[Itoa_f (by omega) (by omega)];rfl) (Eu.some _)
  ·rw[if_neg h2];exact Eu.ifn (by simp) (Add_j0 a b ha hb)
 ·rw[if_neg h1];exact Eu.ifn (by simp) (Add_j0 a b ha hb)
theorem mul_sign (a b:Int):(if(decide (a<0)!=decide (b<0))=true then -((a.natAbs * b.natAbs:Nat):Int) else((a.natAbs * b.natAbs:Nat):Int))=a * b:=by
 rw[Int.natCast_mul];by_cases ha:a<0 <;> by_cases hb:b<0
 ·simp only[decide_eq_true ha,decide_eq_true hb,bne_self_eq_false,Bool.false_eq_true,if_false];rw[Int.ofNat_natAbs_of_nonpos (by omega),Int.ofNat_natAbs_of_nonpos (by omega),Int.neg_mul_neg]
 ·simp only[decide_eq_true ha,decide_eq_false hb,show(true !=false)=true from rfl,if_true];rw[Int.ofNat_natAbs_of_nonpos (by omega),Int.natAbs_of_nonneg (by omega),Int.neg_mul,Int.neg_neg]
 ·simp only[decide_eq_false ha,decide_eq_true hb,show(false !=true)=true from rfl,if_true];rw[Int.ofNat_natAbs_of_nonpos (a:=b) (by omega),Int.natAbs_of_nonneg (by omega),Int.mul_neg,Int.neg_neg]
 ·simp only[decide_eq_false ha,decide_eq_false hb,bne_self_eq_false,Bool.false_eq_true,if_false];rw[Int.natAbs_of_nonneg (by omega),Int.natAbs_of_nonneg (by omega)]
theorem Mul_j0 (a b:Int) (ha:Bz a) (hb:Bz b):Eu (fun k=>Y79.j0 k (tI a) (tI b)) (tI (a * b)):=by
 have la:=Bz_pI ha;have lb:=Bz_pI hb;refine Eu.succ ?_;simp only[Y79.j0];refine Eu.bind (open_ev a (Bz_digits ha)) (Eu.bind (open_ev b (Bz_digits hb)) ?_);have hl:(pI (a.natAbs * b.natAbs)).length<4000000000000:=by
  have h1:nb (100000+100000) (a * b):=nb_mul ha hb;rw[←Int.natAbs_mul];exact Nat.lt_of_le_of_lt (Nat.le_trans (pI_le_digits _) (nb_digits (by decide) h1)) (by decide)
 refine Eu.bind (times_ev _ _ (by omega)) (Eu.bindc (close_f _ _ hl) ?_);exact(Eu.some _).eq (congrArg tI (mul_sign a b))
theorem Mul_ev (a b:Int) (ha:Bz a) (hb:Bz b):Eu (fun k=>Y79.f k (tI a) (tI b)) (tI (a * b)):=by
 unfold Y79.f;refine Eu.bindc (quick_f a 9 (by decide)) ?_;by_cases h1:(Lib.itoa a).length≤9
 ·rw[if_pos h1];refine Eu.ifp rfl (Eu.bindc (quick_f b 9 (by decide)) ?_);by_cases h2:(Lib.itoa b).length≤9
  ·rw[if_pos h2];refine Eu.ifp rfl ?_;have n3:=nb_mul (nb_of_length h1) (nb_of_length h2);have n4:=n3;unfold nb at n3;have h18:(10:Nat) ^ (9+9)=1000000000000000000:=by decide
   simp only;rw[w64 (by omega) (by omega)];exact Eu.bindc (Of_f n4) (Eu.some _)
  ·rw[if_neg h2];exact Eu.ifn (by simp) (Mul_j0 a b ha hb)
 ·rw[if_neg h1];exact Eu.ifn (by simp) (Mul_j0 a b ha hb)
def sgn (z:Int):Int:=if z=0 then 0 else if z<0 then -1 else 1
theorem Sign_f (z:Int):Y69.f (tI z)=some (sgn z):=by
 unfold Y69.f sgn;by_cases h:z=0
 ·rw[if_pos ((tI_toList_zero z).2 h),if_pos h]
 ·rw[if_neg (fun e=>h ((tI_toList_zero z).1 e)),if_neg h,hasPrefix_tI];by_cases h2:z<0
  ·rw[if_pos h2,decide_eq_true h2];rfl
  ·rw[if_neg h2,decide_eq_false h2];rfl
theorem tI_size (z:Int):(tI z).size= (Lib.itoa z).length:=bs_size _
theorem itoa_neg_of_pos {z:Int} (h:0<z):Lib.itoa (-z)=45::Lib.itoa z:=by
 rw[itoa_neg (by omega),itoa_nonneg (by omega),Int.natAbs_neg,show z.natAbs=z.toNat by omega]
theorem Neg_f (z:Int) (h:Bz z):Y80.f (tI z)=some (tI (-z)):=by
 unfold Y80.f;rw[Sign_f];show(if sgn z=1 then _ else if sgn z= -1 then _ else _)=_;have hl:=Bz_digits h;have hl2:=itoa_length_le z;unfold sgn;by_cases h0:z=0
 ·subst h0;rw[if_pos rfl,if_neg (by decide),if_neg (by decide)];rfl
 ·rw[if_neg h0];by_cases h1:z<0
  ·rw[if_pos h1,if_neg (by decide),if_pos rfl,if_pos (by rw[tI_size,itoa_neg h1,List.length_cons];omega)];unfold tI;rw[bs_size,bs_extract_end];have e:Lib.itoa z=45::Lib.itoa (-z):=by
    have:=itoa_neg_of_pos (z:=-z) (by omega);rw[Int.neg_neg] at this;exact this
   rw[e];rfl
  ·rw[if_neg h1,if_pos rfl,if_pos (by rw[tI_size];omega)];unfold tI;rw[minus_lit,bs_append,itoa_neg_of_pos (by omega)];rfl
theorem Abs_f (z:Int):Y76.f (tI z)=some (tI (z.natAbs:Int)):=by
 unfold Y76.f;rw[trimPrefix_tI,tI_nat];rfl
end Go.Proofs.YtnfgokmecllpbaaGreatDoor.Print
end
