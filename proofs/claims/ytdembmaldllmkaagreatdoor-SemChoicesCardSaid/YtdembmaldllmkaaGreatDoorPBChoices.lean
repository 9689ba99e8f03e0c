/-
  The law caponierlaw12.SemChoices returns true for every input: a choice tells the second, if the first isn't 0, else the third; an if does just one of both; all that is opened is told in order.
  Conditions: the row's own (the listed package variables lie as the program's text lays them; the arguments hold no ring), and the model's.
-/
import Derived.Test.YtdembmaldllmkaaGreatDoorPB6
import Derived.Deep.Cut
set_option linter.unusedVariables false
set_option linter.unusedSimpArgs false
namespace Go.Proofs.YtdembmaldllmkaaGreatDoor
section
set_option maxHeartbeats 8000000
set_option maxRecDepth 100000
open Go.RowKit
theorem choices_any (c a b:Int) (hc:U64 c) (ha:U64 a) (hb:U64 b) (w:World) (hg:Glob w):Calls Tryz.prog 8 #[.int .u64 c,.int .u64 a,.int .u64 b] w (fun e w'=>e=.returned (.bool true)∧Below w.heap.size w w'):=by
 have HG:=we hg
 have HUc:=we hc
 have HUa:=we ha
 have HUb:=we hb
 clear hg hc ha hb
 go_enter Tryz.func8,Tryz.ntmps8
 go_wp2_with fail
 refine (awake_any _ HG.out).mono ?_
 rintro e w1 ⟨rfl,hb1⟩
 have HB1:=we hb1
 clear hb1
 go_upto_region 3 with (fail)
 refine jp [mpQ (.cells #[.int .i64 0,.int .u64 0,.string ⟨#[]⟩,.slice none 0 0] 53) w1.heap.size (fun w v=>jn w ((⟨1,0,⟨#[97]⟩,[]⟩:Expr)) v),mpQ (.cells #[.int .i64 0,.int .u64 0,.string ⟨#[]⟩,.slice none 0 0] 53) w1.heap.size (fun w v=>jn w ((⟨6,0,⟨#[]⟩,[(⟨1,0,⟨#[97]⟩,[]⟩:Expr)]⟩:Expr)) v),mpNew w1.heap.size (.cells #[.int .i64 0,.int .u64 0,.string ⟨#[]⟩,.slice none 0 0] 53)] (by kernel_rfl) 3 (by decide) _ rfl ?_ ?_
 ·refine ⟨?_,?_,?_,trivial⟩
  ·refine jo (f:=21) rfl rfl fun x1 y hB hF hD=>⟨#[.string ⟨#[97]⟩],?_,?_⟩
   ·clear hB hF hD
    simp only [execOp]
    simp [go_sem]
   ·refine (qg _ y).mono ?_
    rintro e w1 ⟨rfl,hb⟩
    exact ⟨hb,.inl ⟨_,rfl,fun w' hw=>qe 1 0 ⟨#[97]⟩ (l:=[]) (Sl.nil _ _ _ _) (by unfold I64;first|omega|(simp only;omega)) (by unfold U64;first|omega|(simp only;omega)) (by decide)⟩⟩
  ·refine jo (f:=23) rfl rfl fun x1 y hB hF hD=>?_
   obtain ⟨d0,-⟩:=hD
   have q16:∀ w',But (.cells #[.int .i64 0,.int .u64 0,.string ⟨#[]⟩,.slice none 0 0] 53) w1.heap.size y w'→jn w' ((⟨1,0,⟨#[97]⟩,[]⟩:Expr)) (slot x1 16):=d0 rfl
   obtain ⟨a16_0,c16_0,e16,-⟩:=q16 y (But.refl _ _ _)
   have e16:slot x1 16=.agg #[.int .i64 1,.int .u64 0,.string ⟨#[97]⟩,.slice a16_0 0 c16_0]:=e16
   have g16:=jd e16
   simp only [e16] at q16
   clear hB hF
   refine ⟨#[.agg #[.int .i64 1,.int .u64 0,.string ⟨#[97]⟩,.slice a16_0 0 c16_0]],?_,?_⟩
   ·simp only [execOp]
    simp [go_sem,g16]
   ·refine (opens1_any _ _ y (q16 y (But.refl _ _ _))).mono ?_
    rintro e w1 ⟨hb,b,rfl,hb1⟩
    exact ⟨hb,.inl ⟨_,rfl,fun w' hw=>qe 6 0 ⟨#[]⟩ (l:=[(⟨1,0,⟨#[97]⟩,[]⟩:Expr)]) (z6 zn (hw.keep hb1 (by simp)) [((⟨1,0,⟨#[97]⟩,[]⟩:Expr),_)] ⟨q16 w' (hw.behind hb),trivial⟩ rfl (by simp)) (by unfold I64;first|omega|(simp only;omega)) (by unfold U64;first|omega|(simp only;omega)) (by decide)⟩⟩
  ·refine jh rfl fun x1 y hB hF hD=>?_
   unfold Oper.wp
   simp only [execOp]
   simp [go_sem]
   exact ⟨_,rfl,(Below.refl _ _).alloc (Nat.le_refl _) _,y.heap.size,rfl,hB.size,Go.heap_alloc_new y _⟩
 ·intro x1 y hB hF hP
  obtain ⟨p0,p1,p2,-⟩:=hP
  have q17:∀ w',But (.cells #[.int .i64 0,.int .u64 0,.string ⟨#[]⟩,.slice none 0 0] 53) w1.heap.size y w'→jn w' ((⟨6,0,⟨#[]⟩,[(⟨1,0,⟨#[97]⟩,[]⟩:Expr)]⟩:Expr)) (slot x1 17):=p1
  obtain ⟨a17_0,c17_0,e17,-⟩:=q17 y (But.refl _ _ _)
  have e17:slot x1 17=.agg #[.int .i64 6,.int .u64 0,.string ⟨#[]⟩,.slice a17_0 1 c17_0]:=e17
  have g17:=jd e17
  simp only [e17] at q17
  obtain ⟨b7,ex,hbx,hbz⟩:=p2
  have ex:slot x1 7=.pointer (some ⟨b7,0,none⟩):=ex
  have hx:=jl hF [(16,slot x1 16),(17,.agg #[.int .i64 6,.int .u64 0,.string ⟨#[]⟩,.slice a17_0 1 c17_0]),(7,.pointer (some ⟨b7,0,none⟩))] rfl ⟨rfl,e17,ex,trivial⟩
  clear hF p0 p1
  clear e17 g17
  generalize slot x1 16=u16 at *
  subst hx
  simp only [puts,Act.put,wi,wj,wk,wl,wm]
  have HZb:=we hbz
  have HX3:=we (q17 _ (But.setRow (cs:=#[.int .i64 6,.int .u64 0,.string ⟨#[]⟩,.slice a17_0 1 c17_0]) hbz hbx))
  have HK3:=we (Go.setRow_heap y b7 _ #[.int .i64 6,.int .u64 0,.string ⟨#[]⟩,.slice a17_0 1 c17_0] _ _ hbz)
  have HB3:=we (below_setRow hB hbx #[.int .i64 6,.int .u64 0,.string ⟨#[]⟩,.slice a17_0 1 c17_0])
  clear hbz hbx q17 hB
  refine wpList_store_row rfl 53 _ _ rfl b7 #[.int .i64 6,.int .u64 0,.string ⟨#[]⟩,.slice a17_0 1 c17_0] rfl rfl 53 _ HZb.out (by kernel_rfl) rfl (by simp [Value.oneCell']) ?_
  clear HZb
  generalize y.setRow b7 #[.int .i64 6,.int .u64 0,.string ⟨#[]⟩,.slice a17_0 1 c17_0]=w2 at *
  have HB2:=we (HB1.out.trans (HB3.out.mono HB1.out.size))
  clear HB1 HB3
  go_upto_region 4 with (fail)
  refine jf zm [mpQ (.cells #[.int .i64 0,.int .u64 0,.string ⟨#[]⟩,.slice none 0 0] 53) w2.heap.size (fun w v=>jn w ((⟨1,0,⟨#[99]⟩,[]⟩:Expr)) v),mpQ (.cells #[.int .i64 0,.int .u64 0,.string ⟨#[]⟩,.slice none 0 0] 53) w2.heap.size (fun w v=>jn w ((⟨6,0,⟨#[]⟩,[(⟨1,0,⟨#[97]⟩,[]⟩:Expr)]⟩:Expr)) v),mpQ (.cells #[.int .i64 0,.int .u64 0,.string ⟨#[]⟩,.slice none 0 0] 53) w2.heap.size (fun w v=>jn w ((⟨1,0,⟨#[98]⟩,[]⟩:Expr)) v),mpQ (.cells #[.int .i64 0,.int .u64 0,.string ⟨#[]⟩,.slice none 0 0] 53) w2.heap.size (fun w v=>jn w ((⟨6,0,⟨#[]⟩,[(⟨1,0,⟨#[98]⟩,[]⟩:Expr)]⟩:Expr)) v),mpQ (.cells #[.int .i64 0,.int .u64 0,.string ⟨#[]⟩,.slice none 0 0] 53) w2.heap.size (fun w v=>XsIs w ([(⟨1,0,⟨#[99]⟩,[]⟩:Expr),(⟨6,0,⟨#[]⟩,[(⟨1,0,⟨#[97]⟩,[]⟩:Expr)]⟩:Expr),(⟨6,0,⟨#[]⟩,[(⟨1,0,⟨#[98]⟩,[]⟩:Expr)]⟩:Expr)]) v),mpQ (.cells #[.int .i64 0,.int .u64 0,.string ⟨#[]⟩,.slice none 0 0] 53) w2.heap.size (fun w v=>jn w ((⟨4,0,⟨#[]⟩,[(⟨1,0,⟨#[99]⟩,[]⟩:Expr),(⟨6,0,⟨#[]⟩,[(⟨1,0,⟨#[97]⟩,[]⟩:Expr)]⟩:Expr),(⟨6,0,⟨#[]⟩,[(⟨1,0,⟨#[98]⟩,[]⟩:Expr)]⟩:Expr)]⟩:Expr)) v),mpNew w2.heap.size (.cells #[.int .i64 0,.int .u64 0,.string ⟨#[]⟩,.slice none 0 0] 53)] (by kernel_rfl) 7 (by decide) (by kernel_rfl) _ rfl ?_ ?_
  ·refine ⟨?_,?_,?_,?_,?_,?_,?_,trivial⟩
   ·refine jo (f:=21) rfl rfl fun x1 y hB hF hD=>⟨#[.string ⟨#[99]⟩],?_,?_⟩
    ·clear hB hF hD
     simp only [execOp]
     simp [go_sem]
    ·refine (qg _ y).mono ?_
     rintro e w1 ⟨rfl,hb⟩
     exact ⟨hb,.inl ⟨_,rfl,fun w' hw=>qe 1 0 ⟨#[99]⟩ (l:=[]) (Sl.nil _ _ _ _) (by unfold I64;first|omega|(simp only;omega)) (by unfold U64;first|omega|(simp only;omega)) (by decide)⟩⟩
   ·refine jk rfl rfl fun x1 y hB hF hD=>?_
    have e7:slot x1 7=.pointer (some ⟨b7,0,none⟩):=hF.at 7 rfl
    have hb:=jm hB HK3.out
    refine ⟨.agg #[.int .i64 6,.int .u64 0,.string ⟨#[]⟩,.slice a17_0 1 c17_0],?_,fun w' hw=>HX3.out.below (hw.base hB (Nat.le_refl _))⟩
    clear hB hF
    simp only [execOp,ja,e7]
    simp [zr y _ _ 53 _ _ _ hb Tryz.underlying53 rfl (by kernel_rfl),Result.andThen]
   ·refine jo (f:=21) rfl rfl fun x1 y hB hF hD=>⟨#[.string ⟨#[98]⟩],?_,?_⟩
    ·clear hB hF hD
     simp only [execOp]
     simp [go_sem]
    ·refine (qg _ y).mono ?_
     rintro e w1 ⟨rfl,hb⟩
     exact ⟨hb,.inl ⟨_,rfl,fun w' hw=>qe 1 0 ⟨#[98]⟩ (l:=[]) (Sl.nil _ _ _ _) (by unfold I64;first|omega|(simp only;omega)) (by unfold U64;first|omega|(simp only;omega)) (by decide)⟩⟩
   ·refine jo (f:=23) rfl rfl fun x1 y hB hF hD=>?_
    obtain ⟨d0,-⟩:=hD
    have q20:∀ w',But (.cells #[.int .i64 0,.int .u64 0,.string ⟨#[]⟩,.slice none 0 0] 53) w2.heap.size y w'→jn w' ((⟨1,0,⟨#[98]⟩,[]⟩:Expr)) (slot x1 20):=d0 rfl
    obtain ⟨a20_0,c20_0,e20,-⟩:=q20 y (But.refl _ _ _)
    have e20:slot x1 20=.agg #[.int .i64 1,.int .u64 0,.string ⟨#[98]⟩,.slice a20_0 0 c20_0]:=e20
    have g20:=jd e20
    simp only [e20] at q20
    clear hB hF
    refine ⟨#[.agg #[.int .i64 1,.int .u64 0,.string ⟨#[98]⟩,.slice a20_0 0 c20_0]],?_,?_⟩
    ·simp only [execOp]
     simp [go_sem,g20]
    ·refine (opens1_any _ _ y (q20 y (But.refl _ _ _))).mono ?_
     rintro e w1 ⟨hb,b,rfl,hb1⟩
     exact ⟨hb,.inl ⟨_,rfl,fun w' hw=>qe 6 0 ⟨#[]⟩ (l:=[(⟨1,0,⟨#[98]⟩,[]⟩:Expr)]) (z6 zn (hw.keep hb1 (by simp)) [((⟨1,0,⟨#[98]⟩,[]⟩:Expr),_)] ⟨q20 w' (hw.behind hb),trivial⟩ rfl (by simp)) (by unfold I64;first|omega|(simp only;omega)) (by unfold U64;first|omega|(simp only;omega)) (by decide)⟩⟩
   ·refine jh rfl fun x1 y hB hF hD=>?_
    obtain ⟨d0,d1,d2,-⟩:=hD
    have q18:∀ w',But (.cells #[.int .i64 0,.int .u64 0,.string ⟨#[]⟩,.slice none 0 0] 53) w2.heap.size y w'→jn w' ((⟨1,0,⟨#[99]⟩,[]⟩:Expr)) (slot x1 18):=d0 rfl
    obtain ⟨a18_0,c18_0,e18,-⟩:=q18 y (But.refl _ _ _)
    have e18:slot x1 18=.agg #[.int .i64 1,.int .u64 0,.string ⟨#[99]⟩,.slice a18_0 0 c18_0]:=e18
    have g18:=jd e18
    simp only [e18] at q18
    have q19:∀ w',But (.cells #[.int .i64 0,.int .u64 0,.string ⟨#[]⟩,.slice none 0 0] 53) w2.heap.size y w'→jn w' ((⟨6,0,⟨#[]⟩,[(⟨1,0,⟨#[97]⟩,[]⟩:Expr)]⟩:Expr)) (slot x1 19):=d1 rfl
    obtain ⟨a19_0,c19_0,e19,-⟩:=q19 y (But.refl _ _ _)
    have e19:slot x1 19=.agg #[.int .i64 6,.int .u64 0,.string ⟨#[]⟩,.slice a19_0 1 c19_0]:=e19
    have g19:=jd e19
    simp only [e19] at q19
    have q21:∀ w',But (.cells #[.int .i64 0,.int .u64 0,.string ⟨#[]⟩,.slice none 0 0] 53) w2.heap.size y w'→jn w' ((⟨6,0,⟨#[]⟩,[(⟨1,0,⟨#[98]⟩,[]⟩:Expr)]⟩:Expr)) (slot x1 21):=d2 rfl
    obtain ⟨a21_0,c21_0,e21,-⟩:=q21 y (But.refl _ _ _)
    have e21:slot x1 21=.agg #[.int .i64 6,.int .u64 0,.string ⟨#[]⟩,.slice a21_0 1 c21_0]:=e21
    have g21:=jd e21
    simp only [e21] at q21
    clear hB hF
    unfold Oper.wp
    simp only [execOp]
    simp [go_sem,g18,g19,g21]
    refine ⟨_,rfl,(Below.refl _ _).alloc (Nat.le_refl _) _,fun w' hw=>?_⟩
    exact z6 zn (hw.new (by simp)) [((⟨1,0,⟨#[99]⟩,[]⟩:Expr),_),((⟨6,0,⟨#[]⟩,[(⟨1,0,⟨#[97]⟩,[]⟩:Expr)]⟩:Expr),_),((⟨6,0,⟨#[]⟩,[(⟨1,0,⟨#[98]⟩,[]⟩:Expr)]⟩:Expr),_)] ⟨q18 w' hw.of_alloc,q19 w' hw.of_alloc,q21 w' hw.of_alloc,trivial⟩ rfl (by simp)
   ·refine jk rfl rfl fun x1 y hB hF hD=>?_
    obtain ⟨d0,-⟩:=hD
    have q22:∀ w',But (.cells #[.int .i64 0,.int .u64 0,.string ⟨#[]⟩,.slice none 0 0] 53) w2.heap.size y w'→XsIs w' ([(⟨1,0,⟨#[99]⟩,[]⟩:Expr),(⟨6,0,⟨#[]⟩,[(⟨1,0,⟨#[97]⟩,[]⟩:Expr)]⟩:Expr),(⟨6,0,⟨#[]⟩,[(⟨1,0,⟨#[98]⟩,[]⟩:Expr)]⟩:Expr)]) (slot x1 22):=d0 rfl
    obtain ⟨a22_0,c22_0,e22⟩:=zc (q22 y (But.refl _ _ _))
    have e22:slot x1 22=.slice a22_0 3 c22_0:=e22
    have g22:=jd e22
    simp only [e22] at q22
    clear hB hF
    refine ⟨.agg #[.int .i64 4,.int .u64 0,.string ⟨#[]⟩,.slice a22_0 3 c22_0],?_,fun w' hw=>qe 4 0 ⟨#[]⟩ (l:=[(⟨1,0,⟨#[99]⟩,[]⟩:Expr),(⟨6,0,⟨#[]⟩,[(⟨1,0,⟨#[97]⟩,[]⟩:Expr)]⟩:Expr),(⟨6,0,⟨#[]⟩,[(⟨1,0,⟨#[98]⟩,[]⟩:Expr)]⟩:Expr)]) (q22 w' hw) (by unfold I64;first|omega|(simp only;omega)) (by unfold U64;first|omega|(simp only;omega)) (by decide)⟩
    simp only [execOp]
    simp [go_sem,g22]
   ·refine jh rfl fun x1 y hB hF hD=>?_
    unfold Oper.wp
    simp only [execOp]
    simp [go_sem]
    exact ⟨_,rfl,(Below.refl _ _).alloc (Nat.le_refl _) _,y.heap.size,rfl,hB.size,Go.heap_alloc_new y _⟩
  ·intro x1 y hB hF hP
   obtain ⟨p0,p1,p2,p3,p4,p5,p6,-⟩:=hP
   have q23:∀ w',But (.cells #[.int .i64 0,.int .u64 0,.string ⟨#[]⟩,.slice none 0 0] 53) w2.heap.size y w'→jn w' ((⟨4,0,⟨#[]⟩,[(⟨1,0,⟨#[99]⟩,[]⟩:Expr),(⟨6,0,⟨#[]⟩,[(⟨1,0,⟨#[97]⟩,[]⟩:Expr)]⟩:Expr),(⟨6,0,⟨#[]⟩,[(⟨1,0,⟨#[98]⟩,[]⟩:Expr)]⟩:Expr)]⟩:Expr)) (slot x1 23):=p5
   obtain ⟨a23_0,c23_0,e23,-⟩:=q23 y (But.refl _ _ _)
   have e23:slot x1 23=.agg #[.int .i64 4,.int .u64 0,.string ⟨#[]⟩,.slice a23_0 3 c23_0]:=e23
   have g23:=jd e23
   simp only [e23] at q23
   obtain ⟨b8,ex,hbx,hbz⟩:=p6
   have ex:slot x1 8=.pointer (some ⟨b8,0,none⟩):=ex
   have hx:=jl hF [(18,slot x1 18),(19,slot x1 19),(20,slot x1 20),(21,slot x1 21),(22,slot x1 22),(23,.agg #[.int .i64 4,.int .u64 0,.string ⟨#[]⟩,.slice a23_0 3 c23_0]),(8,.pointer (some ⟨b8,0,none⟩))] rfl ⟨rfl,rfl,rfl,rfl,rfl,e23,ex,trivial⟩
   clear hF p0 p1 p2 p3 p4 p5
   clear e23 g23
   generalize slot x1 18=u18 at *
   generalize slot x1 19=u19 at *
   generalize slot x1 20=u20 at *
   generalize slot x1 21=u21 at *
   generalize slot x1 22=u22 at *
   subst hx
   simp only [puts,Act.put,wi,wj,wk,wl,wm]
   have HZb:=we hbz
   have HX4:=we (q23 _ (But.setRow (cs:=#[.int .i64 4,.int .u64 0,.string ⟨#[]⟩,.slice a23_0 3 c23_0]) hbz hbx))
   have HK4:=we (Go.setRow_heap y b8 _ #[.int .i64 4,.int .u64 0,.string ⟨#[]⟩,.slice a23_0 3 c23_0] _ _ hbz)
   have HB4:=we (below_setRow hB hbx #[.int .i64 4,.int .u64 0,.string ⟨#[]⟩,.slice a23_0 3 c23_0])
   clear hbz hbx q23 hB
   refine wpList_store_row rfl 53 _ _ rfl b8 #[.int .i64 4,.int .u64 0,.string ⟨#[]⟩,.slice a23_0 3 c23_0] rfl rfl 53 _ HZb.out (by kernel_rfl) rfl (by simp [Value.oneCell']) ?_
   clear HZb
   generalize y.setRow b8 #[.int .i64 4,.int .u64 0,.string ⟨#[]⟩,.slice a23_0 3 c23_0]=w3 at *
   have HB3:=we (HB2.out.trans (HB4.out.mono HB2.out.size))
   clear HB2 HB4 HK3 HX3
   go_upto_region 5 with (fail)
   refine jf zm [mpQ (.cells #[.slice none 0 0,.slice none 0 0] 25) w3.heap.size (fun w v=>qj w ((⟨⟨#[99]⟩,0,0⟩:jj)) v),mpQ (.cells #[.slice none 0 0,.slice none 0 0] 25) w3.heap.size (fun w v=>qj w ((⟨⟨#[97]⟩,0,0⟩:jj)) v),mpQ (.cells #[.slice none 0 0,.slice none 0 0] 25) w3.heap.size (fun w v=>qj w ((⟨⟨#[98]⟩,0,0⟩:jj)) v),mpQ (.cells #[.slice none 0 0,.slice none 0 0] 25) w3.heap.size (fun w v=>PsIs w ([(⟨⟨#[99]⟩,0,0⟩:jj),(⟨⟨#[97]⟩,0,0⟩:jj),(⟨⟨#[98]⟩,0,0⟩:jj)]) v),mpQ (.cells #[.slice none 0 0,.slice none 0 0] 25) w3.heap.size (fun w v=>jn w ((⟨1,0,⟨#[99]⟩,[]⟩:Expr)) v),mpQ (.cells #[.slice none 0 0,.slice none 0 0] 25) w3.heap.size (fun w v=>XsIs w ([(⟨1,0,⟨#[99]⟩,[]⟩:Expr)]) v),mpQ (.cells #[.slice none 0 0,.slice none 0 0] 25) w3.heap.size (fun w v=>jn w ((⟨0,1,⟨#[]⟩,[]⟩:Expr)) v),mpQ (.cells #[.slice none 0 0,.slice none 0 0] 25) w3.heap.size (fun w v=>XsIs w ([(⟨0,1,⟨#[]⟩,[]⟩:Expr)]) v),mpQ (.cells #[.slice none 0 0,.slice none 0 0] 25) w3.heap.size (fun w v=>zy w ((⟨0,⟨#[120]⟩,0,[(⟨0,1,⟨#[]⟩,[]⟩:Expr)],[],[]⟩:Stmt)) v),mpQ (.cells #[.slice none 0 0,.slice none 0 0] 25) w3.heap.size (fun w v=>SsIs w ([(⟨0,⟨#[120]⟩,0,[(⟨0,1,⟨#[]⟩,[]⟩:Expr)],[],[]⟩:Stmt)]) v),mpQ (.cells #[.slice none 0 0,.slice none 0 0] 25) w3.heap.size (fun w v=>jn w ((⟨0,2,⟨#[]⟩,[]⟩:Expr)) v),mpQ (.cells #[.slice none 0 0,.slice none 0 0] 25) w3.heap.size (fun w v=>XsIs w ([(⟨0,2,⟨#[]⟩,[]⟩:Expr)]) v),mpQ (.cells #[.slice none 0 0,.slice none 0 0] 25) w3.heap.size (fun w v=>zy w ((⟨0,⟨#[120]⟩,0,[(⟨0,2,⟨#[]⟩,[]⟩:Expr)],[],[]⟩:Stmt)) v),mpQ (.cells #[.slice none 0 0,.slice none 0 0] 25) w3.heap.size (fun w v=>SsIs w ([(⟨0,⟨#[120]⟩,0,[(⟨0,2,⟨#[]⟩,[]⟩:Expr)],[],[]⟩:Stmt)]) v),mpQ (.cells #[.slice none 0 0,.slice none 0 0] 25) w3.heap.size (fun w v=>zy w ((⟨2,⟨#[]⟩,0,[(⟨1,0,⟨#[99]⟩,[]⟩:Expr)],[(⟨0,⟨#[120]⟩,0,[(⟨0,1,⟨#[]⟩,[]⟩:Expr)],[],[]⟩:Stmt)],[(⟨0,⟨#[120]⟩,0,[(⟨0,2,⟨#[]⟩,[]⟩:Expr)],[],[]⟩:Stmt)]⟩:Stmt)) v),mpQ (.cells #[.slice none 0 0,.slice none 0 0] 25) w3.heap.size (fun w v=>jn w ((⟨1,0,⟨#[120]⟩,[]⟩:Expr)) v),mpQ (.cells #[.slice none 0 0,.slice none 0 0] 25) w3.heap.size (fun w v=>jn w ((⟨6,0,⟨#[]⟩,[(⟨1,0,⟨#[120]⟩,[]⟩:Expr)]⟩:Expr)) v),mpQ (.cells #[.slice none 0 0,.slice none 0 0] 25) w3.heap.size (fun w v=>XsIs w ([(⟨6,0,⟨#[]⟩,[(⟨1,0,⟨#[120]⟩,[]⟩:Expr)]⟩:Expr)]) v),mpQ (.cells #[.slice none 0 0,.slice none 0 0] 25) w3.heap.size (fun w v=>zy w ((⟨0,⟨#[121]⟩,0,[(⟨6,0,⟨#[]⟩,[(⟨1,0,⟨#[120]⟩,[]⟩:Expr)]⟩:Expr)],[],[]⟩:Stmt)) v),mpQ (.cells #[.slice none 0 0,.slice none 0 0] 25) w3.heap.size (fun w v=>jn w ((⟨4,0,⟨#[]⟩,[(⟨1,0,⟨#[99]⟩,[]⟩:Expr),(⟨6,0,⟨#[]⟩,[(⟨1,0,⟨#[97]⟩,[]⟩:Expr)]⟩:Expr),(⟨6,0,⟨#[]⟩,[(⟨1,0,⟨#[98]⟩,[]⟩:Expr)]⟩:Expr)]⟩:Expr)) v),mpQ (.cells #[.slice none 0 0,.slice none 0 0] 25) w3.heap.size (fun w v=>XsIs w ([(⟨4,0,⟨#[]⟩,[(⟨1,0,⟨#[99]⟩,[]⟩:Expr),(⟨6,0,⟨#[]⟩,[(⟨1,0,⟨#[97]⟩,[]⟩:Expr)]⟩:Expr),(⟨6,0,⟨#[]⟩,[(⟨1,0,⟨#[98]⟩,[]⟩:Expr)]⟩:Expr)]⟩:Expr)]) v),mpQ (.cells #[.slice none 0 0,.slice none 0 0] 25) w3.heap.size (fun w v=>zy w ((⟨4,⟨#[]⟩,0,[(⟨4,0,⟨#[]⟩,[(⟨1,0,⟨#[99]⟩,[]⟩:Expr),(⟨6,0,⟨#[]⟩,[(⟨1,0,⟨#[97]⟩,[]⟩:Expr)]⟩:Expr),(⟨6,0,⟨#[]⟩,[(⟨1,0,⟨#[98]⟩,[]⟩:Expr)]⟩:Expr)]⟩:Expr)],[],[]⟩:Stmt)) v),mpQ (.cells #[.slice none 0 0,.slice none 0 0] 25) w3.heap.size (fun w v=>SsIs w ([(⟨2,⟨#[]⟩,0,[(⟨1,0,⟨#[99]⟩,[]⟩:Expr)],[(⟨0,⟨#[120]⟩,0,[(⟨0,1,⟨#[]⟩,[]⟩:Expr)],[],[]⟩:Stmt)],[(⟨0,⟨#[120]⟩,0,[(⟨0,2,⟨#[]⟩,[]⟩:Expr)],[],[]⟩:Stmt)]⟩:Stmt),(⟨0,⟨#[121]⟩,0,[(⟨6,0,⟨#[]⟩,[(⟨1,0,⟨#[120]⟩,[]⟩:Expr)]⟩:Expr)],[],[]⟩:Stmt),(⟨4,⟨#[]⟩,0,[(⟨4,0,⟨#[]⟩,[(⟨1,0,⟨#[99]⟩,[]⟩:Expr),(⟨6,0,⟨#[]⟩,[(⟨1,0,⟨#[97]⟩,[]⟩:Expr)]⟩:Expr),(⟨6,0,⟨#[]⟩,[(⟨1,0,⟨#[98]⟩,[]⟩:Expr)]⟩:Expr)]⟩:Expr)],[],[]⟩:Stmt)]) v),mpQ (.cells #[.slice none 0 0,.slice none 0 0] 25) w3.heap.size (fun w v=>kn w ((⟨⟨#[102]⟩,false,[(⟨⟨#[99]⟩,0,0⟩:jj),(⟨⟨#[97]⟩,0,0⟩:jj),(⟨⟨#[98]⟩,0,0⟩:jj)],[(⟨2,⟨#[]⟩,0,[(⟨1,0,⟨#[99]⟩,[]⟩:Expr)],[(⟨0,⟨#[120]⟩,0,[(⟨0,1,⟨#[]⟩,[]⟩:Expr)],[],[]⟩:Stmt)],[(⟨0,⟨#[120]⟩,0,[(⟨0,2,⟨#[]⟩,[]⟩:Expr)],[],[]⟩:Stmt)]⟩:Stmt),(⟨0,⟨#[121]⟩,0,[(⟨6,0,⟨#[]⟩,[(⟨1,0,⟨#[120]⟩,[]⟩:Expr)]⟩:Expr)],[],[]⟩:Stmt),(⟨4,⟨#[]⟩,0,[(⟨4,0,⟨#[]⟩,[(⟨1,0,⟨#[99]⟩,[]⟩:Expr),(⟨6,0,⟨#[]⟩,[(⟨1,0,⟨#[97]⟩,[]⟩:Expr)]⟩:Expr),(⟨6,0,⟨#[]⟩,[(⟨1,0,⟨#[98]⟩,[]⟩:Expr)]⟩:Expr)]⟩:Expr)],[],[]⟩:Stmt)]⟩:Fun)) v),mpQ (.cells #[.slice none 0 0,.slice none 0 0] 25) w3.heap.size (fun w v=>FsIs w ([(⟨⟨#[102]⟩,false,[(⟨⟨#[99]⟩,0,0⟩:jj),(⟨⟨#[97]⟩,0,0⟩:jj),(⟨⟨#[98]⟩,0,0⟩:jj)],[(⟨2,⟨#[]⟩,0,[(⟨1,0,⟨#[99]⟩,[]⟩:Expr)],[(⟨0,⟨#[120]⟩,0,[(⟨0,1,⟨#[]⟩,[]⟩:Expr)],[],[]⟩:Stmt)],[(⟨0,⟨#[120]⟩,0,[(⟨0,2,⟨#[]⟩,[]⟩:Expr)],[],[]⟩:Stmt)]⟩:Stmt),(⟨0,⟨#[121]⟩,0,[(⟨6,0,⟨#[]⟩,[(⟨1,0,⟨#[120]⟩,[]⟩:Expr)]⟩:Expr)],[],[]⟩:Stmt),(⟨4,⟨#[]⟩,0,[(⟨4,0,⟨#[]⟩,[(⟨1,0,⟨#[99]⟩,[]⟩:Expr),(⟨6,0,⟨#[]⟩,[(⟨1,0,⟨#[97]⟩,[]⟩:Expr)]⟩:Expr),(⟨6,0,⟨#[]⟩,[(⟨1,0,⟨#[98]⟩,[]⟩:Expr)]⟩:Expr)]⟩:Expr)],[],[]⟩:Stmt)]⟩:Fun)]) v),mpQ (.cells #[.slice none 0 0,.slice none 0 0] 25) w3.heap.size (fun w v=>yj w ((⟨[],[(⟨⟨#[102]⟩,false,[(⟨⟨#[99]⟩,0,0⟩:jj),(⟨⟨#[97]⟩,0,0⟩:jj),(⟨⟨#[98]⟩,0,0⟩:jj)],[(⟨2,⟨#[]⟩,0,[(⟨1,0,⟨#[99]⟩,[]⟩:Expr)],[(⟨0,⟨#[120]⟩,0,[(⟨0,1,⟨#[]⟩,[]⟩:Expr)],[],[]⟩:Stmt)],[(⟨0,⟨#[120]⟩,0,[(⟨0,2,⟨#[]⟩,[]⟩:Expr)],[],[]⟩:Stmt)]⟩:Stmt),(⟨0,⟨#[121]⟩,0,[(⟨6,0,⟨#[]⟩,[(⟨1,0,⟨#[120]⟩,[]⟩:Expr)]⟩:Expr)],[],[]⟩:Stmt),(⟨4,⟨#[]⟩,0,[(⟨4,0,⟨#[]⟩,[(⟨1,0,⟨#[99]⟩,[]⟩:Expr),(⟨6,0,⟨#[]⟩,[(⟨1,0,⟨#[97]⟩,[]⟩:Expr)]⟩:Expr),(⟨6,0,⟨#[]⟩,[(⟨1,0,⟨#[98]⟩,[]⟩:Expr)]⟩:Expr)]⟩:Expr)],[],[]⟩:Stmt)]⟩:Fun)]⟩:Src)) v),mpNew w3.heap.size (.cells #[.slice none 0 0,.slice none 0 0] 25)] (by kernel_rfl) 27 (by decide) (by kernel_rfl) _ rfl ?_ ?_
   ·refine ⟨?_,?_,?_,?_,?_,?_,?_,?_,?_,?_,?_,?_,?_,?_,?_,?_,?_,?_,?_,?_,?_,?_,?_,?_,?_,?_,?_,trivial⟩
    ·refine jk rfl rfl fun x1 y hB hF hD=>?_
     clear hB hF
     refine ⟨.agg #[.string ⟨#[99]⟩,.int .i64 0,.int .i64 0],?_,fun w' hw=>⟨rfl,(by decide),(by unfold I64;first|omega|(simp only;omega)),(by unfold I64;first|omega|(simp only;omega))⟩⟩
     simp only [execOp]
     simp [go_sem]
    ·refine jk rfl rfl fun x1 y hB hF hD=>?_
     clear hB hF
     refine ⟨.agg #[.string ⟨#[97]⟩,.int .i64 0,.int .i64 0],?_,fun w' hw=>⟨rfl,(by decide),(by unfold I64;first|omega|(simp only;omega)),(by unfold I64;first|omega|(simp only;omega))⟩⟩
     simp only [execOp]
     simp [go_sem]
    ·refine jk rfl rfl fun x1 y hB hF hD=>?_
     clear hB hF
     refine ⟨.agg #[.string ⟨#[98]⟩,.int .i64 0,.int .i64 0],?_,fun w' hw=>⟨rfl,(by decide),(by unfold I64;first|omega|(simp only;omega)),(by unfold I64;first|omega|(simp only;omega))⟩⟩
     simp only [execOp]
     simp [go_sem]
    ·refine jh rfl fun x1 y hB hF hD=>?_
     obtain ⟨d0,d1,d2,-⟩:=hD
     have q24:∀ w',But (.cells #[.slice none 0 0,.slice none 0 0] 25) w3.heap.size y w'→qj w' ((⟨⟨#[99]⟩,0,0⟩:jj)) (slot x1 24):=d0 rfl
     obtain ⟨e24,-⟩:=q24 y (But.refl _ _ _)
     have e24:slot x1 24=.agg #[.string ⟨#[99]⟩,.int .i64 0,.int .i64 0]:=e24
     have g24:=jd e24
     simp only [e24] at q24
     have q25:∀ w',But (.cells #[.slice none 0 0,.slice none 0 0] 25) w3.heap.size y w'→qj w' ((⟨⟨#[97]⟩,0,0⟩:jj)) (slot x1 25):=d1 rfl
     obtain ⟨e25,-⟩:=q25 y (But.refl _ _ _)
     have e25:slot x1 25=.agg #[.string ⟨#[97]⟩,.int .i64 0,.int .i64 0]:=e25
     have g25:=jd e25
     simp only [e25] at q25
     have q26:∀ w',But (.cells #[.slice none 0 0,.slice none 0 0] 25) w3.heap.size y w'→qj w' ((⟨⟨#[98]⟩,0,0⟩:jj)) (slot x1 26):=d2 rfl
     obtain ⟨e26,-⟩:=q26 y (But.refl _ _ _)
     have e26:slot x1 26=.agg #[.string ⟨#[98]⟩,.int .i64 0,.int .i64 0]:=e26
     have g26:=jd e26
     simp only [e26] at q26
     clear hB hF
     unfold Oper.wp
     simp only [execOp]
     simp [go_sem,g24,g25,g26]
     refine ⟨_,rfl,(Below.refl _ _).alloc (Nat.le_refl _) _,fun w' hw=>?_⟩
     exact z6 paramAt_of (hw.new (by simp)) [((⟨⟨#[99]⟩,0,0⟩:jj),_),((⟨⟨#[97]⟩,0,0⟩:jj),_),((⟨⟨#[98]⟩,0,0⟩:jj),_)] ⟨q24 w' hw.of_alloc,q25 w' hw.of_alloc,q26 w' hw.of_alloc,trivial⟩ rfl (by simp)
    ·refine jo (f:=21) rfl rfl fun x1 y hB hF hD=>⟨#[.string ⟨#[99]⟩],?_,?_⟩
     ·clear hB hF hD
      simp only [execOp]
      simp [go_sem]
     ·refine (qg _ y).mono ?_
      rintro e w1 ⟨rfl,hb⟩
      exact ⟨hb,.inl ⟨_,rfl,fun w' hw=>qe 1 0 ⟨#[99]⟩ (l:=[]) (Sl.nil _ _ _ _) (by unfold I64;first|omega|(simp only;omega)) (by unfold U64;first|omega|(simp only;omega)) (by decide)⟩⟩
    ·refine jh rfl fun x1 y hB hF hD=>?_
     obtain ⟨d0,-⟩:=hD
     have q28:∀ w',But (.cells #[.slice none 0 0,.slice none 0 0] 25) w3.heap.size y w'→jn w' ((⟨1,0,⟨#[99]⟩,[]⟩:Expr)) (slot x1 28):=d0 rfl
     obtain ⟨a28_0,c28_0,e28,-⟩:=q28 y (But.refl _ _ _)
     have e28:slot x1 28=.agg #[.int .i64 1,.int .u64 0,.string ⟨#[99]⟩,.slice a28_0 0 c28_0]:=e28
     have g28:=jd e28
     simp only [e28] at q28
     clear hB hF
     unfold Oper.wp
     simp only [execOp]
     simp [go_sem,g28]
     refine ⟨_,rfl,(Below.refl _ _).alloc (Nat.le_refl _) _,fun w' hw=>?_⟩
     exact z6 zn (hw.new (by simp)) [((⟨1,0,⟨#[99]⟩,[]⟩:Expr),_)] ⟨q28 w' hw.of_alloc,trivial⟩ rfl (by simp)
    ·refine jk rfl rfl fun x1 y hB hF hD=>?_
     clear hB hF
     refine ⟨.agg #[.int .i64 0,.int .u64 1,.string ⟨#[]⟩,.slice none 0 0],?_,fun w' hw=>qe 0 1 ⟨#[]⟩ (l:=[]) (Sl.nil _ _ _ _) (by unfold I64;first|omega|(simp only;omega)) (by unfold U64;first|omega|(simp only;omega)) (by decide)⟩
     simp only [execOp]
     simp [go_sem]
    ·refine jh rfl fun x1 y hB hF hD=>?_
     obtain ⟨d0,-⟩:=hD
     have q30:∀ w',But (.cells #[.slice none 0 0,.slice none 0 0] 25) w3.heap.size y w'→jn w' ((⟨0,1,⟨#[]⟩,[]⟩:Expr)) (slot x1 30):=d0 rfl
     obtain ⟨a30_0,c30_0,e30,-⟩:=q30 y (But.refl _ _ _)
     have e30:slot x1 30=.agg #[.int .i64 0,.int .u64 1,.string ⟨#[]⟩,.slice a30_0 0 c30_0]:=e30
     have g30:=jd e30
     simp only [e30] at q30
     clear hB hF
     unfold Oper.wp
     simp only [execOp]
     simp [go_sem,g30]
     refine ⟨_,rfl,(Below.refl _ _).alloc (Nat.le_refl _) _,fun w' hw=>?_⟩
     exact z6 zn (hw.new (by simp)) [((⟨0,1,⟨#[]⟩,[]⟩:Expr),_)] ⟨q30 w' hw.of_alloc,trivial⟩ rfl (by simp)
    ·refine jk rfl rfl fun x1 y hB hF hD=>?_
     obtain ⟨d0,-⟩:=hD
     have q31:∀ w',But (.cells #[.slice none 0 0,.slice none 0 0] 25) w3.heap.size y w'→XsIs w' ([(⟨0,1,⟨#[]⟩,[]⟩:Expr)]) (slot x1 31):=d0 rfl
     obtain ⟨a31_0,c31_0,e31⟩:=zc (q31 y (But.refl _ _ _))
     have e31:slot x1 31=.slice a31_0 1 c31_0:=e31
     have g31:=jd e31
     simp only [e31] at q31
     clear hB hF
     refine ⟨.agg #[.int .i64 0,.string ⟨#[120]⟩,.int .i64 0,.slice a31_0 1 c31_0,.slice none 0 0,.slice none 0 0],?_,fun w' hw=>xf 0 0 ⟨#[120]⟩ (l:=[(⟨0,1,⟨#[]⟩,[]⟩:Expr)]) (t:=[]) (e:=[]) (q31 w' hw) (Sl.nil _ _ _ _) (Sl.nil _ _ _ _) (by unfold I64;first|omega|(simp only;omega)) (by unfold I64;first|omega|(simp only;omega)) (by decide)⟩
     simp only [execOp]
     simp [go_sem,g31]
    ·refine jh rfl fun x1 y hB hF hD=>?_
     obtain ⟨d0,-⟩:=hD
     have q32:∀ w',But (.cells #[.slice none 0 0,.slice none 0 0] 25) w3.heap.size y w'→zy w' ((⟨0,⟨#[120]⟩,0,[(⟨0,1,⟨#[]⟩,[]⟩:Expr)],[],[]⟩:Stmt)) (slot x1 32):=d0 rfl
     obtain ⟨a32_0,c32_0,a32_1,c32_1,a32_2,c32_2,e32,-⟩:=q32 y (But.refl _ _ _)
     have e32:slot x1 32=.agg #[.int .i64 0,.string ⟨#[120]⟩,.int .i64 0,.slice a32_0 1 c32_0,.slice a32_1 0 c32_1,.slice a32_2 0 c32_2]:=e32
     have g32:=jd e32
     simp only [e32] at q32
     clear hB hF
     unfold Oper.wp
     simp only [execOp]
     simp [go_sem,g32]
     refine ⟨_,rfl,(Below.refl _ _).alloc (Nat.le_refl _) _,fun w' hw=>?_⟩
     exact z6 kr (hw.new (by simp)) [((⟨0,⟨#[120]⟩,0,[(⟨0,1,⟨#[]⟩,[]⟩:Expr)],[],[]⟩:Stmt),_)] ⟨q32 w' hw.of_alloc,trivial⟩ rfl (by simp)
    ·refine jk rfl rfl fun x1 y hB hF hD=>?_
     clear hB hF
     refine ⟨.agg #[.int .i64 0,.int .u64 2,.string ⟨#[]⟩,.slice none 0 0],?_,fun w' hw=>qe 0 2 ⟨#[]⟩ (l:=[]) (Sl.nil _ _ _ _) (by unfold I64;first|omega|(simp only;omega)) (by unfold U64;first|omega|(simp only;omega)) (by decide)⟩
     simp only [execOp]
     simp [go_sem]
    ·refine jh rfl fun x1 y hB hF hD=>?_
     obtain ⟨d0,-⟩:=hD
     have q34:∀ w',But (.cells #[.slice none 0 0,.slice none 0 0] 25) w3.heap.size y w'→jn w' ((⟨0,2,⟨#[]⟩,[]⟩:Expr)) (slot x1 34):=d0 rfl
     obtain ⟨a34_0,c34_0,e34,-⟩:=q34 y (But.refl _ _ _)
     have e34:slot x1 34=.agg #[.int .i64 0,.int .u64 2,.string ⟨#[]⟩,.slice a34_0 0 c34_0]:=e34
     have g34:=jd e34
     simp only [e34] at q34
     clear hB hF
     unfold Oper.wp
     simp only [execOp]
     simp [go_sem,g34]
     refine ⟨_,rfl,(Below.refl _ _).alloc (Nat.le_refl _) _,fun w' hw=>?_⟩
     exact z6 zn (hw.new (by simp)) [((⟨0,2,⟨#[]⟩,[]⟩:Expr),_)] ⟨q34 w' hw.of_alloc,trivial⟩ rfl (by simp)
    ·refine jk rfl rfl fun x1 y hB hF hD=>?_
     obtain ⟨d0,-⟩:=hD
     have q35:∀ w',But (.cells #[.slice none 0 0,.slice none 0 0] 25) w3.heap.size y w'→XsIs w' ([(⟨0,2,⟨#[]⟩,[]⟩:Expr)]) (slot x1 35):=d0 rfl
     obtain ⟨a35_0,c35_0,e35⟩:=zc (q35 y (But.refl _ _ _))
     have e35:slot x1 35=.slice a35_0 1 c35_0:=e35
     have g35:=jd e35
     simp only [e35] at q35
     clear hB hF
     refine ⟨.agg #[.int .i64 0,.string ⟨#[120]⟩,.int .i64 0,.slice a35_0 1 c35_0,.slice none 0 0,.slice none 0 0],?_,fun w' hw=>xf 0 0 ⟨#[120]⟩ (l:=[(⟨0,2,⟨#[]⟩,[]⟩:Expr)]) (t:=[]) (e:=[]) (q35 w' hw) (Sl.nil _ _ _ _) (Sl.nil _ _ _ _) (by unfold I64;first|omega|(simp only;omega)) (by unfold I64;first|omega|(simp only;omega)) (by decide)⟩
     simp only [execOp]
     simp [go_sem,g35]
    ·refine jh rfl fun x1 y hB hF hD=>?_
     obtain ⟨d0,-⟩:=hD
     have q36:∀ w',But (.cells #[.slice none 0 0,.slice none 0 0] 25) w3.heap.size y w'→zy w' ((⟨0,⟨#[120]⟩,0,[(⟨0,2,⟨#[]⟩,[]⟩:Expr)],[],[]⟩:Stmt)) (slot x1 36):=d0 rfl
     obtain ⟨a36_0,c36_0,a36_1,c36_1,a36_2,c36_2,e36,-⟩:=q36 y (But.refl _ _ _)
     have e36:slot x1 36=.agg #[.int .i64 0,.string ⟨#[120]⟩,.int .i64 0,.slice a36_0 1 c36_0,.slice a36_1 0 c36_1,.slice a36_2 0 c36_2]:=e36
     have g36:=jd e36
     simp only [e36] at q36
     clear hB hF
     unfold Oper.wp
     simp only [execOp]
     simp [go_sem,g36]
     refine ⟨_,rfl,(Below.refl _ _).alloc (Nat.le_refl _) _,fun w' hw=>?_⟩
     exact z6 kr (hw.new (by simp)) [((⟨0,⟨#[120]⟩,0,[(⟨0,2,⟨#[]⟩,[]⟩:Expr)],[],[]⟩:Stmt),_)] ⟨q36 w' hw.of_alloc,trivial⟩ rfl (by simp)
    ·refine jk rfl rfl fun x1 y hB hF hD=>?_
     obtain ⟨d0,d1,d2,-⟩:=hD
     have q29:∀ w',But (.cells #[.slice none 0 0,.slice none 0 0] 25) w3.heap.size y w'→XsIs w' ([(⟨1,0,⟨#[99]⟩,[]⟩:Expr)]) (slot x1 29):=d0 rfl
     obtain ⟨a29_0,c29_0,e29⟩:=zc (q29 y (But.refl _ _ _))
     have e29:slot x1 29=.slice a29_0 1 c29_0:=e29
     have g29:=jd e29
     simp only [e29] at q29
     have q33:∀ w',But (.cells #[.slice none 0 0,.slice none 0 0] 25) w3.heap.size y w'→SsIs w' ([(⟨0,⟨#[120]⟩,0,[(⟨0,1,⟨#[]⟩,[]⟩:Expr)],[],[]⟩:Stmt)]) (slot x1 33):=d1 rfl
     obtain ⟨a33_0,c33_0,e33⟩:=zc (q33 y (But.refl _ _ _))
     have e33:slot x1 33=.slice a33_0 1 c33_0:=e33
     have g33:=jd e33
     simp only [e33] at q33
     have q37:∀ w',But (.cells #[.slice none 0 0,.slice none 0 0] 25) w3.heap.size y w'→SsIs w' ([(⟨0,⟨#[120]⟩,0,[(⟨0,2,⟨#[]⟩,[]⟩:Expr)],[],[]⟩:Stmt)]) (slot x1 37):=d2 rfl
     obtain ⟨a37_0,c37_0,e37⟩:=zc (q37 y (But.refl _ _ _))
     have e37:slot x1 37=.slice a37_0 1 c37_0:=e37
     have g37:=jd e37
     simp only [e37] at q37
     clear hB hF
     refine ⟨.agg #[.int .i64 2,.string ⟨#[]⟩,.int .i64 0,.slice a29_0 1 c29_0,.slice a33_0 1 c33_0,.slice a37_0 1 c37_0],?_,fun w' hw=>xf 2 0 ⟨#[]⟩ (l:=[(⟨1,0,⟨#[99]⟩,[]⟩:Expr)]) (t:=[(⟨0,⟨#[120]⟩,0,[(⟨0,1,⟨#[]⟩,[]⟩:Expr)],[],[]⟩:Stmt)]) (e:=[(⟨0,⟨#[120]⟩,0,[(⟨0,2,⟨#[]⟩,[]⟩:Expr)],[],[]⟩:Stmt)]) (q29 w' hw) (q33 w' hw) (q37 w' hw) (by unfold I64;first|omega|(simp only;omega)) (by unfold I64;first|omega|(simp only;omega)) (by decide)⟩
     simp only [execOp]
     simp [go_sem,g29,g33,g37]
    ·refine jo (f:=21) rfl rfl fun x1 y hB hF hD=>⟨#[.string ⟨#[120]⟩],?_,?_⟩
     ·clear hB hF hD
      simp only [execOp]
      simp [go_sem]
     ·refine (qg _ y).mono ?_
      rintro e w1 ⟨rfl,hb⟩
      exact ⟨hb,.inl ⟨_,rfl,fun w' hw=>qe 1 0 ⟨#[120]⟩ (l:=[]) (Sl.nil _ _ _ _) (by unfold I64;first|omega|(simp only;omega)) (by unfold U64;first|omega|(simp only;omega)) (by decide)⟩⟩
    ·refine jo (f:=23) rfl rfl fun x1 y hB hF hD=>?_
     obtain ⟨d0,-⟩:=hD
     have q39:∀ w',But (.cells #[.slice none 0 0,.slice none 0 0] 25) w3.heap.size y w'→jn w' ((⟨1,0,⟨#[120]⟩,[]⟩:Expr)) (slot x1 39):=d0 rfl
     obtain ⟨a39_0,c39_0,e39,-⟩:=q39 y (But.refl _ _ _)
     have e39:slot x1 39=.agg #[.int .i64 1,.int .u64 0,.string ⟨#[120]⟩,.slice a39_0 0 c39_0]:=e39
     have g39:=jd e39
     simp only [e39] at q39
     clear hB hF
     refine ⟨#[.agg #[.int .i64 1,.int .u64 0,.string ⟨#[120]⟩,.slice a39_0 0 c39_0]],?_,?_⟩
     ·simp only [execOp]
      simp [go_sem,g39]
     ·refine (opens1_any _ _ y (q39 y (But.refl _ _ _))).mono ?_
      rintro e w1 ⟨hb,b,rfl,hb1⟩
      exact ⟨hb,.inl ⟨_,rfl,fun w' hw=>qe 6 0 ⟨#[]⟩ (l:=[(⟨1,0,⟨#[120]⟩,[]⟩:Expr)]) (z6 zn (hw.keep hb1 (by simp)) [((⟨1,0,⟨#[120]⟩,[]⟩:Expr),_)] ⟨q39 w' (hw.behind hb),trivial⟩ rfl (by simp)) (by unfold I64;first|omega|(simp only;omega)) (by unfold U64;first|omega|(simp only;omega)) (by decide)⟩⟩
    ·refine jh rfl fun x1 y hB hF hD=>?_
     obtain ⟨d0,-⟩:=hD
     have q40:∀ w',But (.cells #[.slice none 0 0,.slice none 0 0] 25) w3.heap.size y w'→jn w' ((⟨6,0,⟨#[]⟩,[(⟨1,0,⟨#[120]⟩,[]⟩:Expr)]⟩:Expr)) (slot x1 40):=d0 rfl
     obtain ⟨a40_0,c40_0,e40,-⟩:=q40 y (But.refl _ _ _)
     have e40:slot x1 40=.agg #[.int .i64 6,.int .u64 0,.string ⟨#[]⟩,.slice a40_0 1 c40_0]:=e40
     have g40:=jd e40
     simp only [e40] at q40
     clear hB hF
     unfold Oper.wp
     simp only [execOp]
     simp [go_sem,g40]
     refine ⟨_,rfl,(Below.refl _ _).alloc (Nat.le_refl _) _,fun w' hw=>?_⟩
     exact z6 zn (hw.new (by simp)) [((⟨6,0,⟨#[]⟩,[(⟨1,0,⟨#[120]⟩,[]⟩:Expr)]⟩:Expr),_)] ⟨q40 w' hw.of_alloc,trivial⟩ rfl (by simp)
    ·refine jk rfl rfl fun x1 y hB hF hD=>?_
     obtain ⟨d0,-⟩:=hD
     have q41:∀ w',But (.cells #[.slice none 0 0,.slice none 0 0] 25) w3.heap.size y w'→XsIs w' ([(⟨6,0,⟨#[]⟩,[(⟨1,0,⟨#[120]⟩,[]⟩:Expr)]⟩:Expr)]) (slot x1 41):=d0 rfl
     obtain ⟨a41_0,c41_0,e41⟩:=zc (q41 y (But.refl _ _ _))
     have e41:slot x1 41=.slice a41_0 1 c41_0:=e41
     have g41:=jd e41
     simp only [e41] at q41
     clear hB hF
     refine ⟨.agg #[.int .i64 0,.string ⟨#[121]⟩,.int .i64 0,.slice a41_0 1 c41_0,.slice none 0 0,.slice none 0 0],?_,fun w' hw=>xf 0 0 ⟨#[121]⟩ (l:=[(⟨6,0,⟨#[]⟩,[(⟨1,0,⟨#[120]⟩,[]⟩:Expr)]⟩:Expr)]) (t:=[]) (e:=[]) (q41 w' hw) (Sl.nil _ _ _ _) (Sl.nil _ _ _ _) (by unfold I64;first|omega|(simp only;omega)) (by unfold I64;first|omega|(simp only;omega)) (by decide)⟩
     simp only [execOp]
     simp [go_sem,g41]
    ·refine jk rfl rfl fun x1 y hB hF hD=>?_
     have e8:slot x1 8=.pointer (some ⟨b8,0,none⟩):=hF.at 8 rfl
     have hb:=jm hB HK4.out
     refine ⟨.agg #[.int .i64 4,.int .u64 0,.string ⟨#[]⟩,.slice a23_0 3 c23_0],?_,fun w' hw=>HX4.out.below (hw.base hB (Nat.le_refl _))⟩
     clear hB hF
     simp only [execOp,ja,e8]
     simp [zr y _ _ 53 _ _ _ hb Tryz.underlying53 rfl (by kernel_rfl),Result.andThen]
    ·refine jh rfl fun x1 y hB hF hD=>?_
     obtain ⟨d0,-⟩:=hD
     have q43:∀ w',But (.cells #[.slice none 0 0,.slice none 0 0] 25) w3.heap.size y w'→jn w' ((⟨4,0,⟨#[]⟩,[(⟨1,0,⟨#[99]⟩,[]⟩:Expr),(⟨6,0,⟨#[]⟩,[(⟨1,0,⟨#[97]⟩,[]⟩:Expr)]⟩:Expr),(⟨6,0,⟨#[]⟩,[(⟨1,0,⟨#[98]⟩,[]⟩:Expr)]⟩:Expr)]⟩:Expr)) (slot x1 43):=d0 rfl
     obtain ⟨a43_0,c43_0,e43,-⟩:=q43 y (But.refl _ _ _)
     have e43:slot x1 43=.agg #[.int .i64 4,.int .u64 0,.string ⟨#[]⟩,.slice a43_0 3 c43_0]:=e43
     have g43:=jd e43
     simp only [e43] at q43
     clear hB hF
     unfold Oper.wp
     simp only [execOp]
     simp [go_sem,g43]
     refine ⟨_,rfl,(Below.refl _ _).alloc (Nat.le_refl _) _,fun w' hw=>?_⟩
     exact z6 zn (hw.new (by simp)) [((⟨4,0,⟨#[]⟩,[(⟨1,0,⟨#[99]⟩,[]⟩:Expr),(⟨6,0,⟨#[]⟩,[(⟨1,0,⟨#[97]⟩,[]⟩:Expr)]⟩:Expr),(⟨6,0,⟨#[]⟩,[(⟨1,0,⟨#[98]⟩,[]⟩:Expr)]⟩:Expr)]⟩:Expr),_)] ⟨q43 w' hw.of_alloc,trivial⟩ rfl (by simp)
    ·refine jk rfl rfl fun x1 y hB hF hD=>?_
     obtain ⟨d0,-⟩:=hD
     have q44:∀ w',But (.cells #[.slice none 0 0,.slice none 0 0] 25) w3.heap.size y w'→XsIs w' ([(⟨4,0,⟨#[]⟩,[(⟨1,0,⟨#[99]⟩,[]⟩:Expr),(⟨6,0,⟨#[]⟩,[(⟨1,0,⟨#[97]⟩,[]⟩:Expr)]⟩:Expr),(⟨6,0,⟨#[]⟩,[(⟨1,0,⟨#[98]⟩,[]⟩:Expr)]⟩:Expr)]⟩:Expr)]) (slot x1 44):=d0 rfl
     obtain ⟨a44_0,c44_0,e44⟩:=zc (q44 y (But.refl _ _ _))
     have e44:slot x1 44=.slice a44_0 1 c44_0:=e44
     have g44:=jd e44
     simp only [e44] at q44
     clear hB hF
     refine ⟨.agg #[.int .i64 4,.string ⟨#[]⟩,.int .i64 0,.slice a44_0 1 c44_0,.slice none 0 0,.slice none 0 0],?_,fun w' hw=>xf 4 0 ⟨#[]⟩ (l:=[(⟨4,0,⟨#[]⟩,[(⟨1,0,⟨#[99]⟩,[]⟩:Expr),(⟨6,0,⟨#[]⟩,[(⟨1,0,⟨#[97]⟩,[]⟩:Expr)]⟩:Expr),(⟨6,0,⟨#[]⟩,[(⟨1,0,⟨#[98]⟩,[]⟩:Expr)]⟩:Expr)]⟩:Expr)]) (t:=[]) (e:=[]) (q44 w' hw) (Sl.nil _ _ _ _) (Sl.nil _ _ _ _) (by unfold I64;first|omega|(simp only;omega)) (by unfold I64;first|omega|(simp only;omega)) (by decide)⟩
     simp only [execOp]
     simp [go_sem,g44]
    ·refine jh rfl fun x1 y hB hF hD=>?_
     obtain ⟨d0,d1,d2,-⟩:=hD
     have q38:∀ w',But (.cells #[.slice none 0 0,.slice none 0 0] 25) w3.heap.size y w'→zy w' ((⟨2,⟨#[]⟩,0,[(⟨1,0,⟨#[99]⟩,[]⟩:Expr)],[(⟨0,⟨#[120]⟩,0,[(⟨0,1,⟨#[]⟩,[]⟩:Expr)],[],[]⟩:Stmt)],[(⟨0,⟨#[120]⟩,0,[(⟨0,2,⟨#[]⟩,[]⟩:Expr)],[],[]⟩:Stmt)]⟩:Stmt)) (slot x1 38):=d0 rfl
     obtain ⟨a38_0,c38_0,a38_1,c38_1,a38_2,c38_2,e38,-⟩:=q38 y (But.refl _ _ _)
     have e38:slot x1 38=.agg #[.int .i64 2,.string ⟨#[]⟩,.int .i64 0,.slice a38_0 1 c38_0,.slice a38_1 1 c38_1,.slice a38_2 1 c38_2]:=e38
     have g38:=jd e38
     simp only [e38] at q38
     have q42:∀ w',But (.cells #[.slice none 0 0,.slice none 0 0] 25) w3.heap.size y w'→zy w' ((⟨0,⟨#[121]⟩,0,[(⟨6,0,⟨#[]⟩,[(⟨1,0,⟨#[120]⟩,[]⟩:Expr)]⟩:Expr)],[],[]⟩:Stmt)) (slot x1 42):=d1 rfl
     obtain ⟨a42_0,c42_0,a42_1,c42_1,a42_2,c42_2,e42,-⟩:=q42 y (But.refl _ _ _)
     have e42:slot x1 42=.agg #[.int .i64 0,.string ⟨#[121]⟩,.int .i64 0,.slice a42_0 1 c42_0,.slice a42_1 0 c42_1,.slice a42_2 0 c42_2]:=e42
     have g42:=jd e42
     simp only [e42] at q42
     have q45:∀ w',But (.cells #[.slice none 0 0,.slice none 0 0] 25) w3.heap.size y w'→zy w' ((⟨4,⟨#[]⟩,0,[(⟨4,0,⟨#[]⟩,[(⟨1,0,⟨#[99]⟩,[]⟩:Expr),(⟨6,0,⟨#[]⟩,[(⟨1,0,⟨#[97]⟩,[]⟩:Expr)]⟩:Expr),(⟨6,0,⟨#[]⟩,[(⟨1,0,⟨#[98]⟩,[]⟩:Expr)]⟩:Expr)]⟩:Expr)],[],[]⟩:Stmt)) (slot x1 45):=d2 rfl
     obtain ⟨a45_0,c45_0,a45_1,c45_1,a45_2,c45_2,e45,-⟩:=q45 y (But.refl _ _ _)
     have e45:slot x1 45=.agg #[.int .i64 4,.string ⟨#[]⟩,.int .i64 0,.slice a45_0 1 c45_0,.slice a45_1 0 c45_1,.slice a45_2 0 c45_2]:=e45
     have g45:=jd e45
     simp only [e45] at q45
     clear hB hF
     unfold Oper.wp
     simp only [execOp]
     simp [go_sem,g38,g42,g45]
     refine ⟨_,rfl,(Below.refl _ _).alloc (Nat.le_refl _) _,fun w' hw=>?_⟩
     exact z6 kr (hw.new (by simp)) [((⟨2,⟨#[]⟩,0,[(⟨1,0,⟨#[99]⟩,[]⟩:Expr)],[(⟨0,⟨#[120]⟩,0,[(⟨0,1,⟨#[]⟩,[]⟩:Expr)],[],[]⟩:Stmt)],[(⟨0,⟨#[120]⟩,0,[(⟨0,2,⟨#[]⟩,[]⟩:Expr)],[],[]⟩:Stmt)]⟩:Stmt),_),((⟨0,⟨#[121]⟩,0,[(⟨6,0,⟨#[]⟩,[(⟨1,0,⟨#[120]⟩,[]⟩:Expr)]⟩:Expr)],[],[]⟩:Stmt),_),((⟨4,⟨#[]⟩,0,[(⟨4,0,⟨#[]⟩,[(⟨1,0,⟨#[99]⟩,[]⟩:Expr),(⟨6,0,⟨#[]⟩,[(⟨1,0,⟨#[97]⟩,[]⟩:Expr)]⟩:Expr),(⟨6,0,⟨#[]⟩,[(⟨1,0,⟨#[98]⟩,[]⟩:Expr)]⟩:Expr)]⟩:Expr)],[],[]⟩:Stmt),_)] ⟨q38 w' hw.of_alloc,q42 w' hw.of_alloc,q45 w' hw.of_alloc,trivial⟩ rfl (by simp)
    ·refine jk rfl rfl fun x1 y hB hF hD=>?_
     obtain ⟨d0,d1,-⟩:=hD
     have q27:∀ w',But (.cells #[.slice none 0 0,.slice none 0 0] 25) w3.heap.size y w'→PsIs w' ([(⟨⟨#[99]⟩,0,0⟩:jj),(⟨⟨#[97]⟩,0,0⟩:jj),(⟨⟨#[98]⟩,0,0⟩:jj)]) (slot x1 27):=d0 rfl
     obtain ⟨a27_0,c27_0,e27⟩:=zc (q27 y (But.refl _ _ _))
     have e27:slot x1 27=.slice a27_0 3 c27_0:=e27
     have g27:=jd e27
     simp only [e27] at q27
     have q46:∀ w',But (.cells #[.slice none 0 0,.slice none 0 0] 25) w3.heap.size y w'→SsIs w' ([(⟨2,⟨#[]⟩,0,[(⟨1,0,⟨#[99]⟩,[]⟩:Expr)],[(⟨0,⟨#[120]⟩,0,[(⟨0,1,⟨#[]⟩,[]⟩:Expr)],[],[]⟩:Stmt)],[(⟨0,⟨#[120]⟩,0,[(⟨0,2,⟨#[]⟩,[]⟩:Expr)],[],[]⟩:Stmt)]⟩:Stmt),(⟨0,⟨#[121]⟩,0,[(⟨6,0,⟨#[]⟩,[(⟨1,0,⟨#[120]⟩,[]⟩:Expr)]⟩:Expr)],[],[]⟩:Stmt),(⟨4,⟨#[]⟩,0,[(⟨4,0,⟨#[]⟩,[(⟨1,0,⟨#[99]⟩,[]⟩:Expr),(⟨6,0,⟨#[]⟩,[(⟨1,0,⟨#[97]⟩,[]⟩:Expr)]⟩:Expr),(⟨6,0,⟨#[]⟩,[(⟨1,0,⟨#[98]⟩,[]⟩:Expr)]⟩:Expr)]⟩:Expr)],[],[]⟩:Stmt)]) (slot x1 46):=d1 rfl
     obtain ⟨a46_0,c46_0,e46⟩:=zc (q46 y (But.refl _ _ _))
     have e46:slot x1 46=.slice a46_0 3 c46_0:=e46
     have g46:=jd e46
     simp only [e46] at q46
     clear hB hF
     refine ⟨.agg #[.string ⟨#[102]⟩,.bool false,.slice a27_0 3 c27_0,.slice a46_0 3 c46_0],?_,fun w' hw=>fun_mk ⟨#[102]⟩ false (ps:=[(⟨⟨#[99]⟩,0,0⟩:jj),(⟨⟨#[97]⟩,0,0⟩:jj),(⟨⟨#[98]⟩,0,0⟩:jj)]) (b:=[(⟨2,⟨#[]⟩,0,[(⟨1,0,⟨#[99]⟩,[]⟩:Expr)],[(⟨0,⟨#[120]⟩,0,[(⟨0,1,⟨#[]⟩,[]⟩:Expr)],[],[]⟩:Stmt)],[(⟨0,⟨#[120]⟩,0,[(⟨0,2,⟨#[]⟩,[]⟩:Expr)],[],[]⟩:Stmt)]⟩:Stmt),(⟨0,⟨#[121]⟩,0,[(⟨6,0,⟨#[]⟩,[(⟨1,0,⟨#[120]⟩,[]⟩:Expr)]⟩:Expr)],[],[]⟩:Stmt),(⟨4,⟨#[]⟩,0,[(⟨4,0,⟨#[]⟩,[(⟨1,0,⟨#[99]⟩,[]⟩:Expr),(⟨6,0,⟨#[]⟩,[(⟨1,0,⟨#[97]⟩,[]⟩:Expr)]⟩:Expr),(⟨6,0,⟨#[]⟩,[(⟨1,0,⟨#[98]⟩,[]⟩:Expr)]⟩:Expr)]⟩:Expr)],[],[]⟩:Stmt)]) (q27 w' hw) (q46 w' hw) (by decide)⟩
     simp only [execOp]
     simp [go_sem,g27,g46]
    ·refine jh rfl fun x1 y hB hF hD=>?_
     obtain ⟨d0,-⟩:=hD
     have q47:∀ w',But (.cells #[.slice none 0 0,.slice none 0 0] 25) w3.heap.size y w'→kn w' ((⟨⟨#[102]⟩,false,[(⟨⟨#[99]⟩,0,0⟩:jj),(⟨⟨#[97]⟩,0,0⟩:jj),(⟨⟨#[98]⟩,0,0⟩:jj)],[(⟨2,⟨#[]⟩,0,[(⟨1,0,⟨#[99]⟩,[]⟩:Expr)],[(⟨0,⟨#[120]⟩,0,[(⟨0,1,⟨#[]⟩,[]⟩:Expr)],[],[]⟩:Stmt)],[(⟨0,⟨#[120]⟩,0,[(⟨0,2,⟨#[]⟩,[]⟩:Expr)],[],[]⟩:Stmt)]⟩:Stmt),(⟨0,⟨#[121]⟩,0,[(⟨6,0,⟨#[]⟩,[(⟨1,0,⟨#[120]⟩,[]⟩:Expr)]⟩:Expr)],[],[]⟩:Stmt),(⟨4,⟨#[]⟩,0,[(⟨4,0,⟨#[]⟩,[(⟨1,0,⟨#[99]⟩,[]⟩:Expr),(⟨6,0,⟨#[]⟩,[(⟨1,0,⟨#[97]⟩,[]⟩:Expr)]⟩:Expr),(⟨6,0,⟨#[]⟩,[(⟨1,0,⟨#[98]⟩,[]⟩:Expr)]⟩:Expr)]⟩:Expr)],[],[]⟩:Stmt)]⟩:Fun)) (slot x1 47):=d0 rfl
     obtain ⟨a47_0,c47_0,a47_1,c47_1,e47,-⟩:=q47 y (But.refl _ _ _)
     have e47:slot x1 47=.agg #[.string ⟨#[102]⟩,.bool false,.slice a47_0 3 c47_0,.slice a47_1 3 c47_1]:=e47
     have g47:=jd e47
     simp only [e47] at q47
     clear hB hF
     unfold Oper.wp
     simp only [execOp]
     simp [go_sem,g47]
     refine ⟨_,rfl,(Below.refl _ _).alloc (Nat.le_refl _) _,fun w' hw=>?_⟩
     exact z6 funAt_of (hw.new (by simp)) [((⟨⟨#[102]⟩,false,[(⟨⟨#[99]⟩,0,0⟩:jj),(⟨⟨#[97]⟩,0,0⟩:jj),(⟨⟨#[98]⟩,0,0⟩:jj)],[(⟨2,⟨#[]⟩,0,[(⟨1,0,⟨#[99]⟩,[]⟩:Expr)],[(⟨0,⟨#[120]⟩,0,[(⟨0,1,⟨#[]⟩,[]⟩:Expr)],[],[]⟩:Stmt)],[(⟨0,⟨#[120]⟩,0,[(⟨0,2,⟨#[]⟩,[]⟩:Expr)],[],[]⟩:Stmt)]⟩:Stmt),(⟨0,⟨#[121]⟩,0,[(⟨6,0,⟨#[]⟩,[(⟨1,0,⟨#[120]⟩,[]⟩:Expr)]⟩:Expr)],[],[]⟩:Stmt),(⟨4,⟨#[]⟩,0,[(⟨4,0,⟨#[]⟩,[(⟨1,0,⟨#[99]⟩,[]⟩:Expr),(⟨6,0,⟨#[]⟩,[(⟨1,0,⟨#[97]⟩,[]⟩:Expr)]⟩:Expr),(⟨6,0,⟨#[]⟩,[(⟨1,0,⟨#[98]⟩,[]⟩:Expr)]⟩:Expr)]⟩:Expr)],[],[]⟩:Stmt)]⟩:Fun),_)] ⟨q47 w' hw.of_alloc,trivial⟩ rfl (by simp)
    ·refine jk rfl rfl fun x1 y hB hF hD=>?_
     obtain ⟨d0,-⟩:=hD
     have q48:∀ w',But (.cells #[.slice none 0 0,.slice none 0 0] 25) w3.heap.size y w'→FsIs w' ([(⟨⟨#[102]⟩,false,[(⟨⟨#[99]⟩,0,0⟩:jj),(⟨⟨#[97]⟩,0,0⟩:jj),(⟨⟨#[98]⟩,0,0⟩:jj)],[(⟨2,⟨#[]⟩,0,[(⟨1,0,⟨#[99]⟩,[]⟩:Expr)],[(⟨0,⟨#[120]⟩,0,[(⟨0,1,⟨#[]⟩,[]⟩:Expr)],[],[]⟩:Stmt)],[(⟨0,⟨#[120]⟩,0,[(⟨0,2,⟨#[]⟩,[]⟩:Expr)],[],[]⟩:Stmt)]⟩:Stmt),(⟨0,⟨#[121]⟩,0,[(⟨6,0,⟨#[]⟩,[(⟨1,0,⟨#[120]⟩,[]⟩:Expr)]⟩:Expr)],[],[]⟩:Stmt),(⟨4,⟨#[]⟩,0,[(⟨4,0,⟨#[]⟩,[(⟨1,0,⟨#[99]⟩,[]⟩:Expr),(⟨6,0,⟨#[]⟩,[(⟨1,0,⟨#[97]⟩,[]⟩:Expr)]⟩:Expr),(⟨6,0,⟨#[]⟩,[(⟨1,0,⟨#[98]⟩,[]⟩:Expr)]⟩:Expr)]⟩:Expr)],[],[]⟩:Stmt)]⟩:Fun)]) (slot x1 48):=d0 rfl
     obtain ⟨a48_0,c48_0,e48⟩:=zc (q48 y (But.refl _ _ _))
     have e48:slot x1 48=.slice a48_0 1 c48_0:=e48
     have g48:=jd e48
     simp only [e48] at q48
     clear hB hF
     refine ⟨.agg #[.slice none 0 0,.slice a48_0 1 c48_0],?_,fun w' hw=>src_mk (l:=[]) (fs:=[(⟨⟨#[102]⟩,false,[(⟨⟨#[99]⟩,0,0⟩:jj),(⟨⟨#[97]⟩,0,0⟩:jj),(⟨⟨#[98]⟩,0,0⟩:jj)],[(⟨2,⟨#[]⟩,0,[(⟨1,0,⟨#[99]⟩,[]⟩:Expr)],[(⟨0,⟨#[120]⟩,0,[(⟨0,1,⟨#[]⟩,[]⟩:Expr)],[],[]⟩:Stmt)],[(⟨0,⟨#[120]⟩,0,[(⟨0,2,⟨#[]⟩,[]⟩:Expr)],[],[]⟩:Stmt)]⟩:Stmt),(⟨0,⟨#[121]⟩,0,[(⟨6,0,⟨#[]⟩,[(⟨1,0,⟨#[120]⟩,[]⟩:Expr)]⟩:Expr)],[],[]⟩:Stmt),(⟨4,⟨#[]⟩,0,[(⟨4,0,⟨#[]⟩,[(⟨1,0,⟨#[99]⟩,[]⟩:Expr),(⟨6,0,⟨#[]⟩,[(⟨1,0,⟨#[97]⟩,[]⟩:Expr)]⟩:Expr),(⟨6,0,⟨#[]⟩,[(⟨1,0,⟨#[98]⟩,[]⟩:Expr)]⟩:Expr)]⟩:Expr)],[],[]⟩:Stmt)]⟩:Fun)]) (Sl.nil _ _ _ _) (q48 w' hw)⟩
     simp only [execOp]
     simp [go_sem,g48]
    ·refine jh rfl fun x1 y hB hF hD=>?_
     unfold Oper.wp
     simp only [execOp]
     simp [go_sem]
     exact ⟨_,rfl,(Below.refl _ _).alloc (Nat.le_refl _) _,y.heap.size,rfl,hB.size,Go.heap_alloc_new y _⟩
   ·intro x1 y hB hF hP
    obtain ⟨p0,p1,p2,p3,p4,p5,p6,p7,p8,p9,p10,p11,p12,p13,p14,p15,p16,p17,p18,p19,p20,p21,p22,p23,p24,p25,p26,-⟩:=hP
    have q49:∀ w',But (.cells #[.slice none 0 0,.slice none 0 0] 25) w3.heap.size y w'→yj w' ((⟨[],[(⟨⟨#[102]⟩,false,[(⟨⟨#[99]⟩,0,0⟩:jj),(⟨⟨#[97]⟩,0,0⟩:jj),(⟨⟨#[98]⟩,0,0⟩:jj)],[(⟨2,⟨#[]⟩,0,[(⟨1,0,⟨#[99]⟩,[]⟩:Expr)],[(⟨0,⟨#[120]⟩,0,[(⟨0,1,⟨#[]⟩,[]⟩:Expr)],[],[]⟩:Stmt)],[(⟨0,⟨#[120]⟩,0,[(⟨0,2,⟨#[]⟩,[]⟩:Expr)],[],[]⟩:Stmt)]⟩:Stmt),(⟨0,⟨#[121]⟩,0,[(⟨6,0,⟨#[]⟩,[(⟨1,0,⟨#[120]⟩,[]⟩:Expr)]⟩:Expr)],[],[]⟩:Stmt),(⟨4,⟨#[]⟩,0,[(⟨4,0,⟨#[]⟩,[(⟨1,0,⟨#[99]⟩,[]⟩:Expr),(⟨6,0,⟨#[]⟩,[(⟨1,0,⟨#[97]⟩,[]⟩:Expr)]⟩:Expr),(⟨6,0,⟨#[]⟩,[(⟨1,0,⟨#[98]⟩,[]⟩:Expr)]⟩:Expr)]⟩:Expr)],[],[]⟩:Stmt)]⟩:Fun)]⟩:Src)) (slot x1 49):=p25
    obtain ⟨a49_0,c49_0,a49_1,c49_1,e49,-⟩:=q49 y (But.refl _ _ _)
    have e49:slot x1 49=.agg #[.slice a49_0 0 c49_0,.slice a49_1 1 c49_1]:=e49
    have g49:=jd e49
    simp only [e49] at q49
    obtain ⟨b9,ex,hbx,hbz⟩:=p26
    have ex:slot x1 9=.pointer (some ⟨b9,0,none⟩):=ex
    have hx:=jl hF [(24,slot x1 24),(25,slot x1 25),(26,slot x1 26),(27,slot x1 27),(28,slot x1 28),(29,slot x1 29),(30,slot x1 30),(31,slot x1 31),(32,slot x1 32),(33,slot x1 33),(34,slot x1 34),(35,slot x1 35),(36,slot x1 36),(37,slot x1 37),(38,slot x1 38),(39,slot x1 39),(40,slot x1 40),(41,slot x1 41),(42,slot x1 42),(43,slot x1 43),(44,slot x1 44),(45,slot x1 45),(46,slot x1 46),(47,slot x1 47),(48,slot x1 48),(49,.agg #[.slice a49_0 0 c49_0,.slice a49_1 1 c49_1]),(9,.pointer (some ⟨b9,0,none⟩))] rfl ⟨rfl,rfl,rfl,rfl,rfl,rfl,rfl,rfl,rfl,rfl,rfl,rfl,rfl,rfl,rfl,rfl,rfl,rfl,rfl,rfl,rfl,rfl,rfl,rfl,rfl,e49,ex,trivial⟩
    clear hF p0 p1 p2 p3 p4 p5 p6 p7 p8 p9 p10 p11 p12 p13 p14 p15 p16 p17 p18 p19 p20 p21 p22 p23 p24 p25
    clear e49 g49
    generalize slot x1 24=u24 at *
    generalize slot x1 25=u25 at *
    generalize slot x1 26=u26 at *
    generalize slot x1 27=u27 at *
    generalize slot x1 28=u28 at *
    generalize slot x1 29=u29 at *
    generalize slot x1 30=u30 at *
    generalize slot x1 31=u31 at *
    generalize slot x1 32=u32 at *
    generalize slot x1 33=u33 at *
    generalize slot x1 34=u34 at *
    generalize slot x1 35=u35 at *
    generalize slot x1 36=u36 at *
    generalize slot x1 37=u37 at *
    generalize slot x1 38=u38 at *
    generalize slot x1 39=u39 at *
    generalize slot x1 40=u40 at *
    generalize slot x1 41=u41 at *
    generalize slot x1 42=u42 at *
    generalize slot x1 43=u43 at *
    generalize slot x1 44=u44 at *
    generalize slot x1 45=u45 at *
    generalize slot x1 46=u46 at *
    generalize slot x1 47=u47 at *
    generalize slot x1 48=u48 at *
    subst hx
    simp only [puts,Act.put,wi,wj,wk,wl,wm]
    have HZb:=we hbz
    have HX5:=we (q49 _ (But.setRow (cs:=#[.slice a49_0 0 c49_0,.slice a49_1 1 c49_1]) hbz hbx))
    have HK5:=we (Go.setRow_heap y b9 _ #[.slice a49_0 0 c49_0,.slice a49_1 1 c49_1] _ _ hbz)
    have HB5:=we (below_setRow hB hbx #[.slice a49_0 0 c49_0,.slice a49_1 1 c49_1])
    clear hbz hbx q49 hB
    refine wpList_store_row rfl 25 _ _ rfl b9 #[.slice a49_0 0 c49_0,.slice a49_1 1 c49_1] rfl rfl 25 _ HZb.out (by kernel_rfl) rfl (by simp [Value.oneCell']) ?_
    clear HZb
    generalize y.setRow b9 #[.slice a49_0 0 c49_0,.slice a49_1 1 c49_1]=w4 at *
    have HB4:=we (HB3.out.trans (HB5.out.mono HB3.out.size))
    clear HB3 HB5 HK4 HX4
    go_upto_region 6 with (fail)
    refine jp [mpQ (.cells #[] 53) w4.heap.size (fun w v=>yj w ((⟨[],[(⟨⟨#[102]⟩,false,[(⟨⟨#[99]⟩,0,0⟩:jj),(⟨⟨#[97]⟩,0,0⟩:jj),(⟨⟨#[98]⟩,0,0⟩:jj)],[(⟨2,⟨#[]⟩,0,[(⟨1,0,⟨#[99]⟩,[]⟩:Expr)],[(⟨0,⟨#[120]⟩,0,[(⟨0,1,⟨#[]⟩,[]⟩:Expr)],[],[]⟩:Stmt)],[(⟨0,⟨#[120]⟩,0,[(⟨0,2,⟨#[]⟩,[]⟩:Expr)],[],[]⟩:Stmt)]⟩:Stmt),(⟨0,⟨#[121]⟩,0,[(⟨6,0,⟨#[]⟩,[(⟨1,0,⟨#[120]⟩,[]⟩:Expr)]⟩:Expr)],[],[]⟩:Stmt),(⟨4,⟨#[]⟩,0,[(⟨4,0,⟨#[]⟩,[(⟨1,0,⟨#[99]⟩,[]⟩:Expr),(⟨6,0,⟨#[]⟩,[(⟨1,0,⟨#[97]⟩,[]⟩:Expr)]⟩:Expr),(⟨6,0,⟨#[]⟩,[(⟨1,0,⟨#[98]⟩,[]⟩:Expr)]⟩:Expr)]⟩:Expr)],[],[]⟩:Stmt)]⟩:Fun)]⟩:Src)) v),MP.is (.int .u64 c),MP.is (.int .u64 a),MP.is (.int .u64 b),mpQ (.cells #[] 53) w4.heap.size (fun w v=>WSl w v ([c,a,b])),mpQ (.cells #[] 53) w4.heap.size (fun w v=>ki w ([]) ([]) v)] (by kernel_rfl) 6 (by decide) _ rfl ?_ ?_
    ·refine ⟨?_,?_,?_,?_,?_,?_,trivial⟩
     ·refine jk rfl rfl fun x1 y hB hF hD=>?_
      have e9:slot x1 9=.pointer (some ⟨b9,0,none⟩):=hF.at 9 rfl
      have hb:=jm hB HK5.out
      refine ⟨.agg #[.slice a49_0 0 c49_0,.slice a49_1 1 c49_1],?_,fun w' hw=>HX5.out.below (hw.base hB (Nat.le_refl _))⟩
      clear hB hF
      simp only [execOp,ja,e9]
      simp [zr y _ _ 25 _ _ _ hb Tryz.underlying25 rfl (by kernel_rfl),Result.andThen]
     ·refine jc rfl rfl rfl fun x1 y hB hF hD=>?_
      have e0:slot x1 0=.int .u64 c:=hF.at 0 rfl
      clear hB hF
      simp only [execOp,ja,e0]
      rfl
     ·refine jc rfl rfl rfl fun x1 y hB hF hD=>?_
      have e1:slot x1 1=.int .u64 a:=hF.at 1 rfl
      clear hB hF
      simp only [execOp,ja,e1]
      rfl
     ·refine jc rfl rfl rfl fun x1 y hB hF hD=>?_
      have e2:slot x1 2=.int .u64 b:=hF.at 2 rfl
      clear hB hF
      simp only [execOp,ja,e2]
      rfl
     ·refine jh rfl fun x1 y hB hF hD=>?_
      obtain ⟨d0,d1,d2,-⟩:=hD
      have e52:slot x1 52=.int .u64 c:=d0 rfl
      have g52:=jd e52
      have e53:slot x1 53=.int .u64 a:=d1 rfl
      have g53:=jd e53
      have e54:slot x1 54=.int .u64 b:=d2 rfl
      have g54:=jd e54
      clear hB hF
      unfold Oper.wp
      simp only [execOp]
      simp [go_sem,g52,g53,g54]
      refine ⟨_,rfl,(Below.refl _ _).alloc (Nat.le_refl _) _,fun w' hw=>?_⟩
      exact wsl_row (hw.new (by simp)) [c,a,b] rfl (by simp)
     ·refine jk rfl rfl fun x1 y hB hF hD=>?_
      clear hB hF
      refine ⟨.agg #[.slice none 0 0,.slice none 0 0],?_,fun w' hw=>world_mk (secs:=[]) (shared:=[]) (Sl.nil _ _ _ _) (wsl_none _)⟩
      simp only [execOp]
      simp [go_sem]
    ·intro x1 w5 hB hF hP
     obtain ⟨p0,p1,p2,p3,p4,p5,-⟩:=hP
     have q51:∀ w',But (.cells #[] 53) w4.heap.size w5 w'→yj w' ((⟨[],[(⟨⟨#[102]⟩,false,[(⟨⟨#[99]⟩,0,0⟩:jj),(⟨⟨#[97]⟩,0,0⟩:jj),(⟨⟨#[98]⟩,0,0⟩:jj)],[(⟨2,⟨#[]⟩,0,[(⟨1,0,⟨#[99]⟩,[]⟩:Expr)],[(⟨0,⟨#[120]⟩,0,[(⟨0,1,⟨#[]⟩,[]⟩:Expr)],[],[]⟩:Stmt)],[(⟨0,⟨#[120]⟩,0,[(⟨0,2,⟨#[]⟩,[]⟩:Expr)],[],[]⟩:Stmt)]⟩:Stmt),(⟨0,⟨#[121]⟩,0,[(⟨6,0,⟨#[]⟩,[(⟨1,0,⟨#[120]⟩,[]⟩:Expr)]⟩:Expr)],[],[]⟩:Stmt),(⟨4,⟨#[]⟩,0,[(⟨4,0,⟨#[]⟩,[(⟨1,0,⟨#[99]⟩,[]⟩:Expr),(⟨6,0,⟨#[]⟩,[(⟨1,0,⟨#[97]⟩,[]⟩:Expr)]⟩:Expr),(⟨6,0,⟨#[]⟩,[(⟨1,0,⟨#[98]⟩,[]⟩:Expr)]⟩:Expr)]⟩:Expr)],[],[]⟩:Stmt)]⟩:Fun)]⟩:Src)) (slot x1 51):=p0
     obtain ⟨a51_0,c51_0,a51_1,c51_1,e51,-⟩:=q51 w5 (But.refl _ _ _)
     have e51:slot x1 51=.agg #[.slice a51_0 0 c51_0,.slice a51_1 1 c51_1]:=e51
     have g51:=jd e51
     simp only [e51] at q51
     have q55:∀ w',But (.cells #[] 53) w4.heap.size w5 w'→WSl w' (slot x1 55) ([c,a,b]):=p4
     obtain ⟨a55_0,c55_0,e55,-⟩:=q55 w5 (But.refl _ _ _)
     have e55:slot x1 55=.slice a55_0 3 c55_0:=e55
     have g55:=jd e55
     simp only [e55] at q55
     have q56:∀ w',But (.cells #[] 53) w4.heap.size w5 w'→ki w' ([]) ([]) (slot x1 56):=p5
     obtain ⟨a56_0,c56_0,a56_1,c56_1,e56,-⟩:=q56 w5 (But.refl _ _ _)
     have e56:slot x1 56=.agg #[.slice a56_0 0 c56_0,.slice a56_1 0 c56_1]:=e56
     have g56:=jd e56
     simp only [e56] at q56
     have hx:=jl hF [(51,.agg #[.slice a51_0 0 c51_0,.slice a51_1 1 c51_1]),(52,.int .u64 c),(53,.int .u64 a),(54,.int .u64 b),(55,.slice a55_0 3 c55_0),(56,.agg #[.slice a56_0 0 c56_0,.slice a56_1 0 c56_1])] rfl ⟨e51,p1,p2,p3,e55,e56,trivial⟩
     clear hF p0 p1 p2 p3 p4 p5
     clear e51 g51
     clear e55 g55
     clear e56 g56
     subst hx
     simp only [puts,Act.put,wi,wj,wk,wl,wm]
     have HI:=we (q51 w5 (But.refl _ _ _))
     have HA:=we (q55 w5 (But.refl _ _ _))
     have HW:=we (q56 w5 (But.refl _ _ _))
     have HB5:=we (HB4.out.trans (hB.mono HB4.out.size))
     clear hB q51 q55 q56 HB4 HK5 HX5
     go_wp2_with fail
     have hr:=run_any (p:=choiceSrc) (args:=[c,a,b]) (secs:=[]) (shared:=[]) (by decide) _ _ _ 0 HI.out (HG.out.below HB5.out) HA.out (by intro x hx;simp at hx;rcases hx with rfl|rfl|rfl<;>first|exact HUc.out|exact HUa.out|exact HUb.out) HW.out (by intro l hl;simp at hl) (by intro x hx;simp at hx) (by rw [choice_run];simp)
     rw [choice_run] at hr
     refine hr.mono ?_
     obtain ⟨V,hV⟩:∃ V,(if c≠0 then a else b)=V:=⟨_,rfl⟩
     obtain ⟨X,hX⟩:∃ X:Int,(if c≠0 then 1 else 2)=X:=⟨_,rfl⟩
     rw [hV,hX]
     have HV:=we hV
     have HX:=we hX
     clear hV hX
     rintro e w6 ⟨hb6,v,rfl,⟨ra1,rc1,ra2,rc2,ra3,rc3,rfl,hO1,hO2,hO3⟩,-⟩
     have hn6:=(Below.refl w6.heap.size w6).alloc (Nat.le_refl _) (.cells #[.int .u64 0,.slice none 0 0,.slice none 0 0,.slice none 0 0] 37)
     have hq6:=below_setRow hn6 (Nat.le_refl _) #[.int .u64 V,.slice ra1 3 rc1,.slice ra2 0 rc2,.slice ra3 0 rc3]
     have HZ6:=we (Go.heap_alloc_new w6 (.cells #[.int .u64 0,.slice none 0 0,.slice none 0 0,.slice none 0 0] 37))
     have HK7:=we (Go.setRow_heap (w6.alloc (.cells #[.int .u64 0,.slice none 0 0,.slice none 0 0,.slice none 0 0] 37)) w6.heap.size _ #[.int .u64 V,.slice ra1 3 rc1,.slice ra2 0 rc2,.slice ra3 0 rc3] _ _ HZ6.out)
     have HO1:Hid (WSl _ (.slice ra1 3 rc1) [X,a,b]):=we (hO1.below hq6)
     have HB7:=we ((HB5.out.trans (hb6.mono HB5.out.size)).trans (hq6.mono (by have:=HB5.out.size;have:=hb6.size;omega)))
     clear hr hb6 hO1 hO2 hO3 hn6 hq6 HB5 HI HA HW
     go_upto_region 7 with ((refine wpList_store_row rfl 37 _ _ rfl w6.heap.size #[.int .u64 V,.slice ra1 3 rc1,.slice ra2 0 rc2,.slice ra3 0 rc3] rfl rfl 37 _ HZ6.out (by kernel_rfl) rfl (by simp [Value.oneCell']) ?_))
     clear HZ6
     generalize (w6.alloc (.cells #[.int .u64 0,.slice none 0 0,.slice none 0 0,.slice none 0 0] 37)).setRow w6.heap.size #[.int .u64 V,.slice ra1 3 rc1,.slice ra2 0 rc2,.slice ra3 0 rc3]=w7 at *
     generalize w6.heap.size=b10 at *
     have c0:=cell_of_row _ _ 0 _ _ _ HK7.out
     have c1:=cell_of_row _ _ 1 _ _ _ HK7.out
     have hlt:=(wn.1 HK7.out).1
     simp only [List.getElem?_toArray,List.getElem?_cons_zero,List.getElem?_cons_succ] at c0 c1
     have hn:=(Below.refl w7.heap.size w7).alloc (Nat.le_refl _) (.cells #[.int .u64 X,.int .u64 a,.int .u64 b] 35)
     have HL:=we (longs_any _ _ [X,a,b] [X,a,b] _ (HO1.out.below hn) (wsl_row (Go.heap_alloc_new w7 (.cells #[.int .u64 X,.int .u64 a,.int .u64 b] 35)) [X,a,b] rfl (by simp)))
     have HN:=we hn
     clear hn
     by_cases hc:c=0
     ·have tq:(c != 0)=false:=by simp [hc]
      have hVb:V=b:=by rw [← HV.out,if_neg (by simp [hc])]
      have hX2:X=2:=by rw [← HX.out,if_neg (by simp [hc])]
      clear hc HV HX
      subst hVb hX2
      go_wp2_with fail
      refine HL.out.mono ?_
      rintro e w8 ⟨rfl,hb8⟩
      have HB8:=we (HB7.out.trans ((HN.out.trans (hb8.mono HN.out.size)).mono HB7.out.size))
      clear hb8 c0 c1 hlt
      go_wp2_with fail
      go_ret
      exact ⟨rfl,HB8.out⟩
     ·have tq:(c != 0)=true:=by simp [hc]
      have hVb:V=a:=by rw [← HV.out,if_pos hc]
      have hX2:X=1:=by rw [← HX.out,if_pos hc]
      clear hc HV HX
      subst hVb hX2
      go_wp2_with fail
      refine HL.out.mono ?_
      rintro e w8 ⟨rfl,hb8⟩
      have HB8:=we (HB7.out.trans ((HN.out.trans (hb8.mono HN.out.size)).mono HB7.out.size))
      clear hb8 c0 c1 hlt
      go_wp2_with fail
      go_ret
      exact ⟨rfl,HB8.out⟩
end
section
set_option maxHeartbeats 4000000
set_option maxRecDepth 100000
open Go.RowKit Go.Shelf Go.Lib Go.ChangeShapes Go.WideShapes Go.ChangeAt
theorem semChoices_lifted (os:Os) (started:os.Started) (H:Type) (enc:TypeId×Value→H) :
  ReturnsInHanded {} Tryz.checked os 8 .any (fun w args=>(Rows.semChoicesSpec.pre enc Tryz.prog Tryz.f8 [] false w args∧laidMetH Tryz.prog yg w)∧sizedMet enc Tryz.prog Tryz.f8 (OpenSpec.ofChange Rows.semChoicesSpec) false w args)
   (Rows.semChoicesSpec.post enc Tryz.prog Tryz.f8 false true false false):=by
 refine returnsInHanded_of_change_and (C:=Tryz.checked) (X:=fun w _=>laidMetH Tryz.prog yg w) (fun _ _ _ hh h=>h.of_heap hh) ownKnob_none started (by kernel_rfl) Tryz.func8
  (ChangeSpec.witness_shaped (enc:=enc) (C:=Tryz.checked) (os:=os) (X:=fun w _=>laidMetH Tryz.prog yg w) false (World.laidAll Tryz.prog os yg) #[.int .u64 0,.int .u64 0,.int .u64 0] 8 (World.laidAll_os _ _ _)
   (World.shaped_of_ZipB (by kernel_rfl) (by kernel_rfl)) (by kernel_rfl) (by kernel_rfl) (by kernel_rfl)
   (by rw [MakeChecks.laidMetH_plain _ _ _ (by kernel_rfl)];exact laidMet_laidAll _ (by kernel_rfl) (by kernel_rfl))) ?_
 intro W base args ds gs before hval0 hW _ _ hL _
 have hval:∀ (j:Nat) t v,Tryz.f8.params[j]?=some t→args[j]?=some v→Value.okWide Tryz.prog W .any base t v:=hval0
 have hW':=hW
 obtain ⟨p,q,hA0,hV,rfl,_,_⟩:=hW
 have hA:DataW.TrodAll enc Tryz.prog W 0 (fun _=>true) true Tryz.f8.params.toList args.toList ds p:=hA0
 rw [Tryz.params8] at hA hval
 obtain ⟨v0,v1,v2,d0,d1,d2,p0,p1,p2,rfl,rfl,rfl,h0,h1,h2⟩:=trodAll_three hA
 obtain ⟨rfl,rfl⟩:=trodVars_none hV
 simp only [List.append_nil] at hW'
 have hlt:∀ x∈p0++p1++p2,x.block<W.heap.size:=fun x hx=>hW'.lt x (by simpa using hx)
 have k0:=h0
 have k1:=h1
 have k2:=h2
 have hG:=glob_of_laid hL
 obtain ⟨n0,rfl,rfl,rfl,w0⟩:=open_int Tryz.underlying35 (hval 0 35 v0 rfl rfl) h0
 obtain ⟨n1,rfl,rfl,rfl,w1⟩:=open_int Tryz.underlying35 (hval 1 35 v1 rfl rfl) h1
 obtain ⟨n2,rfl,rfl,rfl,w2⟩:=open_int Tryz.underlying35 (hval 2 35 v2 rfl rfl) h2
 have b0:U64 n0:=by have:=w0;unfold U64;simp [Lit.wf,IntKind.min,IntKind.max,IntKind.signed,IntKind.bits] at this;omega
 have b1:U64 n1:=by have:=w1;unfold U64;simp [Lit.wf,IntKind.min,IntKind.max,IntKind.signed,IntKind.bits] at this;omega
 have b2:U64 n2:=by have:=w2;unfold U64;simp [Lit.wf,IntKind.min,IntKind.max,IntKind.signed,IntKind.bits] at this;omega
 refine (choices_any n0 n1 n2 b0 b1 b2 W hG).mono fun e W' ⟨he,hb⟩=>?_
 subst he
 exact ⟨_,rfl,_,_,_,[],_,[],hW',trodAll_mk1 (shut_bool Tryz.underlying4 _),(trodAll_mk3 (Below.trod kv (by kernel_rfl) (of_decide_eq_true (by kernel_rfl)) k0 hb (fun x hx=>hlt x (by simp [hx]))) (Below.trod kv (by kernel_rfl) (of_decide_eq_true (by kernel_rfl)) k1 hb (fun x hx=>hlt x (by simp [hx]))) (Below.trod kv (by kernel_rfl) (of_decide_eq_true (by kernel_rfl)) k2 hb (fun x hx=>hlt x (by simp [hx])))),rfl,hb.frame _,fun h=>by cases h⟩
theorem semChoices_row:Rows.SemChoicesSaid:=
 OpenClaim.holds_of_wide 8 Tryz.f8 rfl rfl rfl rfl rfl rfl rfl ⟨rfl,rfl,rfl,rfl,rfl⟩ rfl rfl rfl rfl rfl (by kernel_rfl) Tryz.func8 (by kernel_rfl)
  (of_decide_eq_true (by kernel_rfl)) (by unfold Func.isWrapper;first|(rw [if_pos (by decide +kernel)];kernel_rfl)|(rw [if_neg (by decide +kernel)];exact ⟨rfl,rfl⟩))
  (fun os started H enc _=>semChoices_lifted os started H enc)
theorem semChoices_holds:Rows.SemChoicesCardSaid:=
 Claim7.holds_tied_plain_at .later [] [.data,.data,.data,.data,.pinned] true (true, "58d88c0b659ec0b2144c551f2435681ed6d909dda393ac60c95d3fdaa74503c2") true semChoices_row (fun _ h=>by cases h) (by kernel_rfl) (fun _ h=>by cases h) semChoices_row_tie rfl ⟨rfl,rfl⟩ (by kernel_rfl) rfl
  (fun f fn hf hfn=>by
   obtain rfl:f=8:=Option.some.inj ((show Tryz.prog.funcNamed "caponier/caponierlaw12.SemChoices"=some 8 by kernel_rfl).symm.trans hf) |>.symm
   obtain rfl:fn=Tryz.f8:=(Option.some.inj (Tryz.func8.symm.trans hfn)).symm
   exact ⟨by kernel_rfl,fun j t ht=>by
    rw [Tryz.params8] at ht
    have hm:t∈[35,35,35]:=by simpa using Array.mem_of_getElem? ht
    have hall:([35,35,35].all fun u=>!Tryz.prog.wantsStandIn u)=true:=by kernel_rfl
    exact (show Tryz.prog.wantsStandIn t=false by simpa using List.all_eq_true.1 hall t hm)⟩)
  (by kernel_rfl)
end
#print axioms semChoices_holds
end Go.Proofs.YtdembmaldllmkaaGreatDoor
