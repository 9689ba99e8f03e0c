/-
  The law caponierlaw12.SemElements returns true for every input: what is put to an element is got of it, by any index that is as much more as the array has words; all other elements stay.
  Conditions: the row's own (the listed package variables lie as the program's text lays them; the arguments hold no ring), and the model's.
-/
import Derived.Test.YtdembmaldllmkaaGreatDoorPB6
import Derived.Deep.Cut
set_option linter.unusedVariables false
set_option linter.unusedSimpArgs false
namespace Go.Proofs.YtdembmaldllmkaaGreatDoor
section
set_option maxHeartbeats 8000000
set_option maxRecDepth 100000
open Go.RowKit
theorem elements_any {W0:World} (sl:Value) (words:List Int) (i vn tm:Int) (hs:WSl W0 sl words) (huw:∀ x∈words,U64 x) (hi:U64 i) (hv:U64 vn) (ht0:0≤tm) (ht1:tm<256) (hg:Glob W0):Calls Tryz.prog 6 #[sl,.agg #[.int .u64 i,.int .u64 vn],.int .u8 tm] W0 (fun e w'=>e=.returned (.bool true)∧Below W0.heap.size W0 w'):=by
 have HG:=we hg
 have HUi:=we hi
 have HUv:=we hv
 have HUw:=we huw
 have HS:=we hs
 obtain ⟨sa,sc,rfl,hsl⟩:=wsl_open hs
 clear hg hi hv huw hs
 have hbx:=(Below.refl W0.heap.size W0).alloc (Nat.le_refl _) (.cells #[.int .u64 i,.int .u64 vn] 60)
 have HBx:=we hbx
 have HGx:=we (HG.out.below hbx)
 have HKx:=we (Go.heap_alloc_new W0 (.cells #[.int .u64 i,.int .u64 vn] 60))
 clear hbx
 go_enter Tryz.func6,Tryz.ntmps6
 go_wp2_with fail
 refine (awake_any _ HGx.out).mono ?_
 rintro e w1 ⟨rfl,hb1⟩
 have HB1:=we (HBx.out.trans (hb1.mono HBx.out.size))
 have hk1:=jm hb1 HKx.out
 have c0:=cell_of_row _ _ 0 _ _ _ hk1
 have c1:=cell_of_row _ _ 1 _ _ _ hk1
 have hlt:=(wn.1 hk1).1
 simp only [List.getElem?_toArray,List.getElem?_cons_zero,List.getElem?_cons_succ] at c0 c1
 clear hb1 hk1 HBx HGx HKx
 by_cases hn:1≤words.length∧words.length≤64
 ·have hn1:¬ (words.length:Int)<1:=by omega
  have hn2:¬ (words.length:Int) > 64:=by omega
  have hn3:1≤words.length:=hn.1
  have hn4:words.length≤64:=hn.2
  have hne:words≠[]:=by intro h;rw [h] at hn3;simp at hn3
  clear hn
  obtain ⟨_,_,he,hsc,_,_,hr⟩:=HS.out
  simp only [Value.slice.injEq] at he
  obtain ⟨rfl,-,rfl⟩:=he
  obtain ⟨sb,so,rfl,hrow⟩:=hr hne
  have HRow0:=we hrow
  have hik:i % (words.length:Int)=((i % (words.length:Int)).toNat:Int):=by have:=Int.emod_nonneg i (b:=(words.length:Int)) (by omega);omega
  have hkl:(i % (words.length:Int)).toNat<words.length:=by have:=Int.emod_lt_of_pos i (b:=(words.length:Int)) (by omega);omega
  generalize (i % (words.length:Int)).toNat=k at *
  have HKk:=we hik
  have hp0:0≤tm * (words.length:Int):=Int.mul_nonneg ht0 (by omega)
  have hp1:tm * (words.length:Int)≤255 * 64:=Int.mul_le_mul (by omega) (by omega) (by omega) (by omega)
  have HP:Hid (0≤tm * (words.length:Int)∧tm * (words.length:Int)≤16320):=we ⟨hp0,by omega⟩
  have hrun:runS (elemSrc words.length) 0 [i,vn,(k:Int)+tm * words.length] [words] []=(0,⟨vn,[],[words.set k vn],[]⟩):=by
   rw [elem_run _ _ _ _ hn3 hn4,HKk.out,Int.add_mul_emod_self_right,Int.emod_eq_of_lt (by omega) (by omega),Int.toNat_natCast]
   simp [hkl]
  have HRun:=we hrun
  clear hr hrow hik hp0 hp1 hrun
  go_upto_region 8 with (fail)
  clear c0 c1 hlt hn1 hn2
  refine jp [mpQ (.cells #[.int .i64 0,.int .u64 0,.string ⟨#[]⟩,.slice none 0 0] 53) w1.heap.size (fun w v=>jn w ((⟨1,0,⟨#[106]⟩,[]⟩:Expr)) v),mpQ (.cells #[.int .i64 0,.int .u64 0,.string ⟨#[]⟩,.slice none 0 0] 53) w1.heap.size (fun w v=>XsIs w ([(⟨1,0,⟨#[106]⟩,[]⟩:Expr)]) v),mpQ (.cells #[.int .i64 0,.int .u64 0,.string ⟨#[]⟩,.slice none 0 0] 53) w1.heap.size (fun w v=>jn w ((⟨2,0,⟨#[107]⟩,[(⟨1,0,⟨#[106]⟩,[]⟩:Expr)]⟩:Expr)) v),mpNew w1.heap.size (.cells #[.int .i64 0,.int .u64 0,.string ⟨#[]⟩,.slice none 0 0] 53)] (by kernel_rfl) 4 (by decide) _ rfl ?_ ?_
  ·refine ⟨?_,?_,?_,?_,trivial⟩
   ·refine jo (f:=21) rfl rfl fun x1 y hB hF hD=>⟨#[.string ⟨#[106]⟩],?_,?_⟩
    ·clear hB hF hD
     simp only [execOp]
     simp [go_sem]
    ·refine (qg _ y).mono ?_
     rintro e w1 ⟨rfl,hb⟩
     exact ⟨hb,.inl ⟨_,rfl,fun w' hw=>qe 1 0 ⟨#[106]⟩ (l:=[]) (Sl.nil _ _ _ _) (by unfold I64;first|omega|(simp only;omega)) (by unfold U64;first|omega|(simp only;omega)) (by first|decide|(dsimp only;decide))⟩⟩
   ·refine jh rfl fun x1 y hB hF hD=>?_
    obtain ⟨d0,-⟩:=hD
    have q31:∀ w',But (.cells #[.int .i64 0,.int .u64 0,.string ⟨#[]⟩,.slice none 0 0] 53) w1.heap.size y w'→jn w' ((⟨1,0,⟨#[106]⟩,[]⟩:Expr)) (slot x1 31):=d0 rfl
    obtain ⟨a31_0,c31_0,e31,-⟩:=q31 y (But.refl _ _ _)
    have e31:slot x1 31=.agg #[.int .i64 1,.int .u64 0,.string ⟨#[106]⟩,.slice a31_0 0 c31_0]:=e31
    have g31:=jd e31
    simp only [e31] at q31
    clear hB hF
    unfold Oper.wp
    simp only [execOp]
    simp [go_sem,g31]
    refine ⟨_,rfl,(Below.refl _ _).alloc (Nat.le_refl _) _,fun w' hw=>?_⟩
    exact z6 zn (hw.new (by simp)) [((⟨1,0,⟨#[106]⟩,[]⟩:Expr),_)] ⟨q31 w' hw.of_alloc,trivial⟩ rfl (by simp)
   ·refine jk rfl rfl fun x1 y hB hF hD=>?_
    obtain ⟨d0,-⟩:=hD
    have q32:∀ w',But (.cells #[.int .i64 0,.int .u64 0,.string ⟨#[]⟩,.slice none 0 0] 53) w1.heap.size y w'→XsIs w' ([(⟨1,0,⟨#[106]⟩,[]⟩:Expr)]) (slot x1 32):=d0 rfl
    obtain ⟨a32_0,c32_0,e32⟩:=zc (q32 y (But.refl _ _ _))
    have e32:slot x1 32=.slice a32_0 1 c32_0:=e32
    have g32:=jd e32
    simp only [e32] at q32
    clear hB hF
    refine ⟨.agg #[.int .i64 2,.int .u64 0,.string ⟨#[107]⟩,.slice a32_0 1 c32_0],?_,fun w' hw=>qe 2 0 ⟨#[107]⟩ (l:=[(⟨1,0,⟨#[106]⟩,[]⟩:Expr)]) (q32 w' hw) (by unfold I64;first|omega|(simp only;omega)) (by unfold U64;first|omega|(simp only;omega)) (by first|decide|(dsimp only;decide))⟩
    simp only [execOp]
    simp [go_sem,g32]
   ·refine jh rfl fun x1 y hB hF hD=>?_
    unfold Oper.wp
    simp only [execOp]
    simp [go_sem]
    exact ⟨_,rfl,(Below.refl _ _).alloc (Nat.le_refl _) _,y.heap.size,rfl,hB.size,Go.heap_alloc_new y _⟩
  ·intro x1 y hB hF hP
   obtain ⟨p0,p1,p2,p3,-⟩:=hP
   have q33:∀ w',But (.cells #[.int .i64 0,.int .u64 0,.string ⟨#[]⟩,.slice none 0 0] 53) w1.heap.size y w'→jn w' ((⟨2,0,⟨#[107]⟩,[(⟨1,0,⟨#[106]⟩,[]⟩:Expr)]⟩:Expr)) (slot x1 33):=p2
   obtain ⟨a33_0,c33_0,e33,-⟩:=q33 y (But.refl _ _ _)
   have e33:slot x1 33=.agg #[.int .i64 2,.int .u64 0,.string ⟨#[107]⟩,.slice a33_0 1 c33_0]:=e33
   have g33:=jd e33
   simp only [e33] at q33
   obtain ⟨b10,ex,hbx,hbz⟩:=p3
   have ex:slot x1 10=.pointer (some ⟨b10,0,none⟩):=ex
   have hx:=jl hF [(31,slot x1 31),(32,slot x1 32),(33,.agg #[.int .i64 2,.int .u64 0,.string ⟨#[107]⟩,.slice a33_0 1 c33_0]),(10,.pointer (some ⟨b10,0,none⟩))] rfl ⟨rfl,rfl,e33,ex,trivial⟩
   clear hF p0 p1 p2
   clear e33 g33
   generalize slot x1 31=u31 at *
   generalize slot x1 32=u32 at *
   subst hx
   simp only [puts,Act.put,wi,wj,wk,wl,wm]
   have HZb:=we hbz
   have HX8:=we (q33 _ (But.setRow (cs:=#[.int .i64 2,.int .u64 0,.string ⟨#[107]⟩,.slice a33_0 1 c33_0]) hbz hbx))
   have HK8:=we (Go.setRow_heap y b10 _ #[.int .i64 2,.int .u64 0,.string ⟨#[107]⟩,.slice a33_0 1 c33_0] _ _ hbz)
   have HB8:=we (below_setRow hB hbx #[.int .i64 2,.int .u64 0,.string ⟨#[107]⟩,.slice a33_0 1 c33_0])
   clear hbz hbx q33 hB
   refine wpList_store_row rfl 53 _ _ rfl b10 #[.int .i64 2,.int .u64 0,.string ⟨#[107]⟩,.slice a33_0 1 c33_0] rfl rfl 53 _ HZb.out (by kernel_rfl) rfl (by simp [Value.oneCell']) ?_
   clear HZb
   generalize y.setRow b10 #[.int .i64 2,.int .u64 0,.string ⟨#[107]⟩,.slice a33_0 1 c33_0]=w2 at *
   have HB2:=we (HB1.out.trans (HB8.out.mono HB1.out.size))
   clear HB1 HB8
   go_upto_region 9 with (fail)
   refine jf zm [MP.is (.int .i64 words.length),mpQ (.cells #[.slice none 0 0,.slice none 0 0] 25) w2.heap.size (fun w v=>ArrIs w ((⟨⟨#[107]⟩,words.length⟩:Arr)) v),mpQ (.cells #[.slice none 0 0,.slice none 0 0] 25) w2.heap.size (fun w v=>AsIs w ([(⟨⟨#[107]⟩,words.length⟩:Arr)]) v),mpQ (.cells #[.slice none 0 0,.slice none 0 0] 25) w2.heap.size (fun w v=>qj w ((⟨⟨#[105]⟩,0,0⟩:jj)) v),mpQ (.cells #[.slice none 0 0,.slice none 0 0] 25) w2.heap.size (fun w v=>qj w ((⟨⟨#[118]⟩,0,0⟩:jj)) v),mpQ (.cells #[.slice none 0 0,.slice none 0 0] 25) w2.heap.size (fun w v=>qj w ((⟨⟨#[106]⟩,0,0⟩:jj)) v),mpQ (.cells #[.slice none 0 0,.slice none 0 0] 25) w2.heap.size (fun w v=>PsIs w ([(⟨⟨#[105]⟩,0,0⟩:jj),(⟨⟨#[118]⟩,0,0⟩:jj),(⟨⟨#[106]⟩,0,0⟩:jj)]) v),mpQ (.cells #[.slice none 0 0,.slice none 0 0] 25) w2.heap.size (fun w v=>jn w ((⟨1,0,⟨#[105]⟩,[]⟩:Expr)) v),mpQ (.cells #[.slice none 0 0,.slice none 0 0] 25) w2.heap.size (fun w v=>jn w ((⟨1,0,⟨#[118]⟩,[]⟩:Expr)) v),mpQ (.cells #[.slice none 0 0,.slice none 0 0] 25) w2.heap.size (fun w v=>XsIs w ([(⟨1,0,⟨#[105]⟩,[]⟩:Expr),(⟨1,0,⟨#[118]⟩,[]⟩:Expr)]) v),mpQ (.cells #[.slice none 0 0,.slice none 0 0] 25) w2.heap.size (fun w v=>zy w ((⟨1,⟨#[107]⟩,0,[(⟨1,0,⟨#[105]⟩,[]⟩:Expr),(⟨1,0,⟨#[118]⟩,[]⟩:Expr)],[],[]⟩:Stmt)) v),mpQ (.cells #[.slice none 0 0,.slice none 0 0] 25) w2.heap.size (fun w v=>jn w ((⟨2,0,⟨#[107]⟩,[(⟨1,0,⟨#[106]⟩,[]⟩:Expr)]⟩:Expr)) v),mpQ (.cells #[.slice none 0 0,.slice none 0 0] 25) w2.heap.size (fun w v=>XsIs w ([(⟨2,0,⟨#[107]⟩,[(⟨1,0,⟨#[106]⟩,[]⟩:Expr)]⟩:Expr)]) v),mpQ (.cells #[.slice none 0 0,.slice none 0 0] 25) w2.heap.size (fun w v=>zy w ((⟨4,⟨#[]⟩,0,[(⟨2,0,⟨#[107]⟩,[(⟨1,0,⟨#[106]⟩,[]⟩:Expr)]⟩:Expr)],[],[]⟩:Stmt)) v),mpQ (.cells #[.slice none 0 0,.slice none 0 0] 25) w2.heap.size (fun w v=>SsIs w ([(⟨1,⟨#[107]⟩,0,[(⟨1,0,⟨#[105]⟩,[]⟩:Expr),(⟨1,0,⟨#[118]⟩,[]⟩:Expr)],[],[]⟩:Stmt),(⟨4,⟨#[]⟩,0,[(⟨2,0,⟨#[107]⟩,[(⟨1,0,⟨#[106]⟩,[]⟩:Expr)]⟩:Expr)],[],[]⟩:Stmt)]) v),mpQ (.cells #[.slice none 0 0,.slice none 0 0] 25) w2.heap.size (fun w v=>kn w ((⟨⟨#[102]⟩,false,[(⟨⟨#[105]⟩,0,0⟩:jj),(⟨⟨#[118]⟩,0,0⟩:jj),(⟨⟨#[106]⟩,0,0⟩:jj)],[(⟨1,⟨#[107]⟩,0,[(⟨1,0,⟨#[105]⟩,[]⟩:Expr),(⟨1,0,⟨#[118]⟩,[]⟩:Expr)],[],[]⟩:Stmt),(⟨4,⟨#[]⟩,0,[(⟨2,0,⟨#[107]⟩,[(⟨1,0,⟨#[106]⟩,[]⟩:Expr)]⟩:Expr)],[],[]⟩:Stmt)]⟩:Fun)) v),mpQ (.cells #[.slice none 0 0,.slice none 0 0] 25) w2.heap.size (fun w v=>FsIs w ([(⟨⟨#[102]⟩,false,[(⟨⟨#[105]⟩,0,0⟩:jj),(⟨⟨#[118]⟩,0,0⟩:jj),(⟨⟨#[106]⟩,0,0⟩:jj)],[(⟨1,⟨#[107]⟩,0,[(⟨1,0,⟨#[105]⟩,[]⟩:Expr),(⟨1,0,⟨#[118]⟩,[]⟩:Expr)],[],[]⟩:Stmt),(⟨4,⟨#[]⟩,0,[(⟨2,0,⟨#[107]⟩,[(⟨1,0,⟨#[106]⟩,[]⟩:Expr)]⟩:Expr)],[],[]⟩:Stmt)]⟩:Fun)]) v),mpQ (.cells #[.slice none 0 0,.slice none 0 0] 25) w2.heap.size (fun w v=>yj w ((⟨[(⟨⟨#[107]⟩,words.length⟩:Arr)],[(⟨⟨#[102]⟩,false,[(⟨⟨#[105]⟩,0,0⟩:jj),(⟨⟨#[118]⟩,0,0⟩:jj),(⟨⟨#[106]⟩,0,0⟩:jj)],[(⟨1,⟨#[107]⟩,0,[(⟨1,0,⟨#[105]⟩,[]⟩:Expr),(⟨1,0,⟨#[118]⟩,[]⟩:Expr)],[],[]⟩:Stmt),(⟨4,⟨#[]⟩,0,[(⟨2,0,⟨#[107]⟩,[(⟨1,0,⟨#[106]⟩,[]⟩:Expr)]⟩:Expr)],[],[]⟩:Stmt)]⟩:Fun)]⟩:Src)) v),mpNew w2.heap.size (.cells #[.slice none 0 0,.slice none 0 0] 25)] (by kernel_rfl) 19 (by decide) (by kernel_rfl) _ rfl ?_ ?_
   ·refine ⟨?_,?_,?_,?_,?_,?_,?_,?_,?_,?_,?_,?_,?_,?_,?_,?_,?_,?_,?_,trivial⟩
    ·refine jc rfl rfl rfl fun x1 y hB hF hD=>?_
     have e9:slot x1 9=.int .i64 words.length:=hF.at 9 rfl
     clear hB hF
     simp only [execOp,ja,e9]
     rfl
    ·refine jk rfl rfl fun x1 y hB hF hD=>?_
     obtain ⟨d0,-⟩:=hD
     have e34:slot x1 34=.int .i64 words.length:=d0 rfl
     have g34:=jd e34
     clear hB hF
     refine ⟨.agg #[.string ⟨#[107]⟩,.int .i64 words.length],?_,fun w' hw=>⟨rfl,(by first|decide|(dsimp only;decide)),(by unfold I64;first|omega|(simp only;omega))⟩⟩
     simp only [execOp]
     simp [go_sem,g34]
    ·refine jh rfl fun x1 y hB hF hD=>?_
     obtain ⟨d0,-⟩:=hD
     have q35:∀ w',But (.cells #[.slice none 0 0,.slice none 0 0] 25) w2.heap.size y w'→ArrIs w' ((⟨⟨#[107]⟩,words.length⟩:Arr)) (slot x1 35):=d0 rfl
     obtain ⟨e35,-⟩:=q35 y (But.refl _ _ _)
     have e35:slot x1 35=.agg #[.string ⟨#[107]⟩,.int .i64 words.length]:=e35
     have g35:=jd e35
     simp only [e35] at q35
     clear hB hF
     unfold Oper.wp
     simp only [execOp]
     simp [go_sem,g35]
     refine ⟨_,rfl,(Below.refl _ _).alloc (Nat.le_refl _) _,fun w' hw=>?_⟩
     exact z6 arrAt_of (hw.new (by simp)) [((⟨⟨#[107]⟩,words.length⟩:Arr),_)] ⟨q35 w' hw.of_alloc,trivial⟩ rfl (by simp)
    ·refine jk rfl rfl fun x1 y hB hF hD=>?_
     clear hB hF
     refine ⟨.agg #[.string ⟨#[105]⟩,.int .i64 0,.int .i64 0],?_,fun w' hw=>⟨rfl,(by first|decide|(dsimp only;decide)),(by unfold I64;first|omega|(simp only;omega)),(by unfold I64;first|omega|(simp only;omega))⟩⟩
     simp only [execOp]
     simp [go_sem]
    ·refine jk rfl rfl fun x1 y hB hF hD=>?_
     clear hB hF
     refine ⟨.agg #[.string ⟨#[118]⟩,.int .i64 0,.int .i64 0],?_,fun w' hw=>⟨rfl,(by first|decide|(dsimp only;decide)),(by unfold I64;first|omega|(simp only;omega)),(by unfold I64;first|omega|(simp only;omega))⟩⟩
     simp only [execOp]
     simp [go_sem]
    ·refine jk rfl rfl fun x1 y hB hF hD=>?_
     clear hB hF
     refine ⟨.agg #[.string ⟨#[106]⟩,.int .i64 0,.int .i64 0],?_,fun w' hw=>⟨rfl,(by first|decide|(dsimp only;decide)),(by unfold I64;first|omega|(simp only;omega)),(by unfold I64;first|omega|(simp only;omega))⟩⟩
     simp only [execOp]
     simp [go_sem]
    ·refine jh rfl fun x1 y hB hF hD=>?_
     obtain ⟨d0,d1,d2,-⟩:=hD
     have q37:∀ w',But (.cells #[.slice none 0 0,.slice none 0 0] 25) w2.heap.size y w'→qj w' ((⟨⟨#[105]⟩,0,0⟩:jj)) (slot x1 37):=d0 rfl
     obtain ⟨e37,-⟩:=q37 y (But.refl _ _ _)
     have e37:slot x1 37=.agg #[.string ⟨#[105]⟩,.int .i64 0,.int .i64 0]:=e37
     have g37:=jd e37
     simp only [e37] at q37
     have q38:∀ w',But (.cells #[.slice none 0 0,.slice none 0 0] 25) w2.heap.size y w'→qj w' ((⟨⟨#[118]⟩,0,0⟩:jj)) (slot x1 38):=d1 rfl
     obtain ⟨e38,-⟩:=q38 y (But.refl _ _ _)
     have e38:slot x1 38=.agg #[.string ⟨#[118]⟩,.int .i64 0,.int .i64 0]:=e38
     have g38:=jd e38
     simp only [e38] at q38
     have q39:∀ w',But (.cells #[.slice none 0 0,.slice none 0 0] 25) w2.heap.size y w'→qj w' ((⟨⟨#[106]⟩,0,0⟩:jj)) (slot x1 39):=d2 rfl
     obtain ⟨e39,-⟩:=q39 y (But.refl _ _ _)
     have e39:slot x1 39=.agg #[.string ⟨#[106]⟩,.int .i64 0,.int .i64 0]:=e39
     have g39:=jd e39
     simp only [e39] at q39
     clear hB hF
     unfold Oper.wp
     simp only [execOp]
     simp [go_sem,g37,g38,g39]
     refine ⟨_,rfl,(Below.refl _ _).alloc (Nat.le_refl _) _,fun w' hw=>?_⟩
     exact z6 paramAt_of (hw.new (by simp)) [((⟨⟨#[105]⟩,0,0⟩:jj),_),((⟨⟨#[118]⟩,0,0⟩:jj),_),((⟨⟨#[106]⟩,0,0⟩:jj),_)] ⟨q37 w' hw.of_alloc,q38 w' hw.of_alloc,q39 w' hw.of_alloc,trivial⟩ rfl (by simp)
    ·refine jo (f:=21) rfl rfl fun x1 y hB hF hD=>⟨#[.string ⟨#[105]⟩],?_,?_⟩
     ·clear hB hF hD
      simp only [execOp]
      simp [go_sem]
     ·refine (qg _ y).mono ?_
      rintro e w1 ⟨rfl,hb⟩
      exact ⟨hb,.inl ⟨_,rfl,fun w' hw=>qe 1 0 ⟨#[105]⟩ (l:=[]) (Sl.nil _ _ _ _) (by unfold I64;first|omega|(simp only;omega)) (by unfold U64;first|omega|(simp only;omega)) (by first|decide|(dsimp only;decide))⟩⟩
    ·refine jo (f:=21) rfl rfl fun x1 y hB hF hD=>⟨#[.string ⟨#[118]⟩],?_,?_⟩
     ·clear hB hF hD
      simp only [execOp]
      simp [go_sem]
     ·refine (qg _ y).mono ?_
      rintro e w1 ⟨rfl,hb⟩
      exact ⟨hb,.inl ⟨_,rfl,fun w' hw=>qe 1 0 ⟨#[118]⟩ (l:=[]) (Sl.nil _ _ _ _) (by unfold I64;first|omega|(simp only;omega)) (by unfold U64;first|omega|(simp only;omega)) (by first|decide|(dsimp only;decide))⟩⟩
    ·refine jh rfl fun x1 y hB hF hD=>?_
     obtain ⟨d0,d1,-⟩:=hD
     have q41:∀ w',But (.cells #[.slice none 0 0,.slice none 0 0] 25) w2.heap.size y w'→jn w' ((⟨1,0,⟨#[105]⟩,[]⟩:Expr)) (slot x1 41):=d0 rfl
     obtain ⟨a41_0,c41_0,e41,-⟩:=q41 y (But.refl _ _ _)
     have e41:slot x1 41=.agg #[.int .i64 1,.int .u64 0,.string ⟨#[105]⟩,.slice a41_0 0 c41_0]:=e41
     have g41:=jd e41
     simp only [e41] at q41
     have q42:∀ w',But (.cells #[.slice none 0 0,.slice none 0 0] 25) w2.heap.size y w'→jn w' ((⟨1,0,⟨#[118]⟩,[]⟩:Expr)) (slot x1 42):=d1 rfl
     obtain ⟨a42_0,c42_0,e42,-⟩:=q42 y (But.refl _ _ _)
     have e42:slot x1 42=.agg #[.int .i64 1,.int .u64 0,.string ⟨#[118]⟩,.slice a42_0 0 c42_0]:=e42
     have g42:=jd e42
     simp only [e42] at q42
     clear hB hF
     unfold Oper.wp
     simp only [execOp]
     simp [go_sem,g41,g42]
     refine ⟨_,rfl,(Below.refl _ _).alloc (Nat.le_refl _) _,fun w' hw=>?_⟩
     exact z6 zn (hw.new (by simp)) [((⟨1,0,⟨#[105]⟩,[]⟩:Expr),_),((⟨1,0,⟨#[118]⟩,[]⟩:Expr),_)] ⟨q41 w' hw.of_alloc,q42 w' hw.of_alloc,trivial⟩ rfl (by simp)
    ·refine jk rfl rfl fun x1 y hB hF hD=>?_
     obtain ⟨d0,-⟩:=hD
     have q43:∀ w',But (.cells #[.slice none 0 0,.slice none 0 0] 25) w2.heap.size y w'→XsIs w' ([(⟨1,0,⟨#[105]⟩,[]⟩:Expr),(⟨1,0,⟨#[118]⟩,[]⟩:Expr)]) (slot x1 43):=d0 rfl
     obtain ⟨a43_0,c43_0,e43⟩:=zc (q43 y (But.refl _ _ _))
     have e43:slot x1 43=.slice a43_0 2 c43_0:=e43
     have g43:=jd e43
     simp only [e43] at q43
     clear hB hF
     refine ⟨.agg #[.int .i64 1,.string ⟨#[107]⟩,.int .i64 0,.slice a43_0 2 c43_0,.slice none 0 0,.slice none 0 0],?_,fun w' hw=>xf 1 0 ⟨#[107]⟩ (l:=[(⟨1,0,⟨#[105]⟩,[]⟩:Expr),(⟨1,0,⟨#[118]⟩,[]⟩:Expr)]) (t:=[]) (e:=[]) (q43 w' hw) (Sl.nil _ _ _ _) (Sl.nil _ _ _ _) (by unfold I64;first|omega|(simp only;omega)) (by unfold I64;first|omega|(simp only;omega)) (by first|decide|(dsimp only;decide))⟩
     simp only [execOp]
     simp [go_sem,g43]
    ·refine jk rfl rfl fun x1 y hB hF hD=>?_
     have e10:slot x1 10=.pointer (some ⟨b10,0,none⟩):=hF.at 10 rfl
     have hb:=jm hB HK8.out
     refine ⟨.agg #[.int .i64 2,.int .u64 0,.string ⟨#[107]⟩,.slice a33_0 1 c33_0],?_,fun w' hw=>HX8.out.below (hw.base hB (Nat.le_refl _))⟩
     clear hB hF
     simp only [execOp,ja,e10]
     simp [zr y _ _ 53 _ _ _ hb Tryz.underlying53 rfl (by kernel_rfl),Result.andThen]
    ·refine jh rfl fun x1 y hB hF hD=>?_
     obtain ⟨d0,-⟩:=hD
     have q45:∀ w',But (.cells #[.slice none 0 0,.slice none 0 0] 25) w2.heap.size y w'→jn w' ((⟨2,0,⟨#[107]⟩,[(⟨1,0,⟨#[106]⟩,[]⟩:Expr)]⟩:Expr)) (slot x1 45):=d0 rfl
     obtain ⟨a45_0,c45_0,e45,-⟩:=q45 y (But.refl _ _ _)
     have e45:slot x1 45=.agg #[.int .i64 2,.int .u64 0,.string ⟨#[107]⟩,.slice a45_0 1 c45_0]:=e45
     have g45:=jd e45
     simp only [e45] at q45
     clear hB hF
     unfold Oper.wp
     simp only [execOp]
     simp [go_sem,g45]
     refine ⟨_,rfl,(Below.refl _ _).alloc (Nat.le_refl _) _,fun w' hw=>?_⟩
     exact z6 zn (hw.new (by simp)) [((⟨2,0,⟨#[107]⟩,[(⟨1,0,⟨#[106]⟩,[]⟩:Expr)]⟩:Expr),_)] ⟨q45 w' hw.of_alloc,trivial⟩ rfl (by simp)
    ·refine jk rfl rfl fun x1 y hB hF hD=>?_
     obtain ⟨d0,-⟩:=hD
     have q46:∀ w',But (.cells #[.slice none 0 0,.slice none 0 0] 25) w2.heap.size y w'→XsIs w' ([(⟨2,0,⟨#[107]⟩,[(⟨1,0,⟨#[106]⟩,[]⟩:Expr)]⟩:Expr)]) (slot x1 46):=d0 rfl
     obtain ⟨a46_0,c46_0,e46⟩:=zc (q46 y (But.refl _ _ _))
     have e46:slot x1 46=.slice a46_0 1 c46_0:=e46
     have g46:=jd e46
     simp only [e46] at q46
     clear hB hF
     refine ⟨.agg #[.int .i64 4,.string ⟨#[]⟩,.int .i64 0,.slice a46_0 1 c46_0,.slice none 0 0,.slice none 0 0],?_,fun w' hw=>xf 4 0 ⟨#[]⟩ (l:=[(⟨2,0,⟨#[107]⟩,[(⟨1,0,⟨#[106]⟩,[]⟩:Expr)]⟩:Expr)]) (t:=[]) (e:=[]) (q46 w' hw) (Sl.nil _ _ _ _) (Sl.nil _ _ _ _) (by unfold I64;first|omega|(simp only;omega)) (by unfold I64;first|omega|(simp only;omega)) (by first|decide|(dsimp only;decide))⟩
     simp only [execOp]
     simp [go_sem,g46]
    ·refine jh rfl fun x1 y hB hF hD=>?_
     obtain ⟨d0,d1,-⟩:=hD
     have q44:∀ w',But (.cells #[.slice none 0 0,.slice none 0 0] 25) w2.heap.size y w'→zy w' ((⟨1,⟨#[107]⟩,0,[(⟨1,0,⟨#[105]⟩,[]⟩:Expr),(⟨1,0,⟨#[118]⟩,[]⟩:Expr)],[],[]⟩:Stmt)) (slot x1 44):=d0 rfl
     obtain ⟨a44_0,c44_0,a44_1,c44_1,a44_2,c44_2,e44,-⟩:=q44 y (But.refl _ _ _)
     have e44:slot x1 44=.agg #[.int .i64 1,.string ⟨#[107]⟩,.int .i64 0,.slice a44_0 2 c44_0,.slice a44_1 0 c44_1,.slice a44_2 0 c44_2]:=e44
     have g44:=jd e44
     simp only [e44] at q44
     have q47:∀ w',But (.cells #[.slice none 0 0,.slice none 0 0] 25) w2.heap.size y w'→zy w' ((⟨4,⟨#[]⟩,0,[(⟨2,0,⟨#[107]⟩,[(⟨1,0,⟨#[106]⟩,[]⟩:Expr)]⟩:Expr)],[],[]⟩:Stmt)) (slot x1 47):=d1 rfl
     obtain ⟨a47_0,c47_0,a47_1,c47_1,a47_2,c47_2,e47,-⟩:=q47 y (But.refl _ _ _)
     have e47:slot x1 47=.agg #[.int .i64 4,.string ⟨#[]⟩,.int .i64 0,.slice a47_0 1 c47_0,.slice a47_1 0 c47_1,.slice a47_2 0 c47_2]:=e47
     have g47:=jd e47
     simp only [e47] at q47
     clear hB hF
     unfold Oper.wp
     simp only [execOp]
     simp [go_sem,g44,g47]
     refine ⟨_,rfl,(Below.refl _ _).alloc (Nat.le_refl _) _,fun w' hw=>?_⟩
     exact z6 kr (hw.new (by simp)) [((⟨1,⟨#[107]⟩,0,[(⟨1,0,⟨#[105]⟩,[]⟩:Expr),(⟨1,0,⟨#[118]⟩,[]⟩:Expr)],[],[]⟩:Stmt),_),((⟨4,⟨#[]⟩,0,[(⟨2,0,⟨#[107]⟩,[(⟨1,0,⟨#[106]⟩,[]⟩:Expr)]⟩:Expr)],[],[]⟩:Stmt),_)] ⟨q44 w' hw.of_alloc,q47 w' hw.of_alloc,trivial⟩ rfl (by simp)
    ·refine jk rfl rfl fun x1 y hB hF hD=>?_
     obtain ⟨d0,d1,-⟩:=hD
     have q40:∀ w',But (.cells #[.slice none 0 0,.slice none 0 0] 25) w2.heap.size y w'→PsIs w' ([(⟨⟨#[105]⟩,0,0⟩:jj),(⟨⟨#[118]⟩,0,0⟩:jj),(⟨⟨#[106]⟩,0,0⟩:jj)]) (slot x1 40):=d0 rfl
     obtain ⟨a40_0,c40_0,e40⟩:=zc (q40 y (But.refl _ _ _))
     have e40:slot x1 40=.slice a40_0 3 c40_0:=e40
     have g40:=jd e40
     simp only [e40] at q40
     have q48:∀ w',But (.cells #[.slice none 0 0,.slice none 0 0] 25) w2.heap.size y w'→SsIs w' ([(⟨1,⟨#[107]⟩,0,[(⟨1,0,⟨#[105]⟩,[]⟩:Expr),(⟨1,0,⟨#[118]⟩,[]⟩:Expr)],[],[]⟩:Stmt),(⟨4,⟨#[]⟩,0,[(⟨2,0,⟨#[107]⟩,[(⟨1,0,⟨#[106]⟩,[]⟩:Expr)]⟩:Expr)],[],[]⟩:Stmt)]) (slot x1 48):=d1 rfl
     obtain ⟨a48_0,c48_0,e48⟩:=zc (q48 y (But.refl _ _ _))
     have e48:slot x1 48=.slice a48_0 2 c48_0:=e48
     have g48:=jd e48
     simp only [e48] at q48
     clear hB hF
     refine ⟨.agg #[.string ⟨#[102]⟩,.bool false,.slice a40_0 3 c40_0,.slice a48_0 2 c48_0],?_,fun w' hw=>fun_mk ⟨#[102]⟩ false (ps:=[(⟨⟨#[105]⟩,0,0⟩:jj),(⟨⟨#[118]⟩,0,0⟩:jj),(⟨⟨#[106]⟩,0,0⟩:jj)]) (b:=[(⟨1,⟨#[107]⟩,0,[(⟨1,0,⟨#[105]⟩,[]⟩:Expr),(⟨1,0,⟨#[118]⟩,[]⟩:Expr)],[],[]⟩:Stmt),(⟨4,⟨#[]⟩,0,[(⟨2,0,⟨#[107]⟩,[(⟨1,0,⟨#[106]⟩,[]⟩:Expr)]⟩:Expr)],[],[]⟩:Stmt)]) (q40 w' hw) (q48 w' hw) (by first|decide|(dsimp only;decide))⟩
     simp only [execOp]
     simp [go_sem,g40,g48]
    ·refine jh rfl fun x1 y hB hF hD=>?_
     obtain ⟨d0,-⟩:=hD
     have q49:∀ w',But (.cells #[.slice none 0 0,.slice none 0 0] 25) w2.heap.size y w'→kn w' ((⟨⟨#[102]⟩,false,[(⟨⟨#[105]⟩,0,0⟩:jj),(⟨⟨#[118]⟩,0,0⟩:jj),(⟨⟨#[106]⟩,0,0⟩:jj)],[(⟨1,⟨#[107]⟩,0,[(⟨1,0,⟨#[105]⟩,[]⟩:Expr),(⟨1,0,⟨#[118]⟩,[]⟩:Expr)],[],[]⟩:Stmt),(⟨4,⟨#[]⟩,0,[(⟨2,0,⟨#[107]⟩,[(⟨1,0,⟨#[106]⟩,[]⟩:Expr)]⟩:Expr)],[],[]⟩:Stmt)]⟩:Fun)) (slot x1 49):=d0 rfl
     obtain ⟨a49_0,c49_0,a49_1,c49_1,e49,-⟩:=q49 y (But.refl _ _ _)
     have e49:slot x1 49=.agg #[.string ⟨#[102]⟩,.bool false,.slice a49_0 3 c49_0,.slice a49_1 2 c49_1]:=e49
     have g49:=jd e49
     simp only [e49] at q49
     clear hB hF
     unfold Oper.wp
     simp only [execOp]
     simp [go_sem,g49]
     refine ⟨_,rfl,(Below.refl _ _).alloc (Nat.le_refl _) _,fun w' hw=>?_⟩
     exact z6 funAt_of (hw.new (by simp)) [((⟨⟨#[102]⟩,false,[(⟨⟨#[105]⟩,0,0⟩:jj),(⟨⟨#[118]⟩,0,0⟩:jj),(⟨⟨#[106]⟩,0,0⟩:jj)],[(⟨1,⟨#[107]⟩,0,[(⟨1,0,⟨#[105]⟩,[]⟩:Expr),(⟨1,0,⟨#[118]⟩,[]⟩:Expr)],[],[]⟩:Stmt),(⟨4,⟨#[]⟩,0,[(⟨2,0,⟨#[107]⟩,[(⟨1,0,⟨#[106]⟩,[]⟩:Expr)]⟩:Expr)],[],[]⟩:Stmt)]⟩:Fun),_)] ⟨q49 w' hw.of_alloc,trivial⟩ rfl (by simp)
    ·refine jk rfl rfl fun x1 y hB hF hD=>?_
     obtain ⟨d0,d1,-⟩:=hD
     have q36:∀ w',But (.cells #[.slice none 0 0,.slice none 0 0] 25) w2.heap.size y w'→AsIs w' ([(⟨⟨#[107]⟩,words.length⟩:Arr)]) (slot x1 36):=d0 rfl
     obtain ⟨a36_0,c36_0,e36⟩:=zc (q36 y (But.refl _ _ _))
     have e36:slot x1 36=.slice a36_0 1 c36_0:=e36
     have g36:=jd e36
     simp only [e36] at q36
     have q50:∀ w',But (.cells #[.slice none 0 0,.slice none 0 0] 25) w2.heap.size y w'→FsIs w' ([(⟨⟨#[102]⟩,false,[(⟨⟨#[105]⟩,0,0⟩:jj),(⟨⟨#[118]⟩,0,0⟩:jj),(⟨⟨#[106]⟩,0,0⟩:jj)],[(⟨1,⟨#[107]⟩,0,[(⟨1,0,⟨#[105]⟩,[]⟩:Expr),(⟨1,0,⟨#[118]⟩,[]⟩:Expr)],[],[]⟩:Stmt),(⟨4,⟨#[]⟩,0,[(⟨2,0,⟨#[107]⟩,[(⟨1,0,⟨#[106]⟩,[]⟩:Expr)]⟩:Expr)],[],[]⟩:Stmt)]⟩:Fun)]) (slot x1 50):=d1 rfl
     obtain ⟨a50_0,c50_0,e50⟩:=zc (q50 y (But.refl _ _ _))
     have e50:slot x1 50=.slice a50_0 1 c50_0:=e50
     have g50:=jd e50
     simp only [e50] at q50
     clear hB hF
     refine ⟨.agg #[.slice a36_0 1 c36_0,.slice a50_0 1 c50_0],?_,fun w' hw=>src_mk (l:=[(⟨⟨#[107]⟩,words.length⟩:Arr)]) (fs:=[(⟨⟨#[102]⟩,false,[(⟨⟨#[105]⟩,0,0⟩:jj),(⟨⟨#[118]⟩,0,0⟩:jj),(⟨⟨#[106]⟩,0,0⟩:jj)],[(⟨1,⟨#[107]⟩,0,[(⟨1,0,⟨#[105]⟩,[]⟩:Expr),(⟨1,0,⟨#[118]⟩,[]⟩:Expr)],[],[]⟩:Stmt),(⟨4,⟨#[]⟩,0,[(⟨2,0,⟨#[107]⟩,[(⟨1,0,⟨#[106]⟩,[]⟩:Expr)]⟩:Expr)],[],[]⟩:Stmt)]⟩:Fun)]) (q36 w' hw) (q50 w' hw)⟩
     simp only [execOp]
     simp [go_sem,g36,g50]
    ·refine jh rfl fun x1 y hB hF hD=>?_
     unfold Oper.wp
     simp only [execOp]
     simp [go_sem]
     exact ⟨_,rfl,(Below.refl _ _).alloc (Nat.le_refl _) _,y.heap.size,rfl,hB.size,Go.heap_alloc_new y _⟩
   ·intro x1 y hB hF hP
    obtain ⟨p0,p1,p2,p3,p4,p5,p6,p7,p8,p9,p10,p11,p12,p13,p14,p15,p16,p17,p18,-⟩:=hP
    have q51:∀ w',But (.cells #[.slice none 0 0,.slice none 0 0] 25) w2.heap.size y w'→yj w' ((⟨[(⟨⟨#[107]⟩,words.length⟩:Arr)],[(⟨⟨#[102]⟩,false,[(⟨⟨#[105]⟩,0,0⟩:jj),(⟨⟨#[118]⟩,0,0⟩:jj),(⟨⟨#[106]⟩,0,0⟩:jj)],[(⟨1,⟨#[107]⟩,0,[(⟨1,0,⟨#[105]⟩,[]⟩:Expr),(⟨1,0,⟨#[118]⟩,[]⟩:Expr)],[],[]⟩:Stmt),(⟨4,⟨#[]⟩,0,[(⟨2,0,⟨#[107]⟩,[(⟨1,0,⟨#[106]⟩,[]⟩:Expr)]⟩:Expr)],[],[]⟩:Stmt)]⟩:Fun)]⟩:Src)) (slot x1 51):=p17
    obtain ⟨a51_0,c51_0,a51_1,c51_1,e51,-⟩:=q51 y (But.refl _ _ _)
    have e51:slot x1 51=.agg #[.slice a51_0 1 c51_0,.slice a51_1 1 c51_1]:=e51
    have g51:=jd e51
    simp only [e51] at q51
    obtain ⟨b11,ex,hbx,hbz⟩:=p18
    have ex:slot x1 11=.pointer (some ⟨b11,0,none⟩):=ex
    have hx:=jl hF [(34,.int .i64 words.length),(35,slot x1 35),(36,slot x1 36),(37,slot x1 37),(38,slot x1 38),(39,slot x1 39),(40,slot x1 40),(41,slot x1 41),(42,slot x1 42),(43,slot x1 43),(44,slot x1 44),(45,slot x1 45),(46,slot x1 46),(47,slot x1 47),(48,slot x1 48),(49,slot x1 49),(50,slot x1 50),(51,.agg #[.slice a51_0 1 c51_0,.slice a51_1 1 c51_1]),(11,.pointer (some ⟨b11,0,none⟩))] rfl ⟨p0,rfl,rfl,rfl,rfl,rfl,rfl,rfl,rfl,rfl,rfl,rfl,rfl,rfl,rfl,rfl,rfl,e51,ex,trivial⟩
    clear hF p0 p1 p2 p3 p4 p5 p6 p7 p8 p9 p10 p11 p12 p13 p14 p15 p16 p17
    clear e51 g51
    generalize slot x1 35=u35 at *
    generalize slot x1 36=u36 at *
    generalize slot x1 37=u37 at *
    generalize slot x1 38=u38 at *
    generalize slot x1 39=u39 at *
    generalize slot x1 40=u40 at *
    generalize slot x1 41=u41 at *
    generalize slot x1 42=u42 at *
    generalize slot x1 43=u43 at *
    generalize slot x1 44=u44 at *
    generalize slot x1 45=u45 at *
    generalize slot x1 46=u46 at *
    generalize slot x1 47=u47 at *
    generalize slot x1 48=u48 at *
    generalize slot x1 49=u49 at *
    generalize slot x1 50=u50 at *
    subst hx
    simp only [puts,Act.put,wi,wj,wk,wl,wm]
    have HZb:=we hbz
    have HX9:=we (q51 _ (But.setRow (cs:=#[.slice a51_0 1 c51_0,.slice a51_1 1 c51_1]) hbz hbx))
    have HK9:=we (Go.setRow_heap y b11 _ #[.slice a51_0 1 c51_0,.slice a51_1 1 c51_1] _ _ hbz)
    have HB9:=we (below_setRow hB hbx #[.slice a51_0 1 c51_0,.slice a51_1 1 c51_1])
    clear hbz hbx q51 hB
    refine wpList_store_row rfl 25 _ _ rfl b11 #[.slice a51_0 1 c51_0,.slice a51_1 1 c51_1] rfl rfl 25 _ HZb.out (by kernel_rfl) rfl (by simp [Value.oneCell']) ?_
    clear HZb
    generalize y.setRow b11 #[.slice a51_0 1 c51_0,.slice a51_1 1 c51_1]=w3 at *
    have HB3:=we (HB2.out.trans (HB9.out.mono HB2.out.size))
    clear HB2 HB9 HK8 HX8
    go_upto_region 10 with (fail)
    refine jp [.is (.int .u64 i),.is (.int .i64 words.length),.is (.int .u64 words.length),.is (.int .u64 k)] (by kernel_rfl) 4 (by decide) _ rfl ?_ ?_
    ·refine ⟨?_,?_,?_,?_,trivial⟩
     ·refine jc rfl rfl rfl fun x1 y hB hF hD=>?_
      have e7:slot x1 7=.int .u64 i:=hF.at 7 rfl
      clear hB hF
      simp only [execOp,ja,e7]
      first|rfl|(go_simp;done)|(go_simp;rfl)
     ·refine jc rfl rfl rfl fun x1 y hB hF hD=>?_
      have e9:slot x1 9=.int .i64 words.length:=hF.at 9 rfl
      clear hB hF
      simp only [execOp,ja,e9]
      first|rfl|(go_simp;done)|(go_simp;rfl)
     ·refine jc rfl rfl rfl fun x1 y hB hF hD=>?_
      obtain ⟨d0,-⟩:=hD
      have e53:slot x1 53=.int .i64 words.length:=d0 rfl
      clear hB hF
      simp only [execOp,ja,e53]
      simp [go_sem]
      exact u64_keep (by unfold U64;omega)
     ·refine jc rfl rfl rfl fun x1 y hB hF hD=>?_
      obtain ⟨d0,d1,-⟩:=hD
      have e52:slot x1 52=.int .u64 i:=d0 rfl
      have e54:slot x1 54=.int .u64 words.length:=d1 rfl
      clear hB hF
      simp only [execOp,ja,e52,e54]
      simp [go_sem]
      rw [if_neg hne,Int.tmod_eq_emod_of_nonneg (by have h:=HUi.out;unfold U64 at h;omega),HKk.out]
    ·intro x1 w4 hB hF hP
     obtain ⟨p0,p1,p2,p3,-⟩:=hP
     have hx:=jl hF [(52,.int .u64 i),(53,.int .i64 words.length),(54,.int .u64 words.length),(55,.int .u64 k)] rfl ⟨p0,p1,p2,p3,trivial⟩
     have HB4:=we (HB3.out.trans (hB.mono HB3.out.size))
     have HK4:=we (jm hB HK9.out)
     have HX4:=we (HX9.out.below hB)
     clear hB hF p0 p1 p2 p3 HB3 HK9 HX9
     subst hx
     simp only [puts,Act.put,wi,wj,wk,wl,wm]
     go_upto_region 11 with (fail)
     refine jp [.is (.int .u64 k),.is (.int .u8 tm),.is (.int .u64 tm),.is (.int .i64 words.length),.is (.int .u64 words.length),.is (.int .u64 (tm * words.length)),.is (.int .u64 ((k:Int)+tm * words.length))] (by kernel_rfl) 7 (by decide) _ rfl ?_ ?_
     ·refine ⟨?_,?_,?_,?_,?_,?_,?_,trivial⟩
      ·refine jc rfl rfl rfl fun x1 y hB hF hD=>?_
       have e12:slot x1 12=.int .u64 k:=hF.at 12 rfl
       clear hB hF
       simp only [execOp,ja,e12]
       first|rfl|(go_simp;done)|(go_simp;rfl)
      ·refine jc rfl rfl rfl fun x1 y hB hF hD=>?_
       have e2:slot x1 2=.int .u8 tm:=hF.at 2 rfl
       clear hB hF
       simp only [execOp,ja,e2]
       first|rfl|(go_simp;done)|(go_simp;rfl)
      ·refine jc rfl rfl rfl fun x1 y hB hF hD=>?_
       obtain ⟨d0,-⟩:=hD
       have e57:slot x1 57=.int .u8 tm:=d0 rfl
       clear hB hF
       simp only [execOp,ja,e57]
       simp [go_sem]
       exact u64_keep (by unfold U64;omega)
      ·refine jc rfl rfl rfl fun x1 y hB hF hD=>?_
       have e9:slot x1 9=.int .i64 words.length:=hF.at 9 rfl
       clear hB hF
       simp only [execOp,ja,e9]
       first|rfl|(go_simp;done)|(go_simp;rfl)
      ·refine jc rfl rfl rfl fun x1 y hB hF hD=>?_
       obtain ⟨d0,-⟩:=hD
       have e59:slot x1 59=.int .i64 words.length:=d0 rfl
       clear hB hF
       simp only [execOp,ja,e59]
       simp [go_sem]
       exact u64_keep (by unfold U64;omega)
      ·refine jc rfl rfl rfl fun x1 y hB hF hD=>?_
       obtain ⟨d0,d1,-⟩:=hD
       have e58:slot x1 58=.int .u64 tm:=d0 rfl
       have e60:slot x1 60=.int .u64 words.length:=d1 rfl
       clear hB hF
       simp only [execOp,ja,e58,e60]
       simp [go_sem]
       exact u64_keep (by unfold U64;have:=HP.out;omega)
      ·refine jc rfl rfl rfl fun x1 y hB hF hD=>?_
       obtain ⟨d0,d1,-⟩:=hD
       have e56:slot x1 56=.int .u64 k:=d0 rfl
       have e61:slot x1 61=.int .u64 (tm * words.length):=d1 rfl
       clear hB hF
       simp only [execOp,ja,e56,e61]
       simp [go_sem]
       exact u64_keep (by unfold U64;have:=HP.out;omega)
     ·intro x1 w5 hB hF hP
      obtain ⟨p0,p1,p2,p3,p4,p5,p6,-⟩:=hP
      have hx:=jl hF [(56,.int .u64 k),(57,.int .u8 tm),(58,.int .u64 tm),(59,.int .i64 words.length),(60,.int .u64 words.length),(61,.int .u64 (tm * words.length)),(62,.int .u64 ((k:Int)+tm * words.length))] rfl ⟨p0,p1,p2,p3,p4,p5,p6,trivial⟩
      have HB5:=we (HB4.out.trans (hB.mono HB4.out.size))
      have HK5:=we (jm hB HK4.out)
      have HX5:=we (HX4.out.below hB)
      have HS5:=we (HS.out.below HB5.out)
      clear hB hF p0 p1 p2 p3 p4 p5 p6 HB4 HK4 HX4
      subst hx
      simp only [puts,Act.put,wi,wj,wk,wl,wm]
      go_upto_region 12 with (fail)
      refine jp [mpQ (.cells #[] 53) w5.heap.size (fun w v=>yj w ((⟨[(⟨⟨#[107]⟩,words.length⟩:Arr)],[(⟨⟨#[102]⟩,false,[(⟨⟨#[105]⟩,0,0⟩:jj),(⟨⟨#[118]⟩,0,0⟩:jj),(⟨⟨#[106]⟩,0,0⟩:jj)],[(⟨1,⟨#[107]⟩,0,[(⟨1,0,⟨#[105]⟩,[]⟩:Expr),(⟨1,0,⟨#[118]⟩,[]⟩:Expr)],[],[]⟩:Stmt),(⟨4,⟨#[]⟩,0,[(⟨2,0,⟨#[107]⟩,[(⟨1,0,⟨#[106]⟩,[]⟩:Expr)]⟩:Expr)],[],[]⟩:Stmt)]⟩:Fun)]⟩:Src)) v),MP.is (.int .u64 i),MP.is (.int .u64 vn),MP.is (.int .u64 ((k:Int)+tm * words.length)),mpQ (.cells #[] 53) w5.heap.size (fun w v=>WSl w v ([i,vn,((k:Int)+tm * words.length)])),mpQ (.cells #[] 53) w5.heap.size (fun w v=>WSl w v (words)),mpQ (.cells #[] 53) w5.heap.size (fun w v=>Sl 1 (WAt w) v ([words])),mpQ (.cells #[] 53) w5.heap.size (fun w v=>ki w ([words]) ([]) v)] (by kernel_rfl) 8 (by decide) _ rfl ?_ ?_
      ·refine ⟨?_,?_,?_,?_,?_,?_,?_,?_,trivial⟩
       ·refine jk rfl rfl fun x1 y hB hF hD=>?_
        have e11:slot x1 11=.pointer (some ⟨b11,0,none⟩):=hF.at 11 rfl
        have hb:=jm hB HK5.out
        refine ⟨.agg #[.slice a51_0 1 c51_0,.slice a51_1 1 c51_1],?_,fun w' hw=>HX5.out.below (hw.base hB (Nat.le_refl _))⟩
        clear hB hF
        simp only [execOp,ja,e11]
        simp [zr y _ _ 25 _ _ _ hb Tryz.underlying25 rfl (by kernel_rfl),Result.andThen]
       ·refine jc rfl rfl rfl fun x1 y hB hF hD=>?_
        have e7:slot x1 7=.int .u64 i:=hF.at 7 rfl
        clear hB hF
        simp only [execOp,ja,e7]
        rfl
       ·refine jc rfl rfl rfl fun x1 y hB hF hD=>?_
        have e8:slot x1 8=.int .u64 vn:=hF.at 8 rfl
        clear hB hF
        simp only [execOp,ja,e8]
        rfl
       ·refine jc rfl rfl rfl fun x1 y hB hF hD=>?_
        have e13:slot x1 13=.int .u64 ((k:Int)+tm * words.length):=hF.at 13 rfl
        clear hB hF
        simp only [execOp,ja,e13]
        rfl
       ·refine jh rfl fun x1 y hB hF hD=>?_
        obtain ⟨d0,d1,d2,-⟩:=hD
        have e65:slot x1 65=.int .u64 i:=d0 rfl
        have g65:=jd e65
        have e66:slot x1 66=.int .u64 vn:=d1 rfl
        have g66:=jd e66
        have e67:slot x1 67=.int .u64 ((k:Int)+tm * words.length):=d2 rfl
        have g67:=jd e67
        clear hB hF
        unfold Oper.wp
        simp only [execOp]
        simp [go_sem,g65,g66,g67]
        refine ⟨_,rfl,(Below.refl _ _).alloc (Nat.le_refl _) _,fun w' hw=>?_⟩
        exact wsl_row (hw.new (by simp)) [i,vn,((k:Int)+tm * words.length)] rfl (by simp)
       ·refine jk rfl rfl fun x1 y hB hF hD=>?_
        have e0:slot x1 0=.slice (some ⟨sb,so,none⟩) words.length sc:=hF.at 0 rfl
        refine ⟨.slice (some ⟨sb,so,none⟩) words.length sc,?_,fun w' hw=>HS5.out.below (hw.base hB (Nat.le_refl _))⟩
        clear hB hF
        simp only [execOp,ja,e0]
        rfl
       ·refine jh rfl fun x1 y hB hF hD=>?_
        obtain ⟨d0,-⟩:=hD
        have q69:∀ w',But (.cells #[] 53) w5.heap.size y w'→WSl w' (slot x1 69) (words):=d0 rfl
        obtain ⟨a69_0,c69_0,e69,-⟩:=q69 y (But.refl _ _ _)
        have e69:slot x1 69=.slice a69_0 words.length c69_0:=e69
        have g69:=jd e69
        simp only [e69] at q69
        clear hB hF
        unfold Oper.wp
        simp only [execOp]
        simp [go_sem,g69]
        refine ⟨_,rfl,(Below.refl _ _).alloc (Nat.le_refl _) _,fun w' hw=>?_⟩
        exact ws_row (hw.new (by simp)) [(words,_)] ⟨q69 w' hw.of_alloc,trivial⟩ rfl (by simp)
       ·refine jk rfl rfl fun x1 y hB hF hD=>?_
        obtain ⟨d0,-⟩:=hD
        have q70:∀ w',But (.cells #[] 53) w5.heap.size y w'→Sl 1 (WAt w') (slot x1 70) ([words]):=d0 rfl
        obtain ⟨a70_0,c70_0,e70⟩:=zc (q70 y (But.refl _ _ _))
        have e70:slot x1 70=.slice a70_0 1 c70_0:=e70
        have g70:=jd e70
        simp only [e70] at q70
        clear hB hF
        refine ⟨.agg #[.slice a70_0 1 c70_0,.slice none 0 0],?_,fun w' hw=>world_mk (secs:=[words]) (shared:=[]) (q70 w' hw) (wsl_none _)⟩
        simp only [execOp]
        simp [go_sem,g70]
      ·intro x1 w6 hB hF hP
       obtain ⟨p0,p1,p2,p3,p4,p5,p6,p7,-⟩:=hP
       have q64:∀ w',But (.cells #[] 53) w5.heap.size w6 w'→yj w' ((⟨[(⟨⟨#[107]⟩,words.length⟩:Arr)],[(⟨⟨#[102]⟩,false,[(⟨⟨#[105]⟩,0,0⟩:jj),(⟨⟨#[118]⟩,0,0⟩:jj),(⟨⟨#[106]⟩,0,0⟩:jj)],[(⟨1,⟨#[107]⟩,0,[(⟨1,0,⟨#[105]⟩,[]⟩:Expr),(⟨1,0,⟨#[118]⟩,[]⟩:Expr)],[],[]⟩:Stmt),(⟨4,⟨#[]⟩,0,[(⟨2,0,⟨#[107]⟩,[(⟨1,0,⟨#[106]⟩,[]⟩:Expr)]⟩:Expr)],[],[]⟩:Stmt)]⟩:Fun)]⟩:Src)) (slot x1 64):=p0
       obtain ⟨a64_0,c64_0,a64_1,c64_1,e64,-⟩:=q64 w6 (But.refl _ _ _)
       have e64:slot x1 64=.agg #[.slice a64_0 1 c64_0,.slice a64_1 1 c64_1]:=e64
       have g64:=jd e64
       simp only [e64] at q64
       have q68:∀ w',But (.cells #[] 53) w5.heap.size w6 w'→WSl w' (slot x1 68) ([i,vn,((k:Int)+tm * words.length)]):=p4
       obtain ⟨a68_0,c68_0,e68,-⟩:=q68 w6 (But.refl _ _ _)
       have e68:slot x1 68=.slice a68_0 3 c68_0:=e68
       have g68:=jd e68
       simp only [e68] at q68
       have q71:∀ w',But (.cells #[] 53) w5.heap.size w6 w'→ki w' ([words]) ([]) (slot x1 71):=p7
       obtain ⟨a71_0,c71_0,a71_1,c71_1,e71,-⟩:=q71 w6 (But.refl _ _ _)
       have e71:slot x1 71=.agg #[.slice a71_0 1 c71_0,.slice a71_1 0 c71_1]:=e71
       have g71:=jd e71
       simp only [e71] at q71
       have hx:=jl hF [(64,.agg #[.slice a64_0 1 c64_0,.slice a64_1 1 c64_1]),(65,.int .u64 i),(66,.int .u64 vn),(67,.int .u64 ((k:Int)+tm * words.length)),(68,.slice a68_0 3 c68_0),(69,slot x1 69),(70,slot x1 70),(71,.agg #[.slice a71_0 1 c71_0,.slice a71_1 0 c71_1])] rfl ⟨e64,p1,p2,p3,e68,rfl,rfl,e71,trivial⟩
       clear hF p0 p1 p2 p3 p4 p5 p6 p7
       clear e64 g64
       clear e68 g68
       clear e71 g71
       generalize slot x1 69=u69 at *
       generalize slot x1 70=u70 at *
       subst hx
       simp only [puts,Act.put,wi,wj,wk,wl,wm]
       have HI:=we (q64 w6 (But.refl _ _ _))
       have HA:=we (q68 w6 (But.refl _ _ _))
       have HW:=we (q71 w6 (But.refl _ _ _))
       have HB6:=we (HB5.out.trans (hB.mono HB5.out.size))
       clear hB q64 q68 q71 HB5 HK5 HX5 HS5
       go_wp2_with fail
       have hr:=run_any (p:=elemSrc words.length) (args:=[i,vn,(k:Int)+tm * words.length]) (secs:=[words]) (shared:=[]) (by have e:wtFs (elemSrc words.length).funcs=wtFs (elemSrc 0).funcs:=rfl;rw [e];decide) _ _ _ 0 HI.out (HG.out.below HB6.out) HA.out (by intro x hx;simp at hx;rcases hx with rfl|rfl|rfl<;>first|exact HUi.out|exact HUv.out|(unfold U64;have:=HP.out;omega)) HW.out (by intro l hl;simp at hl;subst hl;exact HUw.out) (by intro x hx;simp at hx) (by rw [HRun.out];simp)
       rw [HRun.out] at hr
       refine hr.mono ?_
       rintro e w7 ⟨hb7,vv,rfl,⟨ra1,rc1,ra2,rc2,ra3,rc3,rfl,hO1,hO2,hO3⟩,-⟩
       have hn7:=(Below.refl w7.heap.size w7).alloc (Nat.le_refl _) (.cells #[.int .u64 0,.slice none 0 0,.slice none 0 0,.slice none 0 0] 37)
       have hq7:=below_setRow hn7 (Nat.le_refl _) #[.int .u64 vn,.slice ra1 0 rc1,.slice ra2 1 rc2,.slice ra3 0 rc3]
       have HZ7:=we (Go.heap_alloc_new w7 (.cells #[.int .u64 0,.slice none 0 0,.slice none 0 0,.slice none 0 0] 37))
       have HK8:=we (Go.setRow_heap (w7.alloc (.cells #[.int .u64 0,.slice none 0 0,.slice none 0 0,.slice none 0 0] 37)) w7.heap.size _ #[.int .u64 vn,.slice ra1 0 rc1,.slice ra2 1 rc2,.slice ra3 0 rc3] _ _ HZ7.out)
       have HO2:Hid (Sl 1 (WAt _) (.slice ra2 1 rc2) [words.set k vn]):=we (hO2.imp (fun b o x _ hx=>hx.below hq7 x b o))
       have HB8:=we ((HB6.out.trans (hb7.mono HB6.out.size)).trans (hq7.mono (by have:=HB6.out.size;have:=hb7.size;omega)))
       clear hr hb7 hO1 hO2 hO3 hn7 hq7 HB6 HI HA HW
       go_upto_region 13 with ((refine wpList_store_row rfl 37 _ _ rfl w7.heap.size #[.int .u64 vn,.slice ra1 0 rc1,.slice ra2 1 rc2,.slice ra3 0 rc3] rfl rfl 37 _ HZ7.out (by kernel_rfl) rfl (by simp [Value.oneCell']) ?_))
       clear HZ7
       generalize (w7.alloc (.cells #[.int .u64 0,.slice none 0 0,.slice none 0 0,.slice none 0 0] 37)).setRow w7.heap.size #[.int .u64 vn,.slice ra1 0 rc1,.slice ra2 1 rc2,.slice ra3 0 rc3]=w8 at *
       generalize w7.heap.size=b14 at *
       have HRow:Hid (∀ (j:Nat) (x:Int),words[j]?=some x→w8.cell? ⟨sb,so+j,none⟩=some (.int .u64 x)):=we (fun j x hj=>jb HB8.out (HRow0.out j x hj))
       clear HRow0
       have hnews:∀ (j:Nat) (u:Value),(words.map (Value.int .u64))[j]?=some u→(w8.alloc (.cells #[] 35)).cell? ((⟨sb,so,none⟩:Addr).add j)=some u:=by
        intro j u hj
        rw [List.getElem?_map] at hj
        cases ht:words[j]? with
        | none=>rw [ht] at hj;cases hj
        | some t=>
         rw [ht] at hj
         simp only [Option.map_some,Option.some.injEq] at hj
         subst hj
         have h1:=HRow.out j t ht
         have ha:(⟨sb,so,none⟩:Addr).add j=⟨sb,so+j,none⟩:=by unfold Addr.add;split<;>simp_all
         rw [ha]
         exact (World.cell?_alloc_lt w8 _ _ (wg w8 _ h1)).trans h1
       have hown:(w8.alloc (.cells #[] 35)).ownsRow w8.heap.size 35 1 (.slice (some ⟨w8.heap.size,0,none⟩) 0 0) 0 []:=by
        have h:=World.ownsRow_lit (base:=w8.heap.size) (e:=35) (size:=1) w8 #[] 0 (Nat.le_refl _) (by simp [maxLen]) (by simp)
        simpa using h
       have HNw:=we hnews
       have HOw:=we hown
       have HBn:=we ((Below.refl w8.heap.size w8).alloc (Nat.le_refl _) (.cells #[] 35))
       obtain ⟨i0,hi,hz0,hz1,hz2⟩:=info_parts info_u64
       clear hnews hown
       go_upto_region 14 with (at_builtin;go_loud (refine wpList_append_own _ rfl _ _ _ rfl w8.heap.size 35 i0 _ 1 8 Tryz.underlying26 hi hz0 hz1 hz2 rfl (by omega) _ 0 [] rfl HOw.out ⟨sb,so,none⟩ words.length sc (words.map (Value.int .u64)) rfl (by simp) ?ca ?cb ?cc ?cd (by simp) ?_))
       case ca=>exact HNw.out
       case cb=>
        intro u hu
        obtain ⟨t,_,rfl⟩:=List.mem_map.1 hu
        rfl
       case cc=>simp only [maxLen];omega
       case cd=>omega
       intro v1 wq ho1 hg1 _
       have ho1':wq.ownsRow w8.heap.size 35 1 v1 words.length (words.map (Value.int .u64)):=by simpa using ho1
       have hbq:=j8 HBn.out HOw.out (Nat.le_refl _) HBn.out.size hg1
       obtain ⟨qa,qc,rfl,hqc,-,hqs⟩:=own_shape ho1'
       obtain ⟨qb,rfl,hqb,hql,-⟩:=hqs hne
       clear ho1 hg1 HNw HOw HBn hi hz0 hz1 hz2 hqs
       have hck:wq.cell? ⟨qb,k,none⟩=some (.int .u64 words[k]):=by
        rw [ho1'.cellAt k (by omega)]
        simp [hkl]
       have hfk:=ho1'.frozenAt k
       have hst:=(ho1'.stored k (.int .u64 vn)).1
       have hset:(words.map (Value.int .u64)).set k (.int .u64 vn)=(words.set k vn).map (Value.int .u64):=by rw [List.map_set]
       rw [hset] at hst
       have hbs:Below w8.heap.size w8 (wq.setCell ⟨qb,k,none⟩ (.int .u64 vn)):=hbq.setCell (by simpa using hqb) _
       have hwl:WSl (wq.setCell ⟨qb,k,none⟩ (.int .u64 vn)) (.slice (some ⟨qb,0,none⟩) words.length qc) (words.set k vn):=by
        have:=wsl_own (l:=words.set k vn) (by rw [List.length_set];exact hst) (by rw [List.length_set];exact hsl)
        first|exact this|(rwa [List.length_set] at this)
       have HWl:=we hwl
       have HBs:=we hbs
       clear hst hset hbs hwl ho1' hbq hqb hqc
       go_upto_region 15 with (fail)
       generalize wq.setCell ⟨qb,k,none⟩ (.int .u64 vn)=w9 at *
       have hk9:=jm HBs.out HK8.out
       obtain ⟨_,_,he,-,-,hrw0⟩:=HO2.out
       simp only [Value.slice.injEq] at he
       obtain ⟨rfl,-,rfl⟩:=he
       obtain ⟨tb,to,rfl,hrw⟩:=hrw0 (by simp)
       obtain ⟨ev,hev,hew⟩:=hrw 0 (words.set k vn) rfl
       rw [Nat.zero_mul,Nat.add_zero] at hev
       have hev:=jb HBs.out hev
       have c0:=cell_of_row _ _ 0 _ _ _ hk9
       have c2:=cell_of_row _ _ 2 _ _ _ hk9
       have hlt:=(wn.1 hk9).1
       have hlt2:=wg w9 _ hev
       simp only [List.getElem?_toArray,List.getElem?_cons_zero,List.getElem?_cons_succ] at c0 c2
       have HL:=we (longs_any _ _ _ _ w9 (hew.below HBs.out) HWl.out)
       have HB9:=we (HB8.out.trans (HBs.out.mono HB8.out.size))
       clear hk9 hrw0 hrw hew hck hfk hql
       go_wp2_with fail
       refine HL.out.mono ?_
       rintro e w10 ⟨rfl,hb10⟩
       have HB10:=we (HB9.out.trans (hb10.mono HB9.out.size))
       clear hb10 c0 c2 hlt hlt2 hev
       go_wp2_with fail
       go_ret
       exact ⟨rfl,HB10.out⟩
 ·rcases Nat.lt_or_ge words.length 1 with h|h
  ·have h1:(words.length:Int)<1:=by omega
   clear h hn
   go_wp2_with fail
   go_ret
   exact ⟨rfl,HB1.out⟩
  ·have h1:¬ (words.length:Int)<1:=by omega
   have h2:(words.length:Int) > 64:=by omega
   clear h hn
   go_wp2_with fail
   go_ret
   exact ⟨rfl,HB1.out⟩
end
section
set_option maxHeartbeats 4000000
set_option maxRecDepth 100000
open Go.RowKit Go.Shelf Go.Lib Go.ChangeShapes Go.WideShapes Go.ChangeAt
theorem semElements_lifted (os:Os) (started:os.Started) (H:Type) (enc:TypeId×Value→H) :
  ReturnsInHanded {} Tryz.checked os 6 .any (fun w args=>(Rows.semElementsSpec.pre enc Tryz.prog Tryz.f6 [] false w args∧laidMetH Tryz.prog yg w)∧sizedMet enc Tryz.prog Tryz.f6 (OpenSpec.ofChange Rows.semElementsSpec) false w args)
   (Rows.semElementsSpec.post enc Tryz.prog Tryz.f6 false true false false):=by
 refine returnsInHanded_of_change_and (C:=Tryz.checked) (X:=fun w _=>laidMetH Tryz.prog yg w) (fun _ _ _ hh h=>h.of_heap hh) ownKnob_none started (by kernel_rfl) Tryz.func6
  (ChangeSpec.witness_shaped (enc:=enc) (C:=Tryz.checked) (os:=os) (X:=fun w _=>laidMetH Tryz.prog yg w) false (World.laidAll Tryz.prog os yg) #[.slice none 0 0,.agg #[.int .u64 0,.int .u64 0],.int .u8 0] 8 (World.laidAll_os _ _ _)
   (World.shaped_of_ZipB (by kernel_rfl) (by kernel_rfl)) (by kernel_rfl) (by kernel_rfl) (by kernel_rfl)
   (by rw [MakeChecks.laidMetH_plain _ _ _ (by kernel_rfl)];exact laidMet_laidAll _ (by kernel_rfl) (by kernel_rfl))) ?_
 intro W base args ds gs before hval0 hW _ hwt hL _
 have hval:∀ (j:Nat) t v,Tryz.f6.params[j]?=some t→args[j]?=some v→Value.okWide Tryz.prog W .any base t v:=hval0
 have hW':=hW
 obtain ⟨p,q,hA0,hV,rfl,_,_⟩:=hW
 have hA:DataW.TrodAll enc Tryz.prog W 0 (fun _=>true) true Tryz.f6.params.toList args.toList ds p:=hA0
 rw [Tryz.params6] at hA hval
 obtain ⟨v0,v1,v2,d0,d1,d2,p0,p1,p2,rfl,rfl,rfl,h0,h1,h2⟩:=trodAll_three hA
 obtain ⟨rfl,rfl⟩:=trodVars_none hV
 simp only [List.append_nil] at hW'
 have hlt:∀ x∈p0++p1++p2,x.block<W.heap.size:=fun x hx=>hW'.lt x (by simpa using hx)
 have k0:=h0
 have k1:=h1
 have k2:=h2
 have hG:=glob_of_laid hL
 obtain ⟨l0,hW0,hU0⟩:=words_of (hval 0 26 v0 rfl rfl) h0 (weights_at hwt (j:=0) rfl rfl)
 obtain ⟨x1,y1,rfl,wx1,wy1⟩:=pair64_of (hval 1 60 v1 rfl rfl) h1
 obtain ⟨n2,rfl,rfl,rfl,w2⟩:=open_int Tryz.underlying5 (hval 2 5 v2 rfl rfl) h2
 have b2:0≤n2∧n2<256:=by have:=w2;simp [Lit.wf,IntKind.min,IntKind.max,IntKind.signed,IntKind.bits] at this;omega
 refine (elements_any v0 l0 x1 y1 n2 hW0 hU0 (wf_u64 wx1) (wf_u64 wy1) b2.1 b2.2 hG).mono fun e W' ⟨he,hb⟩=>?_
 subst he
 exact ⟨_,rfl,_,_,_,[],_,[],hW',trodAll_mk1 (shut_bool Tryz.underlying4 _),(trodAll_mk3 (Below.trod kv (by kernel_rfl) (of_decide_eq_true (by kernel_rfl)) k0 hb (fun x hx=>hlt x (by first|(simp [hx];done)|(simp at hx)))) (Below.trod kv (by kernel_rfl) (of_decide_eq_true (by kernel_rfl)) k1 hb (fun x hx=>hlt x (by first|(simp [hx];done)|(simp at hx)))) (Below.trod kv (by kernel_rfl) (of_decide_eq_true (by kernel_rfl)) k2 hb (fun x hx=>hlt x (by first|(simp [hx];done)|(simp at hx))))),rfl,hb.frame _,fun h=>by cases h⟩
theorem semElements_row:Rows.SemElementsSaid:=
 OpenClaim.holds_of_wide 6 Tryz.f6 rfl rfl rfl rfl rfl rfl rfl ⟨rfl,rfl,rfl,rfl,rfl⟩ rfl rfl rfl rfl rfl (by kernel_rfl) Tryz.func6 (by kernel_rfl)
  (of_decide_eq_true (by kernel_rfl)) (by unfold Func.isWrapper;first|(rw [if_pos (by decide +kernel)];kernel_rfl)|(rw [if_neg (by decide +kernel)];exact ⟨rfl,rfl⟩))
  (fun os started H enc _=>semElements_lifted os started H enc)
theorem semElements_holds:Rows.SemElementsCardSaid:=
 Claim7.holds_tied_plain_at .later [] [.data,.data,.data,.data,.pinned] true (true, "58d88c0b659ec0b2144c551f2435681ed6d909dda393ac60c95d3fdaa74503c2") true semElements_row (fun _ h=>by cases h) (by kernel_rfl) (fun _ h=>by cases h) semElements_row_tie rfl ⟨rfl,rfl⟩ (by kernel_rfl) rfl
  (fun f fn hf hfn=>by
   obtain rfl:f=6:=Option.some.inj ((show Tryz.prog.funcNamed "caponier/caponierlaw12.SemElements"=some 6 by kernel_rfl).symm.trans hf) |>.symm
   obtain rfl:fn=Tryz.f6:=(Option.some.inj (Tryz.func6.symm.trans hfn)).symm
   exact ⟨by kernel_rfl,fun j t ht=>by
    rw [Tryz.params6] at ht
    have hm:t∈[26,60,5]:=by simpa using Array.mem_of_getElem? ht
    have hall:([26,60,5].all fun u=>!Tryz.prog.wantsStandIn u)=true:=by kernel_rfl
    exact (show Tryz.prog.wantsStandIn t=false by simpa using List.all_eq_true.1 hall t hm)⟩)
  (by kernel_rfl)
end
#print axioms semElements_holds
end Go.Proofs.YtdembmaldllmkaaGreatDoor
