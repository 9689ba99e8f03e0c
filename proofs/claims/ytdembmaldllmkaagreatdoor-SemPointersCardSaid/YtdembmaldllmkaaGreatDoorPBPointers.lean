/-
  The law caponierlaw12.SemPointers returns true for every input: a pointer handed on is the same words: what a function puts there is there behind it; two that lie over one another share what they share.
  Conditions: the row's own (the listed package variables lie as the program's text lays them; the arguments hold no ring), and the model's.
-/
import Derived.Test.YtdembmaldllmkaaGreatDoorPB6
import Derived.Deep.Cut
set_option linter.unusedVariables false
set_option linter.unusedSimpArgs false
namespace Go.Proofs.YtdembmaldllmkaaGreatDoor
section
set_option maxHeartbeats 8000000
set_option maxRecDepth 100000
open Go.RowKit
theorem pointers_any {W0:World} (sl:Value) (words:List Int) (a b vn:Int) (hs:WSl W0 sl words) (huw:∀ x∈words,U64 x) (ha0:0≤a) (ha1:a<65536) (hb0:0≤b) (hb1:b<65536) (hv:U64 vn) (hg:Glob W0):Calls Tryz.prog 9 #[sl,.agg #[.int .u16 a,.int .u16 b],.int .u64 vn] W0 (fun e w'=>e=.returned (.bool true)∧Below W0.heap.size W0 w'):=by
 have HG:=we hg
 have HUv:=we hv
 have HUw:=we huw
 have HS:=we hs
 obtain ⟨sa,sc,rfl,hsl⟩:=wsl_open hs
 clear hg hv huw hs
 have hbx:=(Below.refl W0.heap.size W0).alloc (Nat.le_refl _) (.cells #[.int .u16 a,.int .u16 b] 68)
 have HBx:=we hbx
 have HGx:=we (HG.out.below hbx)
 have HKx:=we (Go.heap_alloc_new W0 (.cells #[.int .u16 a,.int .u16 b] 68))
 clear hbx
 go_enter Tryz.func9,Tryz.ntmps9
 go_wp2_with fail
 refine (awake_any _ HGx.out).mono ?_
 rintro e w1 ⟨rfl,hb1⟩
 have HB1:=we (HBx.out.trans (hb1.mono HBx.out.size))
 have hk1:=jm hb1 HKx.out
 have c0:=cell_of_row _ _ 0 _ _ _ hk1
 have c1:=cell_of_row _ _ 1 _ _ _ hk1
 have hlt:=(wn.1 hk1).1
 simp only [List.getElem?_toArray,List.getElem?_cons_zero,List.getElem?_cons_succ] at c0 c1
 clear hb1 hk1 HBx HGx HKx
 by_cases hn:2≤words.length∧words.length≤512
 ·have hn1:¬ (words.length:Int)<2:=by omega
  have hn2:¬ (words.length:Int) > 512:=by omega
  have hn3:2≤words.length:=hn.1
  have hn4:words.length≤512:=hn.2
  have hne:words≠[]:=by intro h;rw [h] at hn3;simp at hn3
  clear hn
  obtain ⟨_,_,he,hsc,_,_,hr⟩:=HS.out
  simp only [Value.slice.injEq] at he
  obtain ⟨rfl,-,rfl⟩:=he
  obtain ⟨sb,so,rfl,hrow⟩:=hr hne
  have HRow0:=we hrow
  have hi0:=Int.emod_nonneg a (b:=(words.length:Int) - 1) (by omega)
  have hi1:=Int.emod_lt_of_pos a (b:=(words.length:Int) - 1) (by omega)
  have hj0:=Int.emod_nonneg b (b:=(words.length:Int)) (by omega)
  have hj1:=Int.emod_lt_of_pos b (b:=(words.length:Int)) (by omega)
  obtain ⟨i,hi⟩:∃ i:Nat,a % ((words.length:Int) - 1)=(i:Int):=⟨(a % ((words.length:Int) - 1)).toNat,by omega⟩
  obtain ⟨k,hk⟩:∃ k:Nat,b % (words.length:Int)=(k:Int):=⟨(b % (words.length:Int)).toNat,by omega⟩
  rw [hi] at hi0 hi1
  rw [hk] at hj0 hj1
  have hil:i+2≤words.length:=by omega
  have hkl:k+1≤words.length:=by omega
  have HIi:=we hi
  have HKk:=we hk
  have HRun:=we (point_run i k vn words hil hn4 hkl)
  clear hr hrow hi hk hi0 hi1 hj0 hj1
  go_upto_region 8 with (fail)
  clear c0 c1 hlt hn1 hn2
  refine jp [mpQ (.cells #[.string ⟨#[]⟩,.bool false,.slice none 0 0,.slice none 0 0] 47) w1.heap.size (fun w v=>qj w ((⟨⟨#[113]⟩,2,2⟩:jj)) v),mpQ (.cells #[.string ⟨#[]⟩,.bool false,.slice none 0 0,.slice none 0 0] 47) w1.heap.size (fun w v=>qj w ((⟨⟨#[118]⟩,0,0⟩:jj)) v),mpQ (.cells #[.string ⟨#[]⟩,.bool false,.slice none 0 0,.slice none 0 0] 47) w1.heap.size (fun w v=>PsIs w ([(⟨⟨#[113]⟩,2,2⟩:jj),(⟨⟨#[118]⟩,0,0⟩:jj)]) v),mpQ (.cells #[.string ⟨#[]⟩,.bool false,.slice none 0 0,.slice none 0 0] 47) w1.heap.size (fun w v=>jn w ((⟨0,1,⟨#[]⟩,[]⟩:Expr)) v),mpQ (.cells #[.string ⟨#[]⟩,.bool false,.slice none 0 0,.slice none 0 0] 47) w1.heap.size (fun w v=>jn w ((⟨1,0,⟨#[118]⟩,[]⟩:Expr)) v),mpQ (.cells #[.string ⟨#[]⟩,.bool false,.slice none 0 0,.slice none 0 0] 47) w1.heap.size (fun w v=>XsIs w ([(⟨0,1,⟨#[]⟩,[]⟩:Expr),(⟨1,0,⟨#[118]⟩,[]⟩:Expr)]) v),mpQ (.cells #[.string ⟨#[]⟩,.bool false,.slice none 0 0,.slice none 0 0] 47) w1.heap.size (fun w v=>zy w ((⟨1,⟨#[113]⟩,0,[(⟨0,1,⟨#[]⟩,[]⟩:Expr),(⟨1,0,⟨#[118]⟩,[]⟩:Expr)],[],[]⟩:Stmt)) v),mpQ (.cells #[.string ⟨#[]⟩,.bool false,.slice none 0 0,.slice none 0 0] 47) w1.heap.size (fun w v=>jn w ((⟨0,0,⟨#[]⟩,[]⟩:Expr)) v),mpQ (.cells #[.string ⟨#[]⟩,.bool false,.slice none 0 0,.slice none 0 0] 47) w1.heap.size (fun w v=>XsIs w ([(⟨0,0,⟨#[]⟩,[]⟩:Expr)]) v),mpQ (.cells #[.string ⟨#[]⟩,.bool false,.slice none 0 0,.slice none 0 0] 47) w1.heap.size (fun w v=>zy w ((⟨4,⟨#[]⟩,0,[(⟨0,0,⟨#[]⟩,[]⟩:Expr)],[],[]⟩:Stmt)) v),mpQ (.cells #[.string ⟨#[]⟩,.bool false,.slice none 0 0,.slice none 0 0] 47) w1.heap.size (fun w v=>SsIs w ([(⟨1,⟨#[113]⟩,0,[(⟨0,1,⟨#[]⟩,[]⟩:Expr),(⟨1,0,⟨#[118]⟩,[]⟩:Expr)],[],[]⟩:Stmt),(⟨4,⟨#[]⟩,0,[(⟨0,0,⟨#[]⟩,[]⟩:Expr)],[],[]⟩:Stmt)]) v),mpQ (.cells #[.string ⟨#[]⟩,.bool false,.slice none 0 0,.slice none 0 0] 47) w1.heap.size (fun w v=>kn w ((⟨⟨#[103]⟩,false,[(⟨⟨#[113]⟩,2,2⟩:jj),(⟨⟨#[118]⟩,0,0⟩:jj)],[(⟨1,⟨#[113]⟩,0,[(⟨0,1,⟨#[]⟩,[]⟩:Expr),(⟨1,0,⟨#[118]⟩,[]⟩:Expr)],[],[]⟩:Stmt),(⟨4,⟨#[]⟩,0,[(⟨0,0,⟨#[]⟩,[]⟩:Expr)],[],[]⟩:Stmt)]⟩:Fun)) v),mpNew w1.heap.size (.cells #[.string ⟨#[]⟩,.bool false,.slice none 0 0,.slice none 0 0] 47)] (by kernel_rfl) 13 (by decide) _ rfl ?_ ?_
  ·refine ⟨?_,?_,?_,?_,?_,?_,?_,?_,?_,?_,?_,?_,?_,trivial⟩
   ·refine jk rfl rfl fun x1 y hB hF hD=>?_
    clear hB hF
    refine ⟨.agg #[.string ⟨#[113]⟩,.int .i64 2,.int .i64 2],?_,fun w' hw=>⟨rfl,(by first|decide|(dsimp only;decide)),(by unfold I64;first|omega|(simp only;omega)),(by unfold I64;first|omega|(simp only;omega))⟩⟩
    simp only [execOp]
    simp [go_sem]
   ·refine jk rfl rfl fun x1 y hB hF hD=>?_
    clear hB hF
    refine ⟨.agg #[.string ⟨#[118]⟩,.int .i64 0,.int .i64 0],?_,fun w' hw=>⟨rfl,(by first|decide|(dsimp only;decide)),(by unfold I64;first|omega|(simp only;omega)),(by unfold I64;first|omega|(simp only;omega))⟩⟩
    simp only [execOp]
    simp [go_sem]
   ·refine jh rfl fun x1 y hB hF hD=>?_
    obtain ⟨d0,d1,-⟩:=hD
    have q33:∀ w',But (.cells #[.string ⟨#[]⟩,.bool false,.slice none 0 0,.slice none 0 0] 47) w1.heap.size y w'→qj w' ((⟨⟨#[113]⟩,2,2⟩:jj)) (slot x1 33):=d0 rfl
    obtain ⟨e33,-⟩:=q33 y (But.refl _ _ _)
    have e33:slot x1 33=.agg #[.string ⟨#[113]⟩,.int .i64 2,.int .i64 2]:=e33
    have g33:=jd e33
    simp only [e33] at q33
    have q34:∀ w',But (.cells #[.string ⟨#[]⟩,.bool false,.slice none 0 0,.slice none 0 0] 47) w1.heap.size y w'→qj w' ((⟨⟨#[118]⟩,0,0⟩:jj)) (slot x1 34):=d1 rfl
    obtain ⟨e34,-⟩:=q34 y (But.refl _ _ _)
    have e34:slot x1 34=.agg #[.string ⟨#[118]⟩,.int .i64 0,.int .i64 0]:=e34
    have g34:=jd e34
    simp only [e34] at q34
    clear hB hF
    unfold Oper.wp
    simp only [execOp]
    simp [go_sem,g33,g34]
    refine ⟨_,rfl,(Below.refl _ _).alloc (Nat.le_refl _) _,fun w' hw=>?_⟩
    exact z6 paramAt_of (hw.new (by simp)) [((⟨⟨#[113]⟩,2,2⟩:jj),_),((⟨⟨#[118]⟩,0,0⟩:jj),_)] ⟨q33 w' hw.of_alloc,q34 w' hw.of_alloc,trivial⟩ rfl (by simp)
   ·refine jk rfl rfl fun x1 y hB hF hD=>?_
    clear hB hF
    refine ⟨.agg #[.int .i64 0,.int .u64 1,.string ⟨#[]⟩,.slice none 0 0],?_,fun w' hw=>qe 0 1 ⟨#[]⟩ (l:=[]) (Sl.nil _ _ _ _) (by unfold I64;first|omega|(simp only;omega)) (by unfold U64;first|omega|(simp only;omega)) (by first|decide|(dsimp only;decide))⟩
    simp only [execOp]
    simp [go_sem]
   ·refine jo (f:=21) rfl rfl fun x1 y hB hF hD=>⟨#[.string ⟨#[118]⟩],?_,?_⟩
    ·clear hB hF hD
     simp only [execOp]
     simp [go_sem]
    ·refine (qg _ y).mono ?_
     rintro e w1 ⟨rfl,hb⟩
     exact ⟨hb,.inl ⟨_,rfl,fun w' hw=>qe 1 0 ⟨#[118]⟩ (l:=[]) (Sl.nil _ _ _ _) (by unfold I64;first|omega|(simp only;omega)) (by unfold U64;first|omega|(simp only;omega)) (by first|decide|(dsimp only;decide))⟩⟩
   ·refine jh rfl fun x1 y hB hF hD=>?_
    obtain ⟨d0,d1,-⟩:=hD
    have q36:∀ w',But (.cells #[.string ⟨#[]⟩,.bool false,.slice none 0 0,.slice none 0 0] 47) w1.heap.size y w'→jn w' ((⟨0,1,⟨#[]⟩,[]⟩:Expr)) (slot x1 36):=d0 rfl
    obtain ⟨a36_0,c36_0,e36,-⟩:=q36 y (But.refl _ _ _)
    have e36:slot x1 36=.agg #[.int .i64 0,.int .u64 1,.string ⟨#[]⟩,.slice a36_0 0 c36_0]:=e36
    have g36:=jd e36
    simp only [e36] at q36
    have q37:∀ w',But (.cells #[.string ⟨#[]⟩,.bool false,.slice none 0 0,.slice none 0 0] 47) w1.heap.size y w'→jn w' ((⟨1,0,⟨#[118]⟩,[]⟩:Expr)) (slot x1 37):=d1 rfl
    obtain ⟨a37_0,c37_0,e37,-⟩:=q37 y (But.refl _ _ _)
    have e37:slot x1 37=.agg #[.int .i64 1,.int .u64 0,.string ⟨#[118]⟩,.slice a37_0 0 c37_0]:=e37
    have g37:=jd e37
    simp only [e37] at q37
    clear hB hF
    unfold Oper.wp
    simp only [execOp]
    simp [go_sem,g36,g37]
    refine ⟨_,rfl,(Below.refl _ _).alloc (Nat.le_refl _) _,fun w' hw=>?_⟩
    exact z6 zn (hw.new (by simp)) [((⟨0,1,⟨#[]⟩,[]⟩:Expr),_),((⟨1,0,⟨#[118]⟩,[]⟩:Expr),_)] ⟨q36 w' hw.of_alloc,q37 w' hw.of_alloc,trivial⟩ rfl (by simp)
   ·refine jk rfl rfl fun x1 y hB hF hD=>?_
    obtain ⟨d0,-⟩:=hD
    have q38:∀ w',But (.cells #[.string ⟨#[]⟩,.bool false,.slice none 0 0,.slice none 0 0] 47) w1.heap.size y w'→XsIs w' ([(⟨0,1,⟨#[]⟩,[]⟩:Expr),(⟨1,0,⟨#[118]⟩,[]⟩:Expr)]) (slot x1 38):=d0 rfl
    obtain ⟨a38_0,c38_0,e38⟩:=zc (q38 y (But.refl _ _ _))
    have e38:slot x1 38=.slice a38_0 2 c38_0:=e38
    have g38:=jd e38
    simp only [e38] at q38
    clear hB hF
    refine ⟨.agg #[.int .i64 1,.string ⟨#[113]⟩,.int .i64 0,.slice a38_0 2 c38_0,.slice none 0 0,.slice none 0 0],?_,fun w' hw=>xf 1 0 ⟨#[113]⟩ (l:=[(⟨0,1,⟨#[]⟩,[]⟩:Expr),(⟨1,0,⟨#[118]⟩,[]⟩:Expr)]) (t:=[]) (e:=[]) (q38 w' hw) (Sl.nil _ _ _ _) (Sl.nil _ _ _ _) (by unfold I64;first|omega|(simp only;omega)) (by unfold I64;first|omega|(simp only;omega)) (by first|decide|(dsimp only;decide))⟩
    simp only [execOp]
    simp [go_sem,g38]
   ·refine jk rfl rfl fun x1 y hB hF hD=>?_
    clear hB hF
    refine ⟨.agg #[.int .i64 0,.int .u64 0,.string ⟨#[]⟩,.slice none 0 0],?_,fun w' hw=>qe 0 0 ⟨#[]⟩ (l:=[]) (Sl.nil _ _ _ _) (by unfold I64;first|omega|(simp only;omega)) (by unfold U64;first|omega|(simp only;omega)) (by first|decide|(dsimp only;decide))⟩
    simp only [execOp]
    simp [go_sem]
   ·refine jh rfl fun x1 y hB hF hD=>?_
    obtain ⟨d0,-⟩:=hD
    have q40:∀ w',But (.cells #[.string ⟨#[]⟩,.bool false,.slice none 0 0,.slice none 0 0] 47) w1.heap.size y w'→jn w' ((⟨0,0,⟨#[]⟩,[]⟩:Expr)) (slot x1 40):=d0 rfl
    obtain ⟨a40_0,c40_0,e40,-⟩:=q40 y (But.refl _ _ _)
    have e40:slot x1 40=.agg #[.int .i64 0,.int .u64 0,.string ⟨#[]⟩,.slice a40_0 0 c40_0]:=e40
    have g40:=jd e40
    simp only [e40] at q40
    clear hB hF
    unfold Oper.wp
    simp only [execOp]
    simp [go_sem,g40]
    refine ⟨_,rfl,(Below.refl _ _).alloc (Nat.le_refl _) _,fun w' hw=>?_⟩
    exact z6 zn (hw.new (by simp)) [((⟨0,0,⟨#[]⟩,[]⟩:Expr),_)] ⟨q40 w' hw.of_alloc,trivial⟩ rfl (by simp)
   ·refine jk rfl rfl fun x1 y hB hF hD=>?_
    obtain ⟨d0,-⟩:=hD
    have q41:∀ w',But (.cells #[.string ⟨#[]⟩,.bool false,.slice none 0 0,.slice none 0 0] 47) w1.heap.size y w'→XsIs w' ([(⟨0,0,⟨#[]⟩,[]⟩:Expr)]) (slot x1 41):=d0 rfl
    obtain ⟨a41_0,c41_0,e41⟩:=zc (q41 y (But.refl _ _ _))
    have e41:slot x1 41=.slice a41_0 1 c41_0:=e41
    have g41:=jd e41
    simp only [e41] at q41
    clear hB hF
    refine ⟨.agg #[.int .i64 4,.string ⟨#[]⟩,.int .i64 0,.slice a41_0 1 c41_0,.slice none 0 0,.slice none 0 0],?_,fun w' hw=>xf 4 0 ⟨#[]⟩ (l:=[(⟨0,0,⟨#[]⟩,[]⟩:Expr)]) (t:=[]) (e:=[]) (q41 w' hw) (Sl.nil _ _ _ _) (Sl.nil _ _ _ _) (by unfold I64;first|omega|(simp only;omega)) (by unfold I64;first|omega|(simp only;omega)) (by first|decide|(dsimp only;decide))⟩
    simp only [execOp]
    simp [go_sem,g41]
   ·refine jh rfl fun x1 y hB hF hD=>?_
    obtain ⟨d0,d1,-⟩:=hD
    have q39:∀ w',But (.cells #[.string ⟨#[]⟩,.bool false,.slice none 0 0,.slice none 0 0] 47) w1.heap.size y w'→zy w' ((⟨1,⟨#[113]⟩,0,[(⟨0,1,⟨#[]⟩,[]⟩:Expr),(⟨1,0,⟨#[118]⟩,[]⟩:Expr)],[],[]⟩:Stmt)) (slot x1 39):=d0 rfl
    obtain ⟨a39_0,c39_0,a39_1,c39_1,a39_2,c39_2,e39,-⟩:=q39 y (But.refl _ _ _)
    have e39:slot x1 39=.agg #[.int .i64 1,.string ⟨#[113]⟩,.int .i64 0,.slice a39_0 2 c39_0,.slice a39_1 0 c39_1,.slice a39_2 0 c39_2]:=e39
    have g39:=jd e39
    simp only [e39] at q39
    have q42:∀ w',But (.cells #[.string ⟨#[]⟩,.bool false,.slice none 0 0,.slice none 0 0] 47) w1.heap.size y w'→zy w' ((⟨4,⟨#[]⟩,0,[(⟨0,0,⟨#[]⟩,[]⟩:Expr)],[],[]⟩:Stmt)) (slot x1 42):=d1 rfl
    obtain ⟨a42_0,c42_0,a42_1,c42_1,a42_2,c42_2,e42,-⟩:=q42 y (But.refl _ _ _)
    have e42:slot x1 42=.agg #[.int .i64 4,.string ⟨#[]⟩,.int .i64 0,.slice a42_0 1 c42_0,.slice a42_1 0 c42_1,.slice a42_2 0 c42_2]:=e42
    have g42:=jd e42
    simp only [e42] at q42
    clear hB hF
    unfold Oper.wp
    simp only [execOp]
    simp [go_sem,g39,g42]
    refine ⟨_,rfl,(Below.refl _ _).alloc (Nat.le_refl _) _,fun w' hw=>?_⟩
    exact z6 kr (hw.new (by simp)) [((⟨1,⟨#[113]⟩,0,[(⟨0,1,⟨#[]⟩,[]⟩:Expr),(⟨1,0,⟨#[118]⟩,[]⟩:Expr)],[],[]⟩:Stmt),_),((⟨4,⟨#[]⟩,0,[(⟨0,0,⟨#[]⟩,[]⟩:Expr)],[],[]⟩:Stmt),_)] ⟨q39 w' hw.of_alloc,q42 w' hw.of_alloc,trivial⟩ rfl (by simp)
   ·refine jk rfl rfl fun x1 y hB hF hD=>?_
    obtain ⟨d0,d1,-⟩:=hD
    have q35:∀ w',But (.cells #[.string ⟨#[]⟩,.bool false,.slice none 0 0,.slice none 0 0] 47) w1.heap.size y w'→PsIs w' ([(⟨⟨#[113]⟩,2,2⟩:jj),(⟨⟨#[118]⟩,0,0⟩:jj)]) (slot x1 35):=d0 rfl
    obtain ⟨a35_0,c35_0,e35⟩:=zc (q35 y (But.refl _ _ _))
    have e35:slot x1 35=.slice a35_0 2 c35_0:=e35
    have g35:=jd e35
    simp only [e35] at q35
    have q43:∀ w',But (.cells #[.string ⟨#[]⟩,.bool false,.slice none 0 0,.slice none 0 0] 47) w1.heap.size y w'→SsIs w' ([(⟨1,⟨#[113]⟩,0,[(⟨0,1,⟨#[]⟩,[]⟩:Expr),(⟨1,0,⟨#[118]⟩,[]⟩:Expr)],[],[]⟩:Stmt),(⟨4,⟨#[]⟩,0,[(⟨0,0,⟨#[]⟩,[]⟩:Expr)],[],[]⟩:Stmt)]) (slot x1 43):=d1 rfl
    obtain ⟨a43_0,c43_0,e43⟩:=zc (q43 y (But.refl _ _ _))
    have e43:slot x1 43=.slice a43_0 2 c43_0:=e43
    have g43:=jd e43
    simp only [e43] at q43
    clear hB hF
    refine ⟨.agg #[.string ⟨#[103]⟩,.bool false,.slice a35_0 2 c35_0,.slice a43_0 2 c43_0],?_,fun w' hw=>fun_mk ⟨#[103]⟩ false (ps:=[(⟨⟨#[113]⟩,2,2⟩:jj),(⟨⟨#[118]⟩,0,0⟩:jj)]) (b:=[(⟨1,⟨#[113]⟩,0,[(⟨0,1,⟨#[]⟩,[]⟩:Expr),(⟨1,0,⟨#[118]⟩,[]⟩:Expr)],[],[]⟩:Stmt),(⟨4,⟨#[]⟩,0,[(⟨0,0,⟨#[]⟩,[]⟩:Expr)],[],[]⟩:Stmt)]) (q35 w' hw) (q43 w' hw) (by first|decide|(dsimp only;decide))⟩
    simp only [execOp]
    simp [go_sem,g35,g43]
   ·refine jh rfl fun x1 y hB hF hD=>?_
    unfold Oper.wp
    simp only [execOp]
    simp [go_sem]
    exact ⟨_,rfl,(Below.refl _ _).alloc (Nat.le_refl _) _,y.heap.size,rfl,hB.size,Go.heap_alloc_new y _⟩
  ·intro x1 y hB hF hP
   obtain ⟨p0,p1,p2,p3,p4,p5,p6,p7,p8,p9,p10,p11,p12,-⟩:=hP
   have q44:∀ w',But (.cells #[.string ⟨#[]⟩,.bool false,.slice none 0 0,.slice none 0 0] 47) w1.heap.size y w'→kn w' ((⟨⟨#[103]⟩,false,[(⟨⟨#[113]⟩,2,2⟩:jj),(⟨⟨#[118]⟩,0,0⟩:jj)],[(⟨1,⟨#[113]⟩,0,[(⟨0,1,⟨#[]⟩,[]⟩:Expr),(⟨1,0,⟨#[118]⟩,[]⟩:Expr)],[],[]⟩:Stmt),(⟨4,⟨#[]⟩,0,[(⟨0,0,⟨#[]⟩,[]⟩:Expr)],[],[]⟩:Stmt)]⟩:Fun)) (slot x1 44):=p11
   obtain ⟨a44_0,c44_0,a44_1,c44_1,e44,-⟩:=q44 y (But.refl _ _ _)
   have e44:slot x1 44=.agg #[.string ⟨#[103]⟩,.bool false,.slice a44_0 2 c44_0,.slice a44_1 2 c44_1]:=e44
   have g44:=jd e44
   simp only [e44] at q44
   obtain ⟨b10,ex,hbx,hbz⟩:=p12
   have ex:slot x1 10=.pointer (some ⟨b10,0,none⟩):=ex
   have hx:=jl hF [(33,slot x1 33),(34,slot x1 34),(35,slot x1 35),(36,slot x1 36),(37,slot x1 37),(38,slot x1 38),(39,slot x1 39),(40,slot x1 40),(41,slot x1 41),(42,slot x1 42),(43,slot x1 43),(44,.agg #[.string ⟨#[103]⟩,.bool false,.slice a44_0 2 c44_0,.slice a44_1 2 c44_1]),(10,.pointer (some ⟨b10,0,none⟩))] rfl ⟨rfl,rfl,rfl,rfl,rfl,rfl,rfl,rfl,rfl,rfl,rfl,e44,ex,trivial⟩
   clear hF p0 p1 p2 p3 p4 p5 p6 p7 p8 p9 p10 p11
   clear e44 g44
   generalize slot x1 33=u33 at *
   generalize slot x1 34=u34 at *
   generalize slot x1 35=u35 at *
   generalize slot x1 36=u36 at *
   generalize slot x1 37=u37 at *
   generalize slot x1 38=u38 at *
   generalize slot x1 39=u39 at *
   generalize slot x1 40=u40 at *
   generalize slot x1 41=u41 at *
   generalize slot x1 42=u42 at *
   generalize slot x1 43=u43 at *
   subst hx
   simp only [puts,Act.put,wi,wj,wk,wl,wm]
   have HZb:=we hbz
   have HX8:=we (q44 _ (But.setRow (cs:=#[.string ⟨#[103]⟩,.bool false,.slice a44_0 2 c44_0,.slice a44_1 2 c44_1]) hbz hbx))
   have HK8:=we (Go.setRow_heap y b10 _ #[.string ⟨#[103]⟩,.bool false,.slice a44_0 2 c44_0,.slice a44_1 2 c44_1] _ _ hbz)
   have HB8:=we (below_setRow hB hbx #[.string ⟨#[103]⟩,.bool false,.slice a44_0 2 c44_0,.slice a44_1 2 c44_1])
   clear hbz hbx q44 hB
   refine wpList_store_row rfl 47 _ _ rfl b10 #[.string ⟨#[103]⟩,.bool false,.slice a44_0 2 c44_0,.slice a44_1 2 c44_1] rfl rfl 47 _ HZb.out (by kernel_rfl) rfl (by simp [Value.oneCell']) ?_
   clear HZb
   generalize y.setRow b10 #[.string ⟨#[103]⟩,.bool false,.slice a44_0 2 c44_0,.slice a44_1 2 c44_1]=w2 at *
   go_upto_region 9 with (fail)
   refine jp [mpQ (.cells #[] 53) w2.heap.size (fun w v=>jn w ((⟨0,0,⟨#[]⟩,[]⟩:Expr)) v),mpQ (.cells #[] 53) w2.heap.size (fun w v=>XsIs w ([(⟨0,0,⟨#[]⟩,[]⟩:Expr)]) v),mpQ (.cells #[] 53) w2.heap.size (fun w v=>jn w ((⟨2,0,⟨#[114]⟩,[(⟨0,0,⟨#[]⟩,[]⟩:Expr)]⟩:Expr)) v)] (by kernel_rfl) 3 (by decide) _ rfl ?_ ?_
   ·refine ⟨?_,?_,?_,trivial⟩
    ·refine jk rfl rfl fun x1 y hB hF hD=>?_
     clear hB hF
     refine ⟨.agg #[.int .i64 0,.int .u64 0,.string ⟨#[]⟩,.slice none 0 0],?_,fun w' hw=>qe 0 0 ⟨#[]⟩ (l:=[]) (Sl.nil _ _ _ _) (by unfold I64;first|omega|(simp only;omega)) (by unfold U64;first|omega|(simp only;omega)) (by first|decide|(dsimp only;decide))⟩
     simp only [execOp]
     simp [go_sem]
    ·refine jh rfl fun x1 y hB hF hD=>?_
     obtain ⟨d0,-⟩:=hD
     have q45:∀ w',But (.cells #[] 53) w2.heap.size y w'→jn w' ((⟨0,0,⟨#[]⟩,[]⟩:Expr)) (slot x1 45):=d0 rfl
     obtain ⟨a45_0,c45_0,e45,-⟩:=q45 y (But.refl _ _ _)
     have e45:slot x1 45=.agg #[.int .i64 0,.int .u64 0,.string ⟨#[]⟩,.slice a45_0 0 c45_0]:=e45
     have g45:=jd e45
     simp only [e45] at q45
     clear hB hF
     unfold Oper.wp
     simp only [execOp]
     simp [go_sem,g45]
     refine ⟨_,rfl,(Below.refl _ _).alloc (Nat.le_refl _) _,fun w' hw=>?_⟩
     exact z6 zn (hw.new (by simp)) [((⟨0,0,⟨#[]⟩,[]⟩:Expr),_)] ⟨q45 w' hw.of_alloc,trivial⟩ rfl (by simp)
    ·refine jk rfl rfl fun x1 y hB hF hD=>?_
     obtain ⟨d0,-⟩:=hD
     have q46:∀ w',But (.cells #[] 53) w2.heap.size y w'→XsIs w' ([(⟨0,0,⟨#[]⟩,[]⟩:Expr)]) (slot x1 46):=d0 rfl
     obtain ⟨a46_0,c46_0,e46⟩:=zc (q46 y (But.refl _ _ _))
     have e46:slot x1 46=.slice a46_0 1 c46_0:=e46
     have g46:=jd e46
     simp only [e46] at q46
     clear hB hF
     refine ⟨.agg #[.int .i64 2,.int .u64 0,.string ⟨#[114]⟩,.slice a46_0 1 c46_0],?_,fun w' hw=>qe 2 0 ⟨#[114]⟩ (l:=[(⟨0,0,⟨#[]⟩,[]⟩:Expr)]) (q46 w' hw) (by unfold I64;first|omega|(simp only;omega)) (by unfold U64;first|omega|(simp only;omega)) (by first|decide|(dsimp only;decide))⟩
     simp only [execOp]
     simp [go_sem,g46]
   ·intro x1 y9 hB hF hP
    obtain ⟨p0,p1,p2,-⟩:=hP
    have q47:∀ w',But (.cells #[] 53) w2.heap.size y9 w'→jn w' ((⟨2,0,⟨#[114]⟩,[(⟨0,0,⟨#[]⟩,[]⟩:Expr)]⟩:Expr)) (slot x1 47):=p2
    obtain ⟨a47_0,c47_0,e47,-⟩:=q47 y9 (But.refl _ _ _)
    have e47:slot x1 47=.agg #[.int .i64 2,.int .u64 0,.string ⟨#[114]⟩,.slice a47_0 1 c47_0]:=e47
    have g47:=jd e47
    simp only [e47] at q47
    have hx:=jl hF [(45,slot x1 45),(46,slot x1 46),(47,.agg #[.int .i64 2,.int .u64 0,.string ⟨#[114]⟩,.slice a47_0 1 c47_0])] rfl ⟨rfl,rfl,e47,trivial⟩
    clear hF p0 p1 p2
    clear e47 g47
    generalize slot x1 45=u45 at *
    generalize slot x1 46=u46 at *
    subst hx
    simp only [puts,Act.put,wi,wj,wk,wl,wm]
    have HZb:=we (Go.heap_alloc_new y9 (.cells #[.int .i64 0,.int .u64 0,.string ⟨#[]⟩,.slice none 0 0] 53))
    have hq:=below_setRow ((Below.refl y9.heap.size y9).alloc (Nat.le_refl _) (.cells #[.int .i64 0,.int .u64 0,.string ⟨#[]⟩,.slice none 0 0] 53)) (Nat.le_refl _) #[.int .i64 2,.int .u64 0,.string ⟨#[114]⟩,.slice a47_0 1 c47_0]
    have HX9:=we ((q47 y9 (But.refl _ _ _)).below hq)
    have HK9:=we (Go.setRow_heap (y9.alloc (.cells #[.int .i64 0,.int .u64 0,.string ⟨#[]⟩,.slice none 0 0] 53)) y9.heap.size _ #[.int .i64 2,.int .u64 0,.string ⟨#[114]⟩,.slice a47_0 1 c47_0] _ _ HZb.out)
    have HB9:=we (hB.trans (hq.mono hB.size))
    clear hq q47 hB
    go_upto_region 10 with ((refine wpList_store_row rfl 53 _ _ rfl y9.heap.size #[.int .i64 2,.int .u64 0,.string ⟨#[114]⟩,.slice a47_0 1 c47_0] rfl rfl 53 _ HZb.out (by kernel_rfl) rfl (by simp [Value.oneCell']) ?_))
    clear HZb
    generalize (y9.alloc (.cells #[.int .i64 0,.int .u64 0,.string ⟨#[]⟩,.slice none 0 0] 53)).setRow y9.heap.size #[.int .i64 2,.int .u64 0,.string ⟨#[114]⟩,.slice a47_0 1 c47_0]=w3 at *
    generalize y9.heap.size=b11 at *
    refine jp [mpQ (.cells #[.int .i64 0,.int .u64 0,.string ⟨#[]⟩,.slice none 0 0] 53) w3.heap.size (fun w v=>jn w ((⟨1,0,⟨#[112]⟩,[]⟩:Expr)) v),mpQ (.cells #[.int .i64 0,.int .u64 0,.string ⟨#[]⟩,.slice none 0 0] 53) w3.heap.size (fun w v=>jn w ((⟨1,0,⟨#[118]⟩,[]⟩:Expr)) v),mpQ (.cells #[.int .i64 0,.int .u64 0,.string ⟨#[]⟩,.slice none 0 0] 53) w3.heap.size (fun w v=>XsIs w ([(⟨1,0,⟨#[112]⟩,[]⟩:Expr),(⟨1,0,⟨#[118]⟩,[]⟩:Expr)]) v),mpQ (.cells #[.int .i64 0,.int .u64 0,.string ⟨#[]⟩,.slice none 0 0] 53) w3.heap.size (fun w v=>jn w ((⟨5,0,⟨#[103]⟩,[(⟨1,0,⟨#[112]⟩,[]⟩:Expr),(⟨1,0,⟨#[118]⟩,[]⟩:Expr)]⟩:Expr)) v),mpNew w3.heap.size (.cells #[.int .i64 0,.int .u64 0,.string ⟨#[]⟩,.slice none 0 0] 53)] (by kernel_rfl) 5 (by decide) _ rfl ?_ ?_
    ·refine ⟨?_,?_,?_,?_,?_,trivial⟩
     ·refine jo (f:=21) rfl rfl fun x1 y hB hF hD=>⟨#[.string ⟨#[112]⟩],?_,?_⟩
      ·clear hB hF hD
       simp only [execOp]
       simp [go_sem]
      ·refine (qg _ y).mono ?_
       rintro e w1 ⟨rfl,hb⟩
       exact ⟨hb,.inl ⟨_,rfl,fun w' hw=>qe 1 0 ⟨#[112]⟩ (l:=[]) (Sl.nil _ _ _ _) (by unfold I64;first|omega|(simp only;omega)) (by unfold U64;first|omega|(simp only;omega)) (by first|decide|(dsimp only;decide))⟩⟩
     ·refine jo (f:=21) rfl rfl fun x1 y hB hF hD=>⟨#[.string ⟨#[118]⟩],?_,?_⟩
      ·clear hB hF hD
       simp only [execOp]
       simp [go_sem]
      ·refine (qg _ y).mono ?_
       rintro e w1 ⟨rfl,hb⟩
       exact ⟨hb,.inl ⟨_,rfl,fun w' hw=>qe 1 0 ⟨#[118]⟩ (l:=[]) (Sl.nil _ _ _ _) (by unfold I64;first|omega|(simp only;omega)) (by unfold U64;first|omega|(simp only;omega)) (by first|decide|(dsimp only;decide))⟩⟩
     ·refine jh rfl fun x1 y hB hF hD=>?_
      obtain ⟨d0,d1,-⟩:=hD
      have q48:∀ w',But (.cells #[.int .i64 0,.int .u64 0,.string ⟨#[]⟩,.slice none 0 0] 53) w3.heap.size y w'→jn w' ((⟨1,0,⟨#[112]⟩,[]⟩:Expr)) (slot x1 48):=d0 rfl
      obtain ⟨a48_0,c48_0,e48,-⟩:=q48 y (But.refl _ _ _)
      have e48:slot x1 48=.agg #[.int .i64 1,.int .u64 0,.string ⟨#[112]⟩,.slice a48_0 0 c48_0]:=e48
      have g48:=jd e48
      simp only [e48] at q48
      have q49:∀ w',But (.cells #[.int .i64 0,.int .u64 0,.string ⟨#[]⟩,.slice none 0 0] 53) w3.heap.size y w'→jn w' ((⟨1,0,⟨#[118]⟩,[]⟩:Expr)) (slot x1 49):=d1 rfl
      obtain ⟨a49_0,c49_0,e49,-⟩:=q49 y (But.refl _ _ _)
      have e49:slot x1 49=.agg #[.int .i64 1,.int .u64 0,.string ⟨#[118]⟩,.slice a49_0 0 c49_0]:=e49
      have g49:=jd e49
      simp only [e49] at q49
      clear hB hF
      unfold Oper.wp
      simp only [execOp]
      simp [go_sem,g48,g49]
      refine ⟨_,rfl,(Below.refl _ _).alloc (Nat.le_refl _) _,fun w' hw=>?_⟩
      exact z6 zn (hw.new (by simp)) [((⟨1,0,⟨#[112]⟩,[]⟩:Expr),_),((⟨1,0,⟨#[118]⟩,[]⟩:Expr),_)] ⟨q48 w' hw.of_alloc,q49 w' hw.of_alloc,trivial⟩ rfl (by simp)
     ·refine jk rfl rfl fun x1 y hB hF hD=>?_
      obtain ⟨d0,-⟩:=hD
      have q50:∀ w',But (.cells #[.int .i64 0,.int .u64 0,.string ⟨#[]⟩,.slice none 0 0] 53) w3.heap.size y w'→XsIs w' ([(⟨1,0,⟨#[112]⟩,[]⟩:Expr),(⟨1,0,⟨#[118]⟩,[]⟩:Expr)]) (slot x1 50):=d0 rfl
      obtain ⟨a50_0,c50_0,e50⟩:=zc (q50 y (But.refl _ _ _))
      have e50:slot x1 50=.slice a50_0 2 c50_0:=e50
      have g50:=jd e50
      simp only [e50] at q50
      clear hB hF
      refine ⟨.agg #[.int .i64 5,.int .u64 0,.string ⟨#[103]⟩,.slice a50_0 2 c50_0],?_,fun w' hw=>qe 5 0 ⟨#[103]⟩ (l:=[(⟨1,0,⟨#[112]⟩,[]⟩:Expr),(⟨1,0,⟨#[118]⟩,[]⟩:Expr)]) (q50 w' hw) (by unfold I64;first|omega|(simp only;omega)) (by unfold U64;first|omega|(simp only;omega)) (by first|decide|(dsimp only;decide))⟩
      simp only [execOp]
      simp [go_sem,g50]
     ·refine jh rfl fun x1 y hB hF hD=>?_
      unfold Oper.wp
      simp only [execOp]
      simp [go_sem]
      exact ⟨_,rfl,(Below.refl _ _).alloc (Nat.le_refl _) _,y.heap.size,rfl,hB.size,Go.heap_alloc_new y _⟩
    ·intro x1 y hB hF hP
     obtain ⟨p0,p1,p2,p3,p4,-⟩:=hP
     have q51:∀ w',But (.cells #[.int .i64 0,.int .u64 0,.string ⟨#[]⟩,.slice none 0 0] 53) w3.heap.size y w'→jn w' ((⟨5,0,⟨#[103]⟩,[(⟨1,0,⟨#[112]⟩,[]⟩:Expr),(⟨1,0,⟨#[118]⟩,[]⟩:Expr)]⟩:Expr)) (slot x1 51):=p3
     obtain ⟨a51_0,c51_0,e51,-⟩:=q51 y (But.refl _ _ _)
     have e51:slot x1 51=.agg #[.int .i64 5,.int .u64 0,.string ⟨#[103]⟩,.slice a51_0 2 c51_0]:=e51
     have g51:=jd e51
     simp only [e51] at q51
     obtain ⟨b12,ex,hbx,hbz⟩:=p4
     have ex:slot x1 12=.pointer (some ⟨b12,0,none⟩):=ex
     have hx:=jl hF [(48,slot x1 48),(49,slot x1 49),(50,slot x1 50),(51,.agg #[.int .i64 5,.int .u64 0,.string ⟨#[103]⟩,.slice a51_0 2 c51_0]),(12,.pointer (some ⟨b12,0,none⟩))] rfl ⟨rfl,rfl,rfl,e51,ex,trivial⟩
     clear hF p0 p1 p2 p3
     clear e51 g51
     generalize slot x1 48=u48 at *
     generalize slot x1 49=u49 at *
     generalize slot x1 50=u50 at *
     subst hx
     simp only [puts,Act.put,wi,wj,wk,wl,wm]
     have HZb:=we hbz
     have HX10:=we (q51 _ (But.setRow (cs:=#[.int .i64 5,.int .u64 0,.string ⟨#[103]⟩,.slice a51_0 2 c51_0]) hbz hbx))
     have HK10:=we (Go.setRow_heap y b12 _ #[.int .i64 5,.int .u64 0,.string ⟨#[103]⟩,.slice a51_0 2 c51_0] _ _ hbz)
     have HB10:=we (below_setRow hB hbx #[.int .i64 5,.int .u64 0,.string ⟨#[103]⟩,.slice a51_0 2 c51_0])
     clear hbz hbx q51 hB
     refine wpList_store_row rfl 53 _ _ rfl b12 #[.int .i64 5,.int .u64 0,.string ⟨#[103]⟩,.slice a51_0 2 c51_0] rfl rfl 53 _ HZb.out (by kernel_rfl) rfl (by simp [Value.oneCell']) ?_
     clear HZb
     generalize y.setRow b12 #[.int .i64 5,.int .u64 0,.string ⟨#[103]⟩,.slice a51_0 2 c51_0]=w4 at *
     have hb94:=HB10.out
     have hb84:=HB9.out.trans (hb94.mono HB9.out.size)
     have HK94:=we (jm hb94 HK9.out)
     have HX94:=we (HX9.out.below hb94)
     have HK84:=we (jm hb84 HK8.out)
     have HX84:=we (HX8.out.below hb84)
     have HB4:=we (HB1.out.trans ((HB8.out.trans (hb84.mono HB8.out.size)).mono HB1.out.size))
     clear hb94 hb84 HK8 HX8 HK9 HX9 HB1 HB8 HB9 HB10
     go_upto_region 11 with (fail)
     refine jp [mpQ (.cells #[.slice none 0 0,.slice none 0 0] 25) w4.heap.size (fun w v=>kn w ((⟨⟨#[103]⟩,false,[(⟨⟨#[113]⟩,2,2⟩:jj),(⟨⟨#[118]⟩,0,0⟩:jj)],[(⟨1,⟨#[113]⟩,0,[(⟨0,1,⟨#[]⟩,[]⟩:Expr),(⟨1,0,⟨#[118]⟩,[]⟩:Expr)],[],[]⟩:Stmt),(⟨4,⟨#[]⟩,0,[(⟨0,0,⟨#[]⟩,[]⟩:Expr)],[],[]⟩:Stmt)]⟩:Fun)) v),mpQ (.cells #[.slice none 0 0,.slice none 0 0] 25) w4.heap.size (fun w v=>qj w ((⟨⟨#[112]⟩,2,2⟩:jj)) v),mpQ (.cells #[.slice none 0 0,.slice none 0 0] 25) w4.heap.size (fun w v=>qj w ((⟨⟨#[114]⟩,2,1⟩:jj)) v),mpQ (.cells #[.slice none 0 0,.slice none 0 0] 25) w4.heap.size (fun w v=>qj w ((⟨⟨#[118]⟩,0,0⟩:jj)) v),mpQ (.cells #[.slice none 0 0,.slice none 0 0] 25) w4.heap.size (fun w v=>PsIs w ([(⟨⟨#[112]⟩,2,2⟩:jj),(⟨⟨#[114]⟩,2,1⟩:jj),(⟨⟨#[118]⟩,0,0⟩:jj)]) v),mpQ (.cells #[.slice none 0 0,.slice none 0 0] 25) w4.heap.size (fun w v=>jn w ((⟨5,0,⟨#[103]⟩,[(⟨1,0,⟨#[112]⟩,[]⟩:Expr),(⟨1,0,⟨#[118]⟩,[]⟩:Expr)]⟩:Expr)) v),mpQ (.cells #[.slice none 0 0,.slice none 0 0] 25) w4.heap.size (fun w v=>XsIs w ([(⟨5,0,⟨#[103]⟩,[(⟨1,0,⟨#[112]⟩,[]⟩:Expr),(⟨1,0,⟨#[118]⟩,[]⟩:Expr)]⟩:Expr)]) v),mpQ (.cells #[.slice none 0 0,.slice none 0 0] 25) w4.heap.size (fun w v=>zy w ((⟨0,⟨#[120]⟩,0,[(⟨5,0,⟨#[103]⟩,[(⟨1,0,⟨#[112]⟩,[]⟩:Expr),(⟨1,0,⟨#[118]⟩,[]⟩:Expr)]⟩:Expr)],[],[]⟩:Stmt)) v),mpQ (.cells #[.slice none 0 0,.slice none 0 0] 25) w4.heap.size (fun w v=>jn w ((⟨2,0,⟨#[114]⟩,[(⟨0,0,⟨#[]⟩,[]⟩:Expr)]⟩:Expr)) v),mpQ (.cells #[.slice none 0 0,.slice none 0 0] 25) w4.heap.size (fun w v=>XsIs w ([(⟨2,0,⟨#[114]⟩,[(⟨0,0,⟨#[]⟩,[]⟩:Expr)]⟩:Expr)]) v),mpQ (.cells #[.slice none 0 0,.slice none 0 0] 25) w4.heap.size (fun w v=>zy w ((⟨4,⟨#[]⟩,0,[(⟨2,0,⟨#[114]⟩,[(⟨0,0,⟨#[]⟩,[]⟩:Expr)]⟩:Expr)],[],[]⟩:Stmt)) v),mpQ (.cells #[.slice none 0 0,.slice none 0 0] 25) w4.heap.size (fun w v=>SsIs w ([(⟨0,⟨#[120]⟩,0,[(⟨5,0,⟨#[103]⟩,[(⟨1,0,⟨#[112]⟩,[]⟩:Expr),(⟨1,0,⟨#[118]⟩,[]⟩:Expr)]⟩:Expr)],[],[]⟩:Stmt),(⟨4,⟨#[]⟩,0,[(⟨2,0,⟨#[114]⟩,[(⟨0,0,⟨#[]⟩,[]⟩:Expr)]⟩:Expr)],[],[]⟩:Stmt)]) v),mpQ (.cells #[.slice none 0 0,.slice none 0 0] 25) w4.heap.size (fun w v=>kn w ((⟨⟨#[102]⟩,true,[(⟨⟨#[112]⟩,2,2⟩:jj),(⟨⟨#[114]⟩,2,1⟩:jj),(⟨⟨#[118]⟩,0,0⟩:jj)],[(⟨0,⟨#[120]⟩,0,[(⟨5,0,⟨#[103]⟩,[(⟨1,0,⟨#[112]⟩,[]⟩:Expr),(⟨1,0,⟨#[118]⟩,[]⟩:Expr)]⟩:Expr)],[],[]⟩:Stmt),(⟨4,⟨#[]⟩,0,[(⟨2,0,⟨#[114]⟩,[(⟨0,0,⟨#[]⟩,[]⟩:Expr)]⟩:Expr)],[],[]⟩:Stmt)]⟩:Fun)) v),mpQ (.cells #[.slice none 0 0,.slice none 0 0] 25) w4.heap.size (fun w v=>FsIs w ([(⟨⟨#[103]⟩,false,[(⟨⟨#[113]⟩,2,2⟩:jj),(⟨⟨#[118]⟩,0,0⟩:jj)],[(⟨1,⟨#[113]⟩,0,[(⟨0,1,⟨#[]⟩,[]⟩:Expr),(⟨1,0,⟨#[118]⟩,[]⟩:Expr)],[],[]⟩:Stmt),(⟨4,⟨#[]⟩,0,[(⟨0,0,⟨#[]⟩,[]⟩:Expr)],[],[]⟩:Stmt)]⟩:Fun),(⟨⟨#[102]⟩,true,[(⟨⟨#[112]⟩,2,2⟩:jj),(⟨⟨#[114]⟩,2,1⟩:jj),(⟨⟨#[118]⟩,0,0⟩:jj)],[(⟨0,⟨#[120]⟩,0,[(⟨5,0,⟨#[103]⟩,[(⟨1,0,⟨#[112]⟩,[]⟩:Expr),(⟨1,0,⟨#[118]⟩,[]⟩:Expr)]⟩:Expr)],[],[]⟩:Stmt),(⟨4,⟨#[]⟩,0,[(⟨2,0,⟨#[114]⟩,[(⟨0,0,⟨#[]⟩,[]⟩:Expr)]⟩:Expr)],[],[]⟩:Stmt)]⟩:Fun)]) v),mpQ (.cells #[.slice none 0 0,.slice none 0 0] 25) w4.heap.size (fun w v=>yj w ((⟨[],[(⟨⟨#[103]⟩,false,[(⟨⟨#[113]⟩,2,2⟩:jj),(⟨⟨#[118]⟩,0,0⟩:jj)],[(⟨1,⟨#[113]⟩,0,[(⟨0,1,⟨#[]⟩,[]⟩:Expr),(⟨1,0,⟨#[118]⟩,[]⟩:Expr)],[],[]⟩:Stmt),(⟨4,⟨#[]⟩,0,[(⟨0,0,⟨#[]⟩,[]⟩:Expr)],[],[]⟩:Stmt)]⟩:Fun),(⟨⟨#[102]⟩,true,[(⟨⟨#[112]⟩,2,2⟩:jj),(⟨⟨#[114]⟩,2,1⟩:jj),(⟨⟨#[118]⟩,0,0⟩:jj)],[(⟨0,⟨#[120]⟩,0,[(⟨5,0,⟨#[103]⟩,[(⟨1,0,⟨#[112]⟩,[]⟩:Expr),(⟨1,0,⟨#[118]⟩,[]⟩:Expr)]⟩:Expr)],[],[]⟩:Stmt),(⟨4,⟨#[]⟩,0,[(⟨2,0,⟨#[114]⟩,[(⟨0,0,⟨#[]⟩,[]⟩:Expr)]⟩:Expr)],[],[]⟩:Stmt)]⟩:Fun)]⟩:Src)) v),mpNew w4.heap.size (.cells #[.slice none 0 0,.slice none 0 0] 25)] (by kernel_rfl) 16 (by decide) _ rfl ?_ ?_
     ·refine ⟨?_,?_,?_,?_,?_,?_,?_,?_,?_,?_,?_,?_,?_,?_,?_,?_,trivial⟩
      ·refine jk rfl rfl fun x1 y hB hF hD=>?_
       have e10:slot x1 10=.pointer (some ⟨b10,0,none⟩):=hF.at 10 rfl
       have hb:=jm hB HK84.out
       refine ⟨.agg #[.string ⟨#[103]⟩,.bool false,.slice a44_0 2 c44_0,.slice a44_1 2 c44_1],?_,fun w' hw=>HX84.out.below (hw.base hB (Nat.le_refl _))⟩
       clear hB hF
       simp only [execOp,ja,e10]
       simp [zr y _ _ 47 _ _ _ hb Tryz.underlying47 rfl (by kernel_rfl),Result.andThen]
      ·refine jk rfl rfl fun x1 y hB hF hD=>?_
       clear hB hF
       refine ⟨.agg #[.string ⟨#[112]⟩,.int .i64 2,.int .i64 2],?_,fun w' hw=>⟨rfl,(by first|decide|(dsimp only;decide)),(by unfold I64;first|omega|(simp only;omega)),(by unfold I64;first|omega|(simp only;omega))⟩⟩
       simp only [execOp]
       simp [go_sem]
      ·refine jk rfl rfl fun x1 y hB hF hD=>?_
       clear hB hF
       refine ⟨.agg #[.string ⟨#[114]⟩,.int .i64 2,.int .i64 1],?_,fun w' hw=>⟨rfl,(by first|decide|(dsimp only;decide)),(by unfold I64;first|omega|(simp only;omega)),(by unfold I64;first|omega|(simp only;omega))⟩⟩
       simp only [execOp]
       simp [go_sem]
      ·refine jk rfl rfl fun x1 y hB hF hD=>?_
       clear hB hF
       refine ⟨.agg #[.string ⟨#[118]⟩,.int .i64 0,.int .i64 0],?_,fun w' hw=>⟨rfl,(by first|decide|(dsimp only;decide)),(by unfold I64;first|omega|(simp only;omega)),(by unfold I64;first|omega|(simp only;omega))⟩⟩
       simp only [execOp]
       simp [go_sem]
      ·refine jh rfl fun x1 y hB hF hD=>?_
       obtain ⟨d0,d1,d2,-⟩:=hD
       have q53:∀ w',But (.cells #[.slice none 0 0,.slice none 0 0] 25) w4.heap.size y w'→qj w' ((⟨⟨#[112]⟩,2,2⟩:jj)) (slot x1 53):=d0 rfl
       obtain ⟨e53,-⟩:=q53 y (But.refl _ _ _)
       have e53:slot x1 53=.agg #[.string ⟨#[112]⟩,.int .i64 2,.int .i64 2]:=e53
       have g53:=jd e53
       simp only [e53] at q53
       have q54:∀ w',But (.cells #[.slice none 0 0,.slice none 0 0] 25) w4.heap.size y w'→qj w' ((⟨⟨#[114]⟩,2,1⟩:jj)) (slot x1 54):=d1 rfl
       obtain ⟨e54,-⟩:=q54 y (But.refl _ _ _)
       have e54:slot x1 54=.agg #[.string ⟨#[114]⟩,.int .i64 2,.int .i64 1]:=e54
       have g54:=jd e54
       simp only [e54] at q54
       have q55:∀ w',But (.cells #[.slice none 0 0,.slice none 0 0] 25) w4.heap.size y w'→qj w' ((⟨⟨#[118]⟩,0,0⟩:jj)) (slot x1 55):=d2 rfl
       obtain ⟨e55,-⟩:=q55 y (But.refl _ _ _)
       have e55:slot x1 55=.agg #[.string ⟨#[118]⟩,.int .i64 0,.int .i64 0]:=e55
       have g55:=jd e55
       simp only [e55] at q55
       clear hB hF
       unfold Oper.wp
       simp only [execOp]
       simp [go_sem,g53,g54,g55]
       refine ⟨_,rfl,(Below.refl _ _).alloc (Nat.le_refl _) _,fun w' hw=>?_⟩
       exact z6 paramAt_of (hw.new (by simp)) [((⟨⟨#[112]⟩,2,2⟩:jj),_),((⟨⟨#[114]⟩,2,1⟩:jj),_),((⟨⟨#[118]⟩,0,0⟩:jj),_)] ⟨q53 w' hw.of_alloc,q54 w' hw.of_alloc,q55 w' hw.of_alloc,trivial⟩ rfl (by simp)
      ·refine jk rfl rfl fun x1 y hB hF hD=>?_
       have e12:slot x1 12=.pointer (some ⟨b12,0,none⟩):=hF.at 12 rfl
       have hb:=jm hB HK10.out
       refine ⟨.agg #[.int .i64 5,.int .u64 0,.string ⟨#[103]⟩,.slice a51_0 2 c51_0],?_,fun w' hw=>HX10.out.below (hw.base hB (Nat.le_refl _))⟩
       clear hB hF
       simp only [execOp,ja,e12]
       simp [zr y _ _ 53 _ _ _ hb Tryz.underlying53 rfl (by kernel_rfl),Result.andThen]
      ·refine jh rfl fun x1 y hB hF hD=>?_
       obtain ⟨d0,-⟩:=hD
       have q57:∀ w',But (.cells #[.slice none 0 0,.slice none 0 0] 25) w4.heap.size y w'→jn w' ((⟨5,0,⟨#[103]⟩,[(⟨1,0,⟨#[112]⟩,[]⟩:Expr),(⟨1,0,⟨#[118]⟩,[]⟩:Expr)]⟩:Expr)) (slot x1 57):=d0 rfl
       obtain ⟨a57_0,c57_0,e57,-⟩:=q57 y (But.refl _ _ _)
       have e57:slot x1 57=.agg #[.int .i64 5,.int .u64 0,.string ⟨#[103]⟩,.slice a57_0 2 c57_0]:=e57
       have g57:=jd e57
       simp only [e57] at q57
       clear hB hF
       unfold Oper.wp
       simp only [execOp]
       simp [go_sem,g57]
       refine ⟨_,rfl,(Below.refl _ _).alloc (Nat.le_refl _) _,fun w' hw=>?_⟩
       exact z6 zn (hw.new (by simp)) [((⟨5,0,⟨#[103]⟩,[(⟨1,0,⟨#[112]⟩,[]⟩:Expr),(⟨1,0,⟨#[118]⟩,[]⟩:Expr)]⟩:Expr),_)] ⟨q57 w' hw.of_alloc,trivial⟩ rfl (by simp)
      ·refine jk rfl rfl fun x1 y hB hF hD=>?_
       obtain ⟨d0,-⟩:=hD
       have q58:∀ w',But (.cells #[.slice none 0 0,.slice none 0 0] 25) w4.heap.size y w'→XsIs w' ([(⟨5,0,⟨#[103]⟩,[(⟨1,0,⟨#[112]⟩,[]⟩:Expr),(⟨1,0,⟨#[118]⟩,[]⟩:Expr)]⟩:Expr)]) (slot x1 58):=d0 rfl
       obtain ⟨a58_0,c58_0,e58⟩:=zc (q58 y (But.refl _ _ _))
       have e58:slot x1 58=.slice a58_0 1 c58_0:=e58
       have g58:=jd e58
       simp only [e58] at q58
       clear hB hF
       refine ⟨.agg #[.int .i64 0,.string ⟨#[120]⟩,.int .i64 0,.slice a58_0 1 c58_0,.slice none 0 0,.slice none 0 0],?_,fun w' hw=>xf 0 0 ⟨#[120]⟩ (l:=[(⟨5,0,⟨#[103]⟩,[(⟨1,0,⟨#[112]⟩,[]⟩:Expr),(⟨1,0,⟨#[118]⟩,[]⟩:Expr)]⟩:Expr)]) (t:=[]) (e:=[]) (q58 w' hw) (Sl.nil _ _ _ _) (Sl.nil _ _ _ _) (by unfold I64;first|omega|(simp only;omega)) (by unfold I64;first|omega|(simp only;omega)) (by first|decide|(dsimp only;decide))⟩
       simp only [execOp]
       simp [go_sem,g58]
      ·refine jk rfl rfl fun x1 y hB hF hD=>?_
       have e11:slot x1 11=.pointer (some ⟨b11,0,none⟩):=hF.at 11 rfl
       have hb:=jm hB HK94.out
       refine ⟨.agg #[.int .i64 2,.int .u64 0,.string ⟨#[114]⟩,.slice a47_0 1 c47_0],?_,fun w' hw=>HX94.out.below (hw.base hB (Nat.le_refl _))⟩
       clear hB hF
       simp only [execOp,ja,e11]
       simp [zr y _ _ 53 _ _ _ hb Tryz.underlying53 rfl (by kernel_rfl),Result.andThen]
      ·refine jh rfl fun x1 y hB hF hD=>?_
       obtain ⟨d0,-⟩:=hD
       have q60:∀ w',But (.cells #[.slice none 0 0,.slice none 0 0] 25) w4.heap.size y w'→jn w' ((⟨2,0,⟨#[114]⟩,[(⟨0,0,⟨#[]⟩,[]⟩:Expr)]⟩:Expr)) (slot x1 60):=d0 rfl
       obtain ⟨a60_0,c60_0,e60,-⟩:=q60 y (But.refl _ _ _)
       have e60:slot x1 60=.agg #[.int .i64 2,.int .u64 0,.string ⟨#[114]⟩,.slice a60_0 1 c60_0]:=e60
       have g60:=jd e60
       simp only [e60] at q60
       clear hB hF
       unfold Oper.wp
       simp only [execOp]
       simp [go_sem,g60]
       refine ⟨_,rfl,(Below.refl _ _).alloc (Nat.le_refl _) _,fun w' hw=>?_⟩
       exact z6 zn (hw.new (by simp)) [((⟨2,0,⟨#[114]⟩,[(⟨0,0,⟨#[]⟩,[]⟩:Expr)]⟩:Expr),_)] ⟨q60 w' hw.of_alloc,trivial⟩ rfl (by simp)
      ·refine jk rfl rfl fun x1 y hB hF hD=>?_
       obtain ⟨d0,-⟩:=hD
       have q61:∀ w',But (.cells #[.slice none 0 0,.slice none 0 0] 25) w4.heap.size y w'→XsIs w' ([(⟨2,0,⟨#[114]⟩,[(⟨0,0,⟨#[]⟩,[]⟩:Expr)]⟩:Expr)]) (slot x1 61):=d0 rfl
       obtain ⟨a61_0,c61_0,e61⟩:=zc (q61 y (But.refl _ _ _))
       have e61:slot x1 61=.slice a61_0 1 c61_0:=e61
       have g61:=jd e61
       simp only [e61] at q61
       clear hB hF
       refine ⟨.agg #[.int .i64 4,.string ⟨#[]⟩,.int .i64 0,.slice a61_0 1 c61_0,.slice none 0 0,.slice none 0 0],?_,fun w' hw=>xf 4 0 ⟨#[]⟩ (l:=[(⟨2,0,⟨#[114]⟩,[(⟨0,0,⟨#[]⟩,[]⟩:Expr)]⟩:Expr)]) (t:=[]) (e:=[]) (q61 w' hw) (Sl.nil _ _ _ _) (Sl.nil _ _ _ _) (by unfold I64;first|omega|(simp only;omega)) (by unfold I64;first|omega|(simp only;omega)) (by first|decide|(dsimp only;decide))⟩
       simp only [execOp]
       simp [go_sem,g61]
      ·refine jh rfl fun x1 y hB hF hD=>?_
       obtain ⟨d0,d1,-⟩:=hD
       have q59:∀ w',But (.cells #[.slice none 0 0,.slice none 0 0] 25) w4.heap.size y w'→zy w' ((⟨0,⟨#[120]⟩,0,[(⟨5,0,⟨#[103]⟩,[(⟨1,0,⟨#[112]⟩,[]⟩:Expr),(⟨1,0,⟨#[118]⟩,[]⟩:Expr)]⟩:Expr)],[],[]⟩:Stmt)) (slot x1 59):=d0 rfl
       obtain ⟨a59_0,c59_0,a59_1,c59_1,a59_2,c59_2,e59,-⟩:=q59 y (But.refl _ _ _)
       have e59:slot x1 59=.agg #[.int .i64 0,.string ⟨#[120]⟩,.int .i64 0,.slice a59_0 1 c59_0,.slice a59_1 0 c59_1,.slice a59_2 0 c59_2]:=e59
       have g59:=jd e59
       simp only [e59] at q59
       have q62:∀ w',But (.cells #[.slice none 0 0,.slice none 0 0] 25) w4.heap.size y w'→zy w' ((⟨4,⟨#[]⟩,0,[(⟨2,0,⟨#[114]⟩,[(⟨0,0,⟨#[]⟩,[]⟩:Expr)]⟩:Expr)],[],[]⟩:Stmt)) (slot x1 62):=d1 rfl
       obtain ⟨a62_0,c62_0,a62_1,c62_1,a62_2,c62_2,e62,-⟩:=q62 y (But.refl _ _ _)
       have e62:slot x1 62=.agg #[.int .i64 4,.string ⟨#[]⟩,.int .i64 0,.slice a62_0 1 c62_0,.slice a62_1 0 c62_1,.slice a62_2 0 c62_2]:=e62
       have g62:=jd e62
       simp only [e62] at q62
       clear hB hF
       unfold Oper.wp
       simp only [execOp]
       simp [go_sem,g59,g62]
       refine ⟨_,rfl,(Below.refl _ _).alloc (Nat.le_refl _) _,fun w' hw=>?_⟩
       exact z6 kr (hw.new (by simp)) [((⟨0,⟨#[120]⟩,0,[(⟨5,0,⟨#[103]⟩,[(⟨1,0,⟨#[112]⟩,[]⟩:Expr),(⟨1,0,⟨#[118]⟩,[]⟩:Expr)]⟩:Expr)],[],[]⟩:Stmt),_),((⟨4,⟨#[]⟩,0,[(⟨2,0,⟨#[114]⟩,[(⟨0,0,⟨#[]⟩,[]⟩:Expr)]⟩:Expr)],[],[]⟩:Stmt),_)] ⟨q59 w' hw.of_alloc,q62 w' hw.of_alloc,trivial⟩ rfl (by simp)
      ·refine jk rfl rfl fun x1 y hB hF hD=>?_
       obtain ⟨d0,d1,-⟩:=hD
       have q56:∀ w',But (.cells #[.slice none 0 0,.slice none 0 0] 25) w4.heap.size y w'→PsIs w' ([(⟨⟨#[112]⟩,2,2⟩:jj),(⟨⟨#[114]⟩,2,1⟩:jj),(⟨⟨#[118]⟩,0,0⟩:jj)]) (slot x1 56):=d0 rfl
       obtain ⟨a56_0,c56_0,e56⟩:=zc (q56 y (But.refl _ _ _))
       have e56:slot x1 56=.slice a56_0 3 c56_0:=e56
       have g56:=jd e56
       simp only [e56] at q56
       have q63:∀ w',But (.cells #[.slice none 0 0,.slice none 0 0] 25) w4.heap.size y w'→SsIs w' ([(⟨0,⟨#[120]⟩,0,[(⟨5,0,⟨#[103]⟩,[(⟨1,0,⟨#[112]⟩,[]⟩:Expr),(⟨1,0,⟨#[118]⟩,[]⟩:Expr)]⟩:Expr)],[],[]⟩:Stmt),(⟨4,⟨#[]⟩,0,[(⟨2,0,⟨#[114]⟩,[(⟨0,0,⟨#[]⟩,[]⟩:Expr)]⟩:Expr)],[],[]⟩:Stmt)]) (slot x1 63):=d1 rfl
       obtain ⟨a63_0,c63_0,e63⟩:=zc (q63 y (But.refl _ _ _))
       have e63:slot x1 63=.slice a63_0 2 c63_0:=e63
       have g63:=jd e63
       simp only [e63] at q63
       clear hB hF
       refine ⟨.agg #[.string ⟨#[102]⟩,.bool true,.slice a56_0 3 c56_0,.slice a63_0 2 c63_0],?_,fun w' hw=>fun_mk ⟨#[102]⟩ true (ps:=[(⟨⟨#[112]⟩,2,2⟩:jj),(⟨⟨#[114]⟩,2,1⟩:jj),(⟨⟨#[118]⟩,0,0⟩:jj)]) (b:=[(⟨0,⟨#[120]⟩,0,[(⟨5,0,⟨#[103]⟩,[(⟨1,0,⟨#[112]⟩,[]⟩:Expr),(⟨1,0,⟨#[118]⟩,[]⟩:Expr)]⟩:Expr)],[],[]⟩:Stmt),(⟨4,⟨#[]⟩,0,[(⟨2,0,⟨#[114]⟩,[(⟨0,0,⟨#[]⟩,[]⟩:Expr)]⟩:Expr)],[],[]⟩:Stmt)]) (q56 w' hw) (q63 w' hw) (by first|decide|(dsimp only;decide))⟩
       simp only [execOp]
       simp [go_sem,g56,g63]
      ·refine jh rfl fun x1 y hB hF hD=>?_
       obtain ⟨d0,d1,-⟩:=hD
       have q52:∀ w',But (.cells #[.slice none 0 0,.slice none 0 0] 25) w4.heap.size y w'→kn w' ((⟨⟨#[103]⟩,false,[(⟨⟨#[113]⟩,2,2⟩:jj),(⟨⟨#[118]⟩,0,0⟩:jj)],[(⟨1,⟨#[113]⟩,0,[(⟨0,1,⟨#[]⟩,[]⟩:Expr),(⟨1,0,⟨#[118]⟩,[]⟩:Expr)],[],[]⟩:Stmt),(⟨4,⟨#[]⟩,0,[(⟨0,0,⟨#[]⟩,[]⟩:Expr)],[],[]⟩:Stmt)]⟩:Fun)) (slot x1 52):=d0 rfl
       obtain ⟨a52_0,c52_0,a52_1,c52_1,e52,-⟩:=q52 y (But.refl _ _ _)
       have e52:slot x1 52=.agg #[.string ⟨#[103]⟩,.bool false,.slice a52_0 2 c52_0,.slice a52_1 2 c52_1]:=e52
       have g52:=jd e52
       simp only [e52] at q52
       have q64:∀ w',But (.cells #[.slice none 0 0,.slice none 0 0] 25) w4.heap.size y w'→kn w' ((⟨⟨#[102]⟩,true,[(⟨⟨#[112]⟩,2,2⟩:jj),(⟨⟨#[114]⟩,2,1⟩:jj),(⟨⟨#[118]⟩,0,0⟩:jj)],[(⟨0,⟨#[120]⟩,0,[(⟨5,0,⟨#[103]⟩,[(⟨1,0,⟨#[112]⟩,[]⟩:Expr),(⟨1,0,⟨#[118]⟩,[]⟩:Expr)]⟩:Expr)],[],[]⟩:Stmt),(⟨4,⟨#[]⟩,0,[(⟨2,0,⟨#[114]⟩,[(⟨0,0,⟨#[]⟩,[]⟩:Expr)]⟩:Expr)],[],[]⟩:Stmt)]⟩:Fun)) (slot x1 64):=d1 rfl
       obtain ⟨a64_0,c64_0,a64_1,c64_1,e64,-⟩:=q64 y (But.refl _ _ _)
       have e64:slot x1 64=.agg #[.string ⟨#[102]⟩,.bool true,.slice a64_0 3 c64_0,.slice a64_1 2 c64_1]:=e64
       have g64:=jd e64
       simp only [e64] at q64
       clear hB hF
       unfold Oper.wp
       simp only [execOp]
       simp [go_sem,g52,g64]
       refine ⟨_,rfl,(Below.refl _ _).alloc (Nat.le_refl _) _,fun w' hw=>?_⟩
       exact z6 funAt_of (hw.new (by simp)) [((⟨⟨#[103]⟩,false,[(⟨⟨#[113]⟩,2,2⟩:jj),(⟨⟨#[118]⟩,0,0⟩:jj)],[(⟨1,⟨#[113]⟩,0,[(⟨0,1,⟨#[]⟩,[]⟩:Expr),(⟨1,0,⟨#[118]⟩,[]⟩:Expr)],[],[]⟩:Stmt),(⟨4,⟨#[]⟩,0,[(⟨0,0,⟨#[]⟩,[]⟩:Expr)],[],[]⟩:Stmt)]⟩:Fun),_),((⟨⟨#[102]⟩,true,[(⟨⟨#[112]⟩,2,2⟩:jj),(⟨⟨#[114]⟩,2,1⟩:jj),(⟨⟨#[118]⟩,0,0⟩:jj)],[(⟨0,⟨#[120]⟩,0,[(⟨5,0,⟨#[103]⟩,[(⟨1,0,⟨#[112]⟩,[]⟩:Expr),(⟨1,0,⟨#[118]⟩,[]⟩:Expr)]⟩:Expr)],[],[]⟩:Stmt),(⟨4,⟨#[]⟩,0,[(⟨2,0,⟨#[114]⟩,[(⟨0,0,⟨#[]⟩,[]⟩:Expr)]⟩:Expr)],[],[]⟩:Stmt)]⟩:Fun),_)] ⟨q52 w' hw.of_alloc,q64 w' hw.of_alloc,trivial⟩ rfl (by simp)
      ·refine jk rfl rfl fun x1 y hB hF hD=>?_
       obtain ⟨d0,-⟩:=hD
       have q65:∀ w',But (.cells #[.slice none 0 0,.slice none 0 0] 25) w4.heap.size y w'→FsIs w' ([(⟨⟨#[103]⟩,false,[(⟨⟨#[113]⟩,2,2⟩:jj),(⟨⟨#[118]⟩,0,0⟩:jj)],[(⟨1,⟨#[113]⟩,0,[(⟨0,1,⟨#[]⟩,[]⟩:Expr),(⟨1,0,⟨#[118]⟩,[]⟩:Expr)],[],[]⟩:Stmt),(⟨4,⟨#[]⟩,0,[(⟨0,0,⟨#[]⟩,[]⟩:Expr)],[],[]⟩:Stmt)]⟩:Fun),(⟨⟨#[102]⟩,true,[(⟨⟨#[112]⟩,2,2⟩:jj),(⟨⟨#[114]⟩,2,1⟩:jj),(⟨⟨#[118]⟩,0,0⟩:jj)],[(⟨0,⟨#[120]⟩,0,[(⟨5,0,⟨#[103]⟩,[(⟨1,0,⟨#[112]⟩,[]⟩:Expr),(⟨1,0,⟨#[118]⟩,[]⟩:Expr)]⟩:Expr)],[],[]⟩:Stmt),(⟨4,⟨#[]⟩,0,[(⟨2,0,⟨#[114]⟩,[(⟨0,0,⟨#[]⟩,[]⟩:Expr)]⟩:Expr)],[],[]⟩:Stmt)]⟩:Fun)]) (slot x1 65):=d0 rfl
       obtain ⟨a65_0,c65_0,e65⟩:=zc (q65 y (But.refl _ _ _))
       have e65:slot x1 65=.slice a65_0 2 c65_0:=e65
       have g65:=jd e65
       simp only [e65] at q65
       clear hB hF
       refine ⟨.agg #[.slice none 0 0,.slice a65_0 2 c65_0],?_,fun w' hw=>src_mk (l:=[]) (fs:=[(⟨⟨#[103]⟩,false,[(⟨⟨#[113]⟩,2,2⟩:jj),(⟨⟨#[118]⟩,0,0⟩:jj)],[(⟨1,⟨#[113]⟩,0,[(⟨0,1,⟨#[]⟩,[]⟩:Expr),(⟨1,0,⟨#[118]⟩,[]⟩:Expr)],[],[]⟩:Stmt),(⟨4,⟨#[]⟩,0,[(⟨0,0,⟨#[]⟩,[]⟩:Expr)],[],[]⟩:Stmt)]⟩:Fun),(⟨⟨#[102]⟩,true,[(⟨⟨#[112]⟩,2,2⟩:jj),(⟨⟨#[114]⟩,2,1⟩:jj),(⟨⟨#[118]⟩,0,0⟩:jj)],[(⟨0,⟨#[120]⟩,0,[(⟨5,0,⟨#[103]⟩,[(⟨1,0,⟨#[112]⟩,[]⟩:Expr),(⟨1,0,⟨#[118]⟩,[]⟩:Expr)]⟩:Expr)],[],[]⟩:Stmt),(⟨4,⟨#[]⟩,0,[(⟨2,0,⟨#[114]⟩,[(⟨0,0,⟨#[]⟩,[]⟩:Expr)]⟩:Expr)],[],[]⟩:Stmt)]⟩:Fun)]) (Sl.nil _ _ _ _) (q65 w' hw)⟩
       simp only [execOp]
       simp [go_sem,g65]
      ·refine jh rfl fun x1 y hB hF hD=>?_
       unfold Oper.wp
       simp only [execOp]
       simp [go_sem]
       exact ⟨_,rfl,(Below.refl _ _).alloc (Nat.le_refl _) _,y.heap.size,rfl,hB.size,Go.heap_alloc_new y _⟩
     ·intro x1 y hB hF hP
      obtain ⟨p0,p1,p2,p3,p4,p5,p6,p7,p8,p9,p10,p11,p12,p13,p14,p15,-⟩:=hP
      have q66:∀ w',But (.cells #[.slice none 0 0,.slice none 0 0] 25) w4.heap.size y w'→yj w' ((⟨[],[(⟨⟨#[103]⟩,false,[(⟨⟨#[113]⟩,2,2⟩:jj),(⟨⟨#[118]⟩,0,0⟩:jj)],[(⟨1,⟨#[113]⟩,0,[(⟨0,1,⟨#[]⟩,[]⟩:Expr),(⟨1,0,⟨#[118]⟩,[]⟩:Expr)],[],[]⟩:Stmt),(⟨4,⟨#[]⟩,0,[(⟨0,0,⟨#[]⟩,[]⟩:Expr)],[],[]⟩:Stmt)]⟩:Fun),(⟨⟨#[102]⟩,true,[(⟨⟨#[112]⟩,2,2⟩:jj),(⟨⟨#[114]⟩,2,1⟩:jj),(⟨⟨#[118]⟩,0,0⟩:jj)],[(⟨0,⟨#[120]⟩,0,[(⟨5,0,⟨#[103]⟩,[(⟨1,0,⟨#[112]⟩,[]⟩:Expr),(⟨1,0,⟨#[118]⟩,[]⟩:Expr)]⟩:Expr)],[],[]⟩:Stmt),(⟨4,⟨#[]⟩,0,[(⟨2,0,⟨#[114]⟩,[(⟨0,0,⟨#[]⟩,[]⟩:Expr)]⟩:Expr)],[],[]⟩:Stmt)]⟩:Fun)]⟩:Src)) (slot x1 66):=p14
      obtain ⟨a66_0,c66_0,a66_1,c66_1,e66,-⟩:=q66 y (But.refl _ _ _)
      have e66:slot x1 66=.agg #[.slice a66_0 0 c66_0,.slice a66_1 2 c66_1]:=e66
      have g66:=jd e66
      simp only [e66] at q66
      obtain ⟨b13,ex,hbx,hbz⟩:=p15
      have ex:slot x1 13=.pointer (some ⟨b13,0,none⟩):=ex
      have hx:=jl hF [(52,slot x1 52),(53,slot x1 53),(54,slot x1 54),(55,slot x1 55),(56,slot x1 56),(57,slot x1 57),(58,slot x1 58),(59,slot x1 59),(60,slot x1 60),(61,slot x1 61),(62,slot x1 62),(63,slot x1 63),(64,slot x1 64),(65,slot x1 65),(66,.agg #[.slice a66_0 0 c66_0,.slice a66_1 2 c66_1]),(13,.pointer (some ⟨b13,0,none⟩))] rfl ⟨rfl,rfl,rfl,rfl,rfl,rfl,rfl,rfl,rfl,rfl,rfl,rfl,rfl,rfl,e66,ex,trivial⟩
      clear hF p0 p1 p2 p3 p4 p5 p6 p7 p8 p9 p10 p11 p12 p13 p14
      clear e66 g66
      generalize slot x1 52=u52 at *
      generalize slot x1 53=u53 at *
      generalize slot x1 54=u54 at *
      generalize slot x1 55=u55 at *
      generalize slot x1 56=u56 at *
      generalize slot x1 57=u57 at *
      generalize slot x1 58=u58 at *
      generalize slot x1 59=u59 at *
      generalize slot x1 60=u60 at *
      generalize slot x1 61=u61 at *
      generalize slot x1 62=u62 at *
      generalize slot x1 63=u63 at *
      generalize slot x1 64=u64 at *
      generalize slot x1 65=u65 at *
      subst hx
      simp only [puts,Act.put,wi,wj,wk,wl,wm]
      have HZb:=we hbz
      have HX11:=we (q66 _ (But.setRow (cs:=#[.slice a66_0 0 c66_0,.slice a66_1 2 c66_1]) hbz hbx))
      have HK11:=we (Go.setRow_heap y b13 _ #[.slice a66_0 0 c66_0,.slice a66_1 2 c66_1] _ _ hbz)
      have HB11:=we (below_setRow hB hbx #[.slice a66_0 0 c66_0,.slice a66_1 2 c66_1])
      clear hbz hbx q66 hB
      refine wpList_store_row rfl 25 _ _ rfl b13 #[.slice a66_0 0 c66_0,.slice a66_1 2 c66_1] rfl rfl 25 _ HZb.out (by kernel_rfl) rfl (by simp [Value.oneCell']) ?_
      clear HZb
      generalize y.setRow b13 #[.slice a66_0 0 c66_0,.slice a66_1 2 c66_1]=w5 at *
      have HB5:=we (HB4.out.trans (HB11.out.mono HB4.out.size))
      clear HB4 HB11 HK84 HX84 HK94 HX94 HK10 HX10
      go_upto_region 12 with (fail)
      refine jp [.is (.int .u16 a),.is (.int .i64 a),.is (.int .i64 words.length),.is (.int .i64 ((words.length:Int) - 1)),.is (.int .i64 i)] (by kernel_rfl) 5 (by decide) _ rfl ?_ ?_
      ·refine ⟨?_,?_,?_,?_,?_,trivial⟩
       ·refine jc rfl rfl rfl fun x1 y hB hF hD=>?_
        have e7:slot x1 7=.int .u16 a:=hF.at 7 rfl
        clear hB hF
        simp only [execOp,ja,e7]
        first|rfl|(go_simp;done)|(go_simp;rfl)
       ·refine jc rfl rfl rfl fun x1 y hB hF hD=>?_
        obtain ⟨d0,-⟩:=hD
        have e67:slot x1 67=.int .u16 a:=d0 rfl
        clear hB hF
        simp only [execOp,ja,e67]
        simp [go_sem]
        exact i64_keep (by unfold I64;omega)
       ·refine jc rfl rfl rfl fun x1 y hB hF hD=>?_
        have e9:slot x1 9=.int .i64 words.length:=hF.at 9 rfl
        clear hB hF
        simp only [execOp,ja,e9]
        first|rfl|(go_simp;done)|(go_simp;rfl)
       ·refine jc rfl rfl rfl fun x1 y hB hF hD=>?_
        obtain ⟨d0,-⟩:=hD
        have e69:slot x1 69=.int .i64 words.length:=d0 rfl
        clear hB hF
        simp only [execOp,ja,e69]
        simp [go_sem]
        exact i64_keep (by unfold I64;omega)
       ·refine jc rfl rfl rfl fun x1 y hB hF hD=>?_
        obtain ⟨d0,d1,-⟩:=hD
        have e68:slot x1 68=.int .i64 a:=d0 rfl
        have e70:slot x1 70=.int .i64 ((words.length:Int) - 1):=d1 rfl
        clear hB hF
        simp only [execOp,ja,e68,e70]
        simp [go_sem]
        rw [if_neg (by omega),Int.tmod_eq_emod_of_nonneg ha0,HIi.out]
      ·intro x1 w6 hB hF hP
       obtain ⟨p0,p1,p2,p3,p4,-⟩:=hP
       have hx:=jl hF [(67,.int .u16 a),(68,.int .i64 a),(69,.int .i64 words.length),(70,.int .i64 ((words.length:Int) - 1)),(71,.int .i64 i)] rfl ⟨p0,p1,p2,p3,p4,trivial⟩
       have HB6:=we (HB5.out.trans (hB.mono HB5.out.size))
       have HK6:=we (jm hB HK11.out)
       have HX6:=we (HX11.out.below hB)
       clear hB hF p0 p1 p2 p3 p4 HB5 HK11 HX11
       subst hx
       simp only [puts,Act.put,wi,wj,wk,wl,wm]
       go_upto_region 13 with (fail)
       refine jp [.is (.int .u16 b),.is (.int .i64 b),.is (.int .i64 words.length),.is (.int .i64 k)] (by kernel_rfl) 4 (by decide) _ rfl ?_ ?_
       ·refine ⟨?_,?_,?_,?_,trivial⟩
        ·refine jc rfl rfl rfl fun x1 y hB hF hD=>?_
         have e8:slot x1 8=.int .u16 b:=hF.at 8 rfl
         clear hB hF
         simp only [execOp,ja,e8]
         first|rfl|(go_simp;done)|(go_simp;rfl)
        ·refine jc rfl rfl rfl fun x1 y hB hF hD=>?_
         obtain ⟨d0,-⟩:=hD
         have e72:slot x1 72=.int .u16 b:=d0 rfl
         clear hB hF
         simp only [execOp,ja,e72]
         simp [go_sem]
         exact i64_keep (by unfold I64;omega)
        ·refine jc rfl rfl rfl fun x1 y hB hF hD=>?_
         have e9:slot x1 9=.int .i64 words.length:=hF.at 9 rfl
         clear hB hF
         simp only [execOp,ja,e9]
         first|rfl|(go_simp;done)|(go_simp;rfl)
        ·refine jc rfl rfl rfl fun x1 y hB hF hD=>?_
         obtain ⟨d0,d1,-⟩:=hD
         have e73:slot x1 73=.int .i64 b:=d0 rfl
         have e74:slot x1 74=.int .i64 words.length:=d1 rfl
         clear hB hF
         simp only [execOp,ja,e73,e74]
         simp [go_sem]
         rw [if_neg hne,Int.tmod_eq_emod_of_nonneg hb0,HKk.out]
       ·intro x1 w7 hB hF hP
        obtain ⟨p0,p1,p2,p3,-⟩:=hP
        have hx:=jl hF [(72,.int .u16 b),(73,.int .i64 b),(74,.int .i64 words.length),(75,.int .i64 k)] rfl ⟨p0,p1,p2,p3,trivial⟩
        have HB7:=we (HB6.out.trans (hB.mono HB6.out.size))
        have HK7:=we (jm hB HK6.out)
        have HX7:=we (HX6.out.below hB)
        clear hB hF p0 p1 p2 p3 HB6 HK6 HX6
        subst hx
        simp only [puts,Act.put,wi,wj,wk,wl,wm]
        have HS7:=we (HS.out.below HB7.out)
        go_upto_region 14 with (fail)
        refine jp [mpQ (.cells #[] 53) w7.heap.size (fun w v=>yj w ((⟨[],[(⟨⟨#[103]⟩,false,[(⟨⟨#[113]⟩,2,2⟩:jj),(⟨⟨#[118]⟩,0,0⟩:jj)],[(⟨1,⟨#[113]⟩,0,[(⟨0,1,⟨#[]⟩,[]⟩:Expr),(⟨1,0,⟨#[118]⟩,[]⟩:Expr)],[],[]⟩:Stmt),(⟨4,⟨#[]⟩,0,[(⟨0,0,⟨#[]⟩,[]⟩:Expr)],[],[]⟩:Stmt)]⟩:Fun),(⟨⟨#[102]⟩,true,[(⟨⟨#[112]⟩,2,2⟩:jj),(⟨⟨#[114]⟩,2,1⟩:jj),(⟨⟨#[118]⟩,0,0⟩:jj)],[(⟨0,⟨#[120]⟩,0,[(⟨5,0,⟨#[103]⟩,[(⟨1,0,⟨#[112]⟩,[]⟩:Expr),(⟨1,0,⟨#[118]⟩,[]⟩:Expr)]⟩:Expr)],[],[]⟩:Stmt),(⟨4,⟨#[]⟩,0,[(⟨2,0,⟨#[114]⟩,[(⟨0,0,⟨#[]⟩,[]⟩:Expr)]⟩:Expr)],[],[]⟩:Stmt)]⟩:Fun)]⟩:Src)) v),MP.is (.int .i64 i),MP.is (.int .u64 i),MP.is (.int .i64 k),MP.is (.int .u64 k),MP.is (.int .u64 vn),mpQ (.cells #[] 53) w7.heap.size (fun w v=>WSl w v ([i,k,vn])),mpQ (.cells #[] 53) w7.heap.size (fun w v=>WSl w v (words)),mpQ (.cells #[] 53) w7.heap.size (fun w v=>ki w ([]) (words) v)] (by kernel_rfl) 9 (by decide) _ rfl ?_ ?_
        ·refine ⟨?_,?_,?_,?_,?_,?_,?_,?_,?_,trivial⟩
         ·refine jk rfl rfl fun x1 y hB hF hD=>?_
          have e13:slot x1 13=.pointer (some ⟨b13,0,none⟩):=hF.at 13 rfl
          have hb:=jm hB HK7.out
          refine ⟨.agg #[.slice a66_0 0 c66_0,.slice a66_1 2 c66_1],?_,fun w' hw=>HX7.out.below (hw.base hB (Nat.le_refl _))⟩
          clear hB hF
          simp only [execOp,ja,e13]
          simp [zr y _ _ 25 _ _ _ hb Tryz.underlying25 rfl (by kernel_rfl),Result.andThen]
         ·refine jc rfl rfl rfl fun x1 y hB hF hD=>?_
          have e14:slot x1 14=.int .i64 i:=hF.at 14 rfl
          clear hB hF
          simp only [execOp,ja,e14]
          rfl
         ·refine jc rfl rfl rfl fun x1 y hB hF hD=>?_
          obtain ⟨d0,-⟩:=hD
          have e78:slot x1 78=.int .i64 i:=d0 rfl
          have g78:=jd e78
          clear hB hF g78
          simp only [execOp,ja,e78]
          simp [go_sem]
          exact u64_keep (by unfold U64;omega)
         ·refine jc rfl rfl rfl fun x1 y hB hF hD=>?_
          have e15:slot x1 15=.int .i64 k:=hF.at 15 rfl
          clear hB hF
          simp only [execOp,ja,e15]
          rfl
         ·refine jc rfl rfl rfl fun x1 y hB hF hD=>?_
          obtain ⟨d0,-⟩:=hD
          have e80:slot x1 80=.int .i64 k:=d0 rfl
          have g80:=jd e80
          clear hB hF g80
          simp only [execOp,ja,e80]
          simp [go_sem]
          exact u64_keep (by unfold U64;omega)
         ·refine jc rfl rfl rfl fun x1 y hB hF hD=>?_
          have e2:slot x1 2=.int .u64 vn:=hF.at 2 rfl
          clear hB hF
          simp only [execOp,ja,e2]
          rfl
         ·refine jh rfl fun x1 y hB hF hD=>?_
          obtain ⟨d0,d1,d2,-⟩:=hD
          have e79:slot x1 79=.int .u64 i:=d0 rfl
          have g79:=jd e79
          have e81:slot x1 81=.int .u64 k:=d1 rfl
          have g81:=jd e81
          have e82:slot x1 82=.int .u64 vn:=d2 rfl
          have g82:=jd e82
          clear hB hF
          unfold Oper.wp
          simp only [execOp]
          simp [go_sem,g79,g81,g82]
          refine ⟨_,rfl,(Below.refl _ _).alloc (Nat.le_refl _) _,fun w' hw=>?_⟩
          exact wsl_row (hw.new (by simp)) [i,k,vn] rfl (by simp)
         ·refine jk rfl rfl fun x1 y hB hF hD=>?_
          have e0:slot x1 0=.slice (some ⟨sb,so,none⟩) words.length sc:=hF.at 0 rfl
          refine ⟨.slice (some ⟨sb,so,none⟩) words.length sc,?_,fun w' hw=>HS7.out.below (hw.base hB (Nat.le_refl _))⟩
          clear hB hF
          simp only [execOp,ja,e0]
          rfl
         ·refine jk rfl rfl fun x1 y hB hF hD=>?_
          obtain ⟨d0,-⟩:=hD
          have q84:∀ w',But (.cells #[] 53) w7.heap.size y w'→WSl w' (slot x1 84) (words):=d0 rfl
          obtain ⟨a84_0,c84_0,e84,-⟩:=q84 y (But.refl _ _ _)
          have e84:slot x1 84=.slice a84_0 words.length c84_0:=e84
          have g84:=jd e84
          simp only [e84] at q84
          clear hB hF
          refine ⟨.agg #[.slice none 0 0,.slice a84_0 words.length c84_0],?_,fun w' hw=>world_mk (secs:=[]) (shared:=words) (Sl.nil _ _ _ _) (q84 w' hw)⟩
          simp only [execOp]
          simp [go_sem,g84]
        ·intro x1 w8 hB hF hP
         obtain ⟨p0,p1,p2,p3,p4,p5,p6,p7,p8,-⟩:=hP
         have q77:∀ w',But (.cells #[] 53) w7.heap.size w8 w'→yj w' ((⟨[],[(⟨⟨#[103]⟩,false,[(⟨⟨#[113]⟩,2,2⟩:jj),(⟨⟨#[118]⟩,0,0⟩:jj)],[(⟨1,⟨#[113]⟩,0,[(⟨0,1,⟨#[]⟩,[]⟩:Expr),(⟨1,0,⟨#[118]⟩,[]⟩:Expr)],[],[]⟩:Stmt),(⟨4,⟨#[]⟩,0,[(⟨0,0,⟨#[]⟩,[]⟩:Expr)],[],[]⟩:Stmt)]⟩:Fun),(⟨⟨#[102]⟩,true,[(⟨⟨#[112]⟩,2,2⟩:jj),(⟨⟨#[114]⟩,2,1⟩:jj),(⟨⟨#[118]⟩,0,0⟩:jj)],[(⟨0,⟨#[120]⟩,0,[(⟨5,0,⟨#[103]⟩,[(⟨1,0,⟨#[112]⟩,[]⟩:Expr),(⟨1,0,⟨#[118]⟩,[]⟩:Expr)]⟩:Expr)],[],[]⟩:Stmt),(⟨4,⟨#[]⟩,0,[(⟨2,0,⟨#[114]⟩,[(⟨0,0,⟨#[]⟩,[]⟩:Expr)]⟩:Expr)],[],[]⟩:Stmt)]⟩:Fun)]⟩:Src)) (slot x1 77):=p0
         obtain ⟨a77_0,c77_0,a77_1,c77_1,e77,-⟩:=q77 w8 (But.refl _ _ _)
         have e77:slot x1 77=.agg #[.slice a77_0 0 c77_0,.slice a77_1 2 c77_1]:=e77
         have g77:=jd e77
         simp only [e77] at q77
         have q83:∀ w',But (.cells #[] 53) w7.heap.size w8 w'→WSl w' (slot x1 83) ([i,k,vn]):=p6
         obtain ⟨a83_0,c83_0,e83,-⟩:=q83 w8 (But.refl _ _ _)
         have e83:slot x1 83=.slice a83_0 3 c83_0:=e83
         have g83:=jd e83
         simp only [e83] at q83
         have q85:∀ w',But (.cells #[] 53) w7.heap.size w8 w'→ki w' ([]) (words) (slot x1 85):=p8
         obtain ⟨a85_0,c85_0,a85_1,c85_1,e85,-⟩:=q85 w8 (But.refl _ _ _)
         have e85:slot x1 85=.agg #[.slice a85_0 0 c85_0,.slice a85_1 words.length c85_1]:=e85
         have g85:=jd e85
         simp only [e85] at q85
         have hx:=jl hF [(77,.agg #[.slice a77_0 0 c77_0,.slice a77_1 2 c77_1]),(78,.int .i64 i),(79,.int .u64 i),(80,.int .i64 k),(81,.int .u64 k),(82,.int .u64 vn),(83,.slice a83_0 3 c83_0),(84,slot x1 84),(85,.agg #[.slice a85_0 0 c85_0,.slice a85_1 words.length c85_1])] rfl ⟨e77,p1,p2,p3,p4,p5,e83,rfl,e85,trivial⟩
         clear hF p0 p1 p2 p3 p4 p5 p6 p7 p8
         clear e77 g77
         clear e83 g83
         clear e85 g85
         generalize slot x1 84=u84 at *
         subst hx
         simp only [puts,Act.put,wi,wj,wk,wl,wm]
         have HI:=we (q77 w8 (But.refl _ _ _))
         have HA:=we (q83 w8 (But.refl _ _ _))
         have HW:=we (q85 w8 (But.refl _ _ _))
         have HB8:=we (HB7.out.trans (hB.mono HB7.out.size))
         clear hB q77 q83 q85 HB7 HK7 HX7 HS7
         go_wp2_with fail
         have hr:=run_any (p:=pointSrc) (args:=[(i:Int),(k:Int),vn]) (secs:=[]) (shared:=words) (by decide) _ _ _ 1 HI.out (HG.out.below HB8.out) HA.out (by intro x hx;simp at hx;rcases hx with rfl|rfl|rfl<;>first|exact HUv.out|(unfold U64;omega)) HW.out (by intro l hl;simp at hl) HUw.out (by rw [HRun.out];simp)
         rw [HRun.out] at hr
         have hck0:k<(words.set (i+1) vn).length:=by rw [List.length_set];omega
         have hLl:(words.set (i+1) vn).length=words.length:=by rw [List.length_set]
         obtain ⟨L,hL⟩:∃ L,words.set (i+1) vn=L:=⟨_,rfl⟩
         rw [hL] at hr hLl
         obtain ⟨V,hV⟩:∃ V,L.getD k 0=V:=⟨_,rfl⟩
         rw [hV] at hr
         have HL:=we hL
         have HV:=we hV
         have HLl:=we hLl
         refine hr.mono ?_
         clear hL hV hLl hck0
         rintro e w9 ⟨hb9,vv,rfl,⟨ra1,rc1,ra2,rc2,ra3,rc3,rfl,hO1,hO2,hO3⟩,-⟩
         have hn9:=(Below.refl w9.heap.size w9).alloc (Nat.le_refl _) (.cells #[.int .u64 0,.slice none 0 0,.slice none 0 0,.slice none 0 0] 37)
         have hq9:=below_setRow hn9 (Nat.le_refl _) #[.int .u64 V,.slice ra1 0 rc1,.slice ra2 0 rc2,.slice ra3 L.length rc3]
         have HZ9:=we (Go.heap_alloc_new w9 (.cells #[.int .u64 0,.slice none 0 0,.slice none 0 0,.slice none 0 0] 37))
         have HK10:=we (Go.setRow_heap (w9.alloc (.cells #[.int .u64 0,.slice none 0 0,.slice none 0 0,.slice none 0 0] 37)) w9.heap.size _ #[.int .u64 V,.slice ra1 0 rc1,.slice ra2 0 rc2,.slice ra3 L.length rc3] _ _ HZ9.out)
         have HO30:Hid (WSl _ (.slice ra3 L.length rc3) L):=we (hO3.below hq9)
         have HB10:=we ((HB8.out.trans (hb9.mono HB8.out.size)).trans (hq9.mono (by have:=HB8.out.size;have:=hb9.size;omega)))
         clear hr hb9 hO1 hO2 hO3 hn9 hq9 HB8 HI HA HW
         go_upto_region 15 with ((refine wpList_store_row rfl 37 _ _ rfl w9.heap.size #[.int .u64 V,.slice ra1 0 rc1,.slice ra2 0 rc2,.slice ra3 L.length rc3] rfl rfl 37 _ HZ9.out (by kernel_rfl) rfl (by simp [Value.oneCell']) ?_))
         clear HZ9
         generalize (w9.alloc (.cells #[.int .u64 0,.slice none 0 0,.slice none 0 0,.slice none 0 0] 37)).setRow w9.heap.size #[.int .u64 V,.slice ra1 0 rc1,.slice ra2 0 rc2,.slice ra3 L.length rc3]=w10 at *
         generalize w9.heap.size=b16 at *
         have HRow:Hid (∀ (j:Nat) (x:Int),words[j]?=some x→w10.cell? ⟨sb,so+j,none⟩=some (.int .u64 x)):=we (fun j x hj=>jb HB10.out (HRow0.out j x hj))
         clear HRow0
         have hnews:∀ (j:Nat) (u:Value),(words.map (Value.int .u64))[j]?=some u→(w10.alloc (.cells #[] 35)).cell? ((⟨sb,so,none⟩:Addr).add j)=some u:=by
          intro j u hj
          rw [List.getElem?_map] at hj
          cases ht:words[j]? with
          | none=>rw [ht] at hj;cases hj
          | some t=>
           rw [ht] at hj
           simp only [Option.map_some,Option.some.injEq] at hj
           subst hj
           have h1:=HRow.out j t ht
           have ha:(⟨sb,so,none⟩:Addr).add j=⟨sb,so+j,none⟩:=by unfold Addr.add;split<;>simp_all
           rw [ha]
           exact (World.cell?_alloc_lt w10 _ _ (wg w10 _ h1)).trans h1
         have hown:(w10.alloc (.cells #[] 35)).ownsRow w10.heap.size 35 1 (.slice (some ⟨w10.heap.size,0,none⟩) 0 0) 0 []:=by
          have h:=World.ownsRow_lit (base:=w10.heap.size) (e:=35) (size:=1) w10 #[] 0 (Nat.le_refl _) (by simp [maxLen]) (by simp)
          simpa using h
         have HNw:=we hnews
         have HOw:=we hown
         have HBn:=we ((Below.refl w10.heap.size w10).alloc (Nat.le_refl _) (.cells #[] 35))
         obtain ⟨i0,hi,hz0,hz1,hz2⟩:=info_parts info_u64
         clear hnews hown
         go_upto_region 16 with (at_builtin;go_loud (refine wpList_append_own _ rfl _ _ _ rfl w10.heap.size 35 i0 _ 1 8 Tryz.underlying26 hi hz0 hz1 hz2 rfl (by omega) _ 0 [] rfl HOw.out ⟨sb,so,none⟩ words.length sc (words.map (Value.int .u64)) rfl (by simp) ?ca ?cb ?cc ?cd (by simp) ?_))
         case ca=>exact HNw.out
         case cb=>
          intro u hu
          obtain ⟨t,_,rfl⟩:=List.mem_map.1 hu
          rfl
         case cc=>simp only [maxLen];omega
         case cd=>omega
         intro v1 wq ho1 hg1 _
         have ho1':wq.ownsRow w10.heap.size 35 1 v1 words.length (words.map (Value.int .u64)):=by simpa using ho1
         have hbq:=j8 HBn.out HOw.out (Nat.le_refl _) HBn.out.size hg1
         obtain ⟨qa,qc,rfl,hqc,-,hqs⟩:=own_shape ho1'
         obtain ⟨qb,rfl,hqb,hql,-⟩:=hqs hne
         clear ho1 hg1 HNw HOw HBn hi hz0 hz1 hz2 hqs
         have hi1l:i+1<words.length:=by omega
         have hck:wq.cell? ⟨qb,i+1,none⟩=some (.int .u64 words[i+1]):=by
          rw [ho1'.cellAt (i+1) (by omega)]
          simp [hi1l]
         have hfk:=ho1'.frozenAt (i+1)
         have hst:=(ho1'.stored (i+1) (.int .u64 vn)).1
         have hset:(words.map (Value.int .u64)).set (i+1) (.int .u64 vn)=L.map (Value.int .u64):=by rw [← HL.out,List.map_set]
         rw [hset] at hst
         have hbs:Below w10.heap.size w10 (wq.setCell ⟨qb,i+1,none⟩ (.int .u64 vn)):=hbq.setCell (by simpa using hqb) _
         have hwl:WSl (wq.setCell ⟨qb,i+1,none⟩ (.int .u64 vn)) (.slice (some ⟨qb,0,none⟩) words.length qc) L:=by
          have:=wsl_own (l:=L) (by rw [HLl.out];exact hst) (by rw [HLl.out];exact hsl)
          first|exact this|(rwa [HLl.out] at this)
         have HWl:=we hwl
         have HBs:=we hbs
         clear hst hset hbs hwl ho1' hbq hqb hqc
         go_upto_region 17 with (fail)
         generalize wq.setCell ⟨qb,i+1,none⟩ (.int .u64 vn)=w11 at *
         have hk11:=jm HBs.out HK10.out
         have HC0:=we (show w11.cell? ⟨b16,0,none⟩=some (.int .u64 V) from cell_of_row _ _ 0 _ _ _ hk11)
         have HC3:=we (show w11.cell? ⟨b16,3,none⟩=some (.slice ra3 L.length rc3) from cell_of_row _ _ 3 _ _ _ hk11)
         have HO3:=we (HO30.out.below HBs.out)
         have hkL:k<L.length:=by rw [HLl.out];omega
         have HCk:Hid (w11.cell? ⟨qb,k,none⟩=some (.int .u64 V)):=by
          obtain ⟨_,_,he2,_,_,_,hrw⟩:=HWl.out
          simp only [Value.slice.injEq] at he2
          obtain ⟨rfl,-,rfl⟩:=he2
          obtain ⟨b',o',hbo,hrw⟩:=hrw (by intro h;rw [h] at hkL;simp at hkL)
          simp only [Option.some.injEq,Addr.mk.injEq] at hbo
          obtain ⟨rfl,rfl,-⟩:=hbo
          have:=hrw k L[k] (by simp [hkL])
          rw [Nat.zero_add] at this
          show _=_
          rw [this,← HV.out,List.getD_eq_getElem?_getD,List.getElem?_eq_getElem hkL]
          rfl
         have HB11:=we (HB10.out.trans (HBs.out.mono HB10.out.size))
         have hkl2:k<words.length:=by omega
         clear hk11 hkL hck hfk hql
         refine zz zm (belR) [.is (.int .i64 0),.is (.bool true),.is (.bool true),.is (.pointer (some ⟨b16,0,none⟩)),.is (.int .u64 V),.is (.slice (some ⟨qb,0,none⟩) words.length qc),.is (.int .i64 k),.is (.pointer (some ⟨qb,k,none⟩)),.is (.int .u64 V),.is (.bool true),.is (.bool true),.is (.bool true),.is (.pointer (some ⟨b16,2,none⟩)),.is (.pointer (some ⟨b16,3,none⟩)),.is (.slice ra3 L.length rc3),.is (.slice (some ⟨qb,0,none⟩) words.length qc),.is (.bool true),.is (.bool true)] (by kernel_rfl) 18 (by decide) (by kernel_rfl) _ rfl ?_ ?_
         ·refine ⟨?_,?_,?_,?_,?_,?_,?_,?_,?_,?_,?_,?_,?_,?_,?_,?_,?_,?_,trivial⟩
          ·refine jq rfl rfl rfl fun x1 y hB hF hD=>?_
           obtain ⟨hK,hC⟩:=hB
           have e17:slot x1 17=.int .i64 0:=hF.at 17 rfl
           clear hK hC hF
           simp only [execOp,ja,e17]
           first|rfl|(go_simp;done)|(go_simp;rfl)
          ·refine jq rfl rfl rfl fun x1 y hB hF hD=>?_
           obtain ⟨d0,-⟩:=hD
           obtain ⟨hK,hC⟩:=hB
           have e97:slot x1 97=.int .i64 0:=d0 rfl
           clear hK hC hF
           simp only [execOp,ja,e97]
           first|rfl|(go_simp;done)|(go_simp;rfl)
          ·refine jq rfl rfl rfl fun x1 y hB hF hD=>?_
           obtain ⟨d0,-⟩:=hD
           obtain ⟨hK,hC⟩:=hB
           have e98:slot x1 98=.bool true:=d0 rfl
           clear hK hC hF
           simp only [execOp,ja,e98]
           first|rfl|(go_simp;done)|(go_simp;rfl)
          ·refine jg rfl rfl fun x1 y hB hF hD=>?_
           obtain ⟨d0,-⟩:=hD
           obtain ⟨hK,hC⟩:=hB
           refine ⟨true,d0 rfl,?_⟩
           rw [if_pos rfl]
           refine zh rfl ?_ rfl
           have e16:slot x1 16=.pointer (some ⟨b16,0,none⟩):=hF.at 16 rfl
           clear hK hC hF
           simp only [execOp,ja,e16]
           first|rfl|(go_simp;done)|(go_simp;rfl)
          ·refine jg rfl rfl fun x1 y hB hF hD=>?_
           obtain ⟨d0,d1,-⟩:=hD
           obtain ⟨hK,hC⟩:=hB
           refine ⟨true,d1 rfl,?_⟩
           rw [if_pos rfl]
           refine zh rfl ?_ rfl
           have e100:slot x1 100=.pointer (some ⟨b16,0,none⟩):=d0 rfl
           have hc:y.cell? ⟨b16,0,none⟩=some (.int .u64 V):=jb hK HC0.out
           clear hK hC hF
           simp only [execOp,ja,e100]
           first|rfl|(go_simp;done)|(go_simp;rfl)
          ·refine jg rfl rfl fun x1 y hB hF hD=>?_
           obtain ⟨d0,-⟩:=hD
           obtain ⟨hK,hC⟩:=hB
           refine ⟨true,d0 rfl,?_⟩
           rw [if_pos rfl]
           refine zh rfl ?_ rfl
           have e18:slot x1 18=.slice (some ⟨qb,0,none⟩) words.length qc:=hF.at 18 rfl
           clear hK hC hF
           simp only [execOp,ja,e18]
           first|rfl|(go_simp;done)|(go_simp;rfl)
          ·refine jg rfl rfl fun x1 y hB hF hD=>?_
           obtain ⟨d0,-⟩:=hD
           obtain ⟨hK,hC⟩:=hB
           refine ⟨true,d0 rfl,?_⟩
           rw [if_pos rfl]
           refine zh rfl ?_ rfl
           have e15:slot x1 15=.int .i64 k:=hF.at 15 rfl
           clear hK hC hF
           simp only [execOp,ja,e15]
           first|rfl|(go_simp;done)|(go_simp;rfl)
          ·refine jg rfl rfl fun x1 y hB hF hD=>?_
           obtain ⟨d0,d1,d2,-⟩:=hD
           obtain ⟨hK,hC⟩:=hB
           refine ⟨true,d2 rfl,?_⟩
           rw [if_pos rfl]
           refine zh rfl ?_ rfl
           have e102:slot x1 102=.slice (some ⟨qb,0,none⟩) words.length qc:=d0 rfl
           have e103:slot x1 103=.int .i64 k:=d1 rfl
           have hik:k<words.length:=hkl2
           clear hK hC hF
           simp only [execOp,ja,e102,e103]
           first|rfl|(go_simp;done)|(go_simp;rfl)
          ·refine jg rfl rfl fun x1 y hB hF hD=>?_
           obtain ⟨d0,d1,-⟩:=hD
           obtain ⟨hK,hC⟩:=hB
           refine ⟨true,d1 rfl,?_⟩
           rw [if_pos rfl]
           refine zh rfl ?_ rfl
           have e104:slot x1 104=.pointer (some ⟨qb,k,none⟩):=d0 rfl
           have hc:y.cell? ⟨qb,k,none⟩=some (.int .u64 V):=jb hK HCk.out
           clear hK hC hF
           simp only [execOp,ja,e104]
           first|rfl|(go_simp;done)|(go_simp;rfl)
          ·refine jg rfl rfl fun x1 y hB hF hD=>?_
           obtain ⟨d0,d1,d2,-⟩:=hD
           obtain ⟨hK,hC⟩:=hB
           refine ⟨true,d2 rfl,?_⟩
           rw [if_pos rfl]
           refine zh rfl ?_ rfl
           have e101:slot x1 101=.int .u64 V:=d0 rfl
           have e105:slot x1 105=.int .u64 V:=d1 rfl
           clear hK hC hF
           simp only [execOp,ja,e101,e105]
           first|rfl|(go_simp;done)|(go_simp;rfl)
          ·refine jq rfl rfl rfl fun x1 y hB hF hD=>?_
           obtain ⟨d0,d1,-⟩:=hD
           obtain ⟨hK,hC⟩:=hB
           have e99:slot x1 99=.bool true:=d0 rfl
           have e106:slot x1 106=.bool true:=d1 rfl
           clear hK hC hF
           simp only [execOp,ja,e99,e106]
           first|rfl|(go_simp;done)|(go_simp;rfl)
          ·refine jq rfl rfl rfl fun x1 y hB hF hD=>?_
           obtain ⟨d0,-⟩:=hD
           obtain ⟨hK,hC⟩:=hB
           have e107:slot x1 107=.bool true:=d0 rfl
           clear hK hC hF
           simp only [execOp,ja,e107]
           first|rfl|(go_simp;done)|(go_simp;rfl)
          ·refine jg rfl rfl fun x1 y hB hF hD=>?_
           obtain ⟨d0,-⟩:=hD
           obtain ⟨hK,hC⟩:=hB
           refine ⟨true,d0 rfl,?_⟩
           rw [if_pos rfl]
           refine zh rfl ?_ rfl
           have e16:slot x1 16=.pointer (some ⟨b16,0,none⟩):=hF.at 16 rfl
           clear hK hC hF
           simp only [execOp,ja,e16]
           first|rfl|(go_simp;done)|(go_simp;rfl)
          ·refine jg rfl rfl fun x1 y hB hF hD=>?_
           obtain ⟨d0,d1,-⟩:=hD
           obtain ⟨hK,hC⟩:=hB
           refine ⟨true,d1 rfl,?_⟩
           rw [if_pos rfl]
           refine zh rfl ?_ rfl
           have e109:slot x1 109=.pointer (some ⟨b16,2,none⟩):=d0 rfl
           clear hK hC hF
           simp only [execOp,ja,e109]
           first|rfl|(go_simp;done)|(go_simp;rfl)
          ·refine jg rfl rfl fun x1 y hB hF hD=>?_
           obtain ⟨d0,d1,-⟩:=hD
           obtain ⟨hK,hC⟩:=hB
           refine ⟨true,d1 rfl,?_⟩
           rw [if_pos rfl]
           refine zh rfl ?_ rfl
           have e110:slot x1 110=.pointer (some ⟨b16,3,none⟩):=d0 rfl
           have hc:y.cell? ⟨b16,3,none⟩=some (.slice ra3 L.length rc3):=jb hK HC3.out
           clear hK hC hF
           simp only [execOp,ja,e110]
           first|rfl|(go_simp;done)|(go_simp;rfl)
          ·refine jg rfl rfl fun x1 y hB hF hD=>?_
           obtain ⟨d0,-⟩:=hD
           obtain ⟨hK,hC⟩:=hB
           refine ⟨true,d0 rfl,?_⟩
           rw [if_pos rfl]
           refine zh rfl ?_ rfl
           have e18:slot x1 18=.slice (some ⟨qb,0,none⟩) words.length qc:=hF.at 18 rfl
           clear hK hC hF
           simp only [execOp,ja,e18]
           first|rfl|(go_simp;done)|(go_simp;rfl)
          ·refine jg rfl rfl fun x1 y hB hF hD=>?_
           obtain ⟨d0,d1,d2,-⟩:=hD
           obtain ⟨hK,hC⟩:=hB
           refine ⟨true,d2 rfl,?_⟩
           rw [if_pos rfl]
           refine wpT_call (f:=19) (args:=#[.slice ra3 L.length rc3,.slice (some ⟨qb,0,none⟩) words.length qc]) rfl ?_ ?_
           ·have e111:slot x1 111=.slice ra3 L.length rc3:=d0 rfl
            have e112:slot x1 112=.slice (some ⟨qb,0,none⟩) words.length qc:=d1 rfl
            have g111:=jd e111
            have g112:=jd e112
            clear hK hC hF e111 e112
            simp only [execOp]
            simp [go_sem,g111,g112]
           ·refine (longs_any _ _ L L y (HO3.out.below hK) (HWl.out.below hK)).mono ?_
            rintro e w2 ⟨rfl,hb⟩
            exact ⟨⟨hb,trivial⟩,.inl ⟨_,rfl,show Value.bool (decide (L=L))=.bool true by simp⟩⟩
          ·refine jq rfl rfl rfl fun x1 y hB hF hD=>?_
           obtain ⟨d0,d1,-⟩:=hD
           obtain ⟨hK,hC⟩:=hB
           have e108:slot x1 108=.bool true:=d0 rfl
           have e113:slot x1 113=.bool true:=d1 rfl
           clear hK hC hF
           simp only [execOp,ja,e108,e113]
           first|rfl|(go_simp;done)|(go_simp;rfl)
         ·intro x1 y hB hF hP
          obtain ⟨p0,p1,p2,p3,p4,p5,p6,p7,p8,p9,p10,p11,p12,p13,p14,p15,p16,p17,-⟩:=hP
          obtain ⟨hK,hC⟩:=hB
          have hx:=jl hF [(97,.int .i64 0),(98,.bool true),(99,.bool true),(100,.pointer (some ⟨b16,0,none⟩)),(101,.int .u64 V),(102,.slice (some ⟨qb,0,none⟩) words.length qc),(103,.int .i64 k),(104,.pointer (some ⟨qb,k,none⟩)),(105,.int .u64 V),(106,.bool true),(107,.bool true),(108,.bool true),(109,.pointer (some ⟨b16,2,none⟩)),(110,.pointer (some ⟨b16,3,none⟩)),(111,.slice ra3 L.length rc3),(112,.slice (some ⟨qb,0,none⟩) words.length qc),(113,.bool true),(114,.bool true)] rfl ⟨p0,p1,p2,p3,p4,p5,p6,p7,p8,p9,p10,p11,p12,p13,p14,p15,p16,p17,trivial⟩
          have HB12:=we (HB11.out.trans (hK.mono HB11.out.size))
          clear hK hC hF p0 p1 p2 p3 p4 p5 p6 p7 p8 p9 p10 p11 p12 p13 p14 p15 p16 p17
          subst hx
          simp only [puts,Act.put,wi,wj,wk,wl,wm]
          go_wp2_with fail
          go_ret
          exact ⟨rfl,HB12.out⟩
 ·rcases Nat.lt_or_ge words.length 2 with h|h
  ·have h1:(words.length:Int)<2:=by omega
   clear h hn
   go_wp2_with fail
   go_ret
   exact ⟨rfl,HB1.out⟩
  ·have h1:¬ (words.length:Int)<2:=by omega
   have h2:(words.length:Int) > 512:=by omega
   clear h hn
   go_wp2_with fail
   go_ret
   exact ⟨rfl,HB1.out⟩
end
section
set_option maxHeartbeats 4000000
set_option maxRecDepth 100000
open Go.RowKit Go.Shelf Go.Lib Go.ChangeShapes Go.WideShapes Go.ChangeAt
theorem semPointers_lifted (os:Os) (started:os.Started) (H:Type) (enc:TypeId×Value→H) :
  ReturnsInHanded {} Tryz.checked os 9 .any (fun w args=>(Rows.semPointersSpec.pre enc Tryz.prog Tryz.f9 [] false w args∧laidMetH Tryz.prog yg w)∧sizedMet enc Tryz.prog Tryz.f9 (OpenSpec.ofChange Rows.semPointersSpec) false w args)
   (Rows.semPointersSpec.post enc Tryz.prog Tryz.f9 false true false false):=by
 refine returnsInHanded_of_change_and (C:=Tryz.checked) (X:=fun w _=>laidMetH Tryz.prog yg w) (fun _ _ _ hh h=>h.of_heap hh) ownKnob_none started (by kernel_rfl) Tryz.func9
  (ChangeSpec.witness_shaped (enc:=enc) (C:=Tryz.checked) (os:=os) (X:=fun w _=>laidMetH Tryz.prog yg w) false (World.laidAll Tryz.prog os yg) #[.slice none 0 0,.agg #[.int .u16 0,.int .u16 0],.int .u64 0] 8 (World.laidAll_os _ _ _)
   (World.shaped_of_ZipB (by kernel_rfl) (by kernel_rfl)) (by kernel_rfl) (by kernel_rfl) (by kernel_rfl)
   (by rw [MakeChecks.laidMetH_plain _ _ _ (by kernel_rfl)];exact laidMet_laidAll _ (by kernel_rfl) (by kernel_rfl))) ?_
 intro W base args ds gs before hval0 hW _ hwt hL _
 have hval:∀ (j:Nat) t v,Tryz.f9.params[j]?=some t→args[j]?=some v→Value.okWide Tryz.prog W .any base t v:=hval0
 have hW':=hW
 obtain ⟨p,q,hA0,hV,rfl,_,_⟩:=hW
 have hA:DataW.TrodAll enc Tryz.prog W 0 (fun _=>true) true Tryz.f9.params.toList args.toList ds p:=hA0
 rw [Tryz.params9] at hA hval
 obtain ⟨v0,v1,v2,d0,d1,d2,p0,p1,p2,rfl,rfl,rfl,h0,h1,h2⟩:=trodAll_three hA
 obtain ⟨rfl,rfl⟩:=trodVars_none hV
 simp only [List.append_nil] at hW'
 have hlt:∀ x∈p0++p1++p2,x.block<W.heap.size:=fun x hx=>hW'.lt x (by simpa using hx)
 have k0:=h0
 have k1:=h1
 have k2:=h2
 have hG:=glob_of_laid hL
 obtain ⟨l0,hW0,hU0⟩:=words_of (hval 0 26 v0 rfl rfl) h0 (weights_at hwt (j:=0) rfl rfl)
 obtain ⟨x1,y1,rfl,wx1,wy1⟩:=pair16_of (hval 1 68 v1 rfl rfl) h1
 obtain ⟨n2,rfl,rfl,rfl,w2⟩:=open_int Tryz.underlying35 (hval 2 35 v2 rfl rfl) h2
 have bx0:0≤x1∧x1<65536:=by have:=wx1;simp [Lit.wf,IntKind.min,IntKind.max,IntKind.signed,IntKind.bits] at this;omega
 have bx1:0≤y1∧y1<65536:=by have:=wy1;simp [Lit.wf,IntKind.min,IntKind.max,IntKind.signed,IntKind.bits] at this;omega
 have b2:U64 n2:=by have:=w2;unfold U64;simp [Lit.wf,IntKind.min,IntKind.max,IntKind.signed,IntKind.bits] at this;omega
 refine (pointers_any v0 l0 x1 y1 n2 hW0 hU0 bx0.1 bx0.2 bx1.1 bx1.2 b2 hG).mono fun e W' ⟨he,hb⟩=>?_
 subst he
 exact ⟨_,rfl,_,_,_,[],_,[],hW',trodAll_mk1 (shut_bool Tryz.underlying4 _),(trodAll_mk3 (Below.trod kv (by kernel_rfl) (of_decide_eq_true (by kernel_rfl)) k0 hb (fun x hx=>hlt x (by first|(simp [hx];done)|(simp at hx)))) (Below.trod kv (by kernel_rfl) (of_decide_eq_true (by kernel_rfl)) k1 hb (fun x hx=>hlt x (by first|(simp [hx];done)|(simp at hx)))) (Below.trod kv (by kernel_rfl) (of_decide_eq_true (by kernel_rfl)) k2 hb (fun x hx=>hlt x (by first|(simp [hx];done)|(simp at hx))))),rfl,hb.frame _,fun h=>by cases h⟩
theorem semPointers_row:Rows.SemPointersSaid:=
 OpenClaim.holds_of_wide 9 Tryz.f9 rfl rfl rfl rfl rfl rfl rfl ⟨rfl,rfl,rfl,rfl,rfl⟩ rfl rfl rfl rfl rfl (by kernel_rfl) Tryz.func9 (by kernel_rfl)
  (of_decide_eq_true (by kernel_rfl)) (by unfold Func.isWrapper;first|(rw [if_pos (by decide +kernel)];kernel_rfl)|(rw [if_neg (by decide +kernel)];exact ⟨rfl,rfl⟩))
  (fun os started H enc _=>semPointers_lifted os started H enc)
theorem semPointers_holds:Rows.SemPointersCardSaid:=
 Claim7.holds_tied_plain_at .later [] [.data,.data,.data,.data,.pinned] true (true, "58d88c0b659ec0b2144c551f2435681ed6d909dda393ac60c95d3fdaa74503c2") true semPointers_row (fun _ h=>by cases h) (by kernel_rfl) (fun _ h=>by cases h) semPointers_row_tie rfl ⟨rfl,rfl⟩ (by kernel_rfl) rfl
  (fun f fn hf hfn=>by
   obtain rfl:f=9:=Option.some.inj ((show Tryz.prog.funcNamed "caponier/caponierlaw12.SemPointers"=some 9 by kernel_rfl).symm.trans hf) |>.symm
   obtain rfl:fn=Tryz.f9:=(Option.some.inj (Tryz.func9.symm.trans hfn)).symm
   exact ⟨by kernel_rfl,fun j t ht=>by
    rw [Tryz.params9] at ht
    have hm:t∈[26,68,35]:=by simpa using Array.mem_of_getElem? ht
    have hall:([26,68,35].all fun u=>!Tryz.prog.wantsStandIn u)=true:=by kernel_rfl
    exact (show Tryz.prog.wantsStandIn t=false by simpa using List.all_eq_true.1 hall t hm)⟩)
  (by kernel_rfl)
end
#print axioms semPointers_holds
end Go.Proofs.YtdembmaldllmkaaGreatDoor
