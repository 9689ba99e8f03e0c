/-
  Part of the proofs of laws over the given program: contracts of its functions (what each computes, of which input), and the tables and data that they read.
  Conditions: none beyond the theorems' own hypotheses.
-/
import Derived.Test.YtdembmaldllmkaaGreatDoorPA2
import Derived.Laws.EntriesVeiled
import Derived.ScopeJumps
import Derived.WalkMore
set_option linter.unusedVariables false
set_option linter.unusedSimpArgs false
set_option maxHeartbeats 32000000
set_option maxRecDepth 100000
namespace Go.Proofs.YtdembmaldllmkaaGreatDoor
section
open Go.RowKit
def rowArr (s:ByteArray) (n:Int):MP:=mpRow' (fun ts=>∃ t1 t2,jl s.data.toList=some t1∧zb n=some t2∧ts=[[115,101,99,114,101,116],t1,t2]) 0
theorem text1_ok (s:ByteArray) (n:Int) (w:World) (o:Option Txt)
  (HNm:Hid (∀ w1,Below w.heap.size w w1→Calls Tryz.prog 139 #[.string s] w1 (qe w1 (jl s.data.toList)))) (HNu:Hid (∀ w1,Below w.heap.size w w1→Calls Tryz.prog 140 #[.int .i64 n] w1 (qe w1 (zb n))))
  (HN:Hid (jl s.data.toList=none→o=none)) (HD:Hid (zb n=none→o=none)) (HS:Hid (∀ t1 t2,jl s.data.toList=some t1→zb n=some t2→o=some (jw [[115,101,99,114,101,116],t1,t2]))) (HL:Hid (∀ t,o=some t→t.length≤100000000)) :
  Calls Tryz.prog 137 #[.agg #[.string s,.int .i64 n]] w (qe w o):=by
 have HB0:=k8 ((wu w.heap.size w).alloc (wo _) (.cells #[.string s,.int .i64 n] 62))
 go_enter Tryz.func137,Tryz.ntmps137
 go_wp2_with fail
 refine je zi [.is (.pointer (some ⟨w.heap.size,0,none⟩)),.is (.string s),mpOpt (jl s.data.toList),.is (.pointer (some ⟨w.heap.size,1,none⟩)),.is (.int .i64 n),mpOpt (zb n),rowArr s n] (by kernel_rfl) 7 (by decide) (by kernel_rfl) _ rfl ?_ ?_
 ·refine ⟨?_,?_,?_,?_,?_,?_,?_,trivial⟩
  ·refine jc rfl rfl rfl fun x y hB hF hD=>?_
   have e1:slot x 1=.pointer (some ⟨w.heap.size,0,none⟩):=hF.at 1 rfl
   clear hB hF
   simp only [execOp,ja,e1]
   first|rfl|(go_simp;try rfl)
  ·refine jc rfl rfl rfl fun x y hB hF hD=>?_
   obtain ⟨d0,-⟩:=hD
   have e3:slot x 3=.pointer (some ⟨w.heap.size,0,none⟩):=d0 rfl
   have hc:y.cell? ⟨w.heap.size,0,none⟩=some (.string s):=(hB.cell (by simp)).trans (by simp)
   clear hB hF
   simp only [execOp,ja,e3]
   first|rfl|(go_simp;try rfl)
  ·refine jn (f:=139) rfl rfl fun x y hB hF hD=>⟨#[.string s],?_,?_⟩
   ·obtain ⟨d0,-⟩:=hD
    have e1:slot x 4=.string s:=d0 rfl
    have g1:=jh e1
    clear hB hF e1
    simp only [execOp]
    simp [go_sem,g1]
   ·refine (HNm.out y (HB0.out.trans (hB.mono (by simp)))).mono ?_
    rintro e w' ⟨hb,he⟩
    cases hn:jl s.data.toList with
    | none=>
     rw [hn] at he
     subst he
     refine ⟨hb,.inr ⟨_,rfl,hF.defers,HB0.out.trans ((hB.trans (hb.mono hB.size)).mono (by simp)),?_⟩⟩
     rw [HN.out hn]
    | some t=>
     rw [hn] at he
     exact ⟨hb,.inl ⟨_,he,t,rfl,rfl⟩⟩
  ·refine jc rfl rfl rfl fun x y hB hF hD=>?_
   have e1:slot x 1=.pointer (some ⟨w.heap.size,0,none⟩):=hF.at 1 rfl
   clear hB hF
   simp only [execOp,ja,e1]
   first|rfl|(go_simp;try rfl)
  ·refine jc rfl rfl rfl fun x y hB hF hD=>?_
   obtain ⟨d0,-⟩:=hD
   have e6:slot x 6=.pointer (some ⟨w.heap.size,1,none⟩):=d0 rfl
   have hc:y.cell? ⟨w.heap.size,1,none⟩=some (.int .i64 n):=(hB.cell (by simp)).trans (by simp)
   clear hB hF
   simp only [execOp,ja,e6]
   first|rfl|(go_simp;try rfl)
  ·refine jn (f:=140) rfl rfl fun x y hB hF hD=>⟨#[.int .i64 n],?_,?_⟩
   ·obtain ⟨d0,-⟩:=hD
    have e1:slot x 7=.int .i64 n:=d0 rfl
    have g1:=jh e1
    clear hB hF e1
    simp only [execOp]
    simp [go_sem,g1]
   ·refine (HNu.out y (HB0.out.trans (hB.mono (by simp)))).mono ?_
    rintro e w' ⟨hb,he⟩
    cases hn:zb n with
    | none=>
     rw [hn] at he
     subst he
     refine ⟨hb,.inr ⟨_,rfl,hF.defers,HB0.out.trans ((hB.trans (hb.mono hB.size)).mono (by simp)),?_⟩⟩
     rw [HD.out hn]
    | some t=>
     rw [hn] at he
     exact ⟨hb,.inl ⟨_,he,t,rfl,rfl⟩⟩
  ·refine jr rfl fun x y hB hF hD=>?_
   obtain ⟨d0,d1,-⟩:=hD
   obtain ⟨t1,ht1,e1⟩:=d0 rfl
   obtain ⟨t2,ht2,e2⟩:=d1 rfl
   have g1:=jh (show slot x 5=.string (S t1) from e1)
   have g2:=jh (show slot x 8=.string (S t2) from e2)
   have hzz:=hB.size
   clear hB hF e1 e2
   unfold Oper.wp
   simp only [execOp]
   simp [go_sem,g1,g2]
   refine ⟨_,rfl,(wu _ _).alloc (wo _) _,?_⟩
   exact (⟨[[115,101,99,114,101,116],t1,t2],⟨t1,t2,ht1,ht2,rfl⟩,own_three y 0 _ _ _ (gj _)⟩:(rowArr s n).p _ _)
 ·intro x y hB hF hP
  obtain ⟨p0,p1,p2,p3,p4,p5,p6,-⟩:=hP
  obtain ⟨t1,ht1,e30⟩:=p2
  obtain ⟨t2,ht2,e33⟩:=p5
  obtain ⟨ts,⟨u1,u2,hu1,hu2,rfl⟩,hrow⟩:=p6
  rw [ht1] at hu1
  rw [ht2] at hu2
  injection hu1 with hu1
  injection hu2 with hu2
  subst hu1
  subst hu2
  have hE:=HS.out t1 t2 ht1 ht2
  have HLst:=k8 (vw (slot x 9) _ y (qc hrow rfl) (by simp) (HL.out _ hE))
  have hx:=jj hF [(3,.pointer (some ⟨w.heap.size,0,none⟩)),(4,.string s),(5,slot x 5),(6,.pointer (some ⟨w.heap.size,1,none⟩)),(7,.int .i64 n),(8,slot x 8),(9,slot x 9)] rfl ⟨p0,p1,rfl,p3,p4,rfl,rfl,trivial⟩
  have HB:=k8 (HB0.out.trans (hB.mono (by simp)))
  have HE:=k8 hE
  generalize slot x 5=v30 at *
  generalize slot x 8=v33 at *
  generalize slot x 9=v34 at *
  clear hB hF p0 p1 p3 p4 e30 e33 hrow ht1 ht2 hE
  subst hx
  generalize jw [[115,101,99,114,101,116],t1,t2]=TX at *
  simp only [puts,Act.put,we,wg,wi,wj,wk]
  go_wp2_with fail
  refine HLst.out.mono ?_
  rintro e w10 ⟨rfl,hB⟩
  have HB10:=k8 (jg HB.out HB.out.size hB)
  clear hB
  go_wp2_with fail
  go_ret
  exact ⟨HB10.out,by rw [HE.out];rfl⟩
theorem text1_any (x:Arr) (v:Value) (w:World) (hI:ArrIs w x v) (hg:Glob w):Calls Tryz.prog 137 #[v] w (qe w (ky x)):=by
 obtain ⟨s,n⟩:=x
 obtain ⟨rfl,hs,-⟩:=hI
 simp only at hs
 have hE:ky ⟨s,n⟩=(jl s.data.toList).bind fun s=>(zb n).map fun d=>jw [[115,101,99,114,101,116],s,d]:=rfl
 refine text1_ok s n w _ (k8 (fun w1 hb=>named_any s w1 hs (hg.below hb))) (k8 (fun w1 hb=>number_any n w1 (hg.below hb))) (k8 fun h=>?_) (k8 fun h=>?_) (k8 fun t1 t2 h1 h2=>?_) (k8 fun t h=>?_)
 ·rw [hE,h];rfl
 ·rw [hE,h];cases jl s.data.toList<;>rfl
 ·rw [hE,h1,h2];rfl
 ·have:=arr_len _ t h
  omega
theorem arrOpen (w:World) (b o:Nat) (x:Arr) (h:ArrAt w b o x):∃ (s0:ByteArray) (n1:Int),w.cell? ⟨b,o,none⟩=some (.string s0)∧w.cell? ⟨b,o+1,none⟩=some (.int .i64 n1)∧ArrIs w x (.agg #[.string s0,.int .i64 n1]):=
 ⟨_,_,h.1.1,h.2.1,rfl,h.1.2,h.2.2⟩
theorem funOpen (w:World) (b o:Nat) (x:Fun) (h:FunAt w b o x):∃ (s0:ByteArray) (b1:Bool) (a2:Option Addr) (l2 c2:Nat) (a3:Option Addr) (l3 c3:Nat),w.cell? ⟨b,o,none⟩=some (.string s0)∧w.cell? ⟨b,o+1,none⟩=some (.bool b1)∧w.cell? ⟨b,o+2,none⟩=some (.slice a2 l2 c2)∧w.cell? ⟨b,o+3,none⟩=some (.slice a3 l3 c3)∧FunIs w x (.agg #[.string s0,.bool b1,.slice a2 l2 c2,.slice a3 l3 c3]):=by
 obtain ⟨a0,c0,a1,c1,h0,h1,h2,h3,h4⟩:=h.open
 exact ⟨_,_,a0,_,c0,a1,_,c1,h0,h1,h2,h3,h4⟩
theorem FunAt.numsF {w:World} {b o:Nat} {x:Fun} (h:FunAt w b o x):numsSs x.body:=by
 obtain ⟨a0,c0,a1,c1,_,_,_,_,a0',c0',a1',c1',_,_,_,h4⟩:=h.open
 exact h4.numsS
theorem Sl.numsF {w:World} {v:Value} {l:List Fun} (h:Sl 4 (FunAt w) v l):∀ x∈l,numsSs x.body:=by
 obtain ⟨a,c,_,_,_,hr⟩:=h
 intro x hx
 obtain ⟨j,hj⟩:=List.mem_iff_getElem?.1 hx
 obtain ⟨b,o,_,hr⟩:=hr (by rintro rfl;cases hx)
 exact (hr j x hj).numsF
theorem text_ok (a0 a1:Option Addr) (l0 l1 c0 c1:Nat) (w:World) (o:Option Txt) (oa of:Option (List Txt)) (hl0:decide ((l0:Int)≤32)=true) (hl1:decide ((l1:Int)≤32)=true)
  (HAr:Hid (∀ w1,Below w.heap.size w w1→Calls Tryz.prog 136 #[.slice a0 l0 c0,.func (.func 137) #[] #[]] w1 (qi w1 oa)))
  (HFu:Hid (∀ w1,Below w.heap.size w w1→Calls Tryz.prog 141 #[.slice a1 l1 c1,.func (.func 142) #[] #[]] w1 (qi w1 of)))
  (HO:Hid (o=oa.bind fun a=>of.bind fun f=>if deep (Lib.join (a++f++[[]]) [10])≤24 then some (Lib.join (a++f++[[]]) [10]) else none))
  (HLa:Hid (∀ ts,oa=some ts→ts.length≤100000)) (HLf:Hid (∀ ts,of=some ts→ts.length≤100000))
  (HLo:Hid (∀ a f,oa=some a→of=some f→(Lib.join (a++f++[[]]) [10]).length≤100000000∧xi (Lib.join (a++f++[[]]) [10]))) :
  Calls Tryz.prog 102 #[.agg #[.slice a0 l0 c0,.slice a1 l1 c1]] w (qe w o):=by
 have HB0:=k8 ((wu w.heap.size w).alloc (wo _) (.cells #[.slice a0 l0 c0,.slice a1 l1 c1] 25))
 go_enter Tryz.func102,Tryz.ntmps102
 go_wp2_with fail
 refine (j7 _).mono ?_
 rintro e w1 ⟨rfl,rfl⟩
 go_wp2_with fail
 refine (HAr.out _ HB0.out).mono ?_
 rintro e w2 ⟨hB2,he⟩
 have HB2:=k8 (jg HB0.out (by simp) hB2)
 have hc1:w2.cell? ⟨w.heap.size,1,none⟩=some (.slice a1 l1 c1):=(hB2.cell (by simp)).trans (by simp)
 have hw2:=k9 w2 _ hc1
 clear hB2
 cases ha:oa with
 | none=>
  rw [ha] at he
  subst he
  have HE:Hid (o=none):=by show _=_;rw [HO.out,ha];rfl
  go_wp2
  exact ⟨rfl,HB2.out,by rw [HE.out]⟩
 | some ta=>
  rw [ha] at he
  obtain ⟨va,rfl,hra⟩:=he
  have HRa:=k8 (yk hra (show w.heap.size≤_ by simp))
  have HAa:=k8 ha
  clear hra ha
  go_wp2_with fail
  refine (HFu.out _ HB2.out).mono ?_
  rintro e w3 ⟨hB3,he⟩
  have HB3:=k8 (jg HB2.out HB2.out.size hB3)
  have HR3:=k8 (jv HRa.out hB3)
  have HZ3:Hid (w.heap.size≤w3.heap.size):=HB3.out.size
  clear hB3 HRa
  cases hf:of with
  | none=>
   rw [hf] at he
   subst he
   have HE:Hid (o=none):=by show _=_;rw [HO.out,HAa.out,hf];rfl
   go_wp2
   exact ⟨rfl,HB3.out,by rw [HE.out]⟩
  | some tf=>
   rw [hf] at he
   obtain ⟨vf,rfl,hrf⟩:=he
   have HRf:=k8 hrf
   have HAf:=k8 hf
   clear hrf hf
   obtain ⟨hlen,hasc⟩:=HLo.out _ _ HAa.out HAf.out
   have HLn:=k8 hlen
   have HAs:=k8 hasc
   clear hlen hasc
   go_wp2_with (at_builtin;go_loud (refine yj _ rfl _ _ 136 9 _ 16 rfl Tryz.underlying136 jm rfl w.heap.size _ _ _ _ _ _ _ ?fa ?fb HR3.out HRf.out ?fc ?fd ?fe ?ff ?_))
   case fa=>rfl
   case fb=>rfl
   case fc=>exact vl _
   case fd=>exact HZ3.out
   case fe=>have:=HLa.out _ HAa.out;have:=HLf.out _ HAf.out;omega
   case ff=>decide
   intro v4 w4 ho4 hg4
   have HB4:=k8 (j6 HB3.out HR3.out (wo _) HZ3.out hg4)
   have HR4:=k8 ho4
   have HZ4:Hid (w.heap.size≤w4.heap.size):=HB4.out.size
   clear ho4 hg4
   go_wp2_with (at_builtin;go_loud (refine ke _ rfl _ _ 136 9 _ 16 rfl Tryz.underlying136 jm rfl w.heap.size _ _ _ _ ?c0 _ rfl ?ck ?c1 HR4.out ?c2 ?c3 ?c4 ?_))
   case c0=>rfl
   case ck=>simp
   case c1=>rfl
   case c2=>exact HZ4.out
   case c3=>have:=HLa.out _ HAa.out;have:=HLf.out _ HAf.out;omega
   case c4=>decide
   intro v5 w5 ho5 hg5
   have HB5:=k8 (j6 HB4.out HR4.out (wo _) HZ4.out hg5)
   have HJ:=k8 (join_any v5 (ta++tf++[[]]) ⟨#[10]⟩ w5 (qc (by simpa [S] using ho5) (by simp<;>omega)) (by have:=HLa.out _ HAa.out;have:=HLf.out _ HAf.out;simp;omega) (by have:=HLn.out;exact wx this (by omega)))
   clear ho5 hg5
   have HE:Hid (o=if deep (Lib.join (ta++tf++[[]]) [10])≤24 then some (Lib.join (ta++tf++[[]]) [10]) else none):=by show _=_;rw [HO.out,HAa.out,HAf.out];rfl
   have HJ':Hid (Calls Tryz.prog 143 #[v5,.string ⟨#[10]⟩] w5 (Ret w5 (.string (S (Lib.join (ta++tf++[[]]) [10]))))):=HJ.out
   clear HJ HO HLo
   generalize Lib.join (ta++tf++[[]]) [10]=TX at *
   have HDp:=k8 (fun w1=>deep_any (S TX) w1 (by rw [S_size];have:=HLn.out;omega) (by rw [S_toList];exact HAs.out))
   go_wp2_with fail
   refine HJ'.out.mono ?_
   rintro e w6 ⟨rfl,hB6⟩
   have HB6:=k8 (jg HB5.out HB5.out.size hB6)
   clear hB6
   go_wp2_with fail
   refine (HDp.out _).mono ?_
   rintro e w7 ⟨rfl,hB7⟩
   have HB7:=k8 (jg HB6.out HB6.out.size hB7)
   clear hB7
   by_cases hd:deep TX≤24
   ·have td:decide (deep (S TX).data.toList≤24)=true:=by rw [S_toList];simpa using hd
    have HE2:Hid (o=some TX):=by show _=_;rw [HE.out,if_pos hd]
    generalize deep (S TX).data.toList=D at *
    clear hd
    go_wp2_with fail
    refine (j7 _).mono ?_
    rintro e w8 ⟨rfl,rfl⟩
    go_wp2
    go_ret
    exact ⟨HB7.out,by rw [HE2.out];rfl⟩
   ·have td:decide (deep (S TX).data.toList≤24)=false:=by rw [S_toList];simpa using hd
    have HE2:Hid (o=none):=by show _=_;rw [HE.out,if_neg hd]
    generalize deep (S TX).data.toList=D at *
    clear hd
    go_wp2_with fail
    refine (zc _).mono ?_
    rintro e w8 ⟨rfl,rfl⟩
    go_wp2
    exact ⟨rfl,HB7.out,by rw [HE2.out]⟩
theorem srcText_len (p:Src) (hW:wtFs p.funcs≤100000) (hn:∀ x∈p.funcs,numsSs x.body) (ha:p.secrets.length≤32) (hf:p.funcs.length≤32) (a f:List Txt) (h1:jx ky p.secrets=some a) (h2:jx xf p.funcs=some f):(Lib.join (a++f++[[]]) [10]).length≤100000000∧xi (Lib.join (a++f++[[]]) [10]):=by
 obtain ⟨_,h3⟩:=arrs_len _ _ h1
 obtain ⟨_,h4⟩:=funs_len _ _ hn h2
 have h5:=join_len 10 (a++f++[[]])
 rw [xw,xw] at h5
 simp only [tl,List.length_nil] at h5
 refine ⟨by omega,ascii_join 10 (by decide) _ (qr (qr (asciis_all _ _ _ (fun x t _=>ascii_arr x t) h1) (asciis_all _ _ _ (fun x t _=>ascii_fun x t) h2)) (ze kx qx))⟩
theorem text_any (p:Src) (v:Value) (w:World) (hI:kn w p v) (hW:wtFs p.funcs≤100000) (hg:Glob w):Calls Tryz.prog 102 #[v] w (qe w (yh p)):=by
 obtain ⟨a0,c0,a1,c1,rfl,h0,h1⟩:=hI
 have hn:=h1.numsF
 by_cases hl0:p.secrets.length≤32
 case neg=>
  have t0:decide ((p.secrets.length:Int)≤32)=false:=by simp;omega
  have HE:Hid (yh p=none):=by show _=_;unfold yh;rw [if_neg (by omega)]
  clear h0 h1 hn hg
  go_enter Tryz.func102,Tryz.ntmps102
  go_wp2_with fail
  refine (zc _).mono ?_
  rintro e w1 ⟨rfl,rfl⟩
  go_wp2
  exact ⟨rfl,(wu _ _).alloc (wo _) _,by rw [HE.out]⟩
 by_cases hl1:p.funcs.length≤32
 case neg=>
  have t0:decide ((p.secrets.length:Int)≤32)=true:=by simp;omega
  have t1:decide ((p.funcs.length:Int)≤32)=false:=by simp;omega
  have HE:Hid (yh p=none):=by show _=_;unfold yh;rw [if_neg (by omega)]
  clear h0 h1 hn hg
  go_enter Tryz.func102,Tryz.ntmps102
  go_wp2_with fail
  refine (zc _).mono ?_
  rintro e w1 ⟨rfl,rfl⟩
  go_wp2
  exact ⟨rfl,(wu _ _).alloc (wo _) _,by rw [HE.out]⟩
 refine text_ok a0 a1 p.secrets.length p.funcs.length c0 c1 w _ (jx ky p.secrets) (jx xf p.funcs) (by simp;omega) (by simp;omega) (k8 fun w1 hb1=>?_) (k8 fun w1 hb1=>?_) (k8 ?_) (k8 fun ts h=>?_) (k8 fun ts h=>?_) (k8 fun a f h2 h3=>srcText_len p hW hn hl0 hl1 a f h2 h3)
 ·refine all_arrays ArrAt ArrIs arrOpen (fun w w' b o x h hb=>ArrAt.below hb x b o h) (.slice a0 p.secrets.length c0) p.secrets 137 ky w1 (fun _ _=>by kernel_rfl) (h0.imp (fun b o x _ hx=>ArrAt.below hb1 x b o hx)) (by omega) ?_
  intro w2 w3 j x val hb2 hx hv hb3
  exact text1_any x val w3 hv (((hg.below hb1).below hb2).below hb3)
 ·refine all_funcs FunAt FunIs funOpen (fun w w' b o x h hb=>FunAt.below hb x b o h) (.slice a1 p.funcs.length c1) p.funcs 142 xf w1 (fun _ _=>by kernel_rfl) (h1.imp (fun b o x _ hx=>FunAt.below hb1 x b o hx)) (by omega) ?_
  intro w2 w3 j x val hb2 hx hv hb3
  have hm:=wtFs_mem p.funcs x (gg hx)
  exact funcText_any x val w3 (hv.below hb3) (by omega) (((hg.below hb1).below hb2).below hb3)
 ·unfold yh
  rw [if_pos ⟨hl0,hl1⟩]
 ·have:=(arrs_len _ _ h).1
  omega
 ·have:=(funs_len _ _ hn h).1
  omega
end
section
open Go.RowKit
theorem catchS_idle (p q:Addr) (w:World) :
  CallsD Tryz.prog 134 #[.pointer (some p),.pointer (some q)] .returning w fun e u' w'=>e=.returned (.tuple #[])∧u'=.returning∧w'=w:=by
 refine callsD_of_wpS Tryz.func134 rfl fun c₀ cs hu=>?_
 change Code.wpS _ _ _ { tmps:=#[.pointer (some p),.pointer (some q),undef,undef,undef,undef,undef,undef,undef,undef,undef,undef,undef],defers:=[] } _ _
 apply wpS_seq
 apply wpS_region
 simp [wpOpsS,go_sem,recoverD,hu,Exit.thenS]
 refine wpS_of_wp ?_
 go_wp2
 cases c₀
 simp_all [bodyPostS,results,Tryz.results134]
theorem catchS_wrong (p q:Addr) (x:ByteArray) (b:Bool) (w:World) (hc:w.cell? p=some (.string x)) (hz:w.frozen? p=false)
 (hc':w.cell? q=some (.bool b)) (hz':w.frozen? q=false) (hpq:¬ q=p) :
  CallsD Tryz.prog 134 #[.pointer (some p),.pointer (some q)] (.panicking [wrongT]) w fun e u' w'=>
   e=.returned (.tuple #[])∧u'=.panicking [{ v:=.iface 173 (.agg #[]),recovered:=true }]∧w'=((w.alloc (.cells #[] 173)).setCell p (.string ⟨#[]⟩)).setCell q (.bool false):=by
 refine callsD_of_wpS Tryz.func134 rfl fun c₀ cs hu=>?_
 have hta:∀ w,(Instr.typeAssert (.iface 173 (.agg #[])) 20 173 true).run Tryz.prog w=.ok (.tuple #[.agg #[],.bool true]) w:=fun _=>by kernel_rfl
 have hne:∀ w,(binOp .eql 20 (.iface 173 (.agg #[])) .nilIface).run Tryz.prog w=.ok (.bool false) w:=fun _=>by kernel_rfl
 have hb:p.block<w.heap.size:=k9 w _ hc
 have hb':q.block<w.heap.size:=k9 w _ hc'
 have c1:(w.alloc (.cells #[] 173)).cell? p=some (.string x):=(World.cell?_alloc_lt w _ p hb).trans hc
 have c2:(w.alloc (.cells #[] 173)).cell? q=some (.bool b):=(World.cell?_alloc_lt w _ q hb').trans hc'
 have z1:(w.alloc (.cells #[] 173)).frozen? p=false:=(World.frozen?_alloc_old w _ p (Nat.ne_of_lt hb)).trans hz
 have z2:(w.alloc (.cells #[] 173)).frozen? q=false:=(World.frozen?_alloc_old w _ q (Nat.ne_of_lt hb')).trans hz'
 have c3:((w.alloc (.cells #[] 173)).setCell p (.string ⟨#[]⟩)).cell? q=some (.bool b):=by rw [World.cell?_setCell_other (h:=fun e=>hpq e.symm)];exact c2
 have z3:((w.alloc (.cells #[] 173)).setCell p (.string ⟨#[]⟩)).frozen? q=false:=by rw [World.frozen?_setCell];exact z2
 change Code.wpS _ _ _ { tmps:=#[.pointer (some p),.pointer (some q),undef,undef,undef,undef,undef,undef,undef,undef,undef,undef,undef],defers:=[] } _ _
 apply wpS_seq
 apply wpS_region
 simp [wpOpsS,go_sem,recoverD,hu,Exit.thenS,wrongT]
 refine wpS_of_wp ?_
 go_wp2
 cases c₀
 simp_all [bodyPostS,results,Tryz.results134]
def optTold (o:Option Txt):Value:=match o with|some t=>.tuple #[.string (S t),.bool true]|none=>.tuple #[.string ⟨#[]⟩,.bool false]
theorem caughtS_any (pv:Value) (o:Option Txt) (w:World) (HT:Hid (∀ w1,Below w.heap.size w w1→Calls Tryz.prog 101 #[pv] w1 (qe w1 o))) :
  Calls Tryz.prog 100 #[.func (.func 101) #[] #[pv]] w (Ret w (optTold o)):=by
 have hmf:∀ (fn:Fn) (first cap:Array Value) (w:World),(Instr.makeFunc fn first cap).run Tryz.prog w=.ok (.func fn first cap) w:=fun _ _ _ _=>rfl
 have HB0:=k8 (((wu w.heap.size w).alloc (wo _) (.cells #[.string ⟨#[]⟩] 9)).alloc (by simp) (.cells #[.bool false] 4))
 go_enter_defers Tryz.func100,Tryz.ntmps100
 go_wp2_with fail
 refine (HT.out _ HB0.out).mono ?_
 rintro e w1 ⟨hB,he⟩
 have HB1:=k8 (jg HB0.out (by simp;omega) hB)
 have hc0:w1.cell? ⟨w.heap.size,0,none⟩=some (.string ⟨#[]⟩):=(hB.cell (by simp;omega)).trans (by simp [go_sem])
 have hc1:w1.cell? ⟨w.heap.size+1,0,none⟩=some (.bool false):=(hB.cell (by simp)).trans (by simp [go_sem])
 have hz0:w1.frozen? ⟨w.heap.size,0,none⟩=false:=(hB.frozen (by simp;omega)).trans (by simp [go_sem])
 have hz1:w1.frozen? ⟨w.heap.size+1,0,none⟩=false:=(hB.frozen (by simp)).trans (by simp [go_sem])
 clear hB
 have hbl:w.heap.size+1<w1.heap.size:=k9 w1 _ hc1
 cases o with
 | none=>
  subst he
  go_wp2_with fail
  refine leaves_cons (f:=134) (args:=#[.pointer (some ⟨w.heap.size,0,none⟩),.pointer (some ⟨w.heap.size+1,0,none⟩)]) (by simp) (by simp [go_sem]) ?_
  refine (catchS_wrong ⟨w.heap.size,0,none⟩ ⟨w.heap.size+1,0,none⟩ _ _ _ hc0 hz0 hc1 hz1 (fun e=>by have:=congrArg Addr.block e;simp at this)).mono ?_
  rintro e u' w'' ⟨rfl,rfl,rfl⟩
  have hB2:=((HB1.out.alloc HB1.out.size (.cells #[] 173)).setCell (p:=⟨w.heap.size,0,none⟩) (wo _) (.string ⟨#[]⟩)).setCell (p:=⟨w.heap.size+1,0,none⟩) (by simp) (.bool false)
  have g0:(((w1.alloc (.cells #[] 173)).setCell ⟨w.heap.size,0,none⟩ (.string ⟨#[]⟩)).setCell ⟨w.heap.size+1,0,none⟩ (.bool false)).cell? ⟨w.heap.size,0,none⟩=some (.string ⟨#[]⟩):=by
   rw [World.cell?_setCell_other (h:=fun e=>by have:=congrArg Addr.block e;simp at this)]
   exact World.cell?_setCell_same _ _ _ (u:=.string ⟨#[]⟩) (by rw [World.cell?_alloc_past _ _ _ (by omega)];exact hc0)
  have g1:(((w1.alloc (.cells #[] 173)).setCell ⟨w.heap.size,0,none⟩ (.string ⟨#[]⟩)).setCell ⟨w.heap.size+1,0,none⟩ (.bool false)).cell? ⟨w.heap.size+1,0,none⟩=some (.bool false):=by
   refine World.cell?_setCell_same _ _ _ (u:=.bool false) ?_
   rw [World.cell?_setCell_other (h:=fun e=>by have:=congrArg Addr.block e;simp at this),World.cell?_alloc_past _ _ _ hbl]
   exact hc1
  have HB2:=k8 hB2
  clear hB2
  generalize ((w1.alloc (.cells #[] 173)).setCell ⟨w.heap.size,0,none⟩ (.string ⟨#[]⟩)).setCell ⟨w.heap.size+1,0,none⟩ (.bool false)=W at *
  have hE:Ret w (optTold none) (.returned (.tuple #[.string ⟨#[]⟩,.bool false])) W:=⟨rfl,HB2.out⟩
  clear hc0 hc1 hz0 hz1
  simp [Leaves,settle,results,Tryz.results100,go_sem,g0,g1]
  exact hE
 | some t=>
  subst he
  go_wp2_with fail
  have hB2:=(HB1.out.setCell (p:=⟨w.heap.size,0,none⟩) (wo _) (.string (S t))).setCell (p:=⟨w.heap.size+1,0,none⟩) (by simp) (.bool true)
  have g0:((w1.setCell ⟨w.heap.size,0,none⟩ (.string (S t))).setCell ⟨w.heap.size+1,0,none⟩ (.bool true)).cell? ⟨w.heap.size,0,none⟩=some (.string (S t)):=by
   rw [World.cell?_setCell_other (h:=fun e=>by have:=congrArg Addr.block e;simp at this)]
   exact World.cell?_setCell_same _ _ _ (u:=.string ⟨#[]⟩) hc0
  have g1:((w1.setCell ⟨w.heap.size,0,none⟩ (.string (S t))).setCell ⟨w.heap.size+1,0,none⟩ (.bool true)).cell? ⟨w.heap.size+1,0,none⟩=some (.bool true):=by
   refine World.cell?_setCell_same _ _ _ (u:=.bool false) ?_
   rw [World.cell?_setCell_other (h:=fun e=>by have:=congrArg Addr.block e;simp at this)]
   exact hc1
  have HB2:=k8 hB2
  clear hB2
  generalize (w1.setCell ⟨w.heap.size,0,none⟩ (.string (S t))).setCell ⟨w.heap.size+1,0,none⟩ (.bool true)=W at *
  have hE:Ret w (optTold (some t)) (.returned (.tuple #[.string (S t),.bool true])) W:=⟨rfl,HB2.out⟩
  clear hc0 hc1 hz0 hz1
  refine leaves_cons (f:=134) (args:=#[.pointer (some ⟨w.heap.size,0,none⟩),.pointer (some ⟨w.heap.size+1,0,none⟩)]) (by simp) (by simp [go_sem]) ?_
  refine (catchS_idle ⟨w.heap.size,0,none⟩ ⟨w.heap.size+1,0,none⟩ _).mono ?_
  rintro e u' w'' ⟨rfl,rfl,rfl⟩
  simp [Leaves,settle,results,Tryz.results100,go_sem,g0,g1]
  exact hE
theorem print1_any (b:Nat) (o:Option Txt) (w:World) (a0 a1:Option Addr) (l0 c0 l1 c1:Nat) (h0:w.cell? ⟨b,0,none⟩=some (.slice a0 l0 c0)) (h1:w.cell? ⟨b,1,none⟩=some (.slice a1 l1 c1))
  (HT:Hid (∀ w1,Below w.heap.size w w1→Calls Tryz.prog 102 #[.agg #[.slice a0 l0 c0,.slice a1 l1 c1]] w1 (qe w1 o))) :
  Calls Tryz.prog 101 #[.pointer (some ⟨b,0,none⟩)] w (qe w o):=by
 have hb:=k9 w _ h0
 go_enter Tryz.func101,Tryz.ntmps101
 go_wp2_with fail
 refine (HT.out _ (wu _ _)).mono ?_
 rintro e w1 ⟨hB,he⟩
 have HB:=k8 hB
 clear hB
 cases o with
 | none=>
  subst he
  go_wp2
  exact ⟨rfl,HB.out,rfl⟩
 | some t=>
  subst he
  go_wp2
  go_ret
  exact ⟨HB.out,rfl⟩
def printed (p:Src):Txt×Int:=match yh p with|none=>([],1)|some t=>if t.length≤20000 then (t,0) else ([],4)
theorem print_any (p:Src) (v:Value) (w:World) (hI:kn w p v) (hW:wtFs p.funcs≤100000) (hg:Glob w):Calls Tryz.prog 65 #[v] w (Ret w (.tuple #[.string (S (printed p).1),.int .i64 (printed p).2])):=by
 have hmf:∀ (fn:Fn) (first cap:Array Value) (w:World),(Instr.makeFunc fn first cap).run Tryz.prog w=.ok (.func fn first cap) w:=fun _ _ _ _=>rfl
 have HT:=k8 (fun w1 (hb:Below w.heap.size w w1)=>text_any p v w1 (hI.below hb) hW (hg.below hb))
 have hp:printed p=match yh p with|none=>([],1)|some t=>if t.length≤20000 then (t,0) else ([],4):=rfl
 obtain ⟨a0,c0,a1,c1,rfl,-,-⟩:=hI
 clear hg
 generalize yh p=o at *
 generalize printed p=r at *
 have HC:=k8 (fun (h:True)=>caughtS_any (.pointer (some ⟨w.heap.size,0,none⟩)) o (w.alloc (.cells #[.slice a0 p.secrets.length c0,.slice a1 p.funcs.length c1] 25)) (k8 fun w1 hb=>print1_any w.heap.size o w1 a0 a1 _ c0 _ c1
  ((hb.cell (by simp)).trans (by simp)) ((hb.cell (by simp)).trans (by simp)) (k8 fun w2 hb2=>HT.out _ (((wu w.heap.size w).alloc (wo _) _).trans ((hb.mono (by simp)).trans (hb2.mono (wx (by simp) hb.size)))))))
 have HB0:=k8 ((wu w.heap.size w).alloc (wo _) (.cells #[.slice a0 p.secrets.length c0,.slice a1 p.funcs.length c1] 25))
 clear HT
 have HP:=k8 hp
 clear hp hW
 go_enter Tryz.func65,Tryz.ntmps65
 go_wp2_with fail
 refine (HC.out trivial).mono ?_
 rintro e w1 ⟨rfl,hB⟩
 have HB:=k8 (jg HB0.out (by simp) hB)
 clear hB
 cases o with
 | none=>
  obtain rfl:r=([],1):=HP.out
  simp only [optTold]
  go_wp2
  go_ret2
  exact ⟨rfl,HB.out⟩
 | some t=>
  simp only [optTold]
  have hsz:=S_size t
  by_cases hl:t.length≤20000
  ·obtain rfl:r=(t,0):=by rw [HP.out];simp only [if_pos hl]
   have tl1:decide ((20000:Int)<(S t).size)=false:=by rw [hsz,decide_eq_false_iff_not];omega
   generalize S t=TX at *
   clear hsz hl
   go_wp2
   go_ret2
   exact ⟨rfl,HB.out⟩
  ·obtain rfl:r=([],4):=by rw [HP.out];simp only [if_neg hl]
   have tl1:decide ((20000:Int)<(S t).size)=true:=by rw [hsz,decide_eq_true_iff];omega
   generalize S t=TX at *
   clear hsz hl
   go_wp2
   go_ret2
   exact ⟨rfl,HB.out⟩
end
section
open Go.RowKit
theorem keyS:KeyLaw Tryz.prog 9 Value.string:=keyLaw_string Tryz.underlying9
def mpMap (B:Nat):MP:=⟨fun v w=>∃ b,v=.map (some b)∧B≤b∧w.heap[b]?=some (.map #[] 0),fun v x y ⟨b,h1,hB,h2⟩ hb=>⟨b,h1,hB,by rw [hb.block b (wl.1 h2).1];exact h2⟩⟩
theorem mpMap_lt {L:List MP} {i B:Nat} (hi:L.getD i MP.any=mpMap B):∀ u x b,y7 L i u x→blk u=some b→b<x.heap.size:=by
 intro u x b h hb
 unfold y7 at h
 rw [hi] at h
 obtain ⟨b',rfl,_,h2⟩:=h
 simp only [blk,Option.some.injEq] at hb
 subst hb
 exact (wl.1 h2).1
theorem stepN_map {B:Nat} {P:Program} {ops fo:Array Oper} {Q:Exit→Act→World→Prop} {L:List MP} {w₀:World} {a₀:Act} {i:Nat} {o:Oper} {t:TypeId} (hgd:o.guard=none) (hd:o.dst.isSome=true) (hop:o.op=Op.makeMap t none) (hL:L.getD i MP.any=mpMap B) (hBw:B≤w₀.heap.size):StepN P ops fo Q L w₀ a₀ i o:=by
 intro a w hB hF hD
 refine ⟨hgd,?_⟩
 unfold Oper.wp
 have hne:o.dst≠none:=by intro e;rw [e] at hd;cases hd
 have hrun:(execOp a.eval o).run P w=.ok (.value (.map (some w.heap.size))) (w.alloc (.map #[] 0)):=by
  simp [execOp,hop,Instr.makeMap,Result.andThen,newObj,Sem.run]
  first|rfl|skip
 rw [hrun]
 refine ⟨_,rfl,(wu _ _).alloc (wo _) _,?_,?_⟩
 ·rw [if_neg hne]
  unfold y7
  rw [hL]
  exact ⟨_,rfl,wx hBw hB.size,(MapKept.heap_alloc w _).1⟩
 ·intro b hb
  rw [if_neg hne] at hb
  simp only [blk,Option.some.injEq] at hb
  omega
theorem mapB_new (w:World) (b:Nat) (h:w.heap[b]?=some (.map #[] 0)):MapB w b []:=⟨_,_,h,rfl⟩
theorem mapN_new (w:World) (b:Nat) (h:w.heap[b]?=some (.map #[] 0)):MapN w b []:=⟨_,_,h,rfl⟩
theorem mapT_new (w:World) (b:Nat) (h:w.heap[b]?=some (.map #[] 0)):MapT w b []:=⟨_,_,h,rfl⟩
def viewCells (x0 x1:Value) (i:Nat) (nm:ByteArray) (out:Bool) (x2 x3:Value) (ab pb sb tb:Nat):Array Value:=
 #[x0,x1,.int .i64 i,.string nm,.bool out,x2,x3,.map (some ab),.map (some pb),.map (some sb),.map (some tb)]
structure qj (w0:World) (p:Src) (i:Nat) (f:Fun) (w:World) (vb ab pb sb tb:Nat):Prop where
 cells:∃ a0 c0 a1 c1 a2 c2 a3 c3,w.heap[vb]?=some (.cells (viewCells (.slice a0 p.secrets.length c0) (.slice a1 p.funcs.length c1) i f.name f.out (.slice a2 f.params.length c2) (.slice a3 f.body.length c3) ab pb sb tb) 127) ∧
  kn w0 p (.agg #[.slice a0 p.secrets.length c0,.slice a1 p.funcs.length c1])∧FunIs w0 f (.agg #[.string f.name,.bool f.out,.slice a2 f.params.length c2,.slice a3 f.body.length c3])
 fn:p.funcs[i]?=some f
 arrays:MapB w ab (jt p)
 pointers:MapN w pb (zm f)
 lo:w0.heap.size≤vb∧w0.heap.size≤ab∧w0.heap.size≤pb∧w0.heap.size≤sb∧w0.heap.size≤tb
 ne:ab≠pb∧ab≠sb∧ab≠tb∧pb≠sb∧pb≠tb∧sb≠tb
 nv:vb≠ab∧vb≠pb∧vb≠sb∧vb≠tb
theorem yq {α β:Type} (g:β→α→β) (z:β) (l:List α) (k:Nat) (h:k<l.length):(l.take (k+1)).foldl g z=g ((l.take k).foldl g z) l[k]:=by
 rw [List.take_succ_eq_append_getElem h,List.foldl_append];rfl
structure LookI (w:World) (cs:Array Value) (vb ab pb sb tb:Nat) (la:List (ByteArray×Bool)) (lp:List (ByteArray×Int)) (ls:List (ByteArray×Bool)) (wr:World):Prop where
 below:Below w.heap.size w wr
 view:wr.heap[vb]?=some (.cells cs 127)
 ma:MapB wr ab la
 mp:MapN wr pb lp
 ms:MapB wr sb ls
 mt:MapT wr tb []
theorem LookI.next {w wr w':World} {cs:Array Value} {vb ab pb sb tb:Nat} {la ls:List (ByteArray×Bool)} {lp:List (ByteArray×Int)} (h:LookI w cs vb ab pb sb tb la lp ls wr) (hb:Below wr.heap.size wr w'):LookI w cs vb ab pb sb tb la lp ls w':=
 ⟨jg h.below h.below.size hb,ji hb h.view,h.ma.below hb,h.mp.below hb,h.ms.below hb,h.mt.below hb⟩
theorem LookI.putA {w wr w':World} {cs:Array Value} {vb ab pb sb tb:Nat} {la ls:List (ByteArray×Bool)} {lp:List (ByteArray×Int)} (h:LookI w cs vb ab pb sb tb la lp ls wr) {k:ByteArray} {v:Bool} (hm:j5 Value.string w' ab (aput (la.map fun x=>(x.1,Value.bool x.2)) k (.bool v))) (hg:wr.grownBy w' (some ab)) (h0:w.heap.size≤ab) (h1:ab≠pb) (h2:ab≠sb) (h3:ab≠tb) (h4:vb≠ab):LookI w cs vb ab pb sb tb (aput la k v) lp ls w':=
 ⟨h.below.grown hg h.below.size (fun b hb=>by simp only [Option.some.injEq] at hb;omega),by rw [hg.block vb (wl.1 h.view).1 (by simpa using h4)];exact h.view,by rw [kz] at hm;exact hm,j5.grown h.mp hg (by simpa using Ne.symm h1),j5.grown h.ms hg (by simpa using Ne.symm h2),j5.grown h.mt hg (by simpa using Ne.symm h3)⟩
theorem LookI.putP {w wr w':World} {cs:Array Value} {vb ab pb sb tb:Nat} {la ls:List (ByteArray×Bool)} {lp:List (ByteArray×Int)} (h:LookI w cs vb ab pb sb tb la lp ls wr) {k:ByteArray} {v:Int} (hm:j5 Value.string w' pb (aput (lp.map fun x=>(x.1,Value.int .i64 x.2)) k (.int .i64 v))) (hg:wr.grownBy w' (some pb)) (h0:w.heap.size≤pb) (h1:ab≠pb) (h2:pb≠sb) (h3:pb≠tb) (h4:vb≠pb):LookI w cs vb ab pb sb tb la (aput lp k v) ls w':=
 ⟨h.below.grown hg h.below.size (fun b hb=>by simp only [Option.some.injEq] at hb;omega),by rw [hg.block vb (wl.1 h.view).1 (by simpa using h4)];exact h.view,j5.grown h.ma hg (by simpa using h1),by rw [kz] at hm;exact hm,j5.grown h.ms hg (by simpa using Ne.symm h2),j5.grown h.mt hg (by simpa using Ne.symm h3)⟩
theorem LookI.putS {w wr w':World} {cs:Array Value} {vb ab pb sb tb:Nat} {la ls:List (ByteArray×Bool)} {lp:List (ByteArray×Int)} (h:LookI w cs vb ab pb sb tb la lp ls wr) {k:ByteArray} {v:Bool} (hm:j5 Value.string w' sb (aput (ls.map fun x=>(x.1,Value.bool x.2)) k (.bool v))) (hg:wr.grownBy w' (some sb)) (h0:w.heap.size≤sb) (h1:ab≠sb) (h2:pb≠sb) (h3:sb≠tb) (h4:vb≠sb):LookI w cs vb ab pb sb tb la lp (aput ls k v) w':=
 ⟨h.below.grown hg h.below.size (fun b hb=>by simp only [Option.some.injEq] at hb;omega),by rw [hg.block vb (wl.1 h.view).1 (by simpa using h4)];exact h.view,j5.grown h.ma hg (by simpa using h1),j5.grown h.mp hg (by simpa using h2),by rw [kz] at hm;exact hm,j5.grown h.mt hg (by simpa using Ne.symm h3)⟩
theorem look_any (w0:World) (p:Src) (i:Nat) (f:Fun) (hf:p.funcs[i]?=some f) (v:Value) (w:World) (hb0:Below w0.heap.size w0 w) (hI:kn w0 p v) :
  Calls Tryz.prog 42 #[v,.int .i64 i] w fun e w'=>Below w.heap.size w w'∧∃ vb ab pb sb tb,e=.returned (.pointer (some ⟨vb,0,none⟩))∧w.heap.size≤vb∧w.heap.size≤ab∧w.heap.size≤pb∧w.heap.size≤sb∧w.heap.size≤tb∧qj w0 p i f w' vb ab pb sb tb∧MapB w' sb (qw f)∧MapT w' tb []:=by
 have hI0:=hI
 obtain ⟨a0,c0,a1,c1,rfl,hs0,hs1⟩:=hI
 have hi:i<p.funcs.length:=(List.getElem?_eq_some_iff.1 hf).1
 obtain ⟨a1',c1',he1,hc1,hl1,hr1⟩:=hs1
 simp only [Value.slice.injEq] at he1
 obtain ⟨rfl,-,rfl⟩:=he1
 obtain ⟨fb,fo,rfl,hrow⟩:=hr1 (by intro h;rw [h] at hi;simp at hi)
 obtain ⟨a2,c2,a3,c3,g0,g1,g2,g3,gI⟩:=(FunAt.below hb0 f fb (fo+i * 4) (hrow i f hf)).open
 obtain ⟨_,_,_,_,-,-,-,-,gI0⟩:=(hrow i f hf).open
 have HI0:=k8 hI0
 have HFI:=k8 (show FunIs w0 f (.agg #[.string f.name,.bool f.out,.slice a2 f.params.length c2,.slice a3 f.body.length c3]) from by
  obtain ⟨b2,d2,b3,d3,e0,e1,e2,e3,eI⟩:=(hrow i f hf).open
  have k2:=jb hb0 e2
  have k3:=jb hb0 e3
  rw [g2] at k2
  rw [g3] at k3
  simp only [Option.some.injEq,Value.slice.injEq] at k2 k3
  obtain ⟨rfl,-,rfl⟩:=k2
  obtain ⟨rfl,-,rfl⟩:=k3
  exact eI)
 have HF0:=k8 g0
 have HF1:=k8 g1
 have HF2:=k8 g2
 have HF3:=k8 g3
 have hsA:=hs0.imp (fun b o x _ hx=>ArrAt.below hb0 x b o hx)
 have HAr:=k8 hsA
 obtain ⟨_,_,_,_,hfe,-,hp0,-⟩:=gI
 simp only [Value.agg.injEq,List.toArray_inj,Array.mk.injEq,List.cons.injEq,Value.slice.injEq,true_and,and_true] at hfe
 obtain ⟨⟨rfl,rfl⟩,⟨rfl,rfl⟩⟩:=hfe
 have HPr:=k8 hp0
 have HB0:=k8 hb0
 have HF:=k8 hf
 clear hI0 g0 g1 g2 g3 hrow hr1 hsA hs0 hp0 hb0 hf gI0
 go_enter Tryz.func42,Tryz.ntmps42
 go_wp2_with fail
 refine wp_region_list_news zi [.is (.agg #[.slice a0 p.secrets.length c0,.slice (some ⟨fb,fo,none⟩) p.funcs.length c1]),.is (.int .i64 i),.is (.pointer (some ⟨w.heap.size,1,none⟩)),.is (.slice (some ⟨fb,fo,none⟩) p.funcs.length c1),.is (.int .i64 i),.is (.pointer (some ⟨fb,fo+i * 4,none⟩)),.is (.agg #[.string f.name,.bool f.out,.slice a2 f.params.length c2,.slice a3 f.body.length c3]),mpMap w.heap.size,mpMap w.heap.size,mpMap w.heap.size,mpMap w.heap.size] [7,8,9,10] (by intro j hj;simp only [gh,List.not_mem_nil,or_false] at hj;rcases hj with rfl|rfl|rfl|rfl<;>exact mpMap_lt rfl) (by kernel_rfl) 11 (by decide) (by kernel_rfl) _ rfl ?_ ?_
 ·refine ⟨?_,?_,?_,?_,?_,?_,?_,?_,?_,?_,?_,trivial⟩
  ·refine jc rfl rfl rfl fun x y hB hF hD=>?_
   have e2:slot x 2=.pointer (some ⟨w.heap.size,0,none⟩):=hF.at 2 rfl
   have hc:y.cell? ⟨w.heap.size,0,none⟩=some (.slice a0 p.secrets.length c0):=(hB.cell (by simp)).trans (by simp)
   have hc1:y.cell? ⟨w.heap.size,1,none⟩=some (.slice (some ⟨fb,fo,none⟩) p.funcs.length c1):=(hB.cell (by simp)).trans (by simp)
   clear hB hF
   simp only [execOp,ja,e2]
   first|rfl|(go_simp;try rfl)
  ·refine jc rfl rfl rfl fun x y hB hF hD=>?_
   have e1:slot x 1=.int .i64 i:=hF.at 1 rfl
   clear hB hF
   simp only [execOp,ja,e1]
   first|rfl|(go_simp;try rfl)
  ·refine jc rfl rfl rfl fun x y hB hF hD=>?_
   have e2:slot x 2=.pointer (some ⟨w.heap.size,0,none⟩):=hF.at 2 rfl
   clear hB hF
   simp only [execOp,ja,e2]
   first|rfl|(go_simp;try rfl)
  ·refine jc rfl rfl rfl fun x y hB hF hD=>?_
   obtain ⟨d0,-⟩:=hD
   have e12:slot x 12=.pointer (some ⟨w.heap.size,1,none⟩):=d0 rfl
   have hc:y.cell? ⟨w.heap.size,1,none⟩=some (.slice (some ⟨fb,fo,none⟩) p.funcs.length c1):=(hB.cell (by simp)).trans (by simp)
   clear hB hF
   simp only [execOp,ja,e12]
   first|rfl|(go_simp;try rfl)
  ·refine jc rfl rfl rfl fun x y hB hF hD=>?_
   have e1:slot x 1=.int .i64 i:=hF.at 1 rfl
   clear hB hF
   simp only [execOp,ja,e1]
   first|rfl|(go_simp;try rfl)
  ·refine jc rfl rfl rfl fun x y hB hF hD=>?_
   obtain ⟨d0,d1,-⟩:=hD
   have e13:slot x 13=.slice (some ⟨fb,fo,none⟩) p.funcs.length c1:=d0 rfl
   have e14:slot x 14=.int .i64 i:=d1 rfl
   clear hB hF
   simp only [execOp,ja,e13,e14]
   first|rfl|(go_simp;try rfl)
  ·refine jc rfl rfl rfl fun x y hB hF hD=>?_
   obtain ⟨d0,-⟩:=hD
   have e15:slot x 15=.pointer (some ⟨fb,fo+i * 4,none⟩):=d0 rfl
   have h0:y.cell? ⟨fb,fo+i * 4,none⟩=some (.string f.name):=(hB.cell (Nat.lt_of_lt_of_le (k9 w _ HF0.out) (by simp))).trans (((World.cell?_alloc_past _ _ _ (k9 w _ HF0.out))).trans HF0.out)
   have h1:y.cell? ⟨fb,fo+i * 4+1,none⟩=some (.bool f.out):=(hB.cell (Nat.lt_of_lt_of_le (k9 w _ HF1.out) (by simp))).trans (((World.cell?_alloc_past _ _ _ (k9 w _ HF1.out))).trans HF1.out)
   have h2:y.cell? ⟨fb,fo+i * 4+2,none⟩=some (.slice a2 f.params.length c2):=(hB.cell (Nat.lt_of_lt_of_le (k9 w _ HF2.out) (by simp))).trans (((World.cell?_alloc_past _ _ _ (k9 w _ HF2.out))).trans HF2.out)
   have h3:y.cell? ⟨fb,fo+i * 4+3,none⟩=some (.slice a3 f.body.length c3):=(hB.cell (Nat.lt_of_lt_of_le (k9 w _ HF3.out) (by simp))).trans (((World.cell?_alloc_past _ _ _ (k9 w _ HF3.out))).trans HF3.out)
   clear hB hF
   simp only [execOp,ja,e15]
   first|rfl|(go_simp;try rfl)
  ·refine stepN_map rfl rfl rfl rfl (by simp)
  ·refine stepN_map rfl rfl rfl rfl (by simp)
  ·refine stepN_map rfl rfl rfl rfl (by simp)
  ·refine stepN_map rfl rfl rfl rfl (by simp)
 ·intro x y hB hF hP hN
  obtain ⟨p0,p1,p2,p3,p4,p5,p6,p7,p8,p9,p10,-⟩:=hP
  have hx:=jj hF [(10,.agg #[.slice a0 p.secrets.length c0,.slice (some ⟨fb,fo,none⟩) p.funcs.length c1]),(11,.int .i64 i),(12,.pointer (some ⟨w.heap.size,1,none⟩)),(13,.slice (some ⟨fb,fo,none⟩) p.funcs.length c1),(14,.int .i64 i),(15,.pointer (some ⟨fb,fo+i * 4,none⟩)),(16,.agg #[.string f.name,.bool f.out,.slice a2 f.params.length c2,.slice a3 f.body.length c3]),(17,slot x 17),(18,slot x 18),(19,slot x 19),(20,slot x 20)] rfl ⟨p0,p1,p2,p3,p4,p5,p6,rfl,rfl,rfl,rfl,trivial⟩
  obtain ⟨ab,e17,hab,hm7⟩:∃ b,slot x 17=.map (some b)∧w.heap.size≤b∧y.heap[b]?=some (.map #[] 0):=p7
  obtain ⟨pb,e18,hpb,hm8⟩:∃ b,slot x 18=.map (some b)∧w.heap.size≤b∧y.heap[b]?=some (.map #[] 0):=p8
  obtain ⟨sb,e19,hsb,hm9⟩:∃ b,slot x 19=.map (some b)∧w.heap.size≤b∧y.heap[b]?=some (.map #[] 0):=p9
  obtain ⟨tb,e20,htb,hm10⟩:∃ b,slot x 20=.map (some b)∧w.heap.size≤b∧y.heap[b]?=some (.map #[] 0):=p10
  have n78:ab≠pb:=fun e=>hN 7 8 _ _ (by decide) (by decide) (by decide) (by decide) (by decide) rfl rfl ab (by show blk (slot x 17)=_;rw [e17];rfl) (by show blk (slot x 18)=_;rw [e18,e];rfl)
  have n79:ab≠sb:=fun e=>hN 7 9 _ _ (by decide) (by decide) (by decide) (by decide) (by decide) rfl rfl ab (by show blk (slot x 17)=_;rw [e17];rfl) (by show blk (slot x 19)=_;rw [e19,e];rfl)
  have n710:ab≠tb:=fun e=>hN 7 10 _ _ (by decide) (by decide) (by decide) (by decide) (by decide) rfl rfl ab (by show blk (slot x 17)=_;rw [e17];rfl) (by show blk (slot x 20)=_;rw [e20,e];rfl)
  have n89:pb≠sb:=fun e=>hN 8 9 _ _ (by decide) (by decide) (by decide) (by decide) (by decide) rfl rfl pb (by show blk (slot x 18)=_;rw [e18];rfl) (by show blk (slot x 19)=_;rw [e19,e];rfl)
  have n810:pb≠tb:=fun e=>hN 8 10 _ _ (by decide) (by decide) (by decide) (by decide) (by decide) rfl rfl pb (by show blk (slot x 18)=_;rw [e18];rfl) (by show blk (slot x 20)=_;rw [e20,e];rfl)
  have n910:sb≠tb:=fun e=>hN 9 10 _ _ (by decide) (by decide) (by decide) (by decide) (by decide) rfl rfl sb (by show blk (slot x 19)=_;rw [e19];rfl) (by show blk (slot x 20)=_;rw [e20,e];rfl)
  rw [e17,e18,e19,e20] at hx
  have HB:=k8 (((wu w.heap.size w).alloc (wo _) _).trans (hB.mono (by simp)))
  have hc0:y.cell? ⟨w.heap.size,0,none⟩=some (.slice a0 p.secrets.length c0):=(hB.cell (by simp)).trans (by simp)
  have hbl:w.heap.size<y.heap.size:=k9 y _ hc0
  have hla:ab<y.heap.size:=(wl.1 hm7).1
  have hlp:pb<y.heap.size:=(wl.1 hm8).1
  have hls:sb<y.heap.size:=(wl.1 hm9).1
  have hlt:tb<y.heap.size:=(wl.1 hm10).1
  clear hF hN p0 p1 p2 p3 p4 p5 p6 e17 e18 e19 e20 hB
  subst hx
  have HM7:=k8 hm7
  have HM8:=k8 hm8
  have HM9:=k8 hm9
  have HM10:=k8 hm10
  clear hm7 hm8 hm9 hm10
  simp only [puts,Act.put,we,wg,wi,wj,wk]
  have HL:Hid (LookI w (viewCells (.slice a0 p.secrets.length c0) (.slice (some ⟨fb,fo,none⟩) p.funcs.length c1) i f.name f.out (.slice a2 f.params.length c2) (.slice a3 f.body.length c3) ab pb sb tb) y.heap.size ab pb sb tb [] [] [] (y.alloc (.cells (viewCells (.slice a0 p.secrets.length c0) (.slice (some ⟨fb,fo,none⟩) p.funcs.length c1) i f.name f.out (.slice a2 f.params.length c2) (.slice a3 f.body.length c3) ab pb sb tb) 127))):=
   ⟨HB.out.alloc HB.out.size _,heap_alloc_new y _,(mapB_new _ _ HM7.out).below ((wu _ _).alloc (wo _) _),(mapN_new _ _ HM8.out).below ((wu _ _).alloc (wo _) _),(mapB_new _ _ HM9.out).below ((wu _ _).alloc (wo _) _),(mapT_new _ _ HM10.out).below ((wu _ _).alloc (wo _) _)⟩
  have hvb:w.heap.size≤y.heap.size:=HB.out.size
  clear HM7 HM8 HM9 HM10
  go_wp2_with fail
  simp only [viewCells] at HL
  generalize y.alloc _=y1 at *
  generalize y.heap.size=vb at *
  go_loopw [26] (fun iv wr=>∃ k:Nat,k≤p.secrets.length∧iv=.int .i64 k∧LookI w _ vb ab pb sb tb ((p.secrets.take k).foldl (fun l a=>aput l a.name true) []) [] [] wr) (fun iv _=>p.secrets.length - (intOf iv).toNat)
  case atStart=>exact ⟨0,gj _,rfl,HL.out⟩
  case round=>
   obtain ⟨k,hk,rfl,hL⟩:=hrel
   by_cases hlt2:k<p.secrets.length
   ·have HLk:=k8 hL
    obtain ⟨a0',c0',he0,hc0',hl0',hr0⟩:=HAr.out
    obtain ⟨b,o,hab0,hro⟩:=hr0 (by intro h;rw [h] at hlt2;simp at hlt2)
    simp only [Value.slice.injEq] at he0
    obtain ⟨rfl,-,rfl⟩:=he0
    subst hab0
    have hat:=hro k p.secrets[k] (by simp [hlt2])
    have h0:=hL.below.cell (k9 w _ hat.1.1) |>.trans hat.1.1
    have h1:=hL.below.cell (k9 w _ hat.2.1) |>.trans hat.2.1
    have hbb:=k9 wr _ h0
    clear hL hro hat
    go_wp2_with fail
    have hL1:=HLk.out.next ((wu _ _).alloc (wo _) (.cells #[.string p.secrets[k].name,.int .i64 p.secrets[k].len] 62))
    have hv7:(wr.alloc (.cells #[.string p.secrets[k].name,.int .i64 p.secrets[k].len] 62)).cell? ⟨vb,7,none⟩=some (.map (some ab)):=by simp [World.cell?,hL1.view]
    have hx0:(wr.alloc (.cells #[.string p.secrets[k].name,.int .i64 p.secrets[k].len] 62)).cell? ⟨wr.heap.size,0,none⟩=some (.string p.secrets[k].name):=by simp
    have HL1:=k8 hL1
    have HV7:=k8 hv7
    have HX0:=k8 hx0
    clear hL1 hv7 hx0 hr0 h0 h1
    have HNM:Hid (∃ s,s=p.secrets[k].name):=⟨_,rfl⟩
    obtain ⟨nm,hnm⟩:=HNM.out
    clear HNM
    have HNM:=k8 hnm
    rw [← hnm] at HL1 HV7 HX0 ⊢
    clear hnm
    refine je zi [.is (.pointer (some ⟨vb,0,none⟩)),.is (.pointer (some ⟨vb,0,none⟩)),.is (.pointer (some ⟨vb,7,none⟩)),.is (.map (some ab)),.is (.pointer (some ⟨wr.heap.size,0,none⟩)),.is (.string nm)] (by kernel_rfl) 6 (by decide) (by kernel_rfl) _ rfl ?_ ?_
    ·refine ⟨?_,?_,?_,?_,?_,?_,trivial⟩
     ·refine jc rfl rfl rfl fun x y hB hF hD=>?_
      have e5:slot x 5=.pointer (some ⟨vb,0,none⟩):=hF.at 5 rfl
      clear hB hF
      simp only [execOp,ja,e5]
      first|rfl|(go_simp;try rfl)
     ·refine jc rfl rfl rfl fun x y hB hF hD=>?_
      obtain ⟨d0,-⟩:=hD
      have e30:slot x 30=.pointer (some ⟨vb,0,none⟩):=d0 rfl
      clear hB hF
      simp only [execOp,ja,e30]
      first|rfl|(go_simp;try rfl)
     ·refine jc rfl rfl rfl fun x y hB hF hD=>?_
      obtain ⟨d0,-⟩:=hD
      have e31:slot x 31=.pointer (some ⟨vb,0,none⟩):=d0 rfl
      clear hB hF
      simp only [execOp,ja,e31]
      first|rfl|(go_simp;try rfl)
     ·refine jc rfl rfl rfl fun x y hB hF hD=>?_
      obtain ⟨d0,-⟩:=hD
      have e32:slot x 32=.pointer (some ⟨vb,7,none⟩):=d0 rfl
      have hc:y.cell? ⟨vb,7,none⟩=some (.map (some ab)):=jb hB HV7.out
      clear hB hF
      simp only [execOp,ja,e32]
      first|rfl|(go_simp;try rfl)
     ·refine jc rfl rfl rfl fun x y hB hF hD=>?_
      have e7:slot x 7=.pointer (some ⟨wr.heap.size,0,none⟩):=hF.at 7 rfl
      clear hB hF
      simp only [execOp,ja,e7]
      first|rfl|(go_simp;try rfl)
     ·refine jc rfl rfl rfl fun x y hB hF hD=>?_
      obtain ⟨d0,-⟩:=hD
      have e34:slot x 34=.pointer (some ⟨wr.heap.size,0,none⟩):=d0 rfl
      have hc:y.cell? ⟨wr.heap.size,0,none⟩=some (.string nm):=jb hB HX0.out
      clear hB hF
      simp only [execOp,ja,e34]
      first|rfl|(go_simp;try rfl)
    ·intro x y hB hF hP
     obtain ⟨p0,p1,p2,p3,p4,p5,-⟩:=hP
     have hx:=jj hF [(30,.pointer (some ⟨vb,0,none⟩)),(31,.pointer (some ⟨vb,0,none⟩)),(32,.pointer (some ⟨vb,7,none⟩)),(33,.map (some ab)),(34,.pointer (some ⟨wr.heap.size,0,none⟩)),(35,.string nm)] rfl ⟨p0,p1,p2,p3,p4,p5,trivial⟩
     have HL2:=k8 (HL1.out.next hB)
     clear hB hF p0 p1 p2 p3 p4 p5
     subst hx
     simp only [puts,Act.put,we,wg,wi,wj,wk]
     go_wp2_with (at_mapUpdate;go_loud (refine vd rfl _ _ _ _ rfl keyS 4 Tryz.underlying123 rfl HL2.out.ma _ _ rfl rfl ?_))
     intro w1 hm1 hg1 _
     have HL3:=k8 (HL2.out.putA hm1 hg1 hab n78 n79 n710 (by omega))
     clear hm1 hg1
     go_wp2
     go_roundw
     case rel=>
      refine ⟨k+1,hlt2,by go_num,?_⟩
      rw [yq _ _ _ _ hlt2,← HNM.out]
      exact HL3.out
     case measure=>simp [intOf];omega
   ·have hkk:k=p.secrets.length:=by omega
    subst hkk
    rw [List.take_length] at hL
    have hv5:wr.cell? ⟨vb,5,none⟩=some (.slice a2 f.params.length c2):=by simp [World.cell?,hL.view]
    have HLa:=k8 (show LookI w _ vb ab pb sb tb (jt p) [] [] wr from hL)
    have hvl:vb<wr.heap.size:=(wl.1 hL.view).1
    clear hL HL
    go_wp2_with fail
    clear hv5
    go_loopw [43] (fun iv wr=>∃ k:Nat,k≤f.params.length∧iv=.int .i64 k∧LookI w _ vb ab pb sb tb (jt p) ((f.params.take k).foldl (fun l x=>if x.kind=2 then aput l x.name x.len else l) []) ((f.params.take k).foldl (fun l x=>if x.kind=1 then aput l x.name true else l) []) wr) (fun iv _=>f.params.length - (intOf iv).toNat)
    case atStart=>exact ⟨0,gj _,rfl,HLa.out⟩
    case round=>
     rename_i wr0 _ _
     obtain ⟨k,hk,rfl,hL⟩:=hrel
     by_cases hlt2:k<f.params.length
     ·have HLk:=k8 hL
      obtain ⟨a0',c0',he0,hc0',hl0',hr0⟩:=HPr.out
      obtain ⟨b,o,hab0,hro⟩:=hr0 (by intro h;rw [h] at hlt2;simp at hlt2)
      simp only [Value.slice.injEq] at he0
      obtain ⟨rfl,-,rfl⟩:=he0
      subst hab0
      have hat:=hro k f.params[k] (by simp [hlt2])
      have h0:=hL.below.cell (k9 w _ hat.1.1) |>.trans hat.1.1
      have h1:=hL.below.cell (k9 w _ hat.2.1) |>.trans hat.2.1
      have h2:=hL.below.cell (k9 w _ hat.2.2.1) |>.trans hat.2.2.1
      have hbb:=k9 wr _ h0
      clear hL hro hat
      have HSn:=k8 (yq (fun l (x:z8)=>if x.kind=2 then aput l x.name x.len else l) ([]:List (ByteArray×Int)) f.params k hlt2)
      have HSs:=k8 (yq (fun l (x:z8)=>if x.kind=1 then aput l x.name true else l) ([]:List (ByteArray×Bool)) f.params k hlt2)
      have hL1:=HLk.out.next ((wu _ _).alloc (wo _) (.cells #[.string f.params[k].name,.int .i64 f.params[k].kind,.int .i64 f.params[k].len] 56))
      have hv8:(wr.alloc (.cells #[.string f.params[k].name,.int .i64 f.params[k].kind,.int .i64 f.params[k].len] 56)).cell? ⟨vb,8,none⟩=some (.map (some pb)):=by simp [World.cell?,hL1.view]
      have hv9:(wr.alloc (.cells #[.string f.params[k].name,.int .i64 f.params[k].kind,.int .i64 f.params[k].len] 56)).cell? ⟨vb,9,none⟩=some (.map (some sb)):=by simp [World.cell?,hL1.view]
      have hx0:(wr.alloc (.cells #[.string f.params[k].name,.int .i64 f.params[k].kind,.int .i64 f.params[k].len] 56)).cell? ⟨wr.heap.size,0,none⟩=some (.string f.params[k].name):=by simp
      have hx2:(wr.alloc (.cells #[.string f.params[k].name,.int .i64 f.params[k].kind,.int .i64 f.params[k].len] 56)).cell? ⟨wr.heap.size,2,none⟩=some (.int .i64 f.params[k].len):=by simp
      have HL1:=k8 hL1
      have HV8:=k8 hv8
      have HV9:=k8 hv9
      have HX0:=k8 hx0
      have HX2:=k8 hx2
      clear hL1 hv8 hv9 hx0 hx2 hr0
      generalize f.params[k]=q at *
      obtain ⟨nm,kd,ln⟩:=q
      simp only at h0 h1 h2 HSn HSs HL1 HV8 HV9 HX0 HX2
      by_cases hk2:kd=2
      ·subst hk2
       go_wp2_with fail
       refine je zi [.is (.pointer (some ⟨vb,0,none⟩)),.is (.pointer (some ⟨vb,0,none⟩)),.is (.pointer (some ⟨vb,8,none⟩)),.is (.map (some pb)),.is (.pointer (some ⟨wr.heap.size,0,none⟩)),.is (.string nm),.is (.pointer (some ⟨wr.heap.size,2,none⟩)),.is (.int .i64 ln)] (by kernel_rfl) 8 (by decide) (by kernel_rfl) _ rfl ?_ ?_
       ·refine ⟨?_,?_,?_,?_,?_,?_,?_,?_,trivial⟩
        ·refine jc rfl rfl rfl fun x y hB hF hD=>?_
         have e5:slot x 5=.pointer (some ⟨vb,0,none⟩):=hF.at 5 rfl
         clear hB hF
         simp only [execOp,ja,e5]
         first|rfl|(go_simp;try rfl)
        ·refine jc rfl rfl rfl fun x y hB hF hD=>?_
         obtain ⟨d0,-⟩:=hD
         have e51:slot x 51=.pointer (some ⟨vb,0,none⟩):=d0 rfl
         clear hB hF
         simp only [execOp,ja,e51]
         first|rfl|(go_simp;try rfl)
        ·refine jc rfl rfl rfl fun x y hB hF hD=>?_
         obtain ⟨d0,-⟩:=hD
         have e52:slot x 52=.pointer (some ⟨vb,0,none⟩):=d0 rfl
         clear hB hF
         simp only [execOp,ja,e52]
         first|rfl|(go_simp;try rfl)
        ·refine jc rfl rfl rfl fun x y hB hF hD=>?_
         obtain ⟨d0,-⟩:=hD
         have e53:slot x 53=.pointer (some ⟨vb,8,none⟩):=d0 rfl
         have hc:y.cell? ⟨vb,8,none⟩=some (.map (some pb)):=jb hB HV8.out
         clear hB hF
         simp only [execOp,ja,e53]
         first|rfl|(go_simp;try rfl)
        ·refine jc rfl rfl rfl fun x y hB hF hD=>?_
         have e9:slot x 9=.pointer (some ⟨wr.heap.size,0,none⟩):=hF.at 9 rfl
         clear hB hF
         simp only [execOp,ja,e9]
         first|rfl|(go_simp;try rfl)
        ·refine jc rfl rfl rfl fun x y hB hF hD=>?_
         obtain ⟨d0,-⟩:=hD
         have e55:slot x 55=.pointer (some ⟨wr.heap.size,0,none⟩):=d0 rfl
         have hc:y.cell? ⟨wr.heap.size,0,none⟩=some (.string nm):=jb hB HX0.out
         clear hB hF
         simp only [execOp,ja,e55]
         first|rfl|(go_simp;try rfl)
        ·refine jc rfl rfl rfl fun x y hB hF hD=>?_
         have e9:slot x 9=.pointer (some ⟨wr.heap.size,0,none⟩):=hF.at 9 rfl
         clear hB hF
         simp only [execOp,ja,e9]
         first|rfl|(go_simp;try rfl)
        ·refine jc rfl rfl rfl fun x y hB hF hD=>?_
         obtain ⟨d0,-⟩:=hD
         have e57:slot x 57=.pointer (some ⟨wr.heap.size,2,none⟩):=d0 rfl
         have hc:y.cell? ⟨wr.heap.size,2,none⟩=some (.int .i64 ln):=jb hB HX2.out
         clear hB hF
         simp only [execOp,ja,e57]
         first|rfl|(go_simp;try rfl)
       ·intro x y hB hF hP
        obtain ⟨p0,p1,p2,p3,p4,p5,p6,p7,-⟩:=hP
        have hx:=jj hF [(51,.pointer (some ⟨vb,0,none⟩)),(52,.pointer (some ⟨vb,0,none⟩)),(53,.pointer (some ⟨vb,8,none⟩)),(54,.map (some pb)),(55,.pointer (some ⟨wr.heap.size,0,none⟩)),(56,.string nm),(57,.pointer (some ⟨wr.heap.size,2,none⟩)),(58,.int .i64 ln)] rfl ⟨p0,p1,p2,p3,p4,p5,p6,p7,trivial⟩
        have HL2:=k8 (HL1.out.next hB)
        clear hB hF p0 p1 p2 p3 p4 p5 p6 p7
        subst hx
        simp only [puts,Act.put,we,wg,wi,wj,wk]
        go_wp2_with (at_mapUpdate;go_loud (refine vd rfl _ _ _ _ rfl keyS 3 Tryz.underlying124 rfl HL2.out.mp _ _ rfl rfl ?_))
        intro w1 hm1 hg1 _
        have HL3:=k8 (HL2.out.putP hm1 hg1 hpb n78 n89 n810 (by omega))
        clear hm1 hg1 h0 h1 h2
        go_wp2
        go_roundw
        case rel=>
         refine ⟨k+1,hlt2,by go_num,?_⟩
         rw [HSn.out,HSs.out]
         simp only [if_true,show ((2:Int)=1)=False by simp,if_false]
         exact HL3.out
        case measure=>simp [intOf];omega
      ·have tk2:(kd == 2)=false:=by simpa using hk2
       have HK2:=k8 hk2
       clear hk2
       by_cases hk1:kd=1
       ·subst hk1
        go_wp2_with fail
        refine je zi [.is (.pointer (some ⟨vb,0,none⟩)),.is (.pointer (some ⟨vb,0,none⟩)),.is (.pointer (some ⟨vb,9,none⟩)),.is (.map (some sb)),.is (.pointer (some ⟨wr.heap.size,0,none⟩)),.is (.string nm)] (by kernel_rfl) 6 (by decide) (by kernel_rfl) _ rfl ?_ ?_
        ·refine ⟨?_,?_,?_,?_,?_,?_,trivial⟩
         ·refine jc rfl rfl rfl fun x y hB hF hD=>?_
          have e5:slot x 5=.pointer (some ⟨vb,0,none⟩):=hF.at 5 rfl
          clear hB hF
          simp only [execOp,ja,e5]
          first|rfl|(go_simp;try rfl)
         ·refine jc rfl rfl rfl fun x y hB hF hD=>?_
          obtain ⟨d0,-⟩:=hD
          have e61:slot x 61=.pointer (some ⟨vb,0,none⟩):=d0 rfl
          clear hB hF
          simp only [execOp,ja,e61]
          first|rfl|(go_simp;try rfl)
         ·refine jc rfl rfl rfl fun x y hB hF hD=>?_
          obtain ⟨d0,-⟩:=hD
          have e62:slot x 62=.pointer (some ⟨vb,0,none⟩):=d0 rfl
          clear hB hF
          simp only [execOp,ja,e62]
          first|rfl|(go_simp;try rfl)
         ·refine jc rfl rfl rfl fun x y hB hF hD=>?_
          obtain ⟨d0,-⟩:=hD
          have e63:slot x 63=.pointer (some ⟨vb,9,none⟩):=d0 rfl
          have hc:y.cell? ⟨vb,9,none⟩=some (.map (some sb)):=jb hB HV9.out
          clear hB hF
          simp only [execOp,ja,e63]
          first|rfl|(go_simp;try rfl)
         ·refine jc rfl rfl rfl fun x y hB hF hD=>?_
          have e9:slot x 9=.pointer (some ⟨wr.heap.size,0,none⟩):=hF.at 9 rfl
          clear hB hF
          simp only [execOp,ja,e9]
          first|rfl|(go_simp;try rfl)
         ·refine jc rfl rfl rfl fun x y hB hF hD=>?_
          obtain ⟨d0,-⟩:=hD
          have e65:slot x 65=.pointer (some ⟨wr.heap.size,0,none⟩):=d0 rfl
          have hc:y.cell? ⟨wr.heap.size,0,none⟩=some (.string nm):=jb hB HX0.out
          clear hB hF
          simp only [execOp,ja,e65]
          first|rfl|(go_simp;try rfl)
        ·intro x y hB hF hP
         obtain ⟨p0,p1,p2,p3,p4,p5,-⟩:=hP
         have hx:=jj hF [(61,.pointer (some ⟨vb,0,none⟩)),(62,.pointer (some ⟨vb,0,none⟩)),(63,.pointer (some ⟨vb,9,none⟩)),(64,.map (some sb)),(65,.pointer (some ⟨wr.heap.size,0,none⟩)),(66,.string nm)] rfl ⟨p0,p1,p2,p3,p4,p5,trivial⟩
         have HL2:=k8 (HL1.out.next hB)
         clear hB hF p0 p1 p2 p3 p4 p5
         subst hx
         simp only [puts,Act.put,we,wg,wi,wj,wk]
         go_wp2_with (at_mapUpdate;go_loud (refine vd rfl _ _ _ _ rfl keyS 4 Tryz.underlying123 rfl HL2.out.ms _ _ rfl rfl ?_))
         intro w1 hm1 hg1 _
         have HL3:=k8 (HL2.out.putS hm1 hg1 hsb n79 n89 n910 (by omega))
         clear hm1 hg1 h0 h1 h2
         go_wp2
         go_roundw
         case rel=>
          refine ⟨k+1,hlt2,by go_num,?_⟩
          rw [HSn.out,HSs.out]
          simp only [if_true,show ((1:Int)=2)=False by simp,if_false]
          exact HL3.out
         case measure=>simp [intOf];omega
       ·have tk1:(kd == 1)=false:=by simpa using hk1
        have HK1:=k8 hk1
        clear hk1
        go_wp2
        go_roundw
        case rel=>
         refine ⟨k+1,hlt2,by go_num,?_⟩
         rw [HSn.out,HSs.out]
         simp only [if_neg HK1.out,if_neg HK2.out]
         exact HL1.out
        case measure=>simp [intOf];omega
     ·have hkk:k=f.params.length:=by omega
      subst hkk
      rw [List.take_length] at hL
      have HLf:=k8 (show LookI w _ vb ab pb sb tb (jt p) (zm f) (qw f) wr from hL)
      clear hL
      go_wp2
      go_ret
      have hz:=HB0.out.size
      exact ⟨HLf.out.below,vb,ab,pb,sb,tb,rfl,hvb,hab,hpb,hsb,htb,⟨⟨_,_,_,_,_,_,_,_,HLf.out.view,HI0.out,HFI.out⟩,HF.out,HLf.out.ma,HLf.out.mp,⟨by omega,by omega,by omega,by omega,by omega⟩,⟨n78,n79,n710,n89,n810,n910⟩,⟨by omega,by omega,by omega,by omega⟩⟩,HLf.out.ms,HLf.out.mt⟩
end
section
open Go.RowKit
theorem zeroI (w:World):(zeroValue 3).run Tryz.prog w=.ok (.int .i64 0) w:=by kernel_rfl
theorem zeroB (w:World):(zeroValue 4).run Tryz.prog w=.ok (.bool false) w:=by kernel_rfl
theorem str_eq (a b:ByteArray):(a.toList == b.toList)=(a == b):=by
 rw [ByteArray.toList_eq,ByteArray.toList_eq,bytes_beq,Bool.eq_iff_iff]
 simp
theorem getD_bool (o:Option Bool):(o.map Value.bool).getD (.bool false)=.bool (o.getD false):=by cases o<;>rfl
theorem qj.open {w0:World} {p:Src} {i:Nat} {f:Fun} {w:World} {vb ab pb sb tb:Nat} (h:qj w0 p i f w vb ab pb sb tb) :
  ∃ a0 c0 a1 c1 a2 c2 a3 c3,w.cell? ⟨vb,0,none⟩=some (.slice a0 p.secrets.length c0)∧w.cell? ⟨vb,1,none⟩=some (.slice a1 p.funcs.length c1)∧w.cell? ⟨vb,2,none⟩=some (.int .i64 i)∧w.cell? ⟨vb,3,none⟩=some (.string f.name)∧w.cell? ⟨vb,4,none⟩=some (.bool f.out) ∧
   w.cell? ⟨vb,5,none⟩=some (.slice a2 f.params.length c2)∧w.cell? ⟨vb,6,none⟩=some (.slice a3 f.body.length c3)∧w.cell? ⟨vb,7,none⟩=some (.map (some ab))∧w.cell? ⟨vb,8,none⟩=some (.map (some pb))∧w.cell? ⟨vb,9,none⟩=some (.map (some sb))∧w.cell? ⟨vb,10,none⟩=some (.map (some tb)) ∧
   kn w0 p (.agg #[.slice a0 p.secrets.length c0,.slice a1 p.funcs.length c1])∧FunIs w0 f (.agg #[.string f.name,.bool f.out,.slice a2 f.params.length c2,.slice a3 f.body.length c3]):=by
 obtain ⟨a0,c0,a1,c1,a2,c2,a3,c3,hc,h1,h2⟩:=h.cells
 refine ⟨a0,c0,a1,c1,a2,c2,a3,c3,?_,?_,?_,?_,?_,?_,?_,?_,?_,?_,?_,h1,h2⟩<;>simp [World.cell?,hc,viewCells]
theorem qj.next {w0:World} {p:Src} {i:Nat} {f:Fun} {w w':World} {vb ab pb sb tb:Nat} {M:List Nat} (h:qj w0 p i f w vb ab pb sb tb) (hk:Kept M w w') (h1:vb ∉ M) (h2:ab ∉ M) (h3:pb ∉ M):qj w0 p i f w' vb ab pb sb tb:=by
 obtain ⟨a0,c0,a1,c1,a2,c2,a3,c3,hc,hs,hf⟩:=h.cells
 exact ⟨⟨a0,c0,a1,c1,a2,c2,a3,c3,by rw [hk.block vb (wl.1 hc).1 h1];exact hc,hs,hf⟩,h.fn,j5.keptM h.arrays hk h2,j5.keptM h.pointers hk h3,h.lo,h.ne,h.nv⟩
theorem qj.below {w0:World} {p:Src} {i:Nat} {f:Fun} {w w':World} {vb ab pb sb tb:Nat} (h:qj w0 p i f w vb ab pb sb tb) (hb:Below w.heap.size w w'):qj w0 p i f w' vb ab pb sb tb:=h.next (M:=[]) (jd hb) (by simp) (by simp) (by simp)
theorem array_any {w0:World} {p:Src} {i:Nat} {f:Fun} {w:World} {vb ab pb sb tb:Nat} (hv:qj w0 p i f w vb ab pb sb tb) (s:ByteArray) :
  Calls Tryz.prog 106 #[.pointer (some ⟨vb,0,none⟩),.string s] w fun e w'=>e=.returned (.bool (isArr p f s))∧w'=w:=by
 obtain ⟨a0,c0,a1,c1,a2,c2,a3,c3,-,-,-,-,-,-,-,g7,g8,-,-,-,-⟩:=hv.open
 have HA:=k8 hv.arrays
 have HP:=k8 hv.pointers
 have hI:isArr p f s=((aget (zm f) s).isSome || zf (jt p) s):=rfl
 have HI:=k8 hI
 have HG:=k8 (ka Value.bool (jt p) s)
 have HH:=k8 (ka (Value.int .i64) (zm f) s)
 clear hI hv
 cases ho:aget (zm f) s with
 | some n=>
  have hh:aget ((zm f).map fun x=>(x.1,Value.int .i64 x.2)) s=some (.int .i64 n):=by rw [HH.out,ho];rfl
  rw [ho] at HI
  clear ho
  go_enter Tryz.func106,Tryz.ntmps106
  go_wp2_with (at_lookup;go_loud (refine yp rfl _ _ _ _ rfl keyS 3 Tryz.underlying124 _ (zeroI _) rfl HP.out _ rfl ?_))
  go_ret
  exact ⟨by rw [HI.out];rfl,rfl⟩
 | none=>
  have hh:aget ((zm f).map fun x=>(x.1,Value.int .i64 x.2)) s=none:=by rw [HH.out,ho];rfl
  rw [ho] at HI
  clear ho
  obtain ⟨b,hb⟩:∃ b,b=zf (jt p) s:=⟨_,rfl⟩
  have hg:(aget ((jt p).map fun x=>(x.1,Value.bool x.2)) s).getD (.bool false)=.bool b:=by rw [HG.out,getD_bool,hb];rfl
  rw [← hb] at HI
  clear hb
  go_enter Tryz.func106,Tryz.ntmps106
  go_wp2_with (first|(at_lookup;refine yp rfl _ _ _ _ rfl keyS 3 Tryz.underlying124 _ (zeroI _) rfl HP.out _ rfl ?_)|(at_lookup;go_loud (refine wpList_get_w (by rfl) _ _ _ _ rfl keyS 4 Tryz.underlying123 _ (zeroB _) rfl HA.out _ rfl ?_)))
  go_ret
  exact ⟨by rw [HI.out];rfl,rfl⟩
def calledI (p:Src) (i:Nat) (s:ByteArray):Int:=idxOf (calledP s) (p.funcs.take i)
theorem called1_any (x:Fun) (v:Value) (s:ByteArray) (b:Nat) (w w1:World) (hI:FunIs w1 x v) (hc:w.cell? ⟨b,0,none⟩=some (.string s)) :
  Calls Tryz.prog 118 #[v,.pointer (some ⟨b,0,none⟩)] w (Ret w (.bool (calledP s x))):=by
 obtain ⟨a0,c0,a1,c1,rfl,-,-,-⟩:=hI
 have hb:b<w.heap.size:=k9 w _ hc
 have hp:calledP s x=(x.name == s && !x.out):=rfl
 have HS:=k8 (str_eq x.name s)
 have HP:=k8 hp
 clear hp
 cases he:(x.name == s) with
 | true=>
  have t1:(x.name.toList == s.toList)=true:=HS.out.trans he
  rw [he] at HP
  clear he HS
  go_enter Tryz.func118,Tryz.ntmps118
  go_wp2
  go_ret
  exact ⟨by rw [HP.out];rfl,(wu _ _).alloc (wo _) _⟩
 | false=>
  have t1:(x.name.toList == s.toList)=false:=HS.out.trans he
  rw [he] at HP
  clear he HS
  go_enter Tryz.func118,Tryz.ntmps118
  go_wp2
  go_ret
  exact ⟨by rw [HP.out];rfl,(wu _ _).alloc (wo _) _⟩
theorem Sl.take {α:Type} {sz:Nat} {R:Nat→Nat→α→Prop} {a:Option Addr} {c:Nat} {l:List α} (h:Sl sz R (.slice a l.length c) l) (n:Nat) (hn:n≤l.length):Sl sz R (.slice a n c) (l.take n):=by
 obtain ⟨a',c',he,h1,h2,h3⟩:=h
 simp only [Value.slice.injEq] at he
 obtain ⟨rfl,-,rfl⟩:=he
 have hl:(l.take n).length=n:=by rw [List.length_take];omega
 refine ⟨a,c,by rw [hl],by omega,by omega,fun hne=>?_⟩
 obtain ⟨b,o,ha,hr⟩:=h3 (by rintro rfl;simp at hne)
 refine ⟨b,o,ha,fun j x hx=>hr j x ?_⟩
 rw [List.getElem?_take] at hx
 split at hx
 ·exact hx
 ·cases hx
theorem called_any {w0:World} {p:Src} {i:Nat} {f:Fun} {w:World} {vb ab pb sb tb:Nat} (hB0:Below w0.heap.size w0 w) (hv:qj w0 p i f w vb ab pb sb tb) (s:ByteArray) :
  Calls Tryz.prog 78 #[.pointer (some ⟨vb,0,none⟩),.string s] w (Ret w (.int .i64 (calledI p i s))):=by
 obtain ⟨a0,c0,a1,c1,a2,c2,a3,c3,-,g1,g2,-,-,-,-,-,-,-,-,hI,-⟩:=hv.open
 have hi:i<p.funcs.length:=(List.getElem?_eq_some_iff.1 hv.fn).1
 obtain ⟨a0',c0',a1',c1',he,-,hsl⟩:=hI
 simp only [Value.agg.injEq,List.toArray_inj,Array.mk.injEq,List.cons.injEq,Value.slice.injEq,true_and,and_true] at he
 obtain ⟨⟨rfl,rfl⟩,⟨rfl,rfl⟩⟩:=he
 have hc1:p.funcs.length≤c1:=by
  obtain ⟨_,_,he,h,_⟩:=hsl
  simp only [Value.slice.injEq] at he
  obtain ⟨-,-,rfl⟩:=he
  exact h
 have hl1:p.funcs.length≤140737488351232:=by
  obtain ⟨_,_,_,_,h,_⟩:=hsl
  exact h
 have hfb:∃ fa,a1=some fa:=by
  obtain ⟨_,_,he,_,_,h⟩:=hsl
  simp only [Value.slice.injEq] at he
  obtain ⟨rfl,-,-⟩:=he
  obtain ⟨b,o,h,-⟩:=h (by intro h;rw [h] at hi;simp at hi)
  exact ⟨_,h⟩
 obtain ⟨fa,rfl⟩:=hfb
 have hz0:=hB0.size
 have HIX:=k8 (fun (w1:World) (hb:Below (w.heap.size+1) (w.alloc (.cells #[.string s] 9)) w1)=>
  index_func (fun w b o x=>FunAt w b o x) FunIs funOpen (fun w'=>Below (w.heap.size+1) (w.alloc (.cells #[.string s] 9)) w') (.slice (some fa) i c1) (p.funcs.take i) 118 #[] #[.pointer (some ⟨w.heap.size,0,none⟩)] (calledP s) w1 (fun _ _=>by kernel_rfl) hb
  (fun w' hw'=>(hsl.take i (by omega)).imp (fun b o x _ hx=>FunAt.below (hB0.trans (((wu _ _).alloc hz0 _).trans (hw'.mono (by omega)))) x b o hx))
  (fun w' j x val hw' hx hV=>(called1_any x val s w.heap.size w' w' hV ((hw'.cell (by simp)).trans (by simp))).mono (by
   rintro e w2 ⟨rfl,hB⟩
   exact ⟨rfl,hw'.trans (hB.mono (by have:=hw'.size;simp at this;omega))⟩)))
 have hbv:=k9 w _ g1
 have HG1:Hid ((w.alloc (.cells #[.string s] 9)).cell? ⟨vb,1,none⟩=some (.slice (some fa) p.funcs.length c1)):=(World.cell?_alloc_past _ _ _ hbv).trans g1
 have HG2:Hid ((w.alloc (.cells #[.string s] 9)).cell? ⟨vb,2,none⟩=some (.int .i64 i)):=(World.cell?_alloc_past _ _ _ hbv).trans g2
 clear g1 g2 hsl hv hB0 hz0
 go_enter Tryz.func78,Tryz.ntmps78
 go_wp2_with fail
 refine je zi [.is (.pointer (some ⟨vb,0,none⟩)),.is (.pointer (some ⟨vb,0,none⟩)),.is (.pointer (some ⟨vb,0,none⟩)),.is (.pointer (some ⟨vb,1,none⟩)),.is (.slice (some fa) p.funcs.length c1),.is (.pointer (some ⟨vb,0,none⟩)),.is (.pointer (some ⟨vb,0,none⟩)),.is (.pointer (some ⟨vb,2,none⟩)),.is (.int .i64 i),.is (.slice (some fa) i c1),.is (.func (.func 118) #[] #[.pointer (some ⟨w.heap.size,0,none⟩)])] (by kernel_rfl) 11 (by decide) (by kernel_rfl) _ rfl ?_ ?_
 ·refine ⟨?_,?_,?_,?_,?_,?_,?_,?_,?_,?_,?_,trivial⟩
  ·refine jc rfl rfl rfl fun x y hB hF hD=>?_
   have e0:slot x 0=.pointer (some ⟨vb,0,none⟩):=hF.at 0 rfl
   clear hB hF
   simp only [execOp,ja,e0]
   first|rfl|(go_simp;try rfl)
  ·refine jc rfl rfl rfl fun x y hB hF hD=>?_
   obtain ⟨d0,-⟩:=hD
   have e5:slot x 5=.pointer (some ⟨vb,0,none⟩):=d0 rfl
   clear hB hF
   simp only [execOp,ja,e5]
   first|rfl|(go_simp;try rfl)
  ·refine jc rfl rfl rfl fun x y hB hF hD=>?_
   obtain ⟨d0,-⟩:=hD
   have e6:slot x 6=.pointer (some ⟨vb,0,none⟩):=d0 rfl
   clear hB hF
   simp only [execOp,ja,e6]
   first|rfl|(go_simp;try rfl)
  ·refine jc rfl rfl rfl fun x y hB hF hD=>?_
   obtain ⟨d0,-⟩:=hD
   have e7:slot x 7=.pointer (some ⟨vb,0,none⟩):=d0 rfl
   clear hB hF
   simp only [execOp,ja,e7]
   first|rfl|(go_simp;try rfl)
  ·refine jc rfl rfl rfl fun x y hB hF hD=>?_
   obtain ⟨d0,-⟩:=hD
   have e8:slot x 8=.pointer (some ⟨vb,1,none⟩):=d0 rfl
   have hc:y.cell? ⟨vb,1,none⟩=some (.slice (some fa) p.funcs.length c1):=jb hB HG1.out
   clear hB hF
   simp only [execOp,ja,e8]
   first|rfl|(go_simp;try rfl)
  ·refine jc rfl rfl rfl fun x y hB hF hD=>?_
   have e0:slot x 0=.pointer (some ⟨vb,0,none⟩):=hF.at 0 rfl
   clear hB hF
   simp only [execOp,ja,e0]
   first|rfl|(go_simp;try rfl)
  ·refine jc rfl rfl rfl fun x y hB hF hD=>?_
   obtain ⟨d0,-⟩:=hD
   have e10:slot x 10=.pointer (some ⟨vb,0,none⟩):=d0 rfl
   clear hB hF
   simp only [execOp,ja,e10]
   first|rfl|(go_simp;try rfl)
  ·refine jc rfl rfl rfl fun x y hB hF hD=>?_
   obtain ⟨d0,-⟩:=hD
   have e11:slot x 11=.pointer (some ⟨vb,0,none⟩):=d0 rfl
   clear hB hF
   simp only [execOp,ja,e11]
   first|rfl|(go_simp;try rfl)
  ·refine jc rfl rfl rfl fun x y hB hF hD=>?_
   obtain ⟨d0,-⟩:=hD
   have e12:slot x 12=.pointer (some ⟨vb,2,none⟩):=d0 rfl
   have hc:y.cell? ⟨vb,2,none⟩=some (.int .i64 i):=jb hB HG2.out
   clear hB hF
   simp only [execOp,ja,e12]
   first|rfl|(go_simp;try rfl)
  ·refine jc rfl rfl rfl fun x y hB hF hD=>?_
   obtain ⟨d0,d1,-⟩:=hD
   have e9:slot x 9=.slice (some fa) p.funcs.length c1:=d0 rfl
   have e13:slot x 13=.int .i64 i:=d1 rfl
   have g9:=jh e9
   have g13:=jh e13
   clear hB hF e9 e13
   simp only [execOp]
   simp [go_sem,g9,g13]
   intro hcc
   exfalso
   omega
  ·refine jc rfl rfl rfl fun x y hB hF hD=>?_
   have e3:slot x 3=.pointer (some ⟨w.heap.size,0,none⟩):=hF.at 3 rfl
   have g3:=jh e3
   clear hB hF e3
   simp only [execOp]
   simp [go_sem,g3]
 ·intro x y hB hF hP
  obtain ⟨p0,p1,p2,p3,p4,p5,p6,p7,p8,p9,p10,-⟩:=hP
  have hx:=jj hF [(5,.pointer (some ⟨vb,0,none⟩)),(6,.pointer (some ⟨vb,0,none⟩)),(7,.pointer (some ⟨vb,0,none⟩)),(8,.pointer (some ⟨vb,1,none⟩)),(9,.slice (some fa) p.funcs.length c1),(10,.pointer (some ⟨vb,0,none⟩)),(11,.pointer (some ⟨vb,0,none⟩)),(12,.pointer (some ⟨vb,2,none⟩)),(13,.int .i64 i),(14,.slice (some fa) i c1),(15,.func (.func 118) #[] #[.pointer (some ⟨w.heap.size,0,none⟩)])] rfl ⟨p0,p1,p2,p3,p4,p5,p6,p7,p8,p9,p10,trivial⟩
  have HIXy:=k8 (HIX.out y (hB.mono (by simp)))
  have HB:=k8 (((wu w.heap.size w).alloc (wo _) _).trans (hB.mono (by simp)))
  clear hB hF p0 p1 p2 p3 p4 p5 p6 p7 p8 p9 p10
  subst hx
  simp only [puts,Act.put,we,wg,wi,wj,wk]
  go_wp2_with fail
  refine HIXy.out.mono ?_
  rintro e w2 ⟨rfl,hB2⟩
  have HB2:=k8 (((wu w.heap.size w).alloc (wo _) _).trans (hB2.mono (by simp)))
  clear hB2
  go_wp2_with fail
  go_ret
  exact ⟨rfl,HB2.out⟩
end
section
open Go.RowKit
def yu (code:Int):PanicEntry:={ v:=.iface 122 (.agg #[.int .i64 code]),recovered:=false }
theorem zn (code:Int) (w:World):Calls Tryz.prog 46 #[.bool true,.int .i64 code] w fun e w'=>e=.returned (.tuple #[])∧w=w':=by
 go_enter Tryz.func46,Tryz.ntmps46
 go_wp2
 go_end0
 exact ⟨rfl,rfl⟩
theorem zd (code:Int) (w:World):Calls Tryz.prog 46 #[.bool false,.int .i64 code] w fun e w'=>e=.panicked [yu code]∧w=w':=by
 go_enter Tryz.func46,Tryz.ntmps46
 go_wp2
 exact ⟨rfl,rfl,rfl⟩
section
variable {σ:Type}
def yd (f:σ→(Stmt ⊕ Expr)→Option σ):σ→List (Stmt ⊕ Expr)→Option σ
 | s,[]=>some s
 | s,ev::l=>(f s ev).bind fun s'=>yd f s' l
theorem j4 (f:σ→(Stmt ⊕ Expr)→Option σ):∀ (a b:List (Stmt ⊕ Expr)) (s:σ),yd f s (a++b)=(yd f s a).bind fun s'=>yd f s' b
 | [],b,s=>rfl
 | ev::a,b,s=>by
  simp only [List.cons_append,yd]
  cases f s ev with
  | none=>rfl
  | some s'=>simp only [Option.bind_some];exact j4 f a b s'
end
theorem evSs_append:∀ (a b:List Stmt),evSs (a++b)=evSs a++evSs b
 | [],b=>by simp [evSs]
 | x::a,b=>by simp only [List.cons_append,evSs,evSs_append a b,List.append_assoc]
theorem deepEs_append:∀ (a b:List Expr),z7 (a++b)=z7 a++z7 b
 | [],b=>by simp [z7]
 | x::a,b=>by simp only [List.cons_append,z7,deepEs_append a b,List.append_assoc]
theorem split_at {α:Type} (l:List α) (k:Nat) (h:k<l.length):l=l.take k++(l[k]::l.drop (k+1)):=by
 rw [← List.drop_eq_getElem_cons h,List.take_append_drop]
theorem evSs_at (l:List Stmt) (k:Nat) (h:k<l.length):evSs l=evSs (l.take k)++(evS l[k]++evSs (l.drop (k+1))):=by
 conv=>lhs;rw [split_at l k h]
 rw [evSs_append,evSs]
theorem evSs_take (l:List Stmt) (k:Nat) (h:k<l.length):evSs (l.take (k+1))=evSs (l.take k)++evS l[k]:=by
 rw [List.take_succ_eq_append_getElem h,evSs_append,evSs,evSs,List.append_nil]
theorem deepEs_at (l:List Expr) (k:Nat) (h:k<l.length):z7 l=z7 (l.take k)++(y4 l[k]++z7 (l.drop (k+1))):=by
 conv=>lhs;rw [split_at l k h]
 rw [deepEs_append,z7]
theorem deepEs_take (l:List Expr) (k:Nat) (h:k<l.length):z7 (l.take (k+1))=z7 (l.take k)++y4 l[k]:=by
 rw [List.take_succ_eq_append_getElem h,deepEs_append,z7,z7,List.append_nil]
theorem qq (x:Expr):y4 x=x::z7 x.args:=by obtain ⟨k,n,s,xs⟩:=x;rw [y4]
theorem yz (x:Stmt):evS x=.inl x::((z7 x.args).map .inr++evSs x.thn++evSs x.els):=by obtain ⟨k,s,n,xs,t,e⟩:=x;rw [evS]
def EvRet {σ:Type} (M:List Nat) (code:Int) (Inv:σ→World→Prop) (o:Option σ) (w:World) (e:Ending) (w':World):Prop:=
 Kept M w w'∧(match o with|some s=>e=.returned (.tuple #[])∧Inv s w'|none=>e=.panicked [yu code])
structure Looks {σ:Type} (w0:World) (M:List Nat) (code:Int) (Inv:σ→World→Prop) (fev:σ→(Stmt ⊕ Expr)→Option σ) (ok:(Stmt ⊕ Expr)→Prop) (g1 g2:Nat) (caps1 caps2:Array Value):Prop where
 lo:∀ b∈M,w0.heap.size≤b
 inv:∀ s w w',Inv s w→Below w.heap.size w w'→Inv s w'
 e1:∀ args w,(callFunc g1 args).run Tryz.prog w=.ok (.enter g1 args) w
 e2:∀ args w,(callFunc g2 args).run Tryz.prog w=.ok (.enter g2 args) w
 stmt:∀ s x v w,Inv s w→Below w0.heap.size w0 w→ok (.inl x)→yn w0 x v→Calls Tryz.prog g1 (#[v]++caps1) w (EvRet M code Inv (fev s (.inl x)) w)
 expr:∀ s x v w,Inv s w→Below w0.heap.size w0 w→ok (.inr x)→zl w0 x v→Calls Tryz.prog g2 (#[v]++caps2) w (EvRet M code Inv (fev s (.inr x)) w)
theorem yl {w0:World} {b o:Nat} {x:Expr} (h:zo w0 b o x):∃ a c,w0.cell? ⟨b,o,none⟩=some (.int .i64 x.kind)∧w0.cell? ⟨b,o+1,none⟩=some (.int .u64 x.num)∧w0.cell? ⟨b,o+2,none⟩=some (.string x.name)∧w0.cell? ⟨b,o+3,none⟩=some (.slice a x.args.length c) ∧
  zl w0 x (.agg #[.int .i64 x.kind,.int .u64 x.num,.string x.name,.slice a x.args.length c])∧Sl 4 (zo w0) (.slice a x.args.length c) x.args:=by
 obtain ⟨a,c,h0,h1,h2,h3,hI⟩:=h.open
 refine ⟨a,c,h0,h1,h2,h3,hI,?_⟩
 obtain ⟨a',c',he,_,_,_,hs⟩:=hI
 simp only [Value.agg.injEq,List.toArray_inj,Array.mk.injEq,List.cons.injEq,Value.slice.injEq,true_and,and_true] at he
 obtain ⟨rfl,rfl⟩:=he
 exact hs
theorem deep_each {σ:Type} {w0:World} {M:List Nat} {code:Int} {Inv:σ→World→Prop} {fev:σ→(Stmt ⊕ Expr)→Option σ} {ok:(Stmt ⊕ Expr)→Prop} {g1 g2:Nat} {caps1 caps2:Array Value} (L:Looks w0 M code Inv fev ok g1 g2 caps1 caps2) :
  ∀ (N:Nat) (l:List Expr) (v:Value) (w:World) (s:σ) (eb db:Nat),wtEs l≤N→Sl 4 (zo w0) v l→Below w0.heap.size w0 w→(∀ b∈M,b<w.heap.size)→Inv s w→(∀ x∈z7 l,ok (.inr x))→w.cell? ⟨eb,0,none⟩=some (.func (.func g2) #[] caps2)→w.cell? ⟨db,0,none⟩=some (.func (.func 115) #[] #[.pointer (some ⟨eb,0,none⟩),.pointer (some ⟨db,0,none⟩)])→eb ∉ M→db ∉ M →
   Calls Tryz.prog 115 #[v,.pointer (some ⟨eb,0,none⟩),.pointer (some ⟨db,0,none⟩)] w (EvRet M code Inv (yd fev s ((z7 l).map .inr)) w):=by
 intro N
 induction N with
 | zero=>
  intro l v w s eb db hN hsl hB0 hMlt hI hok he hd hem hdm
  have hl:l=[]:=by
   cases l with
   | nil=>rfl
   | cons x l=>obtain ⟨k,n,s,xs⟩:=x;simp only [wtEs,Expr.wt] at hN;omega
  subst hl
  obtain ⟨a,c,rfl,-,-,-⟩:=hsl
  have HI:=k8 hI
  clear hI hok hB0
  go_enter Tryz.func115,Tryz.ntmps115
  go_wp2_with fail
  go_loopw [8] (fun iv wr=>iv=.int .i64 0∧wr=w) (fun _ _=>0)
  case atStart=>exact ⟨rfl,rfl⟩
  case round=>
   obtain ⟨rfl,rfl⟩:=hrel
   go_wp2
   go_end0
   exact ⟨Kept.refl _ _,rfl,HI.out⟩
 | succ N ih=>
  intro l v w s eb db hN hsl hB0 hMlt hI hok he hd hem hdm
  obtain ⟨a,c,rfl,hlc,hlm,hr⟩:=hsl
  have HI:=k8 hI
  have HOk:=k8 hok
  have HB0:=k8 hB0
  have HE:=k8 he
  have HD:=k8 hd
  have Hr:=k8 hr
  have HM:=k8 hMlt
  clear hI hok hB0 he hd hr hMlt
  go_enter Tryz.func115,Tryz.ntmps115
  go_wp2_with fail
  go_loopw [8] (fun iv wr=>∃ k:Nat,k≤l.length∧iv=.int .i64 k∧Kept M w wr∧∃ s',yd fev s ((z7 (l.take k)).map .inr)=some s'∧Inv s' wr) (fun iv _=>l.length - (intOf iv).toNat)
  case atStart=>exact ⟨0,gj _,rfl,Kept.refl _ _,s,rfl,HI.out⟩
  case round=>
   obtain ⟨k,hk,rfl,hK,s',hs',hI'⟩:=hrel
   by_cases hlt:k<l.length
   ·obtain ⟨b,o,rfl,hro⟩:=Hr.out (by intro h;rw [h] at hlt;simp at hlt)
    obtain ⟨xa,xc,h0,h1,h2,h3,hXI,hXs⟩:=yl (hro k l[k] (by simp [hlt]))
    have hBr:=HB0.out.trans (hK.below HB0.out.size L.lo)
    have h0':=hBr.cell (k9 w0 _ h0) |>.trans h0
    have h1':=hBr.cell (k9 w0 _ h1) |>.trans h1
    have h2':=hBr.cell (k9 w0 _ h2) |>.trans h2
    have h3':=hBr.cell (k9 w0 _ h3) |>.trans h3
    have hbb:=k9 wr _ h0'
    have hec:=hK.cell HE.out hem
    have hdc:=hK.cell HD.out hdm
    have hel:=k9 wr _ hec
    have hdl:=k9 wr _ hdc
    have hmem:l[k]∈l:=List.getElem_mem _
    have hwx:=wtEs_mem l l[k] hmem
    have hxa:wtEs l[k].args+1≤l[k].wt:=by generalize l[k]=x;obtain ⟨k,n,s,xs⟩:=x;simp only [Expr.wt];omega
    have HAt:=k8 (deepEs_at l k hlt)
    have HTk:=k8 (deepEs_take l k hlt)
    have hsub:∀ x∈y4 l[k],x∈z7 l:=fun x hx=>by rw [HAt.out];simp [hx]
    have hok1:ok (.inr l[k]):=HOk.out _ (hsub _ (by rw [qq];simp))
    have hok2:∀ x∈z7 l[k].args,ok (.inr x):=fun x hx=>HOk.out _ (hsub _ (by rw [qq];simp [hx]))
    have hDE:=qq l[k]
    have hvalx:=hXI
    generalize l[k]=x at *
    obtain ⟨xk,xn,xs,xas⟩:=x
    simp only at h0' h1' h2' h3' hXs hxa hok2 hDE
    have hKb:Kept M w (wr.alloc (.cells #[.int .i64 xk,.int .u64 xn,.string xs,.slice xa xas.length xc] 53)):=hK.alloc _
    have HC1:=k8 (L.expr s' ⟨xk,xn,xs,xas⟩ _ (wr.alloc (.cells #[.int .i64 xk,.int .u64 xn,.string xs,.slice xa xas.length xc] 53)) (L.inv _ _ _ hI' ((wu _ _).alloc (wo _) _)) (HB0.out.trans (hKb.below HB0.out.size L.lo)) hok1 hXI)
    have HK:=k8 hK
    have HKb:=k8 hKb
    have HS:=k8 hs'
    have HXs:=k8 hXs
    have HDE:=k8 hDE
    have HOk2:=k8 hok2
    have eg2:=L.e2
    have hnm:wr.heap.size ∉ M:=fun h=>by have:=HM.out _ h;have:=hK.size;omega
    clear hK hKb hs' hXs hDE hok2 hXI hvalx hI' hro h0 h1 h2 h3 hsub hBr
    go_wp2_with fail
    refine HC1.out.mono ?_
    rintro e w1 ⟨hK1,he⟩
    have HK1:=k8 (HKb.out.trans hK1)
    have hx3:w1.cell? ⟨wr.heap.size,3,none⟩=some (.slice xa xas.length xc):=hK1.cell (show _=_ by simp) hnm
    have hdc1:=hK1.cell (show (wr.alloc (.cells #[.int .i64 xk,.int .u64 xn,.string xs,.slice xa xas.length xc] 53)).cell? ⟨db,0,none⟩=_ from (World.cell?_alloc_past _ _ _ hdl).trans hdc) hdm
    have hec1:=hK1.cell (show (wr.alloc (.cells #[.int .i64 xk,.int .u64 xn,.string xs,.slice xa xas.length xc] 53)).cell? ⟨eb,0,none⟩=_ from (World.cell?_alloc_past _ _ _ hel).trans hec) hem
    have HEc:=k8 hec1
    clear HC1 hK1 hec hdc h0' h1' h2' h3' hec1
    have hlow:wr.heap.size<w1.heap.size:=k9 w1 _ hx3
    cases hf:fev s' (.inr ⟨xk,xn,xs,xas⟩) with
    | none=>
     rw [hf] at he
     subst he
     have HN:Hid (yd fev s ((z7 l).map .inr)=none):=by
      show _=none
      rw [HAt.out,List.map_append,j4,HS.out,Option.bind_some,List.map_append,j4,HDE.out,List.map_cons,yd,hf]
      rfl
     clear hf
     go_wp2
     exact ⟨rfl,HK1.out,by rw [HN.out]⟩
    | some s1=>
     rw [hf] at he
     obtain ⟨rfl,hI1⟩:=he
     have HF:=k8 hf
     have HC2:=k8 (ih xas (.slice xa xas.length xc) w1 s1 eb db (by omega) HXs.out (HB0.out.trans (HK1.out.below HB0.out.size L.lo)) (fun b hb=>Nat.lt_of_lt_of_le (HM.out b hb) HK1.out.size) hI1 HOk2.out HEc.out hdc1 hem hdm)
     clear hf hI1
     go_wp2_with fail
     refine HC2.out.mono ?_
     rintro e w2 ⟨hK2,he⟩
     have HK2:=k8 (HK1.out.trans hK2)
     clear HC2 hK2 hx3 hdc1
     cases hf:yd fev s1 ((z7 xas).map .inr) with
     | none=>
      rw [hf] at he
      subst he
      have HN:Hid (yd fev s ((z7 l).map .inr)=none):=by
       show _=none
       rw [HAt.out,List.map_append,j4,HS.out,Option.bind_some,List.map_append,j4,HDE.out,List.map_cons,yd,HF.out,Option.bind_some,hf]
       rfl
      clear hf
      go_wp2
      exact ⟨rfl,HK2.out,by rw [HN.out]⟩
     | some s2=>
      rw [hf] at he
      obtain ⟨rfl,hI2⟩:=he
      have HN:Hid (yd fev s ((z7 (l.take (k+1))).map .inr)=some s2):=by
       show _=_
       rw [HTk.out,List.map_append,j4,HS.out,Option.bind_some,HDE.out,List.map_cons,yd,HF.out,Option.bind_some,hf]
      have HI2:=k8 hI2
      clear hf hI2
      go_wp2
      go_roundw
      case rel=>exact ⟨k+1,hlt,by go_num,HK2.out,s2,HN.out,HI2.out⟩
      case measure=>simp [intOf];omega
   ·have hkk:k=l.length:=by omega
    subst hkk
    rw [List.take_length] at hs'
    have HS:=k8 hs'
    have HK:=k8 hK
    have HI':=k8 hI'
    clear hs' hK hI'
    go_wp2
    go_end0
    exact ⟨HK.out,by rw [HS.out];exact ⟨rfl,HI'.out⟩⟩
end
section
open Go.RowKit
theorem stmtIs_at {w0:World} {b o:Nat} {x:Stmt} (h:j9 w0 b o x):∃ a0 c0 a1 c1 a2 c2,w0.cell? ⟨b,o,none⟩=some (.int .i64 x.kind)∧w0.cell? ⟨b,o+1,none⟩=some (.string x.name)∧w0.cell? ⟨b,o+2,none⟩=some (.int .i64 x.num) ∧
  w0.cell? ⟨b,o+3,none⟩=some (.slice a0 x.args.length c0)∧w0.cell? ⟨b,o+4,none⟩=some (.slice a1 x.thn.length c1)∧w0.cell? ⟨b,o+5,none⟩=some (.slice a2 x.els.length c2) ∧
  yn w0 x (.agg #[.int .i64 x.kind,.string x.name,.int .i64 x.num,.slice a0 x.args.length c0,.slice a1 x.thn.length c1,.slice a2 x.els.length c2])∧Sl 4 (zo w0) (.slice a0 x.args.length c0) x.args∧Sl 6 (j9 w0) (.slice a1 x.thn.length c1) x.thn∧Sl 6 (j9 w0) (.slice a2 x.els.length c2) x.els:=by
 obtain ⟨a0,c0,a1,c1,a2,c2,h0,h1,h2,h3,h4,h5,hI⟩:=h.open
 refine ⟨a0,c0,a1,c1,a2,c2,h0,h1,h2,h3,h4,h5,hI,?_⟩
 obtain ⟨a0',c0',a1',c1',a2',c2',he,_,_,_,hs⟩:=hI
 simp only [Value.agg.injEq,List.toArray_inj,Array.mk.injEq,List.cons.injEq,Value.slice.injEq,true_and,and_true] at he
 obtain ⟨⟨rfl,rfl⟩,⟨rfl,rfl⟩,⟨rfl,rfl⟩⟩:=he
 exact hs
theorem each_any {σ:Type} {w0:World} {M:List Nat} {code:Int} {Inv:σ→World→Prop} {fev:σ→(Stmt ⊕ Expr)→Option σ} {ok:(Stmt ⊕ Expr)→Prop} {g1 g2:Nat} {caps1 caps2:Array Value} (L:Looks w0 M code Inv fev ok g1 g2 caps1 caps2) :
  ∀ (N:Nat) (l:List Stmt) (v:Value) (w:World) (s:σ),wtSs l≤N→Sl 6 (j9 w0) v l→Below w0.heap.size w0 w→(∀ b∈M,b<w.heap.size)→Inv s w→(∀ ev∈evSs l,ok ev) →
   Calls Tryz.prog 71 #[v,.func (.func g1) #[] caps1,.func (.func g2) #[] caps2] w (EvRet M code Inv (yd fev s (evSs l)) w):=by
 intro N
 induction N with
 | zero=>
  intro l v w s hN hsl hB0 hMlt hI hok
  have hl:l=[]:=by
   cases l with
   | nil=>rfl
   | cons x l=>obtain ⟨k,s,n,xs,t,e⟩:=x;simp only [wtSs,Stmt.wt] at hN;omega
  subst hl
  obtain ⟨a,c,rfl,-,-,-⟩:=hsl
  have HI:=k8 hI
  have HJ:=k8 L.inv
  clear hI hok hB0
  have hmf:∀ (fn:Fn) (first cap:Array Value) (w:World),(Instr.makeFunc fn first cap).run Tryz.prog w=.ok (.func fn first cap) w:=fun _ _ _ _=>rfl
  have HB:=k8 (((wu w.heap.size w).alloc (wo _) (.cells #[.func (.func g2) #[] caps2] 131)).alloc (by simp) (.cells #[.func (.func 115) #[] #[.pointer (some ⟨w.heap.size,0,none⟩),.pointer (some ⟨w.heap.size+1,0,none⟩)]] 160))
  have hst:((w.alloc (.cells #[.func (.func g2) #[] caps2] 131)).alloc (.cells #[.nilFunc] 160)).cell? ⟨w.heap.size+1,0,none⟩=some .nilFunc:=by simp [go_sem]
  have hsz:((w.alloc (.cells #[.func (.func g2) #[] caps2] 131)).alloc (.cells #[.nilFunc] 160)).frozen? ⟨w.heap.size+1,0,none⟩=false:=by simp [go_sem]
  go_enter Tryz.func71,Tryz.ntmps71
  go_wp2_with fail
  generalize hw:(w.alloc _).alloc _=w1 at HB ⊢
  clear hw
  go_loopw [12] (fun iv wr=>iv=.int .i64 0∧wr=w1) (fun _ _=>0)
  case atStart=>exact ⟨rfl,rfl⟩
  case round=>
   obtain ⟨rfl,rfl⟩:=hrel
   go_wp2
   go_end0
   exact ⟨jd HB.out,rfl,HJ.out _ _ _ HI.out HB.out⟩
 | succ N ih=>
  intro l v w s hN hsl hB0 hMlt hI hok
  obtain ⟨a,c,rfl,hlc,hlm,hr⟩:=hsl
  have hBa:=((wu w.heap.size w).alloc (wo _) (.cells #[.func (.func g2) #[] caps2] 131)).alloc (by simp) (.cells #[.func (.func 115) #[] #[.pointer (some ⟨w.heap.size,0,none⟩),.pointer (some ⟨w.heap.size+1,0,none⟩)]] 160)
  have HB:=k8 hBa
  have HI:=k8 (L.inv _ _ _ hI hBa)
  have HOk:=k8 hok
  have HB0:=k8 hB0
  have Hr:=k8 hr
  have HM:=k8 hMlt
  have hmf:∀ (fn:Fn) (first cap:Array Value) (w:World),(Instr.makeFunc fn first cap).run Tryz.prog w=.ok (.func fn first cap) w:=fun _ _ _ _=>rfl
  clear hI hok hB0 hr hMlt hBa
  have hst:((w.alloc (.cells #[.func (.func g2) #[] caps2] 131)).alloc (.cells #[.nilFunc] 160)).cell? ⟨w.heap.size+1,0,none⟩=some .nilFunc:=by simp [go_sem]
  have hsz:((w.alloc (.cells #[.func (.func g2) #[] caps2] 131)).alloc (.cells #[.nilFunc] 160)).frozen? ⟨w.heap.size+1,0,none⟩=false:=by simp [go_sem]
  go_enter Tryz.func71,Tryz.ntmps71
  go_wp2_with fail
  have he0:((w.alloc (.cells #[.func (.func g2) #[] caps2] 131)).alloc (.cells #[.func (.func 115) #[] #[.pointer (some ⟨w.heap.size,0,none⟩),.pointer (some ⟨w.heap.size+1,0,none⟩)]] 160)).cell? ⟨w.heap.size,0,none⟩=some (.func (.func g2) #[] caps2):=by simp [go_sem]
  have hd0:((w.alloc (.cells #[.func (.func g2) #[] caps2] 131)).alloc (.cells #[.func (.func 115) #[] #[.pointer (some ⟨w.heap.size,0,none⟩),.pointer (some ⟨w.heap.size+1,0,none⟩)]] 160)).cell? ⟨w.heap.size+1,0,none⟩=some (.func (.func 115) #[] #[.pointer (some ⟨w.heap.size,0,none⟩),.pointer (some ⟨w.heap.size+1,0,none⟩)]):=by simp [go_sem]
  have hem:w.heap.size ∉ M:=fun h=>by have:=HM.out _ h;omega
  have hdm:w.heap.size+1 ∉ M:=fun h=>by have:=HM.out _ h;omega
  obtain ⟨eb,heb⟩:∃ n,n=w.heap.size:=⟨_,rfl⟩
  clear hst hsz
  generalize (w.alloc _).alloc _=W at *
  rw [← heb] at he0 hd0 hem hdm ⊢
  have HEb:=k8 heb
  clear heb
  have HE:=k8 he0
  have HD:=k8 hd0
  clear he0 hd0
  go_loopw [12] (fun iv wr=>∃ k:Nat,k≤l.length∧iv=.int .i64 k∧Kept M W wr∧∃ s',yd fev s (evSs (l.take k))=some s'∧Inv s' wr) (fun iv _=>l.length - (intOf iv).toNat)
  case atStart=>exact ⟨0,gj _,rfl,Kept.refl _ _,s,by simp [evSs,yd],HI.out⟩
  case round=>
   obtain ⟨k,hk,rfl,hK,s',hs',hI'⟩:=hrel
   by_cases hlt:k<l.length
   ·obtain ⟨b,o,rfl,hro⟩:=Hr.out (by intro h;rw [h] at hlt;simp at hlt)
    obtain ⟨x0,d0,x1,d1,x2,d2,h0,h1,h2,h3,h4,h5,hXI,hXs,hXt,hXe⟩:=stmtIs_at (hro k l[k] (by simp [hlt]))
    have hBW:Below w0.heap.size w0 W:=HB0.out.trans (HB.out.mono HB0.out.size)
    have hKW:=hK.below hBW.size L.lo
    have hBr:=hBW.trans hKW
    have h0':=hBr.cell (k9 w0 _ h0) |>.trans h0
    have h1':=hBr.cell (k9 w0 _ h1) |>.trans h1
    have h2':=hBr.cell (k9 w0 _ h2) |>.trans h2
    have h3':=hBr.cell (k9 w0 _ h3) |>.trans h3
    have h4':=hBr.cell (k9 w0 _ h4) |>.trans h4
    have h5':=hBr.cell (k9 w0 _ h5) |>.trans h5
    have hbb:=k9 wr _ h0'
    have hec:=hK.cell HE.out hem
    have hdc:=hK.cell HD.out hdm
    have hel:=k9 wr _ hec
    have hdl:=k9 wr _ hdc
    have hmem:l[k]∈l:=List.getElem_mem _
    have hwx:=wtSs_mem l l[k] hmem
    have hxa:wtEs l[k].args+wtSs l[k].thn+wtSs l[k].els+1≤l[k].wt:=by generalize l[k]=x;obtain ⟨k,s,n,xs,t,e⟩:=x;simp only [Stmt.wt];omega
    have HAt:=k8 (evSs_at l k hlt)
    have HTk:=k8 (evSs_take l k hlt)
    have hsub:∀ x∈evS l[k],x∈evSs l:=fun x hx=>by rw [HAt.out];simp only [gi];exact .inr (.inl hx)
    have hok1:ok (.inl l[k]):=HOk.out _ (hsub _ (by rw [yz];simp))
    have hok2:∀ x∈z7 l[k].args,ok (.inr x):=fun x hx=>HOk.out _ (hsub _ (by rw [yz];simp [hx]))
    have hok3:∀ x∈evSs l[k].thn,ok x:=fun x hx=>HOk.out _ (hsub _ (by rw [yz];simp [hx]))
    have hok4:∀ x∈evSs l[k].els,ok x:=fun x hx=>HOk.out _ (hsub _ (by rw [yz];simp [hx]))
    have hDE:=yz l[k]
    generalize l[k]=x at *
    obtain ⟨xk,xs,xn,xas,xt,xe⟩:=x
    simp only at h0' h1' h2' h3' h4' h5' hXs hXt hXe hxa hok2 hok3 hok4 hDE hXI
    have hKb:Kept M W (wr.alloc (.cells #[.int .i64 xk,.string xs,.int .i64 xn,.slice x0 xas.length d0,.slice x1 xt.length d1,.slice x2 xe.length d2] 58)):=hK.alloc _
    have HLow:=k8 (fun (w1:World) (h:Kept M W w1)=>hBW.trans (h.below hBW.size L.lo))
    have HMl:=k8 (fun (w1:World) (h:Kept M W w1) (b:Nat) (hb:b∈M)=>(Nat.lt_of_lt_of_le (HM.out b hb) (wx HB.out.size h.size):b<w1.heap.size))
    have HC1:=k8 (L.stmt s' ⟨xk,xs,xn,xas,xt,xe⟩ _ (wr.alloc (.cells #[.int .i64 xk,.string xs,.int .i64 xn,.slice x0 xas.length d0,.slice x1 xt.length d1,.slice x2 xe.length d2] 58)) (L.inv _ _ _ hI' ((wu _ _).alloc (wo _) _)) (HLow.out _ hKb) hok1 hXI)
    have HKb:=k8 hKb
    have HS:=k8 hs'
    have HXs:=k8 hXs
    have HXt:=k8 hXt
    have HXe:=k8 hXe
    have HDE:=k8 hDE
    have HOk2:=k8 hok2
    have HOk3:=k8 hok3
    have HOk4:=k8 hok4
    have eg1:=L.e1
    have hnm:wr.heap.size ∉ M:=fun h=>by have:=HMl.out _ hK _ h;omega
    have hec0:=(show (wr.alloc (.cells #[.int .i64 xk,.string xs,.int .i64 xn,.slice x0 xas.length d0,.slice x1 xt.length d1,.slice x2 xe.length d2] 58)).cell? ⟨eb,0,none⟩=_ from (World.cell?_alloc_past _ _ _ hel).trans hec)
    have hdc0:=(show (wr.alloc (.cells #[.int .i64 xk,.string xs,.int .i64 xn,.slice x0 xas.length d0,.slice x1 xt.length d1,.slice x2 xe.length d2] 58)).cell? ⟨eb+1,0,none⟩=_ from (World.cell?_alloc_past _ _ _ hdl).trans hdc)
    have HEc0:=k8 hec0
    have HDc0:=k8 hdc0
    clear hK hKb hs' hXs hXt hXe hDE hok1 hok2 hok3 hok4 hXI hI' hro h0 h1 h2 h3 h4 h5 hsub hBr hKW hec0 hdc0 hec hdc
    go_wp2_with fail
    refine HC1.out.mono ?_
    rintro e w1 ⟨hK1,he⟩
    have HK1:=k8 (HKb.out.trans hK1)
    have hx3:w1.cell? ⟨wr.heap.size,3,none⟩=some (.slice x0 xas.length d0):=hK1.cell (show _=_ by simp) hnm
    have hx4:w1.cell? ⟨wr.heap.size,4,none⟩=some (.slice x1 xt.length d1):=hK1.cell (show _=_ by simp) hnm
    have hx5:w1.cell? ⟨wr.heap.size,5,none⟩=some (.slice x2 xe.length d2):=hK1.cell (show _=_ by simp) hnm
    have hdc1:=hK1.cell HDc0.out hdm
    have hec1:=hK1.cell HEc0.out hem
    clear HC1 hK1 h0' h1' h2' h3' h4' h5' HEc0 HDc0
    have hlow:wr.heap.size<w1.heap.size:=k9 w1 _ hx3
    cases hf:fev s' (.inl ⟨xk,xs,xn,xas,xt,xe⟩) with
    | none=>
     rw [hf] at he
     subst he
     have HN:Hid (yd fev s (evSs l)=none):=by
      show _=none
      rw [HAt.out,j4,HS.out,Option.bind_some,j4,HDE.out,yd,hf]
      rfl
     clear hf
     go_wp2
     exact ⟨rfl,(jd HB.out).trans HK1.out,by rw [HN.out]⟩
    | some s1=>
     rw [hf] at he
     obtain ⟨rfl,hI1⟩:=he
     have HF:=k8 hf
     have HC2:=k8 (deep_each L N xas (.slice x0 xas.length d0) w1 s1 eb (eb+1) (by omega) HXs.out (HLow.out _ HK1.out) (HMl.out _ HK1.out) hI1 HOk2.out hec1 hdc1 hem hdm)
     clear hf hI1
     go_wp2_with fail
     refine HC2.out.mono ?_
     rintro e w2 ⟨hK2,he⟩
     have HK2:=k8 (HK1.out.trans hK2)
     have hy4:w2.cell? ⟨wr.heap.size,4,none⟩=some (.slice x1 xt.length d1):=hK2.cell hx4 hnm
     have hy5:w2.cell? ⟨wr.heap.size,5,none⟩=some (.slice x2 xe.length d2):=hK2.cell hx5 hnm
     have hec2:=hK2.cell hec1 hem
     have hlow2:wr.heap.size<w2.heap.size:=k9 w2 _ hy4
     clear HC2 hK2 hx3 hx4 hx5 hdc1 hec1
     cases hf:yd fev s1 ((z7 xas).map .inr) with
     | none=>
      rw [hf] at he
      subst he
      have HN:Hid (yd fev s (evSs l)=none):=by
       show _=none
       rw [HAt.out,j4,HS.out,Option.bind_some,j4,HDE.out,yd,HF.out,Option.bind_some,j4,j4,hf]
       rfl
      clear hf
      go_wp2
      exact ⟨rfl,(jd HB.out).trans HK2.out,by rw [HN.out]⟩
     | some s2=>
      rw [hf] at he
      obtain ⟨rfl,hI2⟩:=he
      have HF2:=k8 hf
      have HC3:=k8 (ih xt (.slice x1 xt.length d1) w2 s2 (by omega) HXt.out (HLow.out _ HK2.out) (HMl.out _ HK2.out) hI2 HOk3.out)
      clear hf hI2
      go_wp2_with fail
      refine HC3.out.mono ?_
      rintro e w3 ⟨hK3,he⟩
      have HK3:=k8 (HK2.out.trans hK3)
      have hz5:w3.cell? ⟨wr.heap.size,5,none⟩=some (.slice x2 xe.length d2):=hK3.cell hy5 hnm
      have hec3:=hK3.cell hec2 hem
      have hlow3:wr.heap.size<w3.heap.size:=k9 w3 _ hz5
      clear HC3 hK3 hy4 hy5 hec2
      cases hf:yd fev s2 (evSs xt) with
      | none=>
       rw [hf] at he
       subst he
       have HN:Hid (yd fev s (evSs l)=none):=by
        show _=none
        rw [HAt.out,j4,HS.out,Option.bind_some,j4,HDE.out,yd,HF.out,Option.bind_some,j4,j4,HF2.out,Option.bind_some,hf]
        rfl
       clear hf
       go_wp2
       exact ⟨rfl,(jd HB.out).trans HK3.out,by rw [HN.out]⟩
      | some s3=>
       rw [hf] at he
       obtain ⟨rfl,hI3⟩:=he
       have HF3:=k8 hf
       have HC4:=k8 (ih xe (.slice x2 xe.length d2) w3 s3 (by omega) HXe.out (HLow.out _ HK3.out) (HMl.out _ HK3.out) hI3 HOk4.out)
       clear hf hI3
       go_wp2_with fail
       refine HC4.out.mono ?_
       rintro e w4 ⟨hK4,he⟩
       have HK4:=k8 (HK3.out.trans hK4)
       clear HC4 hK4 hz5 hec3
       cases hf:yd fev s3 (evSs xe) with
       | none=>
        rw [hf] at he
        subst he
        have HN:Hid (yd fev s (evSs l)=none):=by
         show _=none
         rw [HAt.out,j4,HS.out,Option.bind_some,j4,HDE.out,yd,HF.out,Option.bind_some,j4,j4,HF2.out,Option.bind_some,HF3.out,Option.bind_some,hf]
         rfl
        clear hf
        go_wp2
        exact ⟨rfl,(jd HB.out).trans HK4.out,by rw [HN.out]⟩
       | some s4=>
        rw [hf] at he
        obtain ⟨rfl,hI4⟩:=he
        have HN:Hid (yd fev s (evSs (l.take (k+1)))=some s4):=by
         show _=_
         rw [HTk.out,j4,HS.out,Option.bind_some,HDE.out,yd,HF.out,Option.bind_some,j4,j4,HF2.out,Option.bind_some,HF3.out,Option.bind_some,hf]
        have HI4:=k8 hI4
        clear hf hI4
        go_wp2
        go_roundw
        case rel=>exact ⟨k+1,hlt,by go_num,HK4.out,s4,HN.out,HI4.out⟩
        case measure=>simp [intOf];omega
   ·have hkk:k=l.length:=by omega
    subst hkk
    rw [List.take_length] at hs'
    have HS:=k8 hs'
    have HK:=k8 hK
    have HI':=k8 hI'
    clear hs' hK hI'
    go_wp2
    go_end0
    exact ⟨(jd HB.out).trans HK.out,by rw [HS.out];exact ⟨rfl,HI'.out⟩⟩
end
section
open Go.RowKit
theorem qu {w0:World} {x:Expr} {v:Value} (h:zl w0 x v):∃ a c,v=.agg #[.int .i64 x.kind,.int .u64 x.num,.string x.name,.slice a x.args.length c]∧Sl 4 (zo w0) (.slice a x.args.length c) x.args:=by
 obtain ⟨a,c,h1,_,_,_,h2⟩:=h
 exact ⟨a,c,h1,h2⟩
theorem stmtOpen2 {w0:World} {x:Stmt} {v:Value} (h:yn w0 x v):∃ a0 c0 a1 c1 a2 c2,v=.agg #[.int .i64 x.kind,.string x.name,.int .i64 x.num,.slice a0 x.args.length c0,.slice a1 x.thn.length c1,.slice a2 x.els.length c2]∧Sl 4 (zo w0) (.slice a0 x.args.length c0) x.args:=by
 obtain ⟨a0,c0,a1,c1,a2,c2,h1,_,_,_,h2,_⟩:=h
 exact ⟨a0,c0,a1,c1,a2,c2,h1,h2⟩
structure VInv (w0:World) (p:Src) (i:Nat) (f:Fun) (vb ab pb sb tb cb:Nat) (w:World):Prop where
 view:qj w0 p i f w vb ab pb sb tb
 var:w.cell? ⟨cb,0,none⟩=some (.pointer (some ⟨vb,0,none⟩))
theorem VInv.below {w0:World} {p:Src} {i:Nat} {f:Fun} {vb ab pb sb tb cb:Nat} {w w':World} (h:VInv w0 p i f vb ab pb sb tb cb w) (hb:Below w.heap.size w w'):VInv w0 p i f vb ab pb sb tb cb w':=⟨h.view.below hb,jb hb h.var⟩
def optB (b:Bool):Option Unit:=if b=true then some () else none
theorem defined1_any {w0:World} {p:Src} {i:Nat} {f:Fun} {vb ab pb sb tb cb:Nat} {w:World} (h:VInv w0 p i f vb ab pb sb tb cb w) (x:Stmt) (v:Value) (hx:yn w0 x v) :
  Calls Tryz.prog 105 #[v,.pointer (some ⟨cb,0,none⟩)] w (EvRet [] 7 (fun (_:Unit) w=>VInv w0 p i f vb ab pb sb tb cb w) (optB (zh p i f (.inl x))) w):=by
 obtain ⟨k,s,n,xs,t,e⟩:=x
 obtain ⟨a0,c0,a1,c1,a2,c2,rfl,-⟩:=stmtOpen2 hx
 simp only
 have hcb:=k9 w _ h.var
 have hBl:=(wu w.heap.size w).alloc (wo _) (.cells #[.int .i64 k,.string s,.int .i64 n,.slice a0 xs.length c0,.slice a1 t.length c1,.slice a2 e.length c2] 58)
 have HI:=k8 (h.below hBl)
 have HB:=k8 (jd (M:=[]) hBl)
 have hvar:=h.var
 clear h hx hBl
 by_cases hk:k=1
 ·subst hk
  have HA:=k8 (array_any HI.out.view s)
  have hd:zh p i f (.inl ⟨1,s,n,xs,t,e⟩)=isArr p f s:=by simp [zh]
  rw [hd]
  clear hd
  generalize isArr p f s=b at *
  go_enter Tryz.func105,Tryz.ntmps105
  go_wp2_with fail
  refine HA.out.mono ?_
  rintro e' w1 ⟨rfl,rfl⟩
  cases b with
  | true=>
   go_wp2_with fail
   refine (zn 7 _).mono ?_
   rintro e' w2 ⟨rfl,rfl⟩
   go_wp2
   go_end0
   exact ⟨HB.out,rfl,HI.out⟩
  | false=>
   go_wp2_with fail
   refine (zd 7 _).mono ?_
   rintro e' w2 ⟨rfl,rfl⟩
   go_wp2
   exact ⟨rfl,HB.out,rfl⟩
 ·have tk:(k != 1)=true:=by simpa using hk
  have hd:zh p i f (.inl ⟨k,s,n,xs,t,e⟩)=true:=by simp [zh,tk]
  rw [hd]
  clear hd hk
  go_enter Tryz.func105,Tryz.ntmps105
  go_wp2_with fail
  refine (zn 7 _).mono ?_
  rintro e' w2 ⟨rfl,rfl⟩
  go_wp2
  go_end0
  exact ⟨HB.out,rfl,HI.out⟩
theorem xh (p:Src) (i:Nat) (s:ByteArray):(yf p i s=none∧calledI p i s=-1)∨∃ j,yf p i s=some j∧calledI p i s=j∧j<i∧j<p.funcs.length:=by
 unfold yf calledI idxOf
 cases h:(p.funcs.take i).findIdx? (calledP s) with
 | none=>exact .inl ⟨rfl,rfl⟩
 | some j=>
  refine .inr ⟨j,rfl,rfl,?_⟩
  have:=(List.findIdx?_eq_some_iff_getElem.1 h).1
  rw [List.length_take] at this
  omega
theorem calledI_ge (p:Src) (i:Nat) (s:ByteArray):decide (0≤calledI p i s)=(yf p i s).isSome:=by
 rcases xh p i s with ⟨h1,h2⟩|⟨j,h1,h2,_⟩
 ·rw [h1,h2];rfl
 ·rw [h1,h2];simp
theorem defined2_any {w0:World} {p:Src} {i:Nat} {f:Fun} {vb ab pb sb tb cb:Nat} {w:World} (hB0:Below w0.heap.size w0 w) (h:VInv w0 p i f vb ab pb sb tb cb w) (x:Expr) (v:Value) (hx:zl w0 x v) :
  Calls Tryz.prog 107 #[v,.pointer (some ⟨cb,0,none⟩)] w (EvRet [] 7 (fun (_:Unit) w=>VInv w0 p i f vb ab pb sb tb cb w) (optB (zh p i f (.inr x))) w):=by
 obtain ⟨k,n,s,xs⟩:=x
 obtain ⟨a,c,rfl,-⟩:=qu hx
 simp only
 have hcb:=k9 w _ h.var
 have hBl:=(wu w.heap.size w).alloc (wo _) (.cells #[.int .i64 k,.int .u64 n,.string s,.slice a xs.length c] 53)
 have HI:=k8 (h.below hBl)
 have HB:=k8 hBl
 have HA:=k8 (array_any HI.out.view s)
 have HC:=k8 (called_any (hB0.trans (hBl.mono hB0.size)) HI.out.view s)
 have hvar:=h.var
 clear h hx hBl hB0
 by_cases hk:k=2
 ·subst hk
  have hd:zh p i f (.inr ⟨2,n,s,xs⟩)=isArr p f s:=by simp [zh]
  rw [hd]
  clear hd HC
  generalize isArr p f s=b at *
  go_enter Tryz.func107,Tryz.ntmps107
  go_wp2_with fail
  refine HA.out.mono ?_
  rintro e' w1 ⟨rfl,rfl⟩
  cases b with
  | true=>
   go_wp2_with fail
   refine (zn 7 _).mono ?_
   rintro e' w2 ⟨rfl,rfl⟩
   go_wp2_with fail
   refine (zn 7 _).mono ?_
   rintro e' w2 ⟨rfl,rfl⟩
   go_wp2
   go_end0
   exact ⟨jd HB.out,rfl,HI.out⟩
  | false=>
   go_wp2_with fail
   refine (zd 7 _).mono ?_
   rintro e' w2 ⟨rfl,rfl⟩
   go_wp2
   exact ⟨rfl,jd HB.out,rfl⟩
 have tk2:(k != 2)=true:=by simpa using hk
 by_cases hk5:k=5
 ·subst hk5
  have hd:zh p i f (.inr ⟨5,n,s,xs⟩)=decide (0≤calledI p i s):=by rw [calledI_ge];simp [zh]
  rw [hd]
  clear hd HA
  generalize calledI p i s=j at *
  obtain ⟨b,hb⟩:∃ b,decide (0≤j)=b:=⟨_,rfl⟩
  rw [hb]
  go_enter Tryz.func107,Tryz.ntmps107
  go_wp2_with fail
  refine (zn 7 _).mono ?_
  rintro e' w2 ⟨rfl,rfl⟩
  go_wp2_with fail
  refine HC.out.mono ?_
  rintro e' w1 ⟨rfl,hB1⟩
  have HB1:=k8 (HB.out.trans (hB1.mono HB.out.size))
  have HI1:=k8 (HI.out.below hB1)
  clear hB1
  cases b with
  | true=>
   go_wp2_with fail
   refine (zn 7 _).mono ?_
   rintro e' w2 ⟨rfl,rfl⟩
   go_wp2
   go_end0
   exact ⟨jd HB1.out,rfl,HI1.out⟩
  | false=>
   go_wp2_with fail
   refine (zd 7 _).mono ?_
   rintro e' w2 ⟨rfl,rfl⟩
   go_wp2
   exact ⟨rfl,jd HB1.out,rfl⟩
 ·have tk5:(k != 5)=true:=by simpa using hk5
  have hd:zh p i f (.inr ⟨k,n,s,xs⟩)=true:=by simp [zh,tk2,tk5]
  rw [hd]
  clear hd hk hk5 HC HA
  go_enter Tryz.func107,Tryz.ntmps107
  go_wp2_with fail
  refine (zn 7 _).mono ?_
  rintro e' w2 ⟨rfl,rfl⟩
  go_wp2_with fail
  refine (zn 7 _).mono ?_
  rintro e' w2 ⟨rfl,rfl⟩
  go_wp2
  go_end0
  exact ⟨jd HB.out,rfl,HI.out⟩
theorem foldO_all (g:Stmt ⊕ Expr→Bool):∀ (l:List (Stmt ⊕ Expr)),yd (fun (_:Unit) ev=>optB (g ev)) () l=optB (l.all g)
 | []=>rfl
 | ev::l=>by
  have ih:=foldO_all g l
  rw [yd,List.all_cons]
  cases h:g ev with
  | true=>simp only [optB,if_true,Option.bind_some,Bool.true_and];exact ih
  | false=>simp [optB]
theorem defined_any {w0:World} {p:Src} {i:Nat} {f:Fun} {vb ab pb sb tb:Nat} {w:World} (hB0:Below w0.heap.size w0 w) (hv:qj w0 p i f w vb ab pb sb tb) :
  Calls Tryz.prog 67 #[.pointer (some ⟨vb,0,none⟩)] w fun e w'=>Below w.heap.size w w'∧(if y0 p i f=true then e=.returned (.tuple #[]) else e=.panicked [yu 7]):=by
 obtain ⟨a0,c0,a1,c1,a2,c2,a3,c3,-,-,-,-,-,-,g6,-,-,-,-,-,hF⟩:=hv.open
 have hsl:Sl 6 (j9 w0) (.slice a3 f.body.length c3) f.body:=by
  obtain ⟨_,_,_,_,he,_,_,h⟩:=hF
  simp only [Value.agg.injEq,List.toArray_inj,Array.mk.injEq,List.cons.injEq,Value.slice.injEq,true_and,and_true] at he
  obtain ⟨-,rfl,rfl⟩:=he
  exact h
 have hbl:=k9 w _ g6
 have hBl:=(wu w.heap.size w).alloc (wo _) (.cells #[.pointer (some ⟨vb,0,none⟩)] 102)
 have hL:Looks w0 [] 7 (fun (_:Unit) w'=>VInv w0 p i f vb ab pb sb tb w.heap.size w') (fun _ ev=>optB (zh p i f ev)) (fun _=>True) 105 107 #[.pointer (some ⟨w.heap.size,0,none⟩)] #[.pointer (some ⟨w.heap.size,0,none⟩)]:=
  {lo:=fun b hb=>by cases hb
   inv:=fun s w w' h hb=>h.below hb
   e1:=fun _ _=>by kernel_rfl
   e2:=fun _ _=>by kernel_rfl
   stmt:=fun s x v w hI hb _ hx=>defined1_any hI x v hx
   expr:=fun s x v w hI hb _ hx=>defined2_any hb hI x v hx }
 have HE:=k8 (each_any hL (wtSs f.body) f.body _ _ () (wo _) hsl (hB0.trans (hBl.mono hB0.size)) (fun b hb=>by cases hb) ⟨hv.below hBl,by simp⟩ (fun _ _=>trivial))
 have HB:=k8 hBl
 have hmf:∀ (fn:Fn) (first cap:Array Value) (w:World),(Instr.makeFunc fn first cap).run Tryz.prog w=.ok (.func fn first cap) w:=fun _ _ _ _=>rfl
 have hFo:yd (fun (_:Unit) ev=>optB (zh p i f ev)) () (evSs f.body)=optB (y0 p i f):=foldO_all (zh p i f) (evSs f.body)
 generalize y0 p i f=b at *
 have HF:=k8 hFo
 clear hL hBl hsl hF hv hB0 hFo
 go_enter Tryz.func67,Tryz.ntmps67
 go_wp2_with fail
 refine HE.out.mono ?_
 rintro e w1 ⟨hK,he⟩
 have HB1:=k8 (jg HB.out (by simp) hK.nil)
 rw [HF.out] at he
 clear hK HF HE
 cases b with
 | true=>
  obtain ⟨rfl,-⟩:e=.returned (.tuple #[])∧_:=he
  go_wp2
  go_end0
  exact ⟨HB1.out,rfl⟩
 | false=>
  obtain rfl:e=.panicked [yu 7]:=he
  go_wp2
  exact ⟨rfl,HB1.out,rfl⟩
end
section
open Go.RowKit
def TyRet (w:World) (b:Bool) (e:Ending) (w':World):Prop:=Below w.heap.size w w'∧(if b=true then e=.returned (.tuple #[]) else e=.panicked [yu 8])
def kp (p:Src) (i:Nat) (f:Fun) (e:Expr) (q:z8):Bool:=if q.kind=2 then (e.kind == 1) && (match aget (zm f) e.name with|none=>false|some n=>decide (q.len≤n)) else zj p i f e
theorem typedArgs_zip (p:Src) (i:Nat) (f:Fun):∀ (es:List Expr) (qs:List z8),vr p i f es qs=(es.zip qs).all fun x=>kp p i f x.1 x.2
 | [],qs=>by simp [vr]
 | e::es,[]=>by simp [vr]
 | e::es,q::qs=>by rw [vr,typedArgs_zip p i f es qs];rfl
theorem x9 {α:Type} (g:α→Bool) (l:List α) (k:Nat) (h:k<l.length):(l.take (k+1)).all g=((l.take k).all g && g l[k]):=by
 rw [List.take_succ_eq_append_getElem h,List.all_append];simp
theorem ym {α:Type} (g:α→Bool) (l:List α) (k:Nat) (h:k<l.length) (hf:g l[k]=false):l.all g=false:=by
 rw [List.all_eq_false]
 exact ⟨l[k],List.getElem_mem _,by simp [hf]⟩
theorem funIs_at {w0:World} {b o:Nat} {f:Fun} (h:FunAt w0 b o f):∃ a0 c0 a1 c1,w0.cell? ⟨b,o,none⟩=some (.string f.name)∧w0.cell? ⟨b,o+1,none⟩=some (.bool f.out)∧w0.cell? ⟨b,o+2,none⟩=some (.slice a0 f.params.length c0)∧w0.cell? ⟨b,o+3,none⟩=some (.slice a1 f.body.length c1) ∧
  Sl 3 (yr w0) (.slice a0 f.params.length c0) f.params∧Sl 6 (j9 w0) (.slice a1 f.body.length c1) f.body:=by
 obtain ⟨a0,c0,a1,c1,h0,h1,h2,h3,hI⟩:=h.open
 refine ⟨a0,c0,a1,c1,h0,h1,h2,h3,?_⟩
 obtain ⟨_,_,_,_,he,_,hs⟩:=hI
 simp only [Value.agg.injEq,List.toArray_inj,Array.mk.injEq,List.cons.injEq,Value.slice.injEq,true_and,and_true] at he
 obtain ⟨⟨rfl,rfl⟩,⟨rfl,rfl⟩⟩:=he
 exact hs
theorem srcIs_at {w0:World} {p:Src} {a0 a1:Option Addr} {c0 c1:Nat} (h:kn w0 p (.agg #[.slice a0 p.secrets.length c0,.slice a1 p.funcs.length c1])):Sl 2 (ArrAt w0) (.slice a0 p.secrets.length c0) p.secrets∧Sl 4 (FunAt w0) (.slice a1 p.funcs.length c1) p.funcs:=by
 obtain ⟨_,_,_,_,he,hs⟩:=h
 simp only [Value.agg.injEq,List.toArray_inj,Array.mk.injEq,List.cons.injEq,Value.slice.injEq,true_and,and_true] at he
 obtain ⟨⟨rfl,rfl⟩,⟨rfl,rfl⟩⟩:=he
 exact hs
theorem args_any {w0:World} {p:Src} {i:Nat} {f:Fun} {w:World} {vb ab pb sb tb:Nat} (hB0:Below w0.heap.size w0 w) (hv:qj w0 p i f w vb ab pb sb tb) (k n:Int) (s:ByteArray) (xs:List Expr) (v:Value) (hx:zl w0 ⟨k,n,s,xs⟩ v)
  (j:Nat) (hj:yf p i s=some j) (g:Fun) (hg:p.funcs[j]?=some g)
  (HIH:Hid (∀ e∈xs,∀ v w1,Below w0.heap.size w0 w1→qj w0 p i f w1 vb ab pb sb tb→zl w0 e v→Calls Tryz.prog 109 #[.pointer (some ⟨vb,0,none⟩),v] w1 (TyRet w1 (zj p i f e)))) :
  Calls Tryz.prog 147 #[.pointer (some ⟨vb,0,none⟩),v] w (TyRet w (decide (xs.length=g.params.length) && vr p i f xs g.params)):=by
 obtain ⟨a,c,rfl,hsl⟩:=qu hx
 simp only at hsl ⊢
 have hjI:calledI p i s=j:=by
  rcases xh p i s with ⟨h1,h2⟩|⟨j',h1,h2,_⟩
  ·rw [hj] at h1;cases h1
  ·rw [hj] at h1;cases h1;exact h2
 have hjl:j<p.funcs.length:=(List.getElem?_eq_some_iff.1 hg).1
 obtain ⟨a0,c0,a1,c1,a2,c2,a3,c3,-,g1,-,-,-,-,-,-,g8,-,-,hI,-⟩:=hv.open
 obtain ⟨_,hsf⟩:=srcIs_at hI
 obtain ⟨_,_,he,hcf,hlf,hrf⟩:=hsf
 simp only [Value.slice.injEq] at he
 obtain ⟨rfl,-,rfl⟩:=he
 obtain ⟨fb,fo,rfl,hrow⟩:=hrf (by intro h;rw [h] at hjl;simp at hjl)
 obtain ⟨ga,gc,_,_,-,-,hg2,-,hgp,-⟩:=funIs_at (hrow j g hg)
 have hBl:=(wu w.heap.size w).alloc (wo _) (.cells #[.int .i64 k,.int .u64 n,.string s,.slice a xs.length c] 53)
 have hBW:=hB0.trans (hBl.mono hB0.size)
 have HBW:=k8 hBW
 have HB:=k8 hBl
 have HV:=k8 (hv.below hBl)
 have HV1:=k8 (jb hBl g1)
 have HV8:=k8 (jb hBl g8)
 have HG2:=k8 (jb hBW hg2)
 have hx2:(w.alloc (.cells #[.int .i64 k,.int .u64 n,.string s,.slice a xs.length c] 53)).cell? ⟨w.heap.size,2,none⟩=some (.string s):=by simp
 have hx3:(w.alloc (.cells #[.int .i64 k,.int .u64 n,.string s,.slice a xs.length c] 53)).cell? ⟨w.heap.size,3,none⟩=some (.slice a xs.length c):=by simp
 have HX2:=k8 hx2
 have HX3:=k8 hx3
 have HJ:=k8 hjI
 have HSl:=k8 hsl
 have HGp:=k8 hgp
 have hgl:g.params.length≤140737488351232:=by
  obtain ⟨_,_,_,_,h,_⟩:=hgp
  exact h
 obtain ⟨B,hBd⟩:∃ B,B=(decide (xs.length=g.params.length) && vr p i f xs g.params):=⟨_,rfl⟩
 rw [← hBd]
 have HBd:=k8 hBd
 clear hBd
 clear hBl hBW hv hB0 g1 g8 hg2 hx2 hx3 hjI hj hsl hgp hrow hrf hI hx hg
 go_enter Tryz.func147,Tryz.ntmps147
 go_wp2_with fail
 refine je zi [.is (.pointer (some ⟨vb,0,none⟩)),.is (.pointer (some ⟨vb,0,none⟩)),.is (.pointer (some ⟨vb,0,none⟩)),.is (.pointer (some ⟨vb,1,none⟩)),.is (.slice (some ⟨fb,fo,none⟩) p.funcs.length c1),.is (.pointer (some ⟨vb,0,none⟩)),.is (.pointer (some ⟨w.heap.size,2,none⟩)),.is (.string s),.is (.int .i64 j),.is (.pointer (some ⟨fb,fo+j * 4,none⟩)),.is (.pointer (some ⟨fb,fo+j * 4+2,none⟩)),.is (.slice ga g.params.length gc)] (by kernel_rfl) 12 (by decide) (by kernel_rfl) _ rfl ?_ ?_
 ·refine ⟨?_,?_,?_,?_,?_,?_,?_,?_,?_,?_,?_,?_,trivial⟩
  ·refine jc rfl rfl rfl fun x y hB hF hD=>?_
   have e0:slot x 0=.pointer (some ⟨vb,0,none⟩):=hF.at 0 rfl
   clear hB hF
   simp only [execOp,ja,e0]
   first|rfl|(go_simp;try rfl)
  ·refine jc rfl rfl rfl fun x y hB hF hD=>?_
   obtain ⟨d0,-⟩:=hD
   have e9:slot x 9=.pointer (some ⟨vb,0,none⟩):=d0 rfl
   clear hB hF
   simp only [execOp,ja,e9]
   first|rfl|(go_simp;try rfl)
  ·refine jc rfl rfl rfl fun x y hB hF hD=>?_
   obtain ⟨d0,-⟩:=hD
   have e10:slot x 10=.pointer (some ⟨vb,0,none⟩):=d0 rfl
   clear hB hF
   simp only [execOp,ja,e10]
   first|rfl|(go_simp;try rfl)
  ·refine jc rfl rfl rfl fun x y hB hF hD=>?_
   obtain ⟨d0,-⟩:=hD
   have e11:slot x 11=.pointer (some ⟨vb,0,none⟩):=d0 rfl
   clear hB hF
   simp only [execOp,ja,e11]
   first|rfl|(go_simp;try rfl)
  ·refine jc rfl rfl rfl fun x y hB hF hD=>?_
   obtain ⟨d0,-⟩:=hD
   have e12:slot x 12=.pointer (some ⟨vb,1,none⟩):=d0 rfl
   have hc:y.cell? ⟨vb,1,none⟩=some (.slice (some ⟨fb,fo,none⟩) p.funcs.length c1):=jb hB HV1.out
   clear hB hF
   simp only [execOp,ja,e12]
   first|rfl|(go_simp;try rfl)
  ·refine jc rfl rfl rfl fun x y hB hF hD=>?_
   have e0:slot x 0=.pointer (some ⟨vb,0,none⟩):=hF.at 0 rfl
   clear hB hF
   simp only [execOp,ja,e0]
   first|rfl|(go_simp;try rfl)
  ·refine jc rfl rfl rfl fun x y hB hF hD=>?_
   have e3:slot x 3=.pointer (some ⟨w.heap.size,0,none⟩):=hF.at 3 rfl
   clear hB hF
   simp only [execOp,ja,e3]
   first|rfl|(go_simp;try rfl)
  ·refine jc rfl rfl rfl fun x y hB hF hD=>?_
   obtain ⟨d0,-⟩:=hD
   have e15:slot x 15=.pointer (some ⟨w.heap.size,2,none⟩):=d0 rfl
   have hc:y.cell? ⟨w.heap.size,2,none⟩=some (.string s):=jb hB HX2.out
   clear hB hF
   simp only [execOp,ja,e15]
   first|rfl|(go_simp;try rfl)
  ·refine jn (f:=78) rfl rfl fun x y hB hF hD=>⟨#[.pointer (some ⟨vb,0,none⟩),.string s],?_,?_⟩
   ·obtain ⟨d0,d1,-⟩:=hD
    have e1:slot x 14=.pointer (some ⟨vb,0,none⟩):=d0 rfl
    have e2:slot x 16=.string s:=d1 rfl
    have g1:=jh e1
    have g2:=jh e2
    clear hB hF e1 e2
    simp only [execOp]
    simp [go_sem,g1,g2]
   ·refine (called_any (HBW.out.trans (hB.mono HBW.out.size)) (HV.out.below hB) s).mono ?_
    rintro e w' ⟨rfl,hb⟩
    exact ⟨hb,.inl ⟨_,rfl,by rw [HJ.out];rfl⟩⟩
  ·refine jc rfl rfl rfl fun x y hB hF hD=>?_
   obtain ⟨d0,d1,-⟩:=hD
   have e13:slot x 13=.slice (some ⟨fb,fo,none⟩) p.funcs.length c1:=d0 rfl
   have e17:slot x 17=.int .i64 j:=d1 rfl
   clear hB hF
   simp only [execOp,ja,e13,e17]
   first|rfl|(go_simp;try rfl)
  ·refine jc rfl rfl rfl fun x y hB hF hD=>?_
   obtain ⟨d0,-⟩:=hD
   have e18:slot x 18=.pointer (some ⟨fb,fo+j * 4,none⟩):=d0 rfl
   clear hB hF
   simp only [execOp,ja,e18]
   first|rfl|(go_simp;try rfl)
  ·refine jc rfl rfl rfl fun x y hB hF hD=>?_
   obtain ⟨d0,-⟩:=hD
   have e19:slot x 19=.pointer (some ⟨fb,fo+j * 4+2,none⟩):=d0 rfl
   have hc:y.cell? ⟨fb,fo+j * 4+2,none⟩=some (.slice ga g.params.length gc):=jb hB HG2.out
   clear hB hF
   simp only [execOp,ja,e19]
   first|rfl|(go_simp;try rfl)
 ·intro x y hB hF hP
  obtain ⟨p0,p1,p2,p3,p4,p5,p6,p7,p8,p9,p10,p11,-⟩:=hP
  have hx:=jj hF [(9,.pointer (some ⟨vb,0,none⟩)),(10,.pointer (some ⟨vb,0,none⟩)),(11,.pointer (some ⟨vb,0,none⟩)),(12,.pointer (some ⟨vb,1,none⟩)),(13,.slice (some ⟨fb,fo,none⟩) p.funcs.length c1),(14,.pointer (some ⟨vb,0,none⟩)),(15,.pointer (some ⟨w.heap.size,2,none⟩)),(16,.string s),(17,.int .i64 j),(18,.pointer (some ⟨fb,fo+j * 4,none⟩)),(19,.pointer (some ⟨fb,fo+j * 4+2,none⟩)),(20,.slice ga g.params.length gc)] rfl ⟨p0,p1,p2,p3,p4,p5,p6,p7,p8,p9,p10,p11,trivial⟩
  have HBy:=k8 (HB.out.trans (hB.mono (by simp)))
  have HBWy:=k8 (HBW.out.trans (hB.mono HBW.out.size))
  have HVy:=k8 (HV.out.below hB)
  have hByz:=hB
  have hx3:=jb hB HX3.out
  have hbx:=k9 y _ hx3
  clear hB hF p0 p1 p2 p3 p4 p5 p6 p7 p8 p9 p10 p11
  subst hx
  simp only [puts,Act.put,we,wg,wi,wj,wk]
  by_cases hlen:xs.length=g.params.length
  case neg=>
   have tl1:((xs.length:Int) == g.params.length)=false:=by simp;omega
   have HBf:Hid (B=false):=by show _=_;rw [HBd.out];simp [hlen]
   clear hlen
   go_wp2_with fail
   refine (zd 8 _).mono ?_
   rintro e' w2 ⟨rfl,rfl⟩
   go_wp2
   exact ⟨rfl,HBy.out,by rw [HBf.out];rfl⟩
  have tl1:((xs.length:Int) == g.params.length)=true:=by simp;omega
  have HBt:Hid (B=(xs.zip g.params).all fun x=>kp p i f x.1 x.2):=by show _=_;rw [HBd.out,typedArgs_zip];simp [hlen]
  have HLen:=k8 hlen
  clear hlen
  go_wp2_with fail
  refine (zn 8 _).mono ?_
  rintro e' w2 ⟨rfl,rfl⟩
  go_wp2_with fail
  clear hx3 tl1
  go_loopw [31] (fun iv wr=>∃ k:Nat,k≤xs.length∧iv=.int .i64 k∧Below y.heap.size y wr∧((xs.zip g.params).take k).all (fun x=>kp p i f x.1 x.2)=true) (fun iv _=>xs.length - (intOf iv).toNat)
  case atStart=>exact ⟨0,gj _,rfl,wu _ _,rfl⟩
  case round=>
   obtain ⟨k,hk,rfl,hK,hall⟩:=hrel
   by_cases hlt:k<xs.length
   ·obtain ⟨_,_,he,_,_,hr⟩:=HSl.out
    simp only [Value.slice.injEq] at he
    obtain ⟨rfl,-,rfl⟩:=he
    obtain ⟨b,o,rfl,hro⟩:=hr (by intro h;rw [h] at hlt;simp at hlt)
    obtain ⟨_,_,he,_,_,hrp⟩:=HGp.out
    simp only [Value.slice.injEq] at he
    obtain ⟨rfl,-,rfl⟩:=he
    have hltp:k<g.params.length:=by have:=HLen.out;omega
    obtain ⟨pb',po,rfl,hrop⟩:=hrp (by intro h;rw [h] at hltp;simp at hltp)
    obtain ⟨xa,xc,h0,h1,h2,h3,hXI,hXs⟩:=yl (hro k xs[k] (by simp [hlt]))
    have hpa:=hrop k g.params[k] (by simp [hltp])
    have hBr:=HBWy.out.trans (hK.mono HBWy.out.size)
    have h0':=jb hBr h0
    have h1':=jb hBr h1
    have h2':=jb hBr h2
    have h3':=jb hBr h3
    have q1':=jb hBr hpa.2.1
    have q2':=jb hBr hpa.2.2.1
    have hbb:=k9 wr _ h0'
    have hbp:=k9 wr _ q1'
    have hzl:k<(xs.zip g.params).length:=by rw [List.length_zip];omega
    have hzk:(xs.zip g.params)[k]'hzl=(xs[k],g.params[k]):=by simp
    have hAT:=x9 (fun x=>kp p i f x.1 x.2) (xs.zip g.params) k hzl
    have hAF:=ym (fun x=>kp p i f x.1 x.2) (xs.zip g.params) k hzl
    rw [hzk] at hAT hAF
    rw [hall,Bool.true_and] at hAT
    simp only at hAT hAF
    have HAT:=k8 hAT
    have HAF:=k8 hAF
    have hI1:=HIH.out xs[k] (List.getElem_mem _)
    clear hAT hAF hzk hr hrp hro hrop h0 h1 h2 h3 hpa
    generalize xs[k]=x at *
    generalize g.params[k]=q at *
    obtain ⟨ek,en,an,exs⟩:=x
    obtain ⟨qn,qk,ql⟩:=q
    simp only at h0' h1' h2' h3' q1' q2' hXI
    have hBx:=(wu wr.heap.size wr).alloc (wo _) (.cells #[.int .i64 ek,.int .u64 en,.string an,.slice xa exs.length xc] 53)
    have hKx:=hK.trans (hBx.mono hK.size)
    have HKx:=k8 hKx
    have HBrx:=k8 (hBr.trans (hBx.mono hBr.size))
    have HVx:=k8 (HVy.out.below hKx)
    have HI1:=k8 (hI1 _ _ HBrx.out HVx.out hXI)
    have q1x:=jb hBx q1'
    have q2x:=jb hBx q2'
    clear hI1 hKx hBr hall hXI hXs
    by_cases hq:qk=2
    ·subst hq
     have hta:kp p i f ⟨ek,en,an,exs⟩ ⟨qn,2,ql⟩=((ek == 1) && (match aget (zm f) an with|none=>false|some n=>decide (ql≤n))):=by unfold kp;simp
     rw [hta] at HAT HAF
     clear hta
     have hx2:(wr.alloc (.cells #[.int .i64 ek,.int .u64 en,.string an,.slice xa exs.length xc] 53)).cell? ⟨wr.heap.size,2,none⟩=some (.string an):=by simp
     have hx0:(wr.alloc (.cells #[.int .i64 ek,.int .u64 en,.string an,.slice xa exs.length xc] 53)).cell? ⟨wr.heap.size,0,none⟩=some (.int .i64 ek):=by simp
     have HX2:=k8 hx2
     have HX0:=k8 hx0
     have HV8:=k8 (jb HKx.out (jb hByz HV8.out))
     have HMP:=k8 HVx.out.pointers
     have HMm:=k8 (ka (Value.int .i64) (zm f) an)
     have Q2:=k8 q2x
     clear hx2 hx0 hBx
     cases ho:aget (zm f) an with
     | none=>
      have HAG:Hid (aget ((zm f).map fun x=>(x.1,Value.int .i64 x.2)) an=none):=by show _=_;rw [HMm.out,ho];rfl
      have HAF':Hid (((xs.zip g.params).all fun x=>kp p i f x.1 x.2)=false):=by
       refine HAF.out ?_
       rw [ho]
       simp
      clear ho HAT HAF HMm
      obtain ⟨be,hbe⟩:∃ be,(ek == 1)=be:=⟨_,rfl⟩
      go_wp2_with fail
      refine je zi [.is (.pointer (some ⟨vb,0,none⟩)),.is (.pointer (some ⟨vb,0,none⟩)),.is (.pointer (some ⟨vb,8,none⟩)),.is (.map (some pb)),.is (.pointer (some ⟨wr.heap.size,2,none⟩)),.is (.string an),.is (.tuple #[.int .i64 0,.bool false]),.is (.tuple #[.int .i64 0,.bool false]),.is (.int .i64 0),.is (.bool false),.is (.int .i64 0)] (by kernel_rfl) 11 (by decide) (by kernel_rfl) _ rfl ?_ ?_
      ·refine ⟨?_,?_,?_,?_,?_,?_,?_,?_,?_,?_,?_,trivial⟩
       ·refine jc rfl rfl rfl fun x y hB hF hD=>?_
        have e0:slot x 0=.pointer (some ⟨vb,0,none⟩):=hF.at 0 rfl
        clear hB hF
        simp only [execOp,ja,e0]
        first|rfl|(go_simp;try rfl)
       ·refine jc rfl rfl rfl fun x y hB hF hD=>?_
        obtain ⟨d0,-⟩:=hD
        have e43:slot x 43=.pointer (some ⟨vb,0,none⟩):=d0 rfl
        clear hB hF
        simp only [execOp,ja,e43]
        first|rfl|(go_simp;try rfl)
       ·refine jc rfl rfl rfl fun x y hB hF hD=>?_
        obtain ⟨d0,-⟩:=hD
        have e44:slot x 44=.pointer (some ⟨vb,0,none⟩):=d0 rfl
        clear hB hF
        simp only [execOp,ja,e44]
        first|rfl|(go_simp;try rfl)
       ·refine jc rfl rfl rfl fun x y hB hF hD=>?_
        obtain ⟨d0,-⟩:=hD
        have e45:slot x 45=.pointer (some ⟨vb,8,none⟩):=d0 rfl
        have hc:y.cell? ⟨vb,8,none⟩=some (.map (some pb)):=jb hB HV8.out
        clear hB hF
        simp only [execOp,ja,e45]
        first|rfl|(go_simp;try rfl)
       ·refine jc rfl rfl rfl fun x y hB hF hD=>?_
        have e6:slot x 6=.pointer (some ⟨wr.heap.size,0,none⟩):=hF.at 6 rfl
        clear hB hF
        simp only [execOp,ja,e6]
        first|rfl|(go_simp;try rfl)
       ·refine jc rfl rfl rfl fun x y hB hF hD=>?_
        obtain ⟨d0,-⟩:=hD
        have e47:slot x 47=.pointer (some ⟨wr.heap.size,2,none⟩):=d0 rfl
        have hc:y.cell? ⟨wr.heap.size,2,none⟩=some (.string an):=jb hB HX2.out
        clear hB hF
        simp only [execOp,ja,e47]
        first|rfl|(go_simp;try rfl)
       ·refine jc rfl rfl rfl fun x y hB hF hD=>?_
        obtain ⟨d0,d1,-⟩:=hD
        have e1:slot x 46=.map (some pb):=d0 rfl
        have e2:slot x 48=.string an:=d1 rfl
        have hrun:=xr keyS (j5.below HMP.out hB) Tryz.underlying124 (zeroI y) an true
        rw [HAG.out] at hrun
        clear hB hF
        simp only [execOp,ja,e1,e2]
        simp [hrun,Result.andThen]
       ·refine jc rfl rfl rfl fun x y hB hF hD=>?_
        obtain ⟨d0,-⟩:=hD
        have e49:slot x 49=.tuple #[.int .i64 0,.bool false]:=d0 rfl
        clear hB hF
        simp only [execOp,ja,e49]
        first|rfl|(go_simp;try rfl)
       ·refine jc rfl rfl rfl fun x y hB hF hD=>?_
        obtain ⟨d0,-⟩:=hD
        have e42:slot x 42=.tuple #[.int .i64 0,.bool false]:=d0 rfl
        clear hB hF
        simp only [execOp,ja,e42]
        first|rfl|(go_simp;try rfl)
       ·refine jc rfl rfl rfl fun x y hB hF hD=>?_
        obtain ⟨d0,-⟩:=hD
        have e42:slot x 42=.tuple #[.int .i64 0,.bool false]:=d0 rfl
        clear hB hF
        simp only [execOp,ja,e42]
        first|rfl|(go_simp;try rfl)
       ·refine jc rfl rfl rfl fun x y hB hF hD=>?_
        obtain ⟨d0,-⟩:=hD
        have e50:slot x 50=.int .i64 0:=d0 rfl
        clear hB hF
        simp only [execOp,ja,e50]
        first|rfl|(go_simp;try rfl)
      ·intro x y2 hB hF hP
       obtain ⟨p0,p1,p2,p3,p4,p5,p6,p7,p8,p9,p10,-⟩:=hP
       have hx:=jj hF [(43,.pointer (some ⟨vb,0,none⟩)),(44,.pointer (some ⟨vb,0,none⟩)),(45,.pointer (some ⟨vb,8,none⟩)),(46,.map (some pb)),(47,.pointer (some ⟨wr.heap.size,2,none⟩)),(48,.string an),(49,.tuple #[.int .i64 0,.bool false]),(42,.tuple #[.int .i64 0,.bool false]),(50,.int .i64 0),(51,.bool false),(7,.int .i64 0)] rfl ⟨p0,p1,p2,p3,p4,p5,p6,p7,p8,p9,p10,trivial⟩
       have HK2:=k8 (HKx.out.trans (hB.mono HKx.out.size))
       have hx0:=jb hB HX0.out
       have hx1:=k9 y2 _ hx0
       clear hB hF p0 p1 p2 p3 p4 p5 p6 p7 p8 p9 p10 q1' q2' q1x q2x h0' h1' h2' h3'
       subst hx
       simp only [puts,Act.put,we,wg,wi,wj,wk]
       cases be with
       | true=>
        go_wp2_with fail
        refine (zd 8 _).mono ?_
        rintro e' w2 ⟨rfl,rfl⟩
        go_wp2
        exact ⟨rfl,HBy.out.trans (HK2.out.mono HBy.out.size),by rw [HBt.out,HAF'.out];rfl⟩
       | false=>
        go_wp2_with fail
        refine (zd 8 _).mono ?_
        rintro e' w2 ⟨rfl,rfl⟩
        go_wp2
        exact ⟨rfl,HBy.out.trans (HK2.out.mono HBy.out.size),by rw [HBt.out,HAF'.out];rfl⟩
     | some m=>
      have HAG:Hid (aget ((zm f).map fun x=>(x.1,Value.int .i64 x.2)) an=some (.int .i64 m)):=by show _=_;rw [HMm.out,ho];rfl
      rw [ho] at HAT HAF
      simp only at HAT HAF
      clear ho HMm
      obtain ⟨be,hbe⟩:∃ be,(ek == 1)=be:=⟨_,rfl⟩
      obtain ⟨bm,hbm⟩:∃ bm,decide (ql≤m)=bm:=⟨_,rfl⟩
      rw [hbe,hbm] at HAT HAF
      go_wp2_with fail
      refine je zi [.is (.pointer (some ⟨vb,0,none⟩)),.is (.pointer (some ⟨vb,0,none⟩)),.is (.pointer (some ⟨vb,8,none⟩)),.is (.map (some pb)),.is (.pointer (some ⟨wr.heap.size,2,none⟩)),.is (.string an),.is (.tuple #[.int .i64 m,.bool true]),.is (.tuple #[.int .i64 m,.bool true]),.is (.int .i64 m),.is (.bool true),.is (.int .i64 m)] (by kernel_rfl) 11 (by decide) (by kernel_rfl) _ rfl ?_ ?_
      ·refine ⟨?_,?_,?_,?_,?_,?_,?_,?_,?_,?_,?_,trivial⟩
       ·refine jc rfl rfl rfl fun x y hB hF hD=>?_
        have e0:slot x 0=.pointer (some ⟨vb,0,none⟩):=hF.at 0 rfl
        clear hB hF
        simp only [execOp,ja,e0]
        first|rfl|(go_simp;try rfl)
       ·refine jc rfl rfl rfl fun x y hB hF hD=>?_
        obtain ⟨d0,-⟩:=hD
        have e43:slot x 43=.pointer (some ⟨vb,0,none⟩):=d0 rfl
        clear hB hF
        simp only [execOp,ja,e43]
        first|rfl|(go_simp;try rfl)
       ·refine jc rfl rfl rfl fun x y hB hF hD=>?_
        obtain ⟨d0,-⟩:=hD
        have e44:slot x 44=.pointer (some ⟨vb,0,none⟩):=d0 rfl
        clear hB hF
        simp only [execOp,ja,e44]
        first|rfl|(go_simp;try rfl)
       ·refine jc rfl rfl rfl fun x y hB hF hD=>?_
        obtain ⟨d0,-⟩:=hD
        have e45:slot x 45=.pointer (some ⟨vb,8,none⟩):=d0 rfl
        have hc:y.cell? ⟨vb,8,none⟩=some (.map (some pb)):=jb hB HV8.out
        clear hB hF
        simp only [execOp,ja,e45]
        first|rfl|(go_simp;try rfl)
       ·refine jc rfl rfl rfl fun x y hB hF hD=>?_
        have e6:slot x 6=.pointer (some ⟨wr.heap.size,0,none⟩):=hF.at 6 rfl
        clear hB hF
        simp only [execOp,ja,e6]
        first|rfl|(go_simp;try rfl)
       ·refine jc rfl rfl rfl fun x y hB hF hD=>?_
        obtain ⟨d0,-⟩:=hD
        have e47:slot x 47=.pointer (some ⟨wr.heap.size,2,none⟩):=d0 rfl
        have hc:y.cell? ⟨wr.heap.size,2,none⟩=some (.string an):=jb hB HX2.out
        clear hB hF
        simp only [execOp,ja,e47]
        first|rfl|(go_simp;try rfl)
       ·refine jc rfl rfl rfl fun x y hB hF hD=>?_
        obtain ⟨d0,d1,-⟩:=hD
        have e1:slot x 46=.map (some pb):=d0 rfl
        have e2:slot x 48=.string an:=d1 rfl
        have hrun:=xr keyS (j5.below HMP.out hB) Tryz.underlying124 (zeroI y) an true
        rw [HAG.out] at hrun
        clear hB hF
        simp only [execOp,ja,e1,e2]
        simp [hrun,Result.andThen]
       ·refine jc rfl rfl rfl fun x y hB hF hD=>?_
        obtain ⟨d0,-⟩:=hD
        have e49:slot x 49=.tuple #[.int .i64 m,.bool true]:=d0 rfl
        clear hB hF
        simp only [execOp,ja,e49]
        first|rfl|(go_simp;try rfl)
       ·refine jc rfl rfl rfl fun x y hB hF hD=>?_
        obtain ⟨d0,-⟩:=hD
        have e42:slot x 42=.tuple #[.int .i64 m,.bool true]:=d0 rfl
        clear hB hF
        simp only [execOp,ja,e42]
        first|rfl|(go_simp;try rfl)
       ·refine jc rfl rfl rfl fun x y hB hF hD=>?_
        obtain ⟨d0,-⟩:=hD
        have e42:slot x 42=.tuple #[.int .i64 m,.bool true]:=d0 rfl
        clear hB hF
        simp only [execOp,ja,e42]
        first|rfl|(go_simp;try rfl)
       ·refine jc rfl rfl rfl fun x y hB hF hD=>?_
        obtain ⟨d0,-⟩:=hD
        have e50:slot x 50=.int .i64 m:=d0 rfl
        clear hB hF
        simp only [execOp,ja,e50]
        first|rfl|(go_simp;try rfl)
      ·intro x y2 hB hF hP
       obtain ⟨p0,p1,p2,p3,p4,p5,p6,p7,p8,p9,p10,-⟩:=hP
       have hx:=jj hF [(43,.pointer (some ⟨vb,0,none⟩)),(44,.pointer (some ⟨vb,0,none⟩)),(45,.pointer (some ⟨vb,8,none⟩)),(46,.map (some pb)),(47,.pointer (some ⟨wr.heap.size,2,none⟩)),(48,.string an),(49,.tuple #[.int .i64 m,.bool true]),(42,.tuple #[.int .i64 m,.bool true]),(50,.int .i64 m),(51,.bool true),(7,.int .i64 m)] rfl ⟨p0,p1,p2,p3,p4,p5,p6,p7,p8,p9,p10,trivial⟩
       have HK2:=k8 (HKx.out.trans (hB.mono HKx.out.size))
       have hx0:=jb hB HX0.out
       have hx1:=k9 y2 _ hx0
       have q2y:=jb hB Q2.out
       have hbp2:=k9 y2 _ q2y
       clear hB hF p0 p1 p2 p3 p4 p5 p6 p7 p8 p9 p10 q1' q2' q1x q2x h0' h1' h2' h3'
       subst hx
       simp only [puts,Act.put,we,wg,wi,wj,wk]
       cases be with
       | false=>
        go_wp2_with fail
        refine (zd 8 _).mono ?_
        rintro e' w2 ⟨rfl,rfl⟩
        go_wp2
        exact ⟨rfl,HBy.out.trans (HK2.out.mono HBy.out.size),by rw [HBt.out,HAF.out (by trivial)];rfl⟩
       | true=>
        cases bm with
        | false=>
         go_wp2_with fail
         refine (zd 8 _).mono ?_
         rintro e' w2 ⟨rfl,rfl⟩
         go_wp2
         exact ⟨rfl,HBy.out.trans (HK2.out.mono HBy.out.size),by rw [HBt.out,HAF.out (by trivial)];rfl⟩
        | true=>
         go_wp2_with fail
         refine (zn 8 _).mono ?_
         rintro e' w2 ⟨rfl,rfl⟩
         clear q2y hx0
         go_wp2
         go_roundw
         case rel=>exact ⟨k+1,hlt,by go_num,HK2.out,HAT.out⟩
         case measure=>simp [intOf];omega
    ·have tq:(qk == 2)=false:=by simpa using hq
     have hta:kp p i f ⟨ek,en,an,exs⟩ ⟨qn,qk,ql⟩=zj p i f ⟨ek,en,an,exs⟩:=by unfold kp;rw [if_neg hq]
     rw [hta] at HAT HAF
     clear hta hq
     generalize zj p i f ⟨ek,en,an,exs⟩=bt at *
     clear hBx
     go_wp2_with fail
     refine HI1.out.mono ?_
     rintro e w3 ⟨hB3,he⟩
     have HK3:=k8 (HKx.out.trans (hB3.mono HKx.out.size))
     clear hB3 HI1
     cases bt with
     | true=>
      obtain rfl:e=.returned (.tuple #[]):=he
      clear h0' h1' h2' h3' q1' q2' q1x q2x
      go_wp2
      go_roundw
      case rel=>exact ⟨k+1,hlt,by go_num,HK3.out,HAT.out⟩
      case measure=>simp [intOf];omega
     | false=>
      obtain rfl:e=.panicked [yu 8]:=he
      clear h0' h1' h2' h3' q1' q2' q1x q2x
      go_wp2
      exact ⟨rfl,HBy.out.trans (HK3.out.mono HBy.out.size),by rw [HBt.out,HAF.out (by trivial)];rfl⟩
   ·have hkk:k=xs.length:=by omega
    subst hkk
    rw [ww (by rw [List.length_zip];omega)] at hall
    have HK:=k8 hK
    have HA:=k8 hall
    clear hall hK
    go_wp2
    go_end0
    exact ⟨HBy.out.trans (HK.out.mono HBy.out.size),by rw [HBt.out,HA.out];rfl⟩
end
section
open Go.RowKit
theorem typedEs_all (p:Src) (i:Nat) (f:Fun):∀ (es:List Expr),typedEs p i f es=es.all (zj p i f)
 | []=>by simp [typedEs]
 | e::es=>by rw [typedEs,typedEs_all p i f es];rfl
theorem typedE_call (p:Src) (i:Nat) (f:Fun) (n:Int) (s:ByteArray) (xs:List Expr) (j:Nat) (g:Fun) (hj:yf p i s=some j) (hg:p.funcs[j]?=some g):zj p i f ⟨5,n,s,xs⟩=(decide (xs.length=g.params.length) && vr p i f xs g.params):=by
 rw [zj];simp only [if_true,hj,hg]
theorem typedE_var (p:Src) (i:Nat) (f:Fun) (n:Int) (s:ByteArray) (xs:List Expr):zj p i f ⟨1,n,s,xs⟩=(!isArr p f s && xs.all (zj p i f)):=by
 rw [zj,typedEs_all];simp
theorem typedE_else (p:Src) (i:Nat) (f:Fun) (k n:Int) (s:ByteArray) (xs:List Expr) (h1:k≠1) (h5:k≠5):zj p i f ⟨k,n,s,xs⟩=xs.all (zj p i f):=by
 rw [zj,typedEs_all,if_neg h5,if_neg h1];simp
theorem typedE_any {w0:World} {p:Src} {i:Nat} {f:Fun} {vb ab pb sb tb:Nat} :
  ∀ (N:Nat) (e:Expr) (v:Value) (w:World),e.wt≤N→Below w0.heap.size w0 w→qj w0 p i f w vb ab pb sb tb→zl w0 e v→(∀ y∈y4 e,zh p i f (.inr y)=true) →
   Calls Tryz.prog 109 #[.pointer (some ⟨vb,0,none⟩),v] w (TyRet w (zj p i f e)):=by
 intro N
 induction N with
 | zero=>
  intro e v w h
  obtain ⟨k,n,s,xs⟩:=e
  rw [Expr.wt] at h;omega
 | succ N ih=>
  intro e v w hN hB0 hv hx hdef
  obtain ⟨k,n,s,xs⟩:=e
  have hx0:=hx
  obtain ⟨a,c,rfl,hsl⟩:=qu hx
  simp only at hsl hx0 ⊢
  rw [Expr.wt] at hN
  have hIH:∀ e∈xs,∀ v w1,Below w0.heap.size w0 w1→qj w0 p i f w1 vb ab pb sb tb→zl w0 e v→Calls Tryz.prog 109 #[.pointer (some ⟨vb,0,none⟩),v] w1 (TyRet w1 (zj p i f e)):=by
   intro e he v w1 hb1 hv1 hx1
   have hm:=wtEs_mem xs e he
   refine ih e v w1 (by omega) hb1 hv1 hx1 (fun y hy=>hdef y ?_)
   rw [qq]
   obtain ⟨k',hk',he'⟩:=List.mem_iff_getElem.1 he
   rw [gh]
   refine .inr ?_
   simp only
   rw [deepEs_at xs k' hk',he']
   simp [hy]
  have hBl:=(wu w.heap.size w).alloc (wo _) (.cells #[.int .i64 k,.int .u64 n,.string s,.slice a xs.length c] 53)
  have hBW:=hB0.trans (hBl.mono hB0.size)
  have hvW:=hv.below hBl
  by_cases h5:k=5
  ·subst h5
   have hd5:(yf p i s).isSome=true:=by
    have:=hdef ⟨5,n,s,xs⟩ (by rw [qq];simp)
    simpa [zh] using this
   obtain ⟨j,hj⟩:=Option.isSome_iff_exists.1 hd5
   have hjl:j<p.funcs.length:=by
    rcases xh p i s with ⟨h1,_⟩|⟨j',h1,_,_,h4⟩
    ·rw [hj] at h1;cases h1
    ·rw [hj] at h1;cases h1;exact h4
   have hg:p.funcs[j]?=some p.funcs[j]:=List.getElem?_eq_getElem hjl
   have HA:=k8 (args_any hBW hvW 5 n s xs _ hx0 j hj _ hg (k8 hIH))
   rw [typedE_call p i f n s xs j _ hj hg]
   have HB:=k8 hBl
   generalize (decide (xs.length=p.funcs[j].params.length) && vr p i f xs p.funcs[j].params)=b at *
   clear hIH hdef hx hx0 hsl hv hvW hB0 hBl hBW hd5 hj hg ih
   go_enter Tryz.func109,Tryz.ntmps109
   go_wp2_with fail
   refine HA.out.mono ?_
   rintro e w1 ⟨hB,he⟩
   have HB1:=k8 (jg HB.out (by simp) hB)
   clear hB HA
   cases b with
   | true=>
    obtain rfl:e=.returned (.tuple #[]):=he
    go_wp2
    go_end0
    exact ⟨HB1.out,rfl⟩
   | false=>
    obtain rfl:e=.panicked [yu 8]:=he
    go_wp2
    exact ⟨rfl,HB1.out,rfl⟩
  have t5:(k == 5)=false:=by simpa using h5
  have HV:=k8 hvW
  have HBW:=k8 hBW
  have HB:=k8 hBl
  have HIH:=k8 hIH
  have HSl:=k8 hsl
  have HA:=k8 (array_any hvW s)
  by_cases h1:k=1
  ·subst h1
   have HE:=k8 (typedE_var p i f n s xs)
   obtain ⟨B,hBd⟩:∃ B,B=zj p i f ⟨1,n,s,xs⟩:=⟨_,rfl⟩
   rw [← hBd]
   have HBd:Hid (B=(!isArr p f s && xs.all (zj p i f))):=hBd.trans HE.out
   clear hIH hdef hx hx0 hsl hv hvW hB0 hBl hBW ih hBd HE
   generalize isArr p f s=ba at *
   go_enter Tryz.func109,Tryz.ntmps109
   go_wp2_with fail
   refine HA.out.mono ?_
   rintro e w1 ⟨rfl,rfl⟩
   cases ba with
   | true=>
    go_wp2_with fail
    refine (zd 8 _).mono ?_
    rintro e' w2 ⟨rfl,rfl⟩
    go_wp2
    exact ⟨rfl,HB.out,by rw [HBd.out];rfl⟩
   | false=>
    go_wp2_with fail
    refine (zn 8 _).mono ?_
    rintro e' w2 ⟨rfl,rfl⟩
    go_wp2_with fail
    generalize w.alloc _=W at *
    go_loopw [24] (fun iv wr=>∃ k:Nat,k≤xs.length∧iv=.int .i64 k∧Below W.heap.size W wr∧(xs.take k).all (zj p i f)=true) (fun iv _=>xs.length - (intOf iv).toNat)
    case atStart=>exact ⟨0,gj _,rfl,wu _ _,rfl⟩
    case round=>
     obtain ⟨m,hk,rfl,hK,hall⟩:=hrel
     by_cases hlt:m<xs.length
     ·obtain ⟨_,_,he,_,_,hr⟩:=HSl.out
      simp only [Value.slice.injEq] at he
      obtain ⟨rfl,-,rfl⟩:=he
      obtain ⟨b,o,rfl,hro⟩:=hr (by intro h;rw [h] at hlt;simp at hlt)
      obtain ⟨xa,xc,h0,h1,h2,h3,hXI,hXs⟩:=yl (hro m xs[m] (by simp [hlt]))
      have hBr:=HBW.out.trans (hK.mono HBW.out.size)
      have h0':=jb hBr h0
      have h1':=jb hBr h1
      have h2':=jb hBr h2
      have h3':=jb hBr h3
      have hbb:=k9 wr _ h0'
      have hAT:=x9 (zj p i f) xs m hlt
      have hAF:=ym (zj p i f) xs m hlt
      rw [hall,Bool.true_and] at hAT
      have hI1:=HIH.out xs[m] (List.getElem_mem _)
      have HAT:=k8 hAT
      have HAF:=k8 hAF
      clear hAT hAF hr hro h0 h1 h2 h3
      generalize xs[m]=x at *
      obtain ⟨ek,en,an,exs⟩:=x
      simp only at h0' h1' h2' h3' hXI
      have hBx:=(wu wr.heap.size wr).alloc (wo _) (.cells #[.int .i64 ek,.int .u64 en,.string an,.slice xa exs.length xc] 53)
      have hKx:=hK.trans (hBx.mono hK.size)
      have HKx:=k8 hKx
      have HI1:=k8 (hI1 _ _ (hBr.trans (hBx.mono hBr.size)) (HV.out.below hKx) hXI)
      clear hI1 hKx hBr hall hXI hXs hBx
      generalize zj p i f ⟨ek,en,an,exs⟩=bt at *
      go_wp2_with fail
      refine HI1.out.mono ?_
      rintro e w3 ⟨hB3,he⟩
      have HK3:=k8 (HKx.out.trans (hB3.mono HKx.out.size))
      clear hB3 HI1 h0' h1' h2' h3'
      cases bt with
      | true=>
       obtain rfl:e=.returned (.tuple #[]):=he
       go_wp2
       go_roundw
       case rel=>exact ⟨m+1,hlt,by go_num,HK3.out,HAT.out⟩
       case measure=>simp [intOf];omega
      | false=>
       obtain rfl:e=.panicked [yu 8]:=he
       go_wp2
       exact ⟨rfl,HB.out.trans (HK3.out.mono HB.out.size),by rw [HBd.out,HAF.out (by trivial)];rfl⟩
     ·have hkk:m=xs.length:=by omega
      subst hkk
      rw [List.take_length] at hall
      have HK:=k8 hK
      have HA:=k8 hall
      clear hall hK
      go_wp2
      go_end0
      exact ⟨HB.out.trans (HK.out.mono HB.out.size),by rw [HBd.out,HA.out];rfl⟩
  ·have t1:(k == 1)=false:=by simpa using h1
   have HE:=k8 (typedE_else p i f k n s xs h1 h5)
   obtain ⟨B,hBd⟩:∃ B,B=zj p i f ⟨k,n,s,xs⟩:=⟨_,rfl⟩
   rw [← hBd]
   have HBd:Hid (B=(!false && xs.all (zj p i f))):=hBd.trans HE.out
   clear hIH hdef hx hx0 hsl hv hvW hB0 hBl hBW ih hBd HE HA h1 h5
   go_enter Tryz.func109,Tryz.ntmps109
   go_wp2_with fail
   generalize w.alloc _=W at *
   go_loopw [24] (fun iv wr=>∃ k:Nat,k≤xs.length∧iv=.int .i64 k∧Below W.heap.size W wr∧(xs.take k).all (zj p i f)=true) (fun iv _=>xs.length - (intOf iv).toNat)
   case atStart=>exact ⟨0,gj _,rfl,wu _ _,rfl⟩
   case round=>
    obtain ⟨m,hk,rfl,hK,hall⟩:=hrel
    by_cases hlt:m<xs.length
    ·obtain ⟨_,_,he,_,_,hr⟩:=HSl.out
     simp only [Value.slice.injEq] at he
     obtain ⟨rfl,-,rfl⟩:=he
     obtain ⟨b,o,rfl,hro⟩:=hr (by intro h;rw [h] at hlt;simp at hlt)
     obtain ⟨xa,xc,h0,h1,h2,h3,hXI,hXs⟩:=yl (hro m xs[m] (by simp [hlt]))
     have hBr:=HBW.out.trans (hK.mono HBW.out.size)
     have h0':=jb hBr h0
     have h1':=jb hBr h1
     have h2':=jb hBr h2
     have h3':=jb hBr h3
     have hbb:=k9 wr _ h0'
     have hAT:=x9 (zj p i f) xs m hlt
     have hAF:=ym (zj p i f) xs m hlt
     rw [hall,Bool.true_and] at hAT
     have hI1:=HIH.out xs[m] (List.getElem_mem _)
     have HAT:=k8 hAT
     have HAF:=k8 hAF
     clear hAT hAF hr hro h0 h1 h2 h3
     generalize xs[m]=x at *
     obtain ⟨ek,en,an,exs⟩:=x
     simp only at h0' h1' h2' h3' hXI
     have hBx:=(wu wr.heap.size wr).alloc (wo _) (.cells #[.int .i64 ek,.int .u64 en,.string an,.slice xa exs.length xc] 53)
     have hKx:=hK.trans (hBx.mono hK.size)
     have HKx:=k8 hKx
     have HI1:=k8 (hI1 _ _ (hBr.trans (hBx.mono hBr.size)) (HV.out.below hKx) hXI)
     clear hI1 hKx hBr hall hXI hXs hBx
     generalize zj p i f ⟨ek,en,an,exs⟩=bt at *
     go_wp2_with fail
     refine HI1.out.mono ?_
     rintro e w3 ⟨hB3,he⟩
     have HK3:=k8 (HKx.out.trans (hB3.mono HKx.out.size))
     clear hB3 HI1 h0' h1' h2' h3'
     cases bt with
     | true=>
      obtain rfl:e=.returned (.tuple #[]):=he
      go_wp2
      go_roundw
      case rel=>exact ⟨m+1,hlt,by go_num,HK3.out,HAT.out⟩
      case measure=>simp [intOf];omega
     | false=>
      obtain rfl:e=.panicked [yu 8]:=he
      go_wp2
      exact ⟨rfl,HB.out.trans (HK3.out.mono HB.out.size),by rw [HBd.out,HAF.out (by trivial)];rfl⟩
    ·have hkk:m=xs.length:=by omega
     subst hkk
     rw [List.take_length] at hall
     have HK:=k8 hK
     have HA:=k8 hall
     clear hall hK
     go_wp2
     go_end0
     exact ⟨HB.out.trans (HK.out.mono HB.out.size),by rw [HBd.out,HA.out];rfl⟩
end
section
open Go.RowKit
def BSl (w:World) (v:Value) (l:List ByteArray):Prop:=
 ∃ a c,v=.slice a l.length c∧l.length≤c∧l.length≤140737488351232∧(a=none→c=0)∧(l≠[]→∃ b o,a=some ⟨b,o,none⟩∧∀ (j:Nat) (t:ByteArray),l[j]?=some t→w.cell? ⟨b,o+j,none⟩=some (.string t))
theorem BSl.below {w w1:World} {v:Value} {l:List ByteArray} (h:BSl w v l) (hb:Below w.heap.size w w1):BSl w1 v l:=by
 obtain ⟨a,c,h1,h2,h3,h5,h4⟩:=h
 refine ⟨a,c,h1,h2,h3,h5,fun hne=>?_⟩
 obtain ⟨b,o,ha,hj⟩:=h4 hne
 exact ⟨b,o,ha,fun j t ht=>jb hb (hj j t ht)⟩
theorem indexS_any (v:Value) (l:List ByteArray) (s:ByteArray) (w:World) (h:BSl w v l) :
  Calls Tryz.prog 146 #[v,.string s] w fun e w'=>e=.returned (.int .i64 (idxOf (fun t=>s == t) l))∧w'=w:=by
 obtain ⟨a,c,rfl,hlc,hlm,-,hr⟩:=h
 have Hr:=k8 hr
 clear hr
 go_enter Tryz.func146,Tryz.ntmps146
 go_wp2_with fail
 go_loopw [8] (fun iv wr=>∃ k:Nat,k≤l.length∧iv=.int .i64 k∧wr=w∧vx (fun t=>s == t) l k) (fun iv _=>l.length - (intOf iv).toNat)
 case atStart=>exact ⟨0,gj _,rfl,rfl,vx.zero _ _⟩
 case round=>
  obtain ⟨k,hk,rfl,rfl,hn⟩:=hrel
  by_cases hlt:k<l.length
  ·obtain ⟨b,o,rfl,hro⟩:=Hr.out (by intro h;rw [h] at hlt;simp at hlt)
   have h0:=hro k l[k] (by simp [hlt])
   have hbb:=k9 _ _ h0
   have HN:=k8 hn
   clear hn hro
   cases he:(s == l[k]) with
   | true=>
    have t1:(s.toList == l[k].toList)=true:=(str_eq s l[k]).trans he
    have HE:=k8 (idx_at hlt HN.out he)
    clear he
    go_wp2
    go_ret
    exact ⟨by rw [HE.out];rfl,rfl⟩
   | false=>
    have t1:(s.toList == l[k].toList)=false:=(str_eq s l[k]).trans he
    have HE:=k8 (HN.out.succ hlt he)
    clear he
    go_wp2
    go_roundw
    case rel=>exact ⟨k+1,hlt,by go_num,by trivial,HE.out⟩
    case measure=>simp [intOf];omega
  ·have hkk:k=l.length:=by omega
   subst hkk
   have hE:idxOf (fun t=>s == t) l=-1:=by
    unfold idxOf
    have:l.findIdx? (fun t=>s == t)=none:=by
     rw [List.findIdx?_eq_none_iff]
     intro t ht
     obtain ⟨j,hj⟩:=List.mem_iff_getElem?.1 ht
     exact hn j t (List.getElem?_eq_some_iff.1 hj).1 hj
    rw [this]
   have HE:=k8 hE
   clear hE hn
   go_wp2
   go_ret
   exact ⟨by rw [HE.out];rfl,rfl⟩
theorem containsS_any (v:Value) (l:List ByteArray) (s:ByteArray) (w:World) (h:BSl w v l) :
  Calls Tryz.prog 108 #[v,.string s] w fun e w'=>e=.returned (.bool (l.contains s))∧w'=w:=by
 have HI:=k8 (indexS_any v l s w h)
 have hc:decide (0≤idxOf (fun t=>s == t) l)=l.contains s:=by
  unfold idxOf
  cases hf:l.findIdx? (fun t=>s == t) with
  | none=>
   rw [List.findIdx?_eq_none_iff] at hf
   have:l.contains s=false:=by
    rw [Bool.eq_false_iff]
    intro hc
    have:=hf s (List.contains_iff_mem.1 hc)
    simp at this
   rw [this];rfl
  | some j=>
   obtain ⟨h1,h2,_⟩:=List.findIdx?_eq_some_iff_getElem.1 hf
   have:l.contains s=true:=List.contains_iff_mem.2 (by have:=eq_of_beq h2;rw [this];exact List.getElem_mem _)
   rw [this];simp
 generalize idxOf (fun t=>s == t) l=j at *
 generalize l.contains s=b at *
 clear h
 go_enter Tryz.func108,Tryz.ntmps108
 go_wp2_with fail
 refine HI.out.mono ?_
 rintro e w1 ⟨rfl,rfl⟩
 go_wp2
 go_ret
 exact ⟨rfl,rfl⟩
theorem bsl_of_own {w:World} {base n:Nat} {v:Value} {l:List ByteArray} (h:w.ownsRow base 9 1 v n (l.map .string)) (hn:l.length=n) (hm:n≤140737488351232):BSl w v l:=by
 subst hn
 have hc:=h
 rcases h.2 with ⟨rfl,h0⟩|⟨g,cap,cur,rfl,_,_,hcap,_,_,_⟩
 ·exact ⟨none,0,by rw [h0],by omega,hm,fun _=>rfl,fun hne=>absurd (List.eq_nil_of_length_eq_zero h0) hne⟩
 ·refine ⟨_,cap,rfl,hcap,hm,(fun e=>by cases e),fun hne=>⟨g,0,rfl,fun j t hj=>?_⟩⟩
  have:=hc.cells (g:=g) rfl j (.string t) (by simp [hj])
  have ha:(⟨g,0,none⟩:Addr).add j=⟨g,0+j,none⟩:=by unfold Addr.add;split<;>simp_all
  rwa [ha] at this
theorem clone_str (v:Value) (l:List ByteArray) (w:World) (h:BSl w v l) (hl:l.length≤100000) :
  Calls Tryz.prog 110 #[v] w fun e w'=>Below w.heap.size w w'∧∃ v',e=.returned v'∧w'.ownsRow w.heap.size 9 1 v' l.length (l.map .string):=by
 obtain ⟨a,c,rfl,hlc,hlm,hnil,hr⟩:=h
 cases a with
 | none=>
  obtain rfl:=hnil rfl
  have hl0:l=[]:=List.eq_nil_of_length_eq_zero (by omega)
  subst hl0
  have hq:∀ w,(binOp .eql 136 (.slice none 0 0) (.slice none 0 0)).run Tryz.prog w=.ok (.bool true) w:=fun _=>by kernel_rfl
  go_enter Tryz.func110,Tryz.ntmps110
  go_wp2
  go_ret
  exact ⟨wu _ _,_,rfl,by simp,.inl ⟨rfl,rfl⟩⟩
 | some ad=>
  have hq:∀ w,(binOp .eql 136 (.slice (some ad) l.length c) (.slice none 0 0)).run Tryz.prog w=.ok (.bool false) w:=fun _=>by kernel_rfl
  have hnews:∀ j u,(l.map Value.string)[j]?=some u→w.cell? (ad.add j)=some u:=by
   intro j u hj
   rw [List.getElem?_map] at hj
   cases ht:l[j]? with
   | none=>rw [ht] at hj;cases hj
   | some t=>
    rw [ht] at hj
    simp only [Option.map_some,Option.some.injEq] at hj
    subst hj
    obtain ⟨b,o,ha,hro⟩:=hr (by rintro rfl;simp at ht)
    simp only [Option.some.injEq] at ha
    subst ha
    have:=hro j t ht
    have ha:(⟨b,o,none⟩:Addr).add j=⟨b,o+j,none⟩:=by unfold Addr.add;split<;>simp_all
    rwa [ha]
  have HNw:=k8 hnews
  have hBl:=(wu w.heap.size w).alloc (wo _) (.cells #[] 9)
  have hown:(w.alloc (.cells #[] 9)).ownsRow w.heap.size 9 1 (.slice (some ⟨w.heap.size,0,none⟩) 0 0) 0 []:=by
   have h:=World.ownsRow_lit (base:=w.heap.size) (e:=9) (size:=1) w #[] 0 (wo _) (by simp [maxLen]) (by simp)
   simpa using h
  have HO:=k8 hown
  have HB:=k8 hBl
  obtain ⟨i0,hi,hz0,hz1,hz2⟩:=info_parts jm
  clear hr hnews hown hBl hnil
  go_enter Tryz.func110,Tryz.ntmps110
  go_wp2_with (at_builtin;go_loud (refine wpList_append_own _ rfl _ _ _ rfl w.heap.size 9 i0 _ 1 16 Tryz.underlying136 hi hz0 hz1 hz2 rfl (by omega) _ 0 [] rfl HO.out ad l.length c (l.map .string) rfl (by simp) ?ca ?cb ?cc ?cd (by simp) ?_))
  case ca=>
   intro j u hj
   have h1:=HNw.out j u hj
   exact (World.cell?_alloc_lt w _ _ (k9 w _ h1)).trans h1
  case cb=>
   intro u hu
   obtain ⟨t,_,rfl⟩:=List.mem_map.1 hu
   rfl
  case cc=>simp only [maxLen];omega
  case cd=>omega
  intro v1 w1 ho1 hg1 _
  have HR:=k8 (show w1.ownsRow w.heap.size 9 1 v1 l.length (l.map .string) from by simpa using ho1)
  have HB1:=k8 (j6 HB.out HO.out (wo _) HB.out.size hg1)
  clear ho1 hg1
  go_wp2
  go_ret
  exact ⟨HB1.out,_,rfl,HR.out⟩
end
section
open Go.RowKit
theorem typedSs_all (p:Src) (i:Nat) (f:Fun) (loops:List ByteArray):∀ (l:List Stmt),zw p i f loops l=l.all (typedS p i f loops)
 | []=>by simp [zw]
 | x::l=>by rw [zw,typedSs_all p i f loops l];rfl
def mpOwn (B:Nat) (l:List ByteArray):MP:=⟨fun v w=>w.ownsRow B 9 1 v l.length (l.map .string),fun v x y h hb=>jv h hb⟩
def mpOne (s:ByteArray):MP:=⟨fun v w=>∃ b,v=.slice (some ⟨b,0,none⟩) 1 1∧w.cell? ⟨b,0,none⟩=some (.string s),fun v x y ⟨b,h1,h2⟩ hb=>⟨b,h1,jb hb h2⟩⟩
theorem ko (p:Src) (i:Nat) (f:Fun) (loops:List ByteArray) (k n:Int) (s:ByteArray) (xs:List Expr) (t e:List Stmt):typedS p i f loops ⟨k,s,n,xs,t,e⟩=((if k=0∨k=3 then !isArr p f s && !loops.contains s else true) && xs.all (zj p i f) && (zw p i f (if k=3 then loops++[s] else loops) t && zw p i f (if k=3 then loops++[s] else loops) e)):=by
 rw [typedS,typedEs_all]
theorem typed_any {w0:World} {p:Src} {i:Nat} {f:Fun} {vb ab pb sb tb:Nat} :
  ∀ (N:Nat) (l:List Stmt) (v:Value) (w:World) (loops:List ByteArray) (lv:Value),wtSs l≤N→wtSs l≤100000→loops.length+wtSs l≤100000→Below w0.heap.size w0 w→qj w0 p i f w vb ab pb sb tb→Sl 6 (j9 w0) v l→BSl w lv loops→(∀ ev∈evSs l,zh p i f ev=true) →
   Calls Tryz.prog 68 #[.pointer (some ⟨vb,0,none⟩),v,lv] w (TyRet w (zw p i f loops l)):=by
 intro N
 induction N with
 | zero=>
  intro l v w loops lv hN _ _ hB0 hv hsl hlv hok
  have hl:l=[]:=by
   cases l with
   | nil=>rfl
   | cons x l=>obtain ⟨k,s,n,xs,t,e⟩:=x;simp only [wtSs,Stmt.wt] at hN;omega
  subst hl
  obtain ⟨a,c,rfl,-,-,-⟩:=hsl
  clear hok hB0 hv hlv
  go_enter Tryz.func68,Tryz.ntmps68
  go_wp2_with fail
  go_loopw [13] (fun iv wr=>iv=.int .i64 0∧wr=w) (fun _ _=>0)
  case atStart=>exact ⟨rfl,rfl⟩
  case round=>
   obtain ⟨rfl,rfl⟩:=hrel
   go_wp2
   go_end0
   exact ⟨wu _ _,by simp [zw]⟩
 | succ N ih=>
  intro l v w loops lv hN hl1 hl2 hB0 hv hsl hlv hok
  obtain ⟨a,c,rfl,hlc,hlm,hr⟩:=hsl
  have HOk:=k8 hok
  have HB0:=k8 hB0
  have Hr:=k8 hr
  have HVv:=k8 hv
  have HLv:=k8 hlv
  have HLl:Hid (loops.length≤100000):=by show _≤_;omega
  obtain ⟨B,hBd⟩:∃ B,B=zw p i f loops l:=⟨_,rfl⟩
  rw [← hBd]
  have HBd:Hid (B=l.all (typedS p i f loops)):=hBd.trans (typedSs_all p i f loops l)
  clear hok hB0 hr hv hlv hBd
  go_enter Tryz.func68,Tryz.ntmps68
  go_wp2_with fail
  go_loopw [13] (fun iv wr=>∃ k:Nat,k≤l.length∧iv=.int .i64 k∧Below w.heap.size w wr∧(l.take k).all (typedS p i f loops)=true) (fun iv _=>l.length - (intOf iv).toNat)
  case atStart=>exact ⟨0,gj _,rfl,wu _ _,rfl⟩
  case round=>
   obtain ⟨k,hk,rfl,hK,hall⟩:=hrel
   by_cases hlt:k<l.length
   ·obtain ⟨b,o,rfl,hro⟩:=Hr.out (by intro h;rw [h] at hlt;simp at hlt)
    obtain ⟨x0,d0,x1,d1,x2,d2,h0,h1,h2,h3,h4,h5,hXI,hXs,hXt,hXe⟩:=stmtIs_at (hro k l[k] (by simp [hlt]))
    have hBr:=HB0.out.trans (hK.mono HB0.out.size)
    have h0':=jb hBr h0
    have h1':=jb hBr h1
    have h2':=jb hBr h2
    have h3':=jb hBr h3
    have h4':=jb hBr h4
    have h5':=jb hBr h5
    have hbb:=k9 wr _ h0'
    have hwx:=wtSs_mem l l[k] (List.getElem_mem _)
    have hxa:wtEs l[k].args+wtSs l[k].thn+wtSs l[k].els+1≤l[k].wt:=by generalize l[k]=x;obtain ⟨k,s,n,xs,t,e⟩:=x;simp only [Stmt.wt];omega
    have hAT:=x9 (typedS p i f loops) l k hlt
    have hAF:=ym (typedS p i f loops) l k hlt
    rw [hall,Bool.true_and] at hAT
    have HAT:=k8 hAT
    have HAF:=k8 hAF
    have hsub:∀ x∈evS l[k],x∈evSs l:=fun x hx=>by rw [evSs_at l k hlt];simp only [gi];exact .inr (.inl hx)
    have hok2:∀ x∈z7 l[k].args,zh p i f (.inr x)=true:=fun x hx=>HOk.out _ (hsub _ (by rw [yz];simp [hx]))
    have hok3:∀ x∈evSs l[k].thn,zh p i f x=true:=fun x hx=>HOk.out _ (hsub _ (by rw [yz];simp [hx]))
    have hok4:∀ x∈evSs l[k].els,zh p i f x=true:=fun x hx=>HOk.out _ (hsub _ (by rw [yz];simp [hx]))
    clear hAT hAF hro h0 h1 h2 h3 h4 h5 hsub hXI
    generalize l[k]=x at *
    obtain ⟨xk,s,xn,xas,xt,xe⟩:=x
    simp only at h0' h1' h2' h3' h4' h5' hXs hXt hXe hxa hok2 hok3 hok4
    have hBx:=(wu wr.heap.size wr).alloc (wo _) (.cells #[.int .i64 xk,.string s,.int .i64 xn,.slice x0 xas.length d0,.slice x1 xt.length d1,.slice x2 xe.length d2] 58)
    have HBW:=k8 (hK.trans (hBx.mono hK.size))
    have HBW0:=k8 (hBr.trans (hBx.mono hBr.size))
    have HV:=k8 (HVv.out.below HBW.out)
    have HLvW:=k8 (HLv.out.below HBW.out)
    have hx0:(wr.alloc (.cells #[.int .i64 xk,.string s,.int .i64 xn,.slice x0 xas.length d0,.slice x1 xt.length d1,.slice x2 xe.length d2] 58)).cell? ⟨wr.heap.size,0,none⟩=some (.int .i64 xk):=by simp
    have hx1:(wr.alloc (.cells #[.int .i64 xk,.string s,.int .i64 xn,.slice x0 xas.length d0,.slice x1 xt.length d1,.slice x2 xe.length d2] 58)).cell? ⟨wr.heap.size,1,none⟩=some (.string s):=by simp
    have hx4:(wr.alloc (.cells #[.int .i64 xk,.string s,.int .i64 xn,.slice x0 xas.length d0,.slice x1 xt.length d1,.slice x2 xe.length d2] 58)).cell? ⟨wr.heap.size,4,none⟩=some (.slice x1 xt.length d1):=by simp
    have hx5:(wr.alloc (.cells #[.int .i64 xk,.string s,.int .i64 xn,.slice x0 xas.length d0,.slice x1 xt.length d1,.slice x2 xe.length d2] 58)).cell? ⟨wr.heap.size,5,none⟩=some (.slice x2 xe.length d2):=by simp
    have HX0:=k8 hx0
    have HX1:=k8 hx1
    have HX4:=k8 hx4
    have HX5:=k8 hx5
    have HXs:=k8 hXs
    have HXt:=k8 hXt
    have HXe:=k8 hXe
    have HOk2:=k8 hok2
    have HOk3:=k8 hok3
    have HOk4:=k8 hok4
    clear hXs hXt hXe hok2 hok3 hok4 hx0 hx1 hx4 hx5 hBx hBr hall hK
    by_cases hk3:xk=3
    ·subst hk3
     have HA:=k8 (array_any HV.out s)
     have HCn:=k8 (containsS_any lv loops s _ HLvW.out)
     cases hia:isArr p f s with
     | true=>
      rw [hia] at HA
      have HTf:Hid (typedS p i f loops ⟨3,s,xn,xas,xt,xe⟩=false):=by show _=_;rw [ko,hia];simp
      clear hia
      go_wp2_with fail
      refine HA.out.mono ?_
      rintro e w2 ⟨rfl,rfl⟩
      go_wp2_with fail
      refine (zd 8 _).mono ?_
      rintro e w2 ⟨rfl,rfl⟩
      go_wp2
      exact ⟨rfl,HBW.out,by rw [HBd.out,HAF.out HTf.out];rfl⟩
     | false=>
      cases hco:loops.contains s with
      | true=>
       rw [hia] at HA
       rw [hco] at HCn
       have HTf:Hid (typedS p i f loops ⟨3,s,xn,xas,xt,xe⟩=false):=by show _=_;rw [ko,hco];simp
       clear hia hco
       go_wp2_with fail
       refine HA.out.mono ?_
       rintro e w2 ⟨rfl,rfl⟩
       go_wp2_with fail
       refine HCn.out.mono ?_
       rintro e w2 ⟨rfl,rfl⟩
       go_wp2_with fail
       refine (zd 8 _).mono ?_
       rintro e w2 ⟨rfl,rfl⟩
       go_wp2
       exact ⟨rfl,HBW.out,by rw [HBd.out,HAF.out HTf.out];rfl⟩
      | false=>
       rw [hia] at HA
       rw [hco] at HCn
       have HT:Hid (typedS p i f loops ⟨3,s,xn,xas,xt,xe⟩=(xas.all (zj p i f) && (zw p i f (loops++[s]) xt && zw p i f (loops++[s]) xe))):=by show _=_;rw [ko,hia,hco];simp
       clear hia hco
       go_wp2_with fail
       refine HA.out.mono ?_
       rintro e w2 ⟨rfl,rfl⟩
       go_wp2_with fail
       refine HCn.out.mono ?_
       rintro e w2 ⟨rfl,rfl⟩
       go_wp2_with fail
       refine (zn 8 _).mono ?_
       rintro e w2 ⟨rfl,rfl⟩
       go_wp2_with fail
       clear HA HCn
       clear h0' h1' h2' h3' h4' h5'
       generalize wr.alloc _=W at *
       generalize wr.heap.size=xb at *
       go_loopw [41] (fun iv wr=>∃ m:Nat,m≤xas.length∧iv=.int .i64 m∧Below W.heap.size W wr∧(xas.take m).all (zj p i f)=true) (fun iv _=>xas.length - (intOf iv).toNat)
       case atStart=>exact ⟨0,gj _,rfl,wu _ _,rfl⟩
       case round=>
        obtain ⟨m,hm,rfl,hK2,hall2⟩:=hrel
        by_cases hlt2:m<xas.length
        ·obtain ⟨_,_,he,_,_,hr2⟩:=HXs.out
         simp only [Value.slice.injEq] at he
         obtain ⟨rfl,-,rfl⟩:=he
         obtain ⟨b2,o2,rfl,hro2⟩:=hr2 (by intro h;rw [h] at hlt2;simp at hlt2)
         obtain ⟨ya,yc,j0,j1,j2,j3,hYI,hYs⟩:=yl (hro2 m xas[m] (by simp [hlt2]))
         have hBr:=HBW0.out.trans (hK2.mono HBW0.out.size)
         have j0':=jb hBr j0
         have j1':=jb hBr j1
         have j2':=jb hBr j2
         have j3':=jb hBr j3
         have hbb2:=k9 wr _ j0'
         have hAT2:=x9 (zj p i f) xas m hlt2
         have hAF2:=ym (zj p i f) xas m hlt2
         rw [hall2,Bool.true_and] at hAT2
         have HAT2:=k8 hAT2
         have HAF2:=k8 hAF2
         have hdy:∀ z∈y4 xas[m],zh p i f (.inr z)=true:=fun z hz=>HOk2.out z (by rw [deepEs_at xas m hlt2];simp [hz])
         clear hAT2 hAF2 hr2 hro2 j0 j1 j2 j3
         generalize xas[m]=y at *
         obtain ⟨ek,en,an,exs⟩:=y
         simp only at j0' j1' j2' j3' hYI
         have hBx:=(wu wr.heap.size wr).alloc (wo _) (.cells #[.int .i64 ek,.int .u64 en,.string an,.slice ya exs.length yc] 53)
         have hKx:=hK2.trans (hBx.mono hK2.size)
         have HKx:=k8 hKx
         have HI1:=k8 (typedE_any (Expr.wt ⟨ek,en,an,exs⟩) ⟨ek,en,an,exs⟩ _ _ (wo _) (hBr.trans (hBx.mono hBr.size)) (HV.out.below hKx) hYI hdy)
         clear hKx hBr hall2 hYI hYs hBx hdy hK2
         generalize zj p i f ⟨ek,en,an,exs⟩=bt at *
         go_wp2_with fail
         refine HI1.out.mono ?_
         rintro e w3 ⟨hB3,he⟩
         have HK3:=k8 (HKx.out.trans (hB3.mono HKx.out.size))
         clear hB3 HI1 j0' j1' j2' j3'
         cases bt with
         | true=>
          obtain rfl:e=.returned (.tuple #[]):=he
          go_wp2
          go_roundw
          case rel=>exact ⟨m+1,hlt2,by go_num,HK3.out,HAT2.out⟩
          case measure=>simp [intOf];omega
         | false=>
          obtain rfl:e=.panicked [yu 8]:=he
          go_wp2
          exact ⟨rfl,HBW.out.trans (HK3.out.mono HBW.out.size),by rw [HBd.out,HAF.out (by rw [HT.out,HAF2.out (by trivial)];simp)];rfl⟩
        ·have hmm:m=xas.length:=by omega
         subst hmm
         rw [List.take_length] at hall2
         rw [hall2,Bool.true_and] at HT
         have HK2:=k8 hK2
         have hz0:=jb hK2 HX0.out
         have hz1:=jb hK2 HX1.out
         have hz4:=jb hK2 HX4.out
         have hzl:=k9 wr _ hz0
         have HX1:=k8 hz1
         have HX4b:=k8 hz4
         have hln:(loops++[s]).length+wtSs xt+wtSs xe≤100000:=by simp;omega
         have HZ0:Hid (W.heap.size≤wr.heap.size):=hK2.size
         have HLv2:=k8 (HLv.out.below (HBW.out.trans (hK2.mono HBW.out.size)))
         clear hK2 hall2
         go_wp2_with fail
         refine je zi [.is (lv),mpOwn W.heap.size loops,.is (.pointer (some ⟨xb,1,none⟩)),.is (.string s),mpOne s] (by kernel_rfl) 5 (by decide) (by kernel_rfl) _ rfl ?_ ?_
         ·refine ⟨?_,?_,?_,?_,?_,trivial⟩
          ·refine jc rfl rfl rfl fun x y hB hF hD=>?_
           have e2:slot x 2=lv:=hF.at 2 rfl
           clear hB hF
           simp only [execOp,ja,e2]
           first|rfl|(go_simp;try rfl)
          ·refine jn (f:=110) rfl rfl fun x y hB hF hD=>⟨#[lv],?_,?_⟩
           ·obtain ⟨d0,-⟩:=hD
            have e1:slot x 53=lv:=d0 rfl
            have g1:=jh e1
            clear hB hF e1
            simp only [execOp]
            simp [go_sem,g1]
           ·refine (clone_str lv loops y (HLv2.out.below hB) HLl.out).mono ?_
            rintro e w' ⟨hb,v',rfl,hrow⟩
            exact ⟨hb,.inl ⟨_,rfl,yk hrow (wx HZ0.out hB.size)⟩⟩
          ·refine jc rfl rfl rfl fun x y hB hF hD=>?_
           have e7:slot x 7=.pointer (some ⟨xb,0,none⟩):=hF.at 7 rfl
           clear hB hF
           simp only [execOp,ja,e7]
           first|rfl|(go_simp;try rfl)
          ·refine jc rfl rfl rfl fun x y hB hF hD=>?_
           obtain ⟨d0,-⟩:=hD
           have e55:slot x 55=.pointer (some ⟨xb,1,none⟩):=d0 rfl
           have hc:y.cell? ⟨xb,1,none⟩=some (.string s):=jb hB HX1.out
           clear hB hF
           simp only [execOp,ja,e55]
           first|rfl|(go_simp;try rfl)
          ·refine jr rfl fun x y hB hF hD=>?_
           obtain ⟨d0,-⟩:=hD
           have e1:slot x 56=.string s:=d0 rfl
           have g1:=jh e1
           clear hB hF e1
           unfold Oper.wp
           simp only [execOp]
           simp [go_sem,g1]
           refine ⟨_,rfl,(wu _ _).alloc (wo _) _,?_⟩
           have hcn:(y.alloc (.cells #[.string s] 9)).cell? ⟨y.heap.size,0,none⟩=some (.string s):=by simp
           exact (⟨y.heap.size,rfl,hcn⟩:(mpOne s).p _ _)
         ·intro x y2 hB hF hP
          obtain ⟨p0,p1,p2,p3,p4,-⟩:=hP
          have hx:=jj hF [(53,lv),(54,slot x 54),(55,.pointer (some ⟨xb,1,none⟩)),(56,.string s),(57,slot x 57)] rfl ⟨p0,rfl,p2,p3,rfl,trivial⟩
          have HR1:=k8 (show y2.ownsRow W.heap.size 9 1 (slot x 54) loops.length (loops.map .string) from p1)
          obtain ⟨nb,hnb,hnc⟩:∃ b,slot x 57=.slice (some ⟨b,0,none⟩) 1 1∧y2.cell? ⟨b,0,none⟩=some (.string s):=p4
          have HBy2:=k8 (HK2.out.trans (hB.mono HK2.out.size))
          have HNc:=k8 hnc
          have HZy:Hid (W.heap.size≤y2.heap.size):=wx HZ0.out hB.size
          rw [hnb] at hx
          generalize slot x 54=v54 at *
          clear hB hF p0 p2 p3 hnb hnc hz0 hz1 hz4
          subst hx
          obtain ⟨i0,hi,hi0,hi1,hi2⟩:=info_parts jm
          simp only [puts,Act.put,we,wg,wi,wj,wk]
          go_wp2_with (at_builtin;go_loud (refine wpList_append_own _ rfl _ _ _ rfl W.heap.size 9 i0 _ 1 16 Tryz.underlying136 hi hi0 hi1 hi2 rfl (by omega) _ loops.length (loops.map .string) rfl HR1.out ⟨nb,0,none⟩ 1 1 [.string s] rfl (by simp) ?ca ?cb ?cc ?cd HZy.out ?_))
          case ca=>
           intro j u hj
           cases j with
           | zero=>
            simp only [List.getElem?_cons_zero,Option.some.injEq] at hj
            subst hj
            exact HNc.out
           | succ j=>simp at hj
          case cb=>
           intro u hu
           simp only [wy] at hu
           subst hu
           rfl
          case cc=>simp only [maxLen];omega
          case cd=>omega
          intro v1 w4 ho1 hg1 _
          have HR4:=k8 (show w4.ownsRow W.heap.size 9 1 v1 (loops++[s]).length ((loops++[s]).map .string) from by simpa using ho1)
          have hB4':Below W.heap.size W w4:=j6 HBy2.out HR1.out (wo _) HBy2.out.size hg1
          have HB4:=k8 hB4'
          have hz0:=jb hB4' HX0.out
          have hz4:=jb hB4' HX4.out
          have hzl:=k9 w4 _ hz0
          have hLw:=bsl_of_own HR4.out rfl (by omega)
          have HC1:=k8 (ih xt (.slice x1 xt.length d1) w4 (loops++[s]) v1 (by omega) (by omega) (by omega) (HBW0.out.trans (hB4'.mono HBW0.out.size)) (HV.out.below hB4') HXt.out hLw HOk3.out)
          clear ho1 hg1 hB4'
          go_wp2_with fail
          refine (HC1.out).mono ?_
          rintro e w5 ⟨hB5,he⟩
          have HB5:=k8 (HB4.out.trans (hB5.mono HB4.out.size))
          have hy5:=jb HB5.out HX5.out
          have hyl:=k9 w5 _ hy5
          cases hb1:zw p i f (loops++[s]) xt with
          | false=>
           rw [hb1] at he HT
           obtain rfl:e=.panicked [yu 8]:=he
           clear hB5 hy5 hyl hb1
           go_wp2
           exact ⟨rfl,HBW.out.trans (HB5.out.mono HBW.out.size),by rw [HBd.out,HAF.out (by rw [HT.out];simp)];rfl⟩
          | true=>
           rw [hb1] at he HT
           obtain rfl:e=.returned (.tuple #[]):=he
           have HC2:=k8 (ih xe (.slice x2 xe.length d2) w5 (loops++[s]) v1 (by omega) (by omega) (by omega) (HBW0.out.trans (HB5.out.mono HBW0.out.size)) (HV.out.below HB5.out) HXe.out (BSl.below hLw hB5) HOk4.out)
           clear hB5 hb1
           go_wp2_with fail
           refine HC2.out.mono ?_
           rintro e w6 ⟨hB6,he⟩
           have HB6:=k8 (HB5.out.trans (hB6.mono HB5.out.size))
           clear hB6 hy5 hyl
           cases hb2:zw p i f (loops++[s]) xe with
           | false=>
            rw [hb2] at he HT
            obtain rfl:e=.panicked [yu 8]:=he
            clear hb2
            go_wp2
            exact ⟨rfl,HBW.out.trans (HB6.out.mono HBW.out.size),by rw [HBd.out,HAF.out (by rw [HT.out];simp)];rfl⟩
           | true=>
            rw [hb2] at he HT
            obtain rfl:e=.returned (.tuple #[]):=he
            clear hb2
            go_wp2
            go_roundw
            case rel=>exact ⟨k+1,hlt,by go_num,HBW.out.trans (HB6.out.mono HBW.out.size),by rw [HAT.out,HT.out];rfl⟩
            case measure=>simp [intOf];omega
    by_cases hk0:xk=0
    ·subst hk0
     have HA:=k8 (array_any HV.out s)
     have HCn:=k8 (containsS_any lv loops s _ HLvW.out)
     cases hia:isArr p f s with
     | true=>
      rw [hia] at HA
      have HTf:Hid (typedS p i f loops ⟨0,s,xn,xas,xt,xe⟩=false):=by show _=_;rw [ko,hia];simp
      clear hia
      go_wp2_with fail
      refine HA.out.mono ?_
      rintro e w2 ⟨rfl,rfl⟩
      go_wp2_with fail
      refine (zd 8 _).mono ?_
      rintro e w2 ⟨rfl,rfl⟩
      go_wp2
      exact ⟨rfl,HBW.out,by rw [HBd.out,HAF.out HTf.out];rfl⟩
     | false=>
      cases hco:loops.contains s with
      | true=>
       rw [hia] at HA
       rw [hco] at HCn
       have HTf:Hid (typedS p i f loops ⟨0,s,xn,xas,xt,xe⟩=false):=by show _=_;rw [ko,hco];simp
       clear hia hco
       go_wp2_with fail
       refine HA.out.mono ?_
       rintro e w2 ⟨rfl,rfl⟩
       go_wp2_with fail
       refine HCn.out.mono ?_
       rintro e w2 ⟨rfl,rfl⟩
       go_wp2_with fail
       refine (zd 8 _).mono ?_
       rintro e w2 ⟨rfl,rfl⟩
       go_wp2
       exact ⟨rfl,HBW.out,by rw [HBd.out,HAF.out HTf.out];rfl⟩
      | false=>
       rw [hia] at HA
       rw [hco] at HCn
       have HT:Hid (typedS p i f loops ⟨0,s,xn,xas,xt,xe⟩=(xas.all (zj p i f) && (zw p i f loops xt && zw p i f loops xe))):=by show _=_;rw [ko,hia,hco];simp
       clear hia hco
       go_wp2_with fail
       refine HA.out.mono ?_
       rintro e w2 ⟨rfl,rfl⟩
       go_wp2_with fail
       refine HCn.out.mono ?_
       rintro e w2 ⟨rfl,rfl⟩
       go_wp2_with fail
       refine (zn 8 _).mono ?_
       rintro e w2 ⟨rfl,rfl⟩
       go_wp2_with fail
       clear HA HCn
       clear h0' h1' h2' h3' h4' h5'
       generalize wr.alloc _=W at *
       generalize wr.heap.size=xb at *
       go_loopw [41] (fun iv wr=>∃ m:Nat,m≤xas.length∧iv=.int .i64 m∧Below W.heap.size W wr∧(xas.take m).all (zj p i f)=true) (fun iv _=>xas.length - (intOf iv).toNat)
       case atStart=>exact ⟨0,gj _,rfl,wu _ _,rfl⟩
       case round=>
        obtain ⟨m,hm,rfl,hK2,hall2⟩:=hrel
        by_cases hlt2:m<xas.length
        ·obtain ⟨_,_,he,_,_,hr2⟩:=HXs.out
         simp only [Value.slice.injEq] at he
         obtain ⟨rfl,-,rfl⟩:=he
         obtain ⟨b2,o2,rfl,hro2⟩:=hr2 (by intro h;rw [h] at hlt2;simp at hlt2)
         obtain ⟨ya,yc,j0,j1,j2,j3,hYI,hYs⟩:=yl (hro2 m xas[m] (by simp [hlt2]))
         have hBr:=HBW0.out.trans (hK2.mono HBW0.out.size)
         have j0':=jb hBr j0
         have j1':=jb hBr j1
         have j2':=jb hBr j2
         have j3':=jb hBr j3
         have hbb2:=k9 wr _ j0'
         have hAT2:=x9 (zj p i f) xas m hlt2
         have hAF2:=ym (zj p i f) xas m hlt2
         rw [hall2,Bool.true_and] at hAT2
         have HAT2:=k8 hAT2
         have HAF2:=k8 hAF2
         have hdy:∀ z∈y4 xas[m],zh p i f (.inr z)=true:=fun z hz=>HOk2.out z (by rw [deepEs_at xas m hlt2];simp [hz])
         clear hAT2 hAF2 hr2 hro2 j0 j1 j2 j3
         generalize xas[m]=y at *
         obtain ⟨ek,en,an,exs⟩:=y
         simp only at j0' j1' j2' j3' hYI
         have hBx:=(wu wr.heap.size wr).alloc (wo _) (.cells #[.int .i64 ek,.int .u64 en,.string an,.slice ya exs.length yc] 53)
         have hKx:=hK2.trans (hBx.mono hK2.size)
         have HKx:=k8 hKx
         have HI1:=k8 (typedE_any (Expr.wt ⟨ek,en,an,exs⟩) ⟨ek,en,an,exs⟩ _ _ (wo _) (hBr.trans (hBx.mono hBr.size)) (HV.out.below hKx) hYI hdy)
         clear hKx hBr hall2 hYI hYs hBx hdy hK2
         generalize zj p i f ⟨ek,en,an,exs⟩=bt at *
         go_wp2_with fail
         refine HI1.out.mono ?_
         rintro e w3 ⟨hB3,he⟩
         have HK3:=k8 (HKx.out.trans (hB3.mono HKx.out.size))
         clear hB3 HI1 j0' j1' j2' j3'
         cases bt with
         | true=>
          obtain rfl:e=.returned (.tuple #[]):=he
          go_wp2
          go_roundw
          case rel=>exact ⟨m+1,hlt2,by go_num,HK3.out,HAT2.out⟩
          case measure=>simp [intOf];omega
         | false=>
          obtain rfl:e=.panicked [yu 8]:=he
          go_wp2
          exact ⟨rfl,HBW.out.trans (HK3.out.mono HBW.out.size),by rw [HBd.out,HAF.out (by rw [HT.out,HAF2.out (by trivial)];simp)];rfl⟩
        ·have hmm:m=xas.length:=by omega
         subst hmm
         rw [List.take_length] at hall2
         rw [hall2,Bool.true_and] at HT
         have HK2:=k8 hK2
         have hz0:=jb hK2 HX0.out
         have hz1:=jb hK2 HX1.out
         have hz4:=jb hK2 HX4.out
         have hzl:=k9 wr _ hz0
         have HB4:=HK2
         have HC1:=k8 (ih xt (.slice x1 xt.length d1) wr loops lv (by omega) (by omega) (by omega) (HBW0.out.trans (hK2.mono HBW0.out.size)) (HV.out.below hK2) HXt.out (HLv.out.below (HBW.out.trans (hK2.mono HBW.out.size))) HOk3.out)
         have hln:loops.length+wtSs l≤100000:=hl2
         have hLw:=HLv.out.below (HBW.out.trans (hK2.mono HBW.out.size))
         clear hK2 hall2
         go_wp2_with fail
         refine (HC1.out).mono ?_
         rintro e w5 ⟨hB5,he⟩
         have HB5:=k8 (HB4.out.trans (hB5.mono HB4.out.size))
         have hy5:=jb HB5.out HX5.out
         have hyl:=k9 w5 _ hy5
         cases hb1:zw p i f loops xt with
         | false=>
          rw [hb1] at he HT
          obtain rfl:e=.panicked [yu 8]:=he
          clear hB5 hy5 hyl hb1
          go_wp2
          exact ⟨rfl,HBW.out.trans (HB5.out.mono HBW.out.size),by rw [HBd.out,HAF.out (by rw [HT.out];simp)];rfl⟩
         | true=>
          rw [hb1] at he HT
          obtain rfl:e=.returned (.tuple #[]):=he
          have HC2:=k8 (ih xe (.slice x2 xe.length d2) w5 loops lv (by omega) (by omega) (by omega) (HBW0.out.trans (HB5.out.mono HBW0.out.size)) (HV.out.below HB5.out) HXe.out (BSl.below hLw hB5) HOk4.out)
          clear hB5 hb1
          go_wp2_with fail
          refine HC2.out.mono ?_
          rintro e w6 ⟨hB6,he⟩
          have HB6:=k8 (HB5.out.trans (hB6.mono HB5.out.size))
          clear hB6 hy5 hyl
          cases hb2:zw p i f loops xe with
          | false=>
           rw [hb2] at he HT
           obtain rfl:e=.panicked [yu 8]:=he
           clear hb2
           go_wp2
           exact ⟨rfl,HBW.out.trans (HB6.out.mono HBW.out.size),by rw [HBd.out,HAF.out (by rw [HT.out];simp)];rfl⟩
          | true=>
           rw [hb2] at he HT
           obtain rfl:e=.returned (.tuple #[]):=he
           clear hb2
           go_wp2
           go_roundw
           case rel=>exact ⟨k+1,hlt,by go_num,HBW.out.trans (HB6.out.mono HBW.out.size),by rw [HAT.out,HT.out];rfl⟩
           case measure=>simp [intOf];omega
    ·have tk0:(xk == 0)=false:=by simpa using hk0
     have tk3:(xk == 3)=false:=by simpa using hk3
     have HT:Hid (typedS p i f loops ⟨xk,s,xn,xas,xt,xe⟩=(xas.all (zj p i f) && (zw p i f loops xt && zw p i f loops xe))):=by show _=_;rw [ko,if_neg hk3,if_neg (by omega)];simp
     clear hk0 hk3
     go_wp2_with fail
     clear h0' h1' h2' h3' h4' h5'
     generalize wr.alloc _=W at *
     generalize wr.heap.size=xb at *
     go_loopw [41] (fun iv wr=>∃ m:Nat,m≤xas.length∧iv=.int .i64 m∧Below W.heap.size W wr∧(xas.take m).all (zj p i f)=true) (fun iv _=>xas.length - (intOf iv).toNat)
     case atStart=>exact ⟨0,gj _,rfl,wu _ _,rfl⟩
     case round=>
      obtain ⟨m,hm,rfl,hK2,hall2⟩:=hrel
      by_cases hlt2:m<xas.length
      ·obtain ⟨_,_,he,_,_,hr2⟩:=HXs.out
       simp only [Value.slice.injEq] at he
       obtain ⟨rfl,-,rfl⟩:=he
       obtain ⟨b2,o2,rfl,hro2⟩:=hr2 (by intro h;rw [h] at hlt2;simp at hlt2)
       obtain ⟨ya,yc,j0,j1,j2,j3,hYI,hYs⟩:=yl (hro2 m xas[m] (by simp [hlt2]))
       have hBr:=HBW0.out.trans (hK2.mono HBW0.out.size)
       have j0':=jb hBr j0
       have j1':=jb hBr j1
       have j2':=jb hBr j2
       have j3':=jb hBr j3
       have hbb2:=k9 wr _ j0'
       have hAT2:=x9 (zj p i f) xas m hlt2
       have hAF2:=ym (zj p i f) xas m hlt2
       rw [hall2,Bool.true_and] at hAT2
       have HAT2:=k8 hAT2
       have HAF2:=k8 hAF2
       have hdy:∀ z∈y4 xas[m],zh p i f (.inr z)=true:=fun z hz=>HOk2.out z (by rw [deepEs_at xas m hlt2];simp [hz])
       clear hAT2 hAF2 hr2 hro2 j0 j1 j2 j3
       generalize xas[m]=y at *
       obtain ⟨ek,en,an,exs⟩:=y
       simp only at j0' j1' j2' j3' hYI
       have hBx:=(wu wr.heap.size wr).alloc (wo _) (.cells #[.int .i64 ek,.int .u64 en,.string an,.slice ya exs.length yc] 53)
       have hKx:=hK2.trans (hBx.mono hK2.size)
       have HKx:=k8 hKx
       have HI1:=k8 (typedE_any (Expr.wt ⟨ek,en,an,exs⟩) ⟨ek,en,an,exs⟩ _ _ (wo _) (hBr.trans (hBx.mono hBr.size)) (HV.out.below hKx) hYI hdy)
       clear hKx hBr hall2 hYI hYs hBx hdy hK2
       generalize zj p i f ⟨ek,en,an,exs⟩=bt at *
       go_wp2_with fail
       refine HI1.out.mono ?_
       rintro e w3 ⟨hB3,he⟩
       have HK3:=k8 (HKx.out.trans (hB3.mono HKx.out.size))
       clear hB3 HI1 j0' j1' j2' j3'
       cases bt with
       | true=>
        obtain rfl:e=.returned (.tuple #[]):=he
        go_wp2
        go_roundw
        case rel=>exact ⟨m+1,hlt2,by go_num,HK3.out,HAT2.out⟩
        case measure=>simp [intOf];omega
       | false=>
        obtain rfl:e=.panicked [yu 8]:=he
        go_wp2
        exact ⟨rfl,HBW.out.trans (HK3.out.mono HBW.out.size),by rw [HBd.out,HAF.out (by rw [HT.out,HAF2.out (by trivial)];simp)];rfl⟩
      ·have hmm:m=xas.length:=by omega
       subst hmm
       rw [List.take_length] at hall2
       rw [hall2,Bool.true_and] at HT
       have HK2:=k8 hK2
       have hz0:=jb hK2 HX0.out
       have hz1:=jb hK2 HX1.out
       have hz4:=jb hK2 HX4.out
       have hzl:=k9 wr _ hz0
       have HB4:=HK2
       have HC1:=k8 (ih xt (.slice x1 xt.length d1) wr loops lv (by omega) (by omega) (by omega) (HBW0.out.trans (hK2.mono HBW0.out.size)) (HV.out.below hK2) HXt.out (HLv.out.below (HBW.out.trans (hK2.mono HBW.out.size))) HOk3.out)
       have hln:loops.length+wtSs l≤100000:=hl2
       have hLw:=HLv.out.below (HBW.out.trans (hK2.mono HBW.out.size))
       clear hK2 hall2
       go_wp2_with fail
       refine (HC1.out).mono ?_
       rintro e w5 ⟨hB5,he⟩
       have HB5:=k8 (HB4.out.trans (hB5.mono HB4.out.size))
       have hy5:=jb HB5.out HX5.out
       have hyl:=k9 w5 _ hy5
       cases hb1:zw p i f loops xt with
       | false=>
        rw [hb1] at he HT
        obtain rfl:e=.panicked [yu 8]:=he
        clear hB5 hy5 hyl hb1
        go_wp2
        exact ⟨rfl,HBW.out.trans (HB5.out.mono HBW.out.size),by rw [HBd.out,HAF.out (by rw [HT.out];simp)];rfl⟩
       | true=>
        rw [hb1] at he HT
        obtain rfl:e=.returned (.tuple #[]):=he
        have HC2:=k8 (ih xe (.slice x2 xe.length d2) w5 loops lv (by omega) (by omega) (by omega) (HBW0.out.trans (HB5.out.mono HBW0.out.size)) (HV.out.below HB5.out) HXe.out (BSl.below hLw hB5) HOk4.out)
        clear hB5 hb1
        go_wp2_with fail
        refine HC2.out.mono ?_
        rintro e w6 ⟨hB6,he⟩
        have HB6:=k8 (HB5.out.trans (hB6.mono HB5.out.size))
        clear hB6 hy5 hyl
        cases hb2:zw p i f loops xe with
        | false=>
         rw [hb2] at he HT
         obtain rfl:e=.panicked [yu 8]:=he
         clear hb2
         go_wp2
         exact ⟨rfl,HBW.out.trans (HB6.out.mono HBW.out.size),by rw [HBd.out,HAF.out (by rw [HT.out];simp)];rfl⟩
        | true=>
         rw [hb2] at he HT
         obtain rfl:e=.returned (.tuple #[]):=he
         clear hb2
         go_wp2
         go_roundw
         case rel=>exact ⟨k+1,hlt,by go_num,HBW.out.trans (HB6.out.mono HBW.out.size),by rw [HAT.out,HT.out];rfl⟩
         case measure=>simp [intOf];omega
   ·have hkk:k=l.length:=by omega
    subst hkk
    rw [List.take_length] at hall
    have HK:=k8 hK
    have HA:=k8 hall
    clear hall hK
    go_wp2
    go_end0
    exact ⟨HK.out,by rw [HBd.out,HA.out];rfl⟩
end
section
open Go.RowKit
def CInv (cb:Nat) (n:Int) (w:World):Prop:=w.cell? ⟨cb,0,none⟩=some (.int .i64 n)∧w.frozen? ⟨cb,0,none⟩=false
theorem CInv.below {cb:Nat} {n:Int} {w w':World} (h:CInv cb n w) (hb:Below w.heap.size w w'):CInv cb n w':=⟨jb hb h.1,(hb.frozen (k9 w _ h.1)).trans h.2⟩
def retEv (n:Int):Stmt ⊕ Expr→Option Int
 | .inl x=>some (if x.kind=4 then wrap64 (n+1) else n)
 | .inr _=>some n
theorem returns1_any (cb:Nat) (n:Int) (x:Stmt) (v:Value) (w w0:World) (h:CInv cb n w) (hx:yn w0 x v):Calls Tryz.prog 111 #[v,.pointer (some ⟨cb,0,none⟩)] w (EvRet [cb] 8 (CInv cb) (retEv n (.inl x)) w):=by
 obtain ⟨k,s,m,xs,t,e⟩:=x
 obtain ⟨a0,c0,a1,c1,a2,c2,rfl,-⟩:=stmtOpen2 hx
 simp only
 have hcb:=k9 w _ h.1
 have hBl:=(wu w.heap.size w).alloc (wo _) (.cells #[.int .i64 k,.string s,.int .i64 m,.slice a0 xs.length c0,.slice a1 t.length c1,.slice a2 e.length c2] 58)
 have HI:=k8 (h.below hBl)
 have HK:=k8 (jd (M:=[cb]) hBl)
 obtain ⟨hc,hz⟩:=h
 have hc1:=HI.out.1
 have hz1:=HI.out.2
 clear hx hBl
 by_cases hk:k=4
 ·subst hk
  have hr:retEv n (.inl ⟨4,s,m,xs,t,e⟩)=some (wrap64 (n+1)):=by simp [retEv]
  rw [hr]
  clear hr
  go_enter Tryz.func111,Tryz.ntmps111
  go_wp2
  go_end0
  have hB2:=(wu (w.setCell ⟨cb,0,none⟩ (.int .i64 (wrap64 (n+1)))).heap.size (w.setCell ⟨cb,0,none⟩ (.int .i64 (wrap64 (n+1))))).alloc (wo _) (.cells #[.int .i64 4,.string s,.int .i64 m,.slice a0 xs.length c0,.slice a1 t.length c1,.slice a2 e.length c2] 58)
  have hI2:CInv cb (wrap64 (n+1)) (w.setCell ⟨cb,0,none⟩ (.int .i64 (wrap64 (n+1)))):=⟨World.cell?_setCell_same _ _ _ (u:=.int .i64 n) hc,by rw [World.frozen?_setCell];exact hz⟩
  exact ⟨((Kept.refl [cb] w).setCell (p:=⟨cb,0,none⟩) (.inl (by simp)) _).alloc _,rfl,hI2.below hB2⟩
 ·have tk:(k == 4)=false:=by simpa using hk
  have hr:retEv n (.inl ⟨k,s,m,xs,t,e⟩)=some n:=by simp [retEv,hk]
  rw [hr]
  clear hr hk
  go_enter Tryz.func111,Tryz.ntmps111
  go_wp2
  go_end0
  exact ⟨HK.out,rfl,HI.out⟩
theorem returns2_any (cb:Nat) (n:Int) (x:Expr) (v:Value) (w w0:World) (h:CInv cb n w) (hx:zl w0 x v):Calls Tryz.prog 112 #[v] w (EvRet [cb] 8 (CInv cb) (retEv n (.inr x)) w):=by
 obtain ⟨k,m,s,xs⟩:=x
 obtain ⟨a,c,rfl,-⟩:=qu hx
 simp only
 have hBl:=(wu w.heap.size w).alloc (wo _) (.cells #[.int .i64 k,.int .u64 m,.string s,.slice a xs.length c] 53)
 have HI:=k8 (h.below hBl)
 have HK:=k8 (jd (M:=[cb]) hBl)
 clear h hx hBl
 go_enter Tryz.func112,Tryz.ntmps112
 go_wp2
 go_end0
 exact ⟨HK.out,rfl,HI.out⟩
theorem returns3_any (x:z8) (v:Value) (w w1:World) (hx:ParamIs w1 x v):Calls Tryz.prog 114 #[v] w (Ret w (.bool (x.kind == 1))):=by
 obtain ⟨s,k,n⟩:=x
 obtain ⟨rfl,-,-,-⟩:=hx
 go_enter Tryz.func114,Tryz.ntmps114
 go_wp2
 go_ret
 exact ⟨rfl,(wu _ _).alloc (wo _) _⟩
theorem idxd_any {α:Type} (p:α→Bool) (l:List α):decide (0≤idxOf p l)=l.any p:=by
 unfold idxOf
 cases hf:l.findIdx? p with
 | none=>
  rw [List.findIdx?_eq_none_iff] at hf
  have:l.any p=false:=by rw [List.any_eq_false];intro x hx;simp [hf x hx]
  rw [this];rfl
 | some j=>
  obtain ⟨h1,h2,_⟩:=List.findIdx?_eq_some_iff_getElem.1 hf
  have:l.any p=true:=List.any_eq_true.2 ⟨l[j],List.getElem_mem _,h2⟩
  rw [this];simp
theorem secWord_any {w0:World} {v:Value} {l:List z8} (hsl:Sl 3 (yr w0) v l) (w:World) (hB0:Below w0.heap.size w0 w) :
  Calls Tryz.prog 113 #[v,.func (.func 114) #[] #[]] w (Ret w (.bool (l.any fun x=>x.kind == 1))):=by
 have hz:=hB0.size
 have HI:=k8 (index_param (fun w b o x=>yr w b o x) ParamIs paramOpen (fun w'=>Below w.heap.size w w') v l 114 #[] #[] (fun x=>x.kind == 1) w (fun _ _=>by kernel_rfl) (wu _ _)
  (fun w' hw'=>hsl.imp (fun b o x _ hx=>yr.below (hB0.trans (hw'.mono hz)) x b o hx))
  (fun w' j x val hw' hx hV=>(returns3_any x val w' w' hV).mono (by
   rintro e w2 ⟨rfl,hB⟩
   exact ⟨rfl,hw'.trans (hB.mono hw'.size)⟩)))
 have hd:=idxd_any (fun x:z8=>x.kind == 1) l
 generalize idxOf (fun x:z8=>x.kind == 1) l=j at *
 generalize (l.any fun x=>x.kind == 1)=b at *
 clear hsl hB0
 go_enter Tryz.func113,Tryz.ntmps113
 go_wp2_with fail
 refine HI.out.mono ?_
 rintro e w2 ⟨rfl,hB⟩
 have HB:=k8 hB
 clear hB
 go_wp2
 go_ret
 exact ⟨rfl,HB.out⟩
end
section
open Go.RowKit
theorem evSs_len:∀ (l:List Stmt),(evSs l).length≤wtSs l:=by
 have hE:∀ (N:Nat) (l:List Expr),wtEs l≤N→(z7 l).length≤wtEs l:=by
  intro N
  induction N with
  | zero=>
   intro l h
   cases l with
   | nil=>simp [z7]
   | cons x l=>obtain ⟨k,n,s,xs⟩:=x;simp only [wtEs,Expr.wt] at h;omega
  | succ N ih=>
   intro l
   induction l with
   | nil=>intro _;simp [z7]
   | cons x l ihl=>
    intro h
    obtain ⟨k,n,s,xs⟩:=x
    simp only [wtEs,Expr.wt] at h ⊢
    have h1:=ih xs (by omega)
    have h2:=ihl (by omega)
    simp only [z7,y4,List.length_append,List.length_cons]
    omega
 have hS:∀ (N:Nat) (l:List Stmt),wtSs l≤N→(evSs l).length≤wtSs l:=by
  intro N
  induction N with
  | zero=>
   intro l h
   cases l with
   | nil=>simp [evSs]
   | cons x l=>obtain ⟨k,s,n,xs,t,e⟩:=x;simp only [wtSs,Stmt.wt] at h;omega
  | succ N ih=>
   intro l
   induction l with
   | nil=>intro _;simp [evSs]
   | cons x l ihl=>
    intro h
    obtain ⟨k,s,n,xs,t,e⟩:=x
    simp only [wtSs,Stmt.wt] at h ⊢
    have h1:=hE _ xs (wo _)
    have h2:=ih t (by omega)
    have h3:=ih e (by omega)
    have h4:=ihl (by omega)
    simp only [evSs,evS,List.length_append,List.length_cons,List.length_map]
    omega
 exact fun l=>hS _ l (wo _)
theorem foldO_ret:∀ (l:List (Stmt ⊕ Expr)) (n:Int),0≤n→n+l.length≤1000000000→yd retEv n l=some (n+xp l)
 | [],n,_,_=>by simp [yd,xp]
 | .inr x::l,n,h0,h1=>by
  simp only [List.length_cons] at h1
  have ih:=foldO_ret l n h0 (by omega)
  simp only [yd,retEv,Option.bind_some,ih]
  simp [xp]
 | .inl x::l,n,h0,h1=>by
  simp only [List.length_cons] at h1
  by_cases hk:x.kind=4
  ·have hw:wrap64 (n+1)=n+1:=by unfold wrap64;omega
   have ih:=foldO_ret l (n+1) (by omega) (by omega)
   simp only [yd,retEv,if_pos hk,Option.bind_some,hw,ih]
   have:xp (.inl x::l)=xp l+1:=by simp [xp,List.countP_cons,hk]
   rw [this]
   congr 1
   omega
  ·have ih:=foldO_ret l n h0 (by omega)
   simp only [yd,retEv,if_neg hk,Option.bind_some,ih]
   have:xp (.inl x::l)=xp l:=by simp [xp,List.countP_cons,hk]
   rw [this]
theorem returns_any {w0:World} {p:Src} {i:Nat} {f:Fun} {vb ab pb sb tb:Nat} {w:World} (hB0:Below w0.heap.size w0 w) (hv:qj w0 p i f w vb ab pb sb tb) (hW:wtSs f.body≤100000) :
  Calls Tryz.prog 69 #[.pointer (some ⟨vb,0,none⟩)] w (TyRet w (yi f)):=by
 obtain ⟨a0,c0,a1,c1,a2,c2,a3,c3,-,-,-,-,g4,g5,g6,-,-,-,-,-,hF⟩:=hv.open
 obtain ⟨_,_,_,_,he,_,hsp,hsb⟩:=hF
 simp only [Value.agg.injEq,List.toArray_inj,Array.mk.injEq,List.cons.injEq,Value.slice.injEq,true_and,and_true] at he
 obtain ⟨⟨rfl,rfl⟩,⟨rfl,rfl⟩⟩:=he
 have hbl:=k9 w _ g6
 have hBl:=(wu w.heap.size w).alloc (wo _) (.cells #[.int .i64 0] 3)
 have hL:Looks w0 [w.heap.size] 8 (CInv w.heap.size) retEv (fun _=>True) 111 112 #[.pointer (some ⟨w.heap.size,0,none⟩)] #[]:=
  {lo:=fun b hb=>by simp only [wy] at hb;subst hb;exact hB0.size
   inv:=fun s w w' h hb=>h.below hb
   e1:=fun _ _=>by kernel_rfl
   e2:=fun _ _=>by kernel_rfl
   stmt:=fun s x v w1 hI hb _ hx=>returns1_any _ s x v w1 w0 hI hx
   expr:=fun s x v w1 hI hb _ hx=>returns2_any _ s x v w1 w0 hI hx }
 have HE:=k8 (each_any hL (wtSs f.body) f.body _ _ 0 (wo _) hsb (hB0.trans (hBl.mono hB0.size)) (fun b hb=>by simp only [wy] at hb;subst hb;simp) ⟨by simp,by simp [go_sem]⟩ (fun _ _=>trivial))
 have hFo:=foldO_ret (evSs f.body) 0 (by omega) (by have:=evSs_len f.body;omega)
 have HF:=k8 hFo
 have HB:=k8 hBl
 have hmf:∀ (fn:Fn) (first cap:Array Value) (w:World),(Instr.makeFunc fn first cap).run Tryz.prog w=.ok (.func fn first cap) w:=fun _ _ _ _=>rfl
 have HSp:=k8 hsp
 have HSb:=k8 hsb
 have HB0:=k8 hB0
 have G4:=k8 g4
 have G5:=k8 g5
 have G6:=k8 g6
 have hret:yi f=(decide (xp (evSs f.body)=1) && (match f.body.getLast? with|some x=>x.kind == 4|none=>false) && (!f.out || !f.params.any fun x=>x.kind == 1)):=rfl
 have HRet:=k8 hret
 clear hL hBl hB0 hFo hsp hsb hv hret
 go_enter Tryz.func69,Tryz.ntmps69
 go_wp2_with fail
 refine HE.out.mono ?_
 rintro e w1 ⟨hK,he⟩
 rw [HF.out] at he
 obtain ⟨rfl,hc⟩:=he
 have hvm:vb ∉ [w.heap.size]:=by simp;omega
 have hBW1:Below w.heap.size w w1:=HB.out.trans ((hK.below (B:=w.heap.size) (by simp) (fun b hb=>by simp only [wy] at hb;omega)))
 have HB1:=k8 hBW1
 have HB01:=k8 (HB0.out.trans (hBW1.mono HB0.out.size))
 have k4:=jb hBW1 g4
 have k5:=jb hBW1 g5
 have k6:=jb hBW1 g6
 have hcc:=hc.1
 have hvl:=k9 w1 _ k6
 have hcl:=k9 w1 _ hcc
 rw [Int.zero_add] at hcc
 clear hK HE HF hc hBW1 g4 g5 g6 hmf
 have hnil:f.body=[]→xp (evSs f.body)=0:=fun h=>by rw [h];rfl
 have HNil:=k8 hnil
 clear hnil
 generalize xp (evSs f.body)=cnt at *
 by_cases h1:cnt=1
 case neg=>
  have t1:((cnt:Int) == 1)=false:=by simp;omega
  have HR:Hid (yi f=false):=by show _=_;rw [HRet.out];simp [h1]
  clear h1
  go_wp2_with fail
  refine (zd 8 _).mono ?_
  rintro e' w2 ⟨rfl,rfl⟩
  go_wp2
  exact ⟨rfl,HB1.out,by rw [HR.out];rfl⟩
 subst h1
 have hne:f.body≠[]:=fun h=>by have:=HNil.out h;omega
 obtain ⟨L,hL⟩:∃ L,f.body.length=L+1:=by
  cases hb:f.body with
  | nil=>exact absurd hb hne
  | cons x l=>exact ⟨l.length,rfl⟩
 obtain ⟨_,_,he,hlc,hlm,hr⟩:=HSb.out
 simp only [Value.slice.injEq] at he
 obtain ⟨rfl,-,rfl⟩:=he
 obtain ⟨b,o,rfl,hro⟩:=hr hne
 have hlt:L<f.body.length:=by omega
 obtain ⟨x0,d0,x1,d1,x2,d2,h0,-,-,-,-,-,-,-,-,-⟩:=stmtIs_at (hro L f.body[L] (by simp [hlt]))
 have h0':=jb HB01.out h0
 have hlast:f.body.getLast?=some f.body[L]:=by
  rw [List.getLast?_eq_getElem?,hL];simp [hlt]
 have hbb:=k9 w1 _ h0'
 have HRet2:Hid (yi f=((f.body[L].kind == 4) && (!f.out || !f.params.any fun x=>x.kind == 1))):=by show _=_;rw [HRet.out,hlast];simp
 have HSW:=k8 (secWord_any HSp.out w1 HB01.out)
 clear hlast h0 hro hr HRet HNil HSb hne
 generalize f.body[L].kind=lk at *
 rw [hL] at k6
 clear hlt
 generalize (f.params.any fun x=>x.kind == 1)=sw at *
 by_cases hk4:lk=4
 case neg=>
  have t4:(lk == 4)=false:=by simpa using hk4
  have HR:Hid (yi f=false):=by show _=_;rw [HRet2.out,t4];rfl
  clear hk4
  go_wp2_with fail
  refine (zd 8 _).mono ?_
  rintro e' w2 ⟨rfl,rfl⟩
  go_wp2
  exact ⟨rfl,HB1.out,by rw [HR.out];rfl⟩
 subst hk4
 have HR:Hid (yi f=(!f.out || !sw)):=by show _=_;rw [HRet2.out];rfl
 clear HRet2
 go_wp2_with fail
 refine (zn 8 _).mono ?_
 rintro e' w2 ⟨rfl,rfl⟩
 clear h0'
 cases hout:f.out with
 | false=>
  rw [hout] at k4 HR
  clear hout
  go_wp2_with fail
  refine (zn 8 _).mono ?_
  rintro e' w2 ⟨rfl,rfl⟩
  go_wp2
  go_end0
  exact ⟨HB1.out,by rw [HR.out];rfl⟩
 | true=>
  rw [hout] at k4 HR
  clear hout
  go_wp2_with fail
  refine HSW.out.mono ?_
  rintro e' w2 ⟨rfl,hB2⟩
  have HB2:=k8 (HB1.out.trans (hB2.mono HB1.out.size))
  clear hB2
  cases sw with
  | true=>
   go_wp2_with fail
   refine (zd 8 _).mono ?_
   rintro e' w2 ⟨rfl,rfl⟩
   go_wp2
   exact ⟨rfl,HB2.out,by rw [HR.out];rfl⟩
  | false=>
   go_wp2_with fail
   refine (zn 8 _).mono ?_
   rintro e' w2 ⟨rfl,rfl⟩
   go_wp2
   go_end0
   exact ⟨HB2.out,by rw [HR.out];rfl⟩
end
section
open Go.RowKit
def arityE (x:Expr):Prop:=0≤x.kind∧x.kind≤6∧(jk x.kind).least≤x.args.length∧(x.args.length:Int)≤(jk x.kind).most∧(x.kind=3→(xz x.num).isSome=true)
def arityS (x:Stmt):Prop:=0≤x.kind∧x.kind≤4∧(js x.kind).least≤x.args.length∧(x.args.length:Int)≤(js x.kind).most∧(x.kind=3→1≤x.num∧x.num≤64)∧(x.kind≠2→x.els=[])∧(x.kind≠2→x.kind≠3→x.thn=[])
theorem fits_some {s:Shape} {name:Txt} {num:Bool} {n:Int} {ws:List Txt} (h:fits s name num n=some ws):s.least≤n∧n≤s.most:=by
 unfold fits at h
 split at h
 ·rename_i hf
  simp only [fitOk,Bool.and_eq_true,decide_eq_true_eq] at hf
  exact ⟨hf.1.1.1,hf.1.1.2⟩
 ·cases h
theorem exprText_ok {x:Expr} {t:Txt} (h:zp x=some t):arityE x∧∃ ts,ju x.args=some ts:=by
 obtain ⟨k,n,s,xs⟩:=x
 rw [zp] at h
 split at h
 ·rename_i hk
  obtain ⟨ws,hw,h⟩:=Option.bind_eq_some_iff.1 h
  have hf:=fits_some hw
  split at h
  ·rename_i h0
   subst h0
   have hm:(jk 0).most=0:=rfl
   rw [hm] at hf
   have:xs=[]:=List.length_eq_zero_iff.1 (by omega)
   subst this
   exact ⟨⟨by simp,by simp,hf.1,by rw [hm];simp,fun h=>by cases h⟩,[],rfl⟩
  ·split at h
   ·rename_i h0 h1
    subst h1
    have hm:(jk 1).most=0:=rfl
    rw [hm] at hf
    have:xs=[]:=List.length_eq_zero_iff.1 (by omega)
    subst this
    exact ⟨⟨by simp,by simp,hf.1,by rw [hm];simp,fun h=>by cases h⟩,[],rfl⟩
   ·obtain ⟨w2,hw2,h⟩:=Option.bind_eq_some_iff.1 h
    obtain ⟨ts,hts,h⟩:=Option.bind_eq_some_iff.1 h
    refine ⟨⟨hk.1,hk.2,hf.1,hf.2,fun h3=>?_⟩,ts,hts⟩
    simp only at h3
    rw [if_pos h3] at hw2
    cases ho:xz n with
    | none=>rw [ho] at hw2;cases hw2
    | some o=>rfl
 ·cases h
theorem kf {α:Type} {f:α→Option Txt}:∀ {l:List α} {ts:List Txt},jx f l=some ts→∀ x∈l,∃ t,f x=some t
 | [],_,_,x,hx=>by cases hx
 | y::l,ts,h,x,hx=>by
  rw [jx] at h
  obtain ⟨t,ht,h⟩:=Option.bind_eq_some_iff.1 h
  obtain ⟨us,hus,h⟩:=Option.bind_eq_some_iff.1 h
  rcases gh.1 hx with rfl|hx
  ·exact ⟨t,ht⟩
  ·exact kf hus x hx
theorem mem_wt:∀ {l:List Expr} {x:Expr},x∈l→x.wt≤wtEs l
 | [],_,h=>by cases h
 | y::l,x,h=>by
  rw [wtEs]
  rcases gh.1 h with rfl|h
  ·omega
  ·have:=mem_wt h;omega
theorem mem_wtS:∀ {l:List Stmt} {x:Stmt},x∈l→x.wt≤wtSs l
 | [],_,h=>by cases h
 | y::l,x,h=>by
  rw [wtSs]
  rcases gh.1 h with rfl|h
  ·omega
  ·have:=mem_wtS h;omega
theorem jq:∀ {l:List Expr} {y:Expr},y∈z7 l ↔ ∃ x∈l,y∈y4 x
 | [],y=>by simp [z7]
 | z::l,y=>by
  rw [z7,gi,jq]
  simp
theorem yx:∀ {l:List Stmt} {ev:Stmt ⊕ Expr},ev∈evSs l ↔ ∃ x∈l,ev∈evS x
 | [],y=>by simp [evSs]
 | z::l,y=>by
  rw [evSs,gi,yx]
  simp
theorem deepE_arity:∀ (N:Nat) (x:Expr) (t:Txt),x.wt≤N→zp x=some t→∀ y∈y4 x,arityE y:=by
 intro N
 induction N with
 | zero=>intro x t h;obtain ⟨k,n,s,xs⟩:=x;rw [Expr.wt] at h;omega
 | succ N ih=>
  intro x t h hx y hy
  obtain ⟨h1,ts,h2⟩:=exprText_ok hx
  rw [qq] at hy
  rcases gh.1 hy with rfl|hy
  ·exact h1
  ·obtain ⟨z,hz,hy⟩:=jq.1 hy
   rw [exprTexts_all] at h2
   obtain ⟨t',ht'⟩:=kf h2 z hz
   refine ih z t' ?_ ht' y hy
   have:=mem_wt hz
   obtain ⟨k,n,s,xs⟩:=x
   rw [Expr.wt] at h
   simp only at this
   omega
theorem stmtText_ok {x:Stmt} {t:Txt} (h:zk x=some t):arityS x∧(∃ ts,ju x.args=some ts)∧(∃ ts,jy x.thn=some ts)∧∃ ts,jy x.els=some ts:=by
 obtain ⟨k,s,n,xs,th,el⟩:=x
 rw [zk] at h
 split at h
 ·rename_i hk
  obtain ⟨ws,hw,h⟩:=Option.bind_eq_some_iff.1 h
  have hf:=fits_some hw
  split at h
  ·rename_i hte
   obtain ⟨w2,hw2,h⟩:=Option.bind_eq_some_iff.1 h
   obtain ⟨ts,hts,h⟩:=Option.bind_eq_some_iff.1 h
   obtain ⟨us,hus,h⟩:=Option.bind_eq_some_iff.1 h
   have hk5:k=0∨k=1∨k=2∨k=3∨k=4:=by omega
   have hel:k≠2→el=[]:=by
    intro h2
    rcases hte.2 with h3|h3
    ·rcases hk5 with rfl|rfl|rfl|rfl|rfl
     ·cases h3
     ·cases h3
     ·exact absurd rfl h2
     ·cases h3
     ·cases h3
    ·exact h3
   have hth:k≠2→k≠3→th=[]:=by
    intro h2 h3'
    rcases hte.1 with h3|h3
    ·rcases hk5 with rfl|rfl|rfl|rfl|rfl
     ·cases h3
     ·cases h3
     ·exact absurd rfl h2
     ·exact absurd rfl h3'
     ·cases h3
    ·exact h3
   refine ⟨⟨hk.1,hk.2,hf.1,hf.2,?_,hel,hth⟩,⟨ts,hts⟩,⟨us,hus⟩,?_⟩
   ·intro h3
    simp only at h3
    subst h3
    rw [if_pos (show (js 3).num=true from rfl)] at hw2
    cases hn:zb n with
    | none=>rw [hn] at hw2;cases hw2
    | some d=>
     unfold zb at hn
     split at hn
     ·assumption
     ·cases hn
   ·by_cases h2:k=2
    ·subst h2
     rw [if_pos (show (js 2).other=true from rfl)] at h
     obtain ⟨vs,hvs,_⟩:=Option.bind_eq_some_iff.1 h
     exact ⟨vs,hvs⟩
    ·exact ⟨[],by rw [hel h2];rfl⟩
  ·cases h
 ·cases h
def arityEv:Stmt ⊕ Expr→Prop
 | .inl x=>arityS x
 | .inr x=>arityE x
theorem evSs_arity:∀ (N:Nat) (l:List Stmt) (ts:List Txt),wtSs l≤N→jy l=some ts→∀ ev∈evSs l,arityEv ev:=by
 intro N
 induction N with
 | zero=>
  intro l ts h _ ev hev
  cases l with
  | nil=>cases hev
  | cons x l=>obtain ⟨k,s,n,xs,t,e⟩:=x;simp only [wtSs,Stmt.wt] at h;omega
 | succ N ih=>
  intro l ts h hl ev hev
  obtain ⟨x,hx,hev⟩:=yx.1 hev
  rw [xj] at hl
  obtain ⟨t,ht⟩:=kf hl x hx
  obtain ⟨h1,⟨t1,h2⟩,⟨t2,h3⟩,t3,h4⟩:=stmtText_ok ht
  have hw:=mem_wtS hx
  obtain ⟨k,s,n,xs,th,el⟩:=x
  rw [Stmt.wt] at hw
  rw [yz] at hev
  simp only [gh,gi,List.mem_map] at hev
  rcases hev with rfl|(⟨y,hy,rfl⟩|hev)|hev
  ·exact h1
  ·obtain ⟨z,hz,hy⟩:=jq.1 hy
   rw [exprTexts_all] at h2
   obtain ⟨t',ht'⟩:=kf h2 z hz
   exact deepE_arity _ z t' (wo _) ht' y hy
  ·exact ih th t2 (by omega) h3 ev hev
  ·exact ih el t3 (by omega) h4 ev hev
def kw (p:Src) (i:Nat) (x:Expr):Prop:=x.kind=5→∃ j g,yf p i x.name=some j∧p.funcs[j]?=some g∧x.args.length=g.params.length
theorem typedArgs_mem {p:Src} {i:Nat} {f:Fun}:∀ {es:List Expr} {qs:List z8},es.length=qs.length→vr p i f es qs=true→∀ e∈es,e.kind=1∨zj p i f e=true
 | [],_,_,_,e,he=>by cases he
 | _::_,[],h,_,_,_=>by simp at h
 | x::es,q::qs,h,ht,e,he=>by
  rw [vr,Bool.and_eq_true] at ht
  rcases gh.1 he with rfl|he
  ·have:=ht.1
   split at this
   ·rw [Bool.and_eq_true] at this;exact .inl (by simpa using this.1)
   ·exact .inr this
  ·exact typedArgs_mem (by simpa using h) ht.2 e he
theorem typedE_fine {p:Src} {i:Nat} {f:Fun}:∀ (N:Nat) (e:Expr),e.wt≤N→(∀ x∈y4 e,arityE x)→zj p i f e=true→∀ x∈y4 e,kw p i x:=by
 intro N
 induction N with
 | zero=>intro e h;obtain ⟨k,n,s,xs⟩:=e;rw [Expr.wt] at h;omega
 | succ N ih=>
  intro e h ha ht x hx
  obtain ⟨k,n,s,xs⟩:=e
  rw [Expr.wt] at h
  rw [qq] at hx ha
  simp only at hx ha
  have hkid:∀ z∈xs,(z.kind=1∨zj p i f z=true)→∀ y∈y4 z,kw p i y:=by
   intro z hz hor y hy
   rcases hor with h1|h1
   ·have haz:=ha z (List.mem_cons_of_mem _ (jq.2 ⟨z,hz,by rw [qq];simp⟩))
    have hm:(jk z.kind).most=0:=by rw [h1];rfl
    have hz0:z.args=[]:=List.length_eq_zero_iff.1 (by have:=haz.2.2.2.1;rw [hm] at this;omega)
    rw [qq,hz0] at hy
    simp only [z7,gh,List.not_mem_nil,or_false] at hy
    subst hy
    intro h5
    omega
   ·exact ih z (by have:=mem_wt hz;omega) (fun w hw=>ha w (List.mem_cons_of_mem _ (jq.2 ⟨z,hz,hw⟩))) h1 y hy
  by_cases h5:k=5
  ·subst h5
   rw [zj,if_pos rfl] at ht
   cases hc:yf p i s with
   | none=>rw [hc] at ht;cases ht
   | some j=>
    rw [hc] at ht
    simp only at ht
    cases hg:p.funcs[j]? with
    | none=>rw [hg] at ht;cases ht
    | some g=>
     rw [hg] at ht
     simp only [Bool.and_eq_true,decide_eq_true_eq] at ht
     rcases gh.1 hx with rfl|hx
     ·exact fun _=>⟨j,g,hc,hg,ht.1⟩
     ·obtain ⟨z,hz,hy⟩:=jq.1 hx
      exact hkid z hz (typedArgs_mem ht.1 ht.2 z hz) x hy
  ·rw [zj,if_neg h5,Bool.and_eq_true] at ht
   rcases gh.1 hx with rfl|hx
   ·exact fun h=>absurd h h5
   ·obtain ⟨z,hz,hy⟩:=jq.1 hx
    have:=ht.2
    rw [typedEs_all,List.all_eq_true] at this
    exact hkid z hz (.inr (this z hz)) x hy
theorem typedSs_fine {p:Src} {i:Nat} {f:Fun}:∀ (N:Nat) (l:List Stmt) (loops:List ByteArray),wtSs l≤N→(∀ ev∈evSs l,arityEv ev)→zw p i f loops l=true→∀ x,Sum.inr x∈evSs l→kw p i x:=by
 intro N
 induction N with
 | zero=>
  intro l loops h _ _ x hx
  cases l with
  | nil=>cases hx
  | cons x l=>obtain ⟨k,s,n,xs,t,e⟩:=x;simp only [wtSs,Stmt.wt] at h;omega
 | succ N ih=>
  intro l loops h ha ht x hx
  obtain ⟨z,hz,hx⟩:=yx.1 hx
  have haz:∀ ev∈evS z,arityEv ev:=fun ev hev=>ha ev (yx.2 ⟨z,hz,hev⟩)
  rw [typedSs_all,List.all_eq_true] at ht
  have htz:=ht z hz
  have hw:=mem_wtS hz
  obtain ⟨k,s,n,xs,th,el⟩:=z
  rw [Stmt.wt] at hw
  rw [ko] at htz
  simp only [Bool.and_eq_true] at htz
  obtain ⟨⟨-,h2⟩,h3,h4⟩:=htz
  rw [yz] at hx haz
  simp only [gh,gi,List.mem_map] at hx haz
  rcases hx with hx|(⟨y,hy,hx⟩|hx)|hx
  ·cases hx
  ·cases hx
   obtain ⟨w,hw',hy'⟩:=jq.1 hy
   rw [List.all_eq_true] at h2
   exact typedE_fine _ w (wo _) (fun u hu=>haz (.inr u) (.inr (.inl (.inl ⟨u,jq.2 ⟨w,hw',hu⟩,rfl⟩)))) (h2 w hw') x hy'
  ·exact ih th _ (by omega) (fun ev hev=>haz ev (.inr (.inl (.inr hev)))) h3 x hx
  ·exact ih el _ (by omega) (fun ev hev=>haz ev (.inr (.inr hev))) h4 x hx
theorem deepE_trans:∀ (N:Nat) (x:Expr),x.wt≤N→∀ y∈y4 x,∀ z∈y4 y,z∈y4 x:=by
 intro N
 induction N with
 | zero=>intro x h;obtain ⟨k,n,s,xs⟩:=x;rw [Expr.wt] at h;omega
 | succ N ih=>
  intro x h y hy z hz
  rw [qq] at hy ⊢
  rcases gh.1 hy with rfl|hy
  ·rwa [qq] at hz
  ·obtain ⟨u,hu,hy⟩:=jq.1 hy
   refine List.mem_cons_of_mem _ (jq.2 ⟨u,hu,ih u ?_ y hy z hz⟩)
   have:=mem_wt hu
   obtain ⟨k,n,s,xs⟩:=x
   rw [Expr.wt] at h
   simp only at this
   omega
theorem evSs_closed:∀ (N:Nat) (l:List Stmt),wtSs l≤N→(∀ x,Sum.inl x∈evSs l→∀ y∈z7 x.args,Sum.inr y∈evSs l)∧(∀ x,Sum.inr x∈evSs l→∀ y∈y4 x,Sum.inr y∈evSs l):=by
 intro N
 induction N with
 | zero=>
  intro l h
  cases l with
  | nil=>exact ⟨(fun x hx=>by simp [evSs] at hx),(fun x hx=>by simp [evSs] at hx)⟩
  | cons x l=>obtain ⟨k,s,n,xs,t,e⟩:=x;simp only [wtSs,Stmt.wt] at h;omega
 | succ N ih=>
  intro l h
  have key:∀ z∈l,(∀ x,Sum.inl x∈evS z→∀ y∈z7 x.args,Sum.inr y∈evS z)∧(∀ x,Sum.inr x∈evS z→∀ y∈y4 x,Sum.inr y∈evS z):=by
   intro z hz
   have hw:=mem_wtS hz
   obtain ⟨k,s,n,xs,th,el⟩:=z
   rw [Stmt.wt] at hw
   obtain ⟨t1,t2⟩:=ih th (by omega)
   obtain ⟨e1,e2⟩:=ih el (by omega)
   rw [yz]
   simp only [gh,gi,List.mem_map]
   constructor
   ·intro x hx y hy
    rcases hx with hx|(⟨u,hu,hx⟩|hx)|hx
    ·cases hx;exact .inr (.inl (.inl ⟨y,hy,rfl⟩))
    ·cases hx
    ·exact .inr (.inl (.inr (t1 x hx y hy)))
    ·exact .inr (.inr (e1 x hx y hy))
   ·intro x hx y hy
    rcases hx with hx|(⟨u,hu,hx⟩|hx)|hx
    ·cases hx
    ·cases hx
     obtain ⟨v,hv,hu⟩:=jq.1 hu
     exact .inr (.inl (.inl ⟨y,jq.2 ⟨v,hv,deepE_trans _ v (wo _) x hu y hy⟩,rfl⟩))
    ·exact .inr (.inl (.inr (t2 x hx y hy)))
    ·exact .inr (.inr (e2 x hx y hy))
  constructor
  ·intro x hx y hy
   obtain ⟨z,hz,hx⟩:=yx.1 hx
   exact yx.2 ⟨z,hz,(key z hz).1 x hx y hy⟩
  ·intro x hx y hy
   obtain ⟨z,hz,hx⟩:=yx.1 hx
   exact yx.2 ⟨z,hz,(key z hz).2 x hx y hy⟩
def exprFine (p:Src) (i:Nat) (x:Expr):Prop:=arityE x∧kw p i x
def kh (p:Src) (i:Nat):Stmt ⊕ Expr→Prop
 | .inl x=>arityS x∧∀ y∈z7 x.args,exprFine p i y
 | .inr x=>∀ y∈y4 x,exprFine p i y
structure FunFine (p:Src) (i:Nat) (f:Fun):Prop where
 evs:∀ ev∈evSs f.body,kh p i ev
 last:∃ x,f.body.getLast?=some x∧x.kind=4
 typed:zw p i f [] f.body=true
 returns:yi f=true
 params:f.params.length≤6∧∀ q∈f.params,0≤q.kind∧q.kind≤2∧(q.kind=2→1≤q.len∧q.len≤64)
structure kg (p:Src):Prop where
 funs:∀ (i:Nat) (f:Fun),p.funcs[i]?=some f→FunFine p i f
 arrs:∀ a∈p.secrets,1≤a.len∧a.len≤64
 many:p.secrets.length≤32∧p.funcs.length≤32
 once:twiceS p=false
theorem numText_ok {n:Int} {t:Txt} (h:zb n=some t):1≤n∧n≤64:=by
 unfold zb at h
 split at h
 ·assumption
 ·cases h
theorem paramText_ok {q:z8} {t:Txt} (h:zg q=some t):0≤q.kind∧q.kind≤2∧(q.kind=2→1≤q.len∧q.len≤64):=by
 unfold zg at h
 split at h
 ·split at h
  ·rename_i h0;exact ⟨by omega,by omega,fun h2=>by omega⟩
  ·split at h
   ·exact ⟨by omega,by omega,fun h2=>by omega⟩
   ·split at h
    ·obtain ⟨s,_,h⟩:=Option.bind_eq_some_iff.1 h
     cases hn:zb q.len with
     | none=>rw [hn] at h;cases h
     | some d=>exact ⟨by omega,by omega,fun _=>numText_ok hn⟩
    ·cases h
 ·cases h
theorem zip_all {α:Type} {g:α×Nat→Bool} {l:List α} (h:l.zipIdx.all g=true) {i:Nat} {x:α} (hi:l[i]?=some x):g (x,i)=true:=by
 rw [List.all_eq_true] at h
 exact h (x,i) (List.mk_mem_zipIdx_iff_getElem?.2 hi)
theorem srcFine_of {p:Src} (h:kr p=0):kg p:=by
 unfold kr at h
 split at h
 ·cases h
 rename_i hs
 split at h
 ·cases h
 rename_i htw
 split at h
 ·cases h
 rename_i hd
 split at h
 ·cases h
 rename_i ht
 obtain ⟨out,hout⟩:=Option.ne_none_iff_exists'.1 hs
 unfold yh at hout
 split at hout
 ·rename_i hm
  obtain ⟨a,ha,hout⟩:=Option.bind_eq_some_iff.1 hout
  obtain ⟨f0,hf0,-⟩:=Option.bind_eq_some_iff.1 hout
  refine ⟨fun i f hf=>?_,fun x hx=>?_,hm,by simpa using htw⟩
  ·obtain ⟨t,hft⟩:=kf hf0 f (gg hf)
   unfold xf at hft
   split at hft
   ·rename_i h6
    obtain ⟨s,_,hft⟩:=Option.bind_eq_some_iff.1 hft
    obtain ⟨ps,hps,hft⟩:=Option.bind_eq_some_iff.1 hft
    obtain ⟨b,hb,-⟩:=Option.bind_eq_some_iff.1 hft
    have htr:=zip_all ((Bool.not_eq_false _).mp ht) hf
    simp only [Bool.and_eq_true] at htr
    have har:∀ ev∈evSs f.body,arityEv ev:=evSs_arity _ f.body b (wo _) (by rw [xj];exact hb)
    have hca:=typedSs_fine _ f.body [] (wo _) har htr.1
    obtain ⟨c1,c2⟩:=evSs_closed _ f.body (wo _)
    refine ⟨fun ev hev=>?_,?_,htr.1,htr.2,h6,fun q hq=>?_⟩
    ·cases ev with
     | inl x=>exact ⟨har _ hev,fun y hy=>⟨har _ (c1 x hev y hy),hca y (c1 x hev y hy)⟩⟩
     | inr x=>exact fun y hy=>⟨har _ (c2 x hev y hy),hca y (c2 x hev y hy)⟩
    ·have hr:=htr.2
     unfold yi at hr
     simp only [Bool.and_eq_true] at hr
     cases hl:f.body.getLast? with
     | none=>rw [hl] at hr;simp at hr
     | some x=>rw [hl] at hr;exact ⟨x,rfl,by simpa using hr.1.2⟩
    ·obtain ⟨t,ht⟩:=kf hps q hq
     exact paramText_ok ht
   ·cases hft
  ·obtain ⟨t,hat⟩:=kf ha x hx
   unfold ky at hat
   obtain ⟨s,_,hat⟩:=Option.bind_eq_some_iff.1 hat
   cases hn:zb x.len with
   | none=>rw [hn] at hat;cases hat
   | some d=>exact numText_ok hn
 ·cases hout
def res (p:Src) (i:Nat):Bool:=(resTab p (i+1)).getD i false
theorem resTab_len (p:Src):∀ n,(resTab p n).length=n
 | 0=>rfl
 | n+1=>by rw [resTab,List.length_append,resTab_len p n];rfl
theorem resTab_get (p:Src) (j:Nat):∀ n,j<n→(resTab p n).getD j false=res p j:=by
 intro n
 induction n with
 | zero=>intro h;omega
 | succ n ih=>
  intro h
  by_cases hj:j=n
  ·subst hj;rfl
  ·rw [resTab,List.getD_eq_getElem?_getD,List.getElem?_append_left (by rw [resTab_len];omega),← List.getD_eq_getElem?_getD]
   exact ih (by omega)
theorem resS_of {p:Src} {i:Nat} {s:ByteArray} {j:Nat} (h:yf p i s=some j) (hj:j<i):resS p i s=res p j:=by
 unfold resS resBy
 rw [h]
 exact resTab_get p j i hj
theorem res_eq {p:Src} {i:Nat} {f:Fun} {x:Stmt} (hf:p.funcs[i]?=some f) (hx:f.body.getLast?=some x):res p i=hid p i f (arg0 x.args):=by
 unfold res
 rw [resTab,List.getD_eq_getElem?_getD,List.getElem?_append_right (by rw [resTab_len];omega),resTab_len,Nat.sub_self]
 simp only [List.getElem?_cons_zero,Option.getD_some,hf,resultOf,hx,Option.map_some]
 rfl
theorem aput_same {V:Type}:∀ {l:List (ByteArray×V)} {k:ByteArray} {v:V},aget l k=some v→aput l k v=l
 | [],_,_,h=>by cases h
 | (a,u)::l,k,v,h=>by
  rw [aget] at h
  rw [aput]
  split at h
  ·rename_i hk
   rw [if_pos hk]
   have:=eq_of_beq hk
   subst this
   cases h
   rfl
  ·rename_i hk
   rw [if_neg hk,aput_same h]
def AllT (l:List (ByteArray×Bool)):Prop:=∀ k b,aget l k=some b→b=true
theorem AllT.nil:AllT []:=fun k b h=>by cases h
theorem AllT.put {l:List (ByteArray×Bool)} (h:AllT l) (k:ByteArray):AllT (aput l k true):=by
 intro j b hj
 rw [k7] at hj
 split at hj
 ·cases hj;rfl
 ·exact h j b hj
theorem secretOf_allT (f:Fun):AllT (qw f):=by
 have:∀ (ps:List z8) (l:List (ByteArray×Bool)),AllT l→AllT (ps.foldl (fun l x=>if x.kind=1 then aput l x.name true else l) l):=by
  intro ps
  induction ps with
  | nil=>intro l h;exact h
  | cons q ps ih=>
   intro l h
   rw [List.foldl_cons]
   refine ih _ ?_
   split
   ·exact h.put _
   ·exact h
 exact this _ _ AllT.nil
def openSet (sec:List (ByteArray×Bool)):Stmt ⊕ Expr→Bool
 | .inl x=>(x.kind == 0) && !(aget sec x.name).isSome
 | .inr _=>false
def openN (E:List (Stmt ⊕ Expr)) (sec:List (ByteArray×Bool)):Nat:=E.countP (openSet sec)
theorem count_less {α:Type} {P Q:α→Bool}:∀ {E:List α},(∀ x,Q x=true→P x=true)→(∃ x∈E,P x=true∧Q x=false)→E.countP Q+1≤E.countP P
 | [],_,h=>by obtain ⟨x,hx,_⟩:=h;cases hx
 | y::E,h,h2=>by
  obtain ⟨x,hx,h3,h4⟩:=h2
  rcases gh.1 hx with rfl|hx
  ·have:E.countP Q≤E.countP P:=List.countP_mono_left (fun z _ hz=>h z hz)
   rw [List.countP_cons,List.countP_cons,h3,h4]
   simp
   omega
  ·have:=count_less h ⟨x,hx,h3,h4⟩
   rw [List.countP_cons,List.countP_cons]
   cases hq:Q y with
   | false=>simp;omega
   | true=>rw [h y hq];simp;omega
theorem passEv_step {arr:List (ByteArray×Bool)} {r:ByteArray→Bool} {E:List (Stmt ⊕ Expr)} {sec:List (ByteArray×Bool)} (hT:AllT sec) {ev:Stmt ⊕ Expr} (hev:ev∈E) :
  AllT (passEv arr r sec ev)∧(passEv arr r sec ev=sec∨((passEv arr r sec ev).length=sec.length+1∧openN E (passEv arr r sec ev)+1≤openN E sec)):=by
 cases ev with
 | inr x=>exact ⟨hT,.inl rfl⟩
 | inl x=>
  rw [passEv]
  split
  ·rename_i hk
   split
   ·refine ⟨hT.put _,?_⟩
    cases ha:aget sec x.name with
    | some b=>
     have:=hT _ _ ha
     subst this
     exact .inl (aput_same ha)
    | none=>
     refine .inr ⟨by rw [aput_length,ha];simp,count_less (fun z hz=>?_) ⟨.inl x,hev,by simp [openSet,hk,ha],by simp [openSet,k7]⟩⟩
     cases z with
     | inr z=>cases hz
     | inl z=>
      simp only [openSet,k7,Bool.and_eq_true] at hz ⊢
      refine ⟨hz.1,?_⟩
      have:=hz.2
      split at this
      ·simp at this
      ·exact this
   ·exact ⟨hT,.inl rfl⟩
  ·exact ⟨hT,.inl rfl⟩
theorem pass_step {arr:List (ByteArray×Bool)} {r:ByteArray→Bool} {E:List (Stmt ⊕ Expr)}:∀ (l:List (Stmt ⊕ Expr)) (sec:List (ByteArray×Bool)),(∀ ev∈l,ev∈E)→AllT sec →
  AllT (pass arr r l sec)∧(pass arr r l sec=sec∨∃ d,(pass arr r l sec).length=sec.length+(d+1)∧openN E (pass arr r l sec)+(d+1)≤openN E sec)
 | [],sec,_,hT=>⟨hT,.inl rfl⟩
 | ev::l,sec,hE,hT=>by
  obtain ⟨hT1,h1⟩:=passEv_step (arr:=arr) (r:=r) hT (hE ev (by simp))
  obtain ⟨hT2,h2⟩:=pass_step (arr:=arr) (r:=r) l (passEv arr r sec ev) (fun x hx=>hE x (by simp [hx])) hT1
  have he:pass arr r (ev::l) sec=pass arr r l (passEv arr r sec ev):=rfl
  rw [he]
  refine ⟨hT2,?_⟩
  rcases h1 with h1|⟨h1,h1'⟩
  ·rw [h1] at h2 ⊢;exact h2
  ·right
   rcases h2 with h2|⟨d,h2,h2'⟩
   ·rw [h2];exact ⟨0,h1,h1'⟩
   ·exact ⟨d+1,by omega,by omega⟩
theorem passes_fix {arr:List (ByteArray×Bool)} {r:ByteArray→Bool} {E:List (Stmt ⊕ Expr)} {sec:List (ByteArray×Bool)} (h:pass arr r E sec=sec):∀ n,q5 arr r E n sec=sec
 | 0=>rfl
 | n+1=>by rw [q5,h];exact passes_fix h n
theorem passes_add (arr:List (ByteArray×Bool)) (r:ByteArray→Bool) (E:List (Stmt ⊕ Expr)):∀ (m n:Nat) (sec:List (ByteArray×Bool)),q5 arr r E (m+n) sec=q5 arr r E n (q5 arr r E m sec)
 | 0,n,sec=>by rw [Nat.zero_add];rfl
 | m+1,n,sec=>by rw [show m+1+n=(m+n)+1 by omega,q5,q5,passes_add arr r E m n]
theorem passes_end {arr:List (ByteArray×Bool)} {r:ByteArray→Bool} {E:List (Stmt ⊕ Expr)}:∀ (n:Nat) (sec:List (ByteArray×Bool)),AllT sec→openN E sec≤n→pass arr r E (q5 arr r E n sec)=q5 arr r E n sec:=by
 intro n
 induction n with
 | zero=>
  intro sec hT h
  rcases (pass_step (arr:=arr) (r:=r) (E:=E) E sec (fun _ h=>h) hT).2 with h1|⟨d,_,h1⟩
  ·exact h1
  ·omega
 | succ n ih=>
  intro sec hT h
  obtain ⟨hT1,h1⟩:=pass_step (arr:=arr) (r:=r) (E:=E) E sec (fun _ h=>h) hT
  rcases h1 with h1|⟨d,_,h1⟩
  ·rw [passes_fix h1];exact h1
  ·rw [q5];exact ih _ hT1 (by omega)
theorem passes_is {arr:List (ByteArray×Bool)} {r:ByteArray→Bool} {E:List (Stmt ⊕ Expr)} {sec:List (ByteArray×Bool)} (hT:AllT sec) {k:Nat} (h:pass arr r E (q5 arr r E k sec)=q5 arr r E k sec):q5 arr r E k sec=q5 arr r E E.length sec:=by
 have hN:pass arr r E (q5 arr r E E.length sec)=q5 arr r E E.length sec:=passes_end _ _ hT (List.countP_le_length)
 rcases Nat.le_total k E.length with hk|hk
 ·obtain ⟨d,rfl'⟩:=Nat.exists_eq_add_of_le hk
  rw [rfl',passes_add,passes_fix h]
 ·obtain ⟨d,rfl'⟩:=Nat.exists_eq_add_of_le hk
  rw [rfl',passes_add,passes_fix hN]
theorem passes_allT {arr:List (ByteArray×Bool)} {r:ByteArray→Bool} {E:List (Stmt ⊕ Expr)}:∀ (k:Nat) (sec:List (ByteArray×Bool)),AllT sec→AllT (q5 arr r E k sec)∧(q5 arr r E k sec).length+openN E (q5 arr r E k sec)≤sec.length+openN E sec
 | 0,sec,h=>⟨h,wo _⟩
 | k+1,sec,h=>by
  obtain ⟨hT1,h1⟩:=pass_step (arr:=arr) (r:=r) (E:=E) E sec (fun _ h=>h) h
  obtain ⟨h2,h3⟩:=passes_allT (arr:=arr) (r:=r) (E:=E) k (pass arr r E sec) hT1
  rw [q5]
  refine ⟨h2,wx h3 ?_⟩
  rcases h1 with h1|⟨d,h1,h1'⟩
  ·rw [h1];exact wo _
  ·omega
theorem openN_le (E:List (Stmt ⊕ Expr)) (sec:List (ByteArray×Bool)):openN E sec≤E.length:=List.countP_le_length
theorem foldO_some {σ:Type} (g:σ→(Stmt ⊕ Expr)→σ):∀ (l:List (Stmt ⊕ Expr)) (s:σ),yd (fun s ev=>some (g s ev)) s l=some (l.foldl g s)
 | [],s=>rfl
 | ev::l,s=>by rw [yd,Option.bind_some,foldO_some g l];rfl
end
section
structure Ref where
 row:Nat
 off:Nat
 len:Nat
structure St where
 mem:List (List Int)
 opened:List Int
abbrev Vars:=List (ByteArray×Int)
abbrev Refs:=List (ByteArray×Ref)
def refAt (l:Refs) (s:ByteArray):Ref:=(aget l s).getD ⟨0,0,0⟩
def km (secs ptrs:Refs) (s:ByteArray):Ref:=match aget ptrs s with|some r=>r|none=>refAt secs s
def Ref.at (r:Ref) (i:Int):Nat:=r.off+(i % (r.len:Int)).toNat
def St.get (st:St) (r:Ref) (i:Int):Int:=(st.mem.getD r.row []).getD (r.at i) 0
def St.put (st:St) (r:Ref) (i v:Int):St:={ st with mem:=st.mem.modify r.row fun l=>l.set (r.at i) v }
def forN {α:Type} (f:Nat→α→α):Nat→α→α
 | 0,x=>x
 | n+1,x=>f n (forN f n x)
section
variable (alu:Int→Int→Int→Int) (call:Nat→Vars→Refs→St→Int×St) (p:Src) (i:Nat) (secs:Refs)
mutual
def evE (vars:Vars) (ptrs:Refs):Expr→St→Int×St
 | ⟨k,n,s,xs⟩,st=>
  if k=0 then (n,st) else if k=1 then ((aget vars s).getD 0,st)
  else if k=5 then
   (match yf p i s with
   | none=>(0,st)
   | some j=>match p.funcs[j]? with
    | none=>(0,st)
    | some g=>let r:=evArgs vars ptrs xs g.params ([],[],st);call j r.1 r.2.1 r.2.2)
  else
   let r:=evEs vars ptrs xs st
   if k=2 then (r.2.get (km secs ptrs s) (r.1.getD 0 0),r.2)
   else if k=3 then (alu n (r.1.getD 0 0) (r.1.getD 1 0),r.2)
   else if k=4 then (if r.1.getD 0 0≠0 then r.1.getD 1 0 else r.1.getD 2 0,r.2)
   else (r.1.getD 0 0,{ r.2 with opened:=r.2.opened++[r.1.getD 0 0] })
def evEs (vars:Vars) (ptrs:Refs):List Expr→St→List Int×St
 | [],st=>([],st)
 | e::es,st=>let a:=evE vars ptrs e st;let r:=evEs vars ptrs es a.2;(a.1::r.1,r.2)
def evArgs (vars:Vars) (ptrs:Refs):List Expr→List z8→Vars×Refs×St→Vars×Refs×St
 | [],_,x=>x
 | _::_,[],x=>x
 | e::es,q::qs,x=>
  if q.kind=2 then evArgs vars ptrs es qs (x.1,aput x.2.1 q.name { refAt ptrs e.name with len:=q.len.toNat },x.2.2)
  else let a:=evE vars ptrs e x.2.2;evArgs vars ptrs es qs (aput x.1 q.name a.1,x.2.1,a.2)
end
mutual
def exS (ptrs:Refs):Stmt→Vars×Int×St→Vars×Int×St
 | ⟨k,s,n,xs,t,e⟩,x=>
  if k=0 then let a:=evE alu call p i secs x.1 ptrs (arg0 xs) x.2.2;(aput x.1 s a.1,x.2.1,a.2)
  else if k=1 then
   let a:=evE alu call p i secs x.1 ptrs (arg0 xs) x.2.2
   let b:=evE alu call p i secs x.1 ptrs (arg1 xs) a.2
   (x.1,x.2.1,b.2.put (km secs ptrs s) a.1 b.1)
  else if k=2 then
   let c:=evE alu call p i secs x.1 ptrs (arg0 xs) x.2.2
   let r:=if c.1≠0 then exSs ptrs t (x.1,0,c.2) else exSs ptrs e (x.1,0,c.2)
   (r.1,x.2.1,r.2.2)
  else if k=3 then
   let r:=forN (fun m (y:Vars×St)=>let r:=exSs ptrs t (aput y.1 s (m:Int),0,y.2);(r.1,r.2.2)) n.toNat (x.1,x.2.2)
   (r.1,x.2.1,r.2)
  else if k=4 then let a:=evE alu call p i secs x.1 ptrs (arg0 xs) x.2.2;(x.1,a.1,a.2)
  else x
def exSs (ptrs:Refs):List Stmt→Vars×Int×St→Vars×Int×St
 | [],x=>x
 | s::l,x=>exSs ptrs l (exS ptrs s x)
end
end
def callT (alu:Int→Int→Int→Int) (p:Src) (secs:Refs):Nat→Nat→Vars→Refs→St→Int×St
 | 0,_,_,_,st=>(0,st)
 | n+1,j,vars,ptrs,st=>
  if j=n then
   (match p.funcs[j]? with
   | none=>(0,st)
   | some g=>let r:=exSs alu (callT alu p secs n) p n secs ptrs g.body (vars,0,st);(r.2.1,r.2.2))
  else callT alu p secs n j vars ptrs st
end
section
open Go.RowKit
structure WR where
 r:World→World→Prop
 refl:∀ x,r x x
 trans:∀ x y z,r x y→r y z→r x z
 drew:∀ x:World,r x x.drew
structure MT (T:WR) where
 p:Value→World→Prop
 mono:∀ v x y,p v x→T.r x y→p v y
def MT.any {T:WR}:MT T:=⟨fun _ _=>True,fun _ _ _ _ _=>trivial⟩
def MT.is {T:WR} (u:Value):MT T:=⟨fun v _=>v=u,fun _ _ _ h _=>h⟩
def MT.val {T:WR} (q:Value→Prop):MT T:=⟨fun v _=>q v,fun _ _ _ h _=>h⟩
def postT {T:WR} (L:List (MT T)) (i:Nat):Value→World→Prop:=(L.getD i MT.any).p
def DepsT {T:WR} (L:List (MT T)) (ops:Array Oper) (a:Act) (w:World):List Edge→Prop
 | []=>True
 | e::es=>(Region.binds .any e=true→postT L e.on (left a (ops.getD e.on default)) w)∧DepsT L ops a w es
def StepT {T:WR} (P:Program) (ops fo:Array Oper) (Q:Exit→Act→World→Prop) (L:List (MT T)) (w₀:World) (a₀:Act) (i:Nat) (o:Oper):Prop:=
 ∀ (a:Act) (w:World),T.r w₀ w→Frm fo a₀ a→DepsT L ops a w o.after.toList →
  if Region.wanted o (yielded ops a.tmps) then o.wp P a w (fun a' w'=>∃ v,a'=a.put o.dst v∧T.r w w'∧postT L i (if o.dst=none then undef else v) w') Q else postT L i undef w
section
variable {T:WR} {P:Program} {ops fo:Array Oper} {Q:Exit→Act→World→Prop} {L:List (MT T)} {w₀:World} {a₀:Act} {i:Nat} {o:Oper}
theorem stepT_plain (hgd:o.guard=none)
  (h:∀ (a:Act) (w:World),T.r w₀ w→Frm fo a₀ a→DepsT L ops a w o.after.toList →
   o.wp P a w (fun a' w'=>∃ v,a'=a.put o.dst v∧T.r w w'∧postT L i (if o.dst=none then undef else v) w') Q):StepT P ops fo Q L w₀ a₀ i o:=by
 intro a w hB hF hD
 rw [if_pos (by simp [Region.wanted,hgd])]
 exact h a w hB hF hD
theorem zr {a:Act} {w:World} {u:Value} (hd:o.dst.isSome=true) (hr:(execOp a.eval o).run P w=.ok (.value u) w) (hp:postT L i u w) :
  o.wp P a w (fun a' w'=>∃ v,a'=a.put o.dst v∧T.r w w'∧postT L i (if o.dst=none then undef else v) w') Q:=by
 unfold Oper.wp
 rw [hr]
 refine ⟨u,rfl,T.refl _,?_⟩
 have hne:o.dst≠none:=by intro e;rw [e] at hd;cases hd
 rw [if_neg hne]
 exact hp
theorem stepT_ex (hgd:o.guard=none) (hd:o.dst.isSome=true)
  (h:∀ (a:Act) (w:World),T.r w₀ w→Frm fo a₀ a→DepsT L ops a w o.after.toList→∃ u,(execOp a.eval o).run P w=.ok (.value u) w∧postT L i u w):StepT P ops fo Q L w₀ a₀ i o:=by
 refine stepT_plain hgd fun a w hB hF hD=>?_
 obtain ⟨u,hr,hp⟩:=h a w hB hF hD
 exact zr hd hr hp
theorem jp {u:Value} (hgd:o.guard=none) (hd:o.dst.isSome=true) (hL:L.getD i MT.any=MT.is u)
  (h:∀ (a:Act) (w:World),T.r w₀ w→Frm fo a₀ a→DepsT L ops a w o.after.toList→(execOp a.eval o).run P w=.ok (.value u) w):StepT P ops fo Q L w₀ a₀ i o:=
 stepT_ex hgd hd fun a w hB hF hD=>⟨u,h a w hB hF hD,by unfold postT;rw [hL];rfl⟩
theorem wpT_call {a:Act} {w:World} {f:FuncId} {args:Array Value} (hd:o.dst.isSome=true) (hr:(execOp a.eval o).run P w=.ok (.enter f args) w)
  (hc:Calls P f args w (fun e w'=>T.r w w'∧((∃ v,e=.returned v∧postT L i v w')∨(∃ ch,e=.panicked ch∧Q (.panic ch) a w')))) :
  o.wp P a w (fun a' w'=>∃ v,a'=a.put o.dst v∧T.r w w'∧postT L i (if o.dst=none then undef else v) w') Q:=by
 unfold Oper.wp
 rw [hr]
 refine hc.mono ?_
 rintro e w' ⟨hb,⟨v,rfl,hp⟩|⟨ch,rfl,hq⟩⟩
 ·have hne:o.dst≠none:=by intro e;rw [e] at hd;cases hd
  exact ⟨v,rfl,hb,by rw [if_neg hne];exact hp⟩
 ·exact hq
theorem yielded_of {a:Act} {j d:Nat} {b:Bool} (hj:(ops[j]?).bind (·.dst)=some d) (h:slot a d=.bool b):yielded ops a.tmps j=some b:=by
 unfold yielded
 rw [hj]
 have:a.tmps[d]?=some (.bool b):=by
  unfold slot at h
  rw [wn] at h
  cases hx:a.tmps[d]? with
  | none=>rw [hx] at h;simp [undef] at h
  | some v=>rw [hx] at h;simpa using h
 simp [this]
theorem jf {j d:Nat} {want:Bool} (hgd:o.guard=some (j,want)) (hj:(ops[j]?).bind (·.dst)=some d)
  (h:∀ (a:Act) (w:World),T.r w₀ w→Frm fo a₀ a→DepsT L ops a w o.after.toList→∃ b,slot a d=.bool b ∧
   (if b=want then o.wp P a w (fun a' w'=>∃ v,a'=a.put o.dst v∧T.r w w'∧postT L i (if o.dst=none then undef else v) w') Q else postT L i undef w)):StepT P ops fo Q L w₀ a₀ i o:=by
 intro a w hB hF hD
 obtain ⟨b,hs,h⟩:=h a w hB hF hD
 have hy:=yielded_of hj hs
 have hw:Region.wanted o (yielded ops a.tmps)=(some b == some want):=by simp only [Region.wanted,hgd,hy]
 rw [hw]
 by_cases hb:b=want
 ·rw [if_pos hb] at h;rw [if_pos (by rw [hb];simp)];exact h
 ·rw [if_neg hb] at h;rw [if_neg (by simpa using hb)];exact h
end
def StepsT {T:WR} (P:Program) (ops fo:Array Oper) (Q:Exit→Act→World→Prop) (L:List (MT T)) (w₀:World) (a₀:Act):Nat→List Oper→Prop
 | _,[]=>True
 | i,o::l=>StepT P ops fo Q L w₀ a₀ i o∧StepsT P ops fo Q L w₀ a₀ (i+1) l
theorem stepsT_at {T:WR} {P:Program} {ops fo:Array Oper} {Q:Exit→Act→World→Prop} {L:List (MT T)} {w₀:World} {a₀:Act}:∀ (l:List Oper) (k:Nat),StepsT P ops fo Q L w₀ a₀ k l→∀ (i:Nat) (o:Oper),l[i]?=some o→StepT P ops fo Q L w₀ a₀ (k+i) o
 | [],_,_,i,o,h=>by simp at h
 | x::l,k,hs,i,o,h=>by
  cases i with
  | zero=>simp at h;subst h;exact hs.1
  | succ i=>
   have:=stepsT_at l (k+1) hs.2 i o (by simpa using h)
   rwa [show k+1+i=k+(i+1) by omega] at this
def FinT {T:WR} (L:List (MT T)) (a:Act) (w:World):Nat→List Oper→Prop
 | _,[]=>True
 | i,o::l=>postT L i (left a o) w∧FinT L a w (i+1) l
theorem finT_of {T:WR} {L:List (MT T)} {a:Act} {w:World}:∀ (l:List Oper) (k:Nat),(∀ (i:Nat) (o:Oper),l[i]?=some o→postT L (k+i) (left a o) w)→FinT L a w k l
 | [],_,_=>trivial
 | x::l,k,h=>⟨h 0 x rfl,finT_of l (k+1) (fun i o ho=>by
   have:=h (i+1) o (by simpa using ho)
   rwa [show k+1+i=k+(i+1) by omega])⟩
theorem depsT_of {T:WR} {L:List (MT T)} {ops:Array Oper} {a:Act} {w:World}:∀ (es:List Edge),(∀ (j:Nat) (x:Oper),ops[j]?=some x→(∃ e∈es,e.on=j∧Region.binds .any e=true)→postT L j (left a x) w)→(∀ e∈es,Region.binds .any e=true→e.on<ops.size)→DepsT L ops a w es
 | [],_,_=>trivial
 | e::es,h,hb=>⟨fun hbd=>by
   have hlt:=hb e (by simp) hbd
   have:=h e.on (ops[e.on]) (wm hlt) ⟨e,by simp,rfl,hbd⟩
   simpa [Array.getD,hlt] using this,depsT_of es (fun j x hj ⟨e',he',h1,h2⟩=>h j x hj ⟨e',by simp [he'],h1,h2⟩) (fun e' he'=>hb e' (by simp [he']))⟩
theorem zy {P:Program} {ops:Array Oper} {Q:Exit→Act→World→Prop} {id:Nat} {a₀:Act} {w:World} (hm:P.follows .mixedOrders=true) (T:WR) (L:List (MT T)) (fit:qz ops a₀.tmps.size=true)
  (m:Nat) (hms:m<ops.size) (hneeds:vp ops m=true) (rest:List Oper) (hrest:ops.toList.drop m=rest)
  (steps:StepsT P ops (ops.toList.take m).toArray Q L w a₀ 0 (ops.toList.take m))
  (tail:∀ (a:Act) (w':World),T.r w w'→Frm (ops.toList.take m).toArray a₀ a→FinT L a w' 0 (ops.toList.take m)→wpList P ops Q rest a w'):(Code.region id ops true).wp P Q a₀ w:=by
 have F:=fit_of fit
 have htake:∀ (i:Nat) (x:Oper),i<m→ops[i]?=some x→(ops.toList.take m)[i]?=some x:=by
  intro i x hne hi
  rw [List.getElem?_take,if_pos hne]
  simpa using hi
 refine wp_region_rest hm T.r T.refl T.trans (T.drew w) (postT L) (fun i v x y h k=>(L.getD i MT.any).mono v x y h k) fit m hms hneeds ?_ ?_
 ·intro i x hne hx a y hT hF hD
  have h:=stepsT_at (ops.toList.take m) 0 steps i x (htake i x hne hx)
  rw [Nat.zero_add] at h
  exact h a y hT hF (depsT_of _ (fun j z hj ⟨e,he,h1,h2⟩=>hD j z hj ⟨e,by simpa using he,h1,h2⟩) (fun e he hb=>by
   have h1:=F.on i x e hx (by simpa using he) hb
   have h2:=(wl.1 hx).1
   omega))
 ·intro a w' hT hF hP
  rw [hrest]
  refine tail a w' hT hF (finT_of _ 0 (fun i y hy=>?_))
  rw [Nat.zero_add]
  have hi:i<m:=by
   have:=(List.getElem?_eq_some_iff.1 hy).1
   rw [List.length_take] at this
   omega
  rw [List.getElem?_take,if_pos hi] at hy
  exact hP i y hi (by simpa using hy)
def keptR (M:List Nat) (C:World→Prop) (hd:∀ x:World,C x→C x.drew):WR where
 r:=fun x y=>Kept M x y∧(C x→C y)
 refl:=fun x=>⟨Kept.refl _ _,id⟩
 trans:=fun x y z h k=>⟨h.1.trans k.1,fun c=>k.2 (h.2 c)⟩
 drew:=fun x=>⟨(Kept.refl _ _).drew,hd x⟩
end
section
open Go.RowKit
theorem contains_expr {α:Type} (R:World→Nat→Nat→α→Prop) (V:World→α→Value→Prop)
  (hopen:∀ w b o x,R w b o x→∃ (n0:Int) (n1:Int) (s2:ByteArray) (a3:Option Addr) (l3 c3:Nat),w.cell? ⟨b,o,none⟩=some (.int .i64 n0)∧w.cell? ⟨b,o+1,none⟩=some (.int .u64 n1)∧w.cell? ⟨b,o+2,none⟩=some (.string s2)∧w.cell? ⟨b,o+3,none⟩=some (.slice a3 l3 c3)∧V w x (.agg #[.int .i64 n0,.int .u64 n1,.string s2,.slice a3 l3 c3]))
  (I:World→Prop) (v:Value) (xs:List α) (g:Nat) (first caps:Array Value) (p:α→Bool) (w:World)
  (eg:∀ args w,(callFunc g args).run Tryz.prog w=.ok (.enter g args) w)
  (hI:I w) (hr:∀ w',I w'→Sl 4 (R w') v xs)
  (hp:∀ w' (j:Nat) (x:α) (val:Value),I w'→xs[j]?=some x→V w' x val→Calls Tryz.prog g (first++#[val]++caps) w' fun e w''=>e=.returned (.bool (p x))∧I w'') :
  Calls Tryz.prog 117 #[v,.func (.func g) first caps] w fun e w'=>e=.returned (.bool (xs.any p))∧I w':=by
 have HI:=k8 (index_expr R V hopen I v xs g first caps p w eg hI hr hp)
 have hd:=idxd_any p xs
 generalize idxOf p xs=j at *
 generalize xs.any p=b at *
 clear hr hp hopen hI eg
 go_enter Tryz.func117,Tryz.ntmps117
 go_wp2_with fail
 refine HI.out.mono ?_
 rintro e w2 ⟨rfl,hB⟩
 go_wp2
 go_ret
 exact ⟨rfl,hB⟩
def Told (p:Src) (tb:Nat) (w:World):Prop:=∃ l,MapT w tb l∧∀ j b,aget l j=some b→∃ n:Nat,j=n∧b=res p n
theorem Told.below {p:Src} {tb:Nat} {w w':World} (h:Told p tb w) (hb:Below w.heap.size w w'):Told p tb w':=by
 obtain ⟨l,h1,h2⟩:=h
 exact ⟨l,j5.below h1 hb,h2⟩
theorem Told.kept {p:Src} {tb:Nat} {w w':World} {M:List Nat} (h:Told p tb w) (hb:Kept M w w') (hM:tb ∉ M):Told p tb w':=by
 obtain ⟨l,h1,h2⟩:=h
 exact ⟨l,j5.keptM h1 hb hM,h2⟩
def HRet (p:Src) (tb:Nat) (w:World) (v:Value) (e:Ending) (w':World):Prop:=e=.returned v∧Kept [tb] w w'∧Told p tb w'
def ResAt (w0:World) (p:Src) (j:Nat):Prop:=∀ (i:Nat) (f:Fun) (vb ab pb sb tb:Nat) (w:World),Below w0.heap.size w0 w→qj w0 p i f w vb ab pb sb tb→Told p tb w→j<p.funcs.length →
 Calls Tryz.prog 116 #[.pointer (some ⟨vb,0,none⟩),.int .i64 j] w (HRet p tb w (.bool (res p j)))
theorem hiddenEs_any (arr sec:List (ByteArray×Bool)) (r:ByteArray→Bool):∀ (l:List Expr),hiddenEs arr sec r l=l.any (q7 arr sec r)
 | []=>by rw [hiddenEs];rfl
 | e::es=>by rw [hiddenEs,hiddenEs_any arr sec r es,List.any_cons]
theorem qj.told {w0:World} {p:Src} {i:Nat} {f:Fun} {w w':World} {vb ab pb sb tb:Nat} (h:qj w0 p i f w vb ab pb sb tb) (hk:Kept [tb] w w'):qj w0 p i f w' vb ab pb sb tb:=
 h.next hk (by simpa using h.nv.2.2.2) (by simpa using h.ne.2.2.1) (by simpa using h.ne.2.2.2.2.1)
theorem bool_get (l:List (ByteArray×Bool)) (s:ByteArray):(aget (l.map fun x=>(x.1,Value.bool x.2)) s).getD (.bool false)=.bool (zf l s):=by rw [ka,getD_bool];rfl
theorem hidden_any {w0:World} {p:Src} {i:Nat} {f:Fun} {vb ab pb sb tb:Nat} {sec:List (ByteArray×Bool)} (IH:∀ j,j<i→ResAt w0 p j) :
  ∀ (N:Nat) (x:Expr) (v:Value) (w:World),x.wt≤N→Below w0.heap.size w0 w→qj w0 p i f w vb ab pb sb tb→MapB w sb sec→Told p tb w→(∀ y∈y4 x,kw p i y)→zl w0 x v →
   Calls Tryz.prog 73 #[.pointer (some ⟨vb,0,none⟩),v] w (HRet p tb w (.bool (q7 (jt p) sec (resS p i) x))):=by
 intro N
 induction N with
 | zero=>intro x v w h;obtain ⟨k,n,s,xs⟩:=x;rw [Expr.wt] at h;omega
 | succ N ih=>
 intro x v w hN hB0 hv hms ht hc hx
 obtain ⟨k,n,s,xs⟩:=x
 rw [Expr.wt] at hN
 obtain ⟨a,c,rfl,hsl⟩:=qu hx
 simp only at hsl ⊢
 obtain ⟨a0,c0,a1,c1,a2,c2,a3,c3,-,-,-,-,-,-,-,g7,g8,g9,g10,-,-⟩:=hv.open
 have hBl:=(wu w.heap.size w).alloc (wo _) (.cells #[.int .i64 k,.int .u64 n,.string s,.slice a xs.length c] 53)
 have hx2:(w.alloc (.cells #[.int .i64 k,.int .u64 n,.string s,.slice a xs.length c] 53)).cell? ⟨w.heap.size,2,none⟩=some (.string s):=by simp
 have HX2:=k8 hx2
 have HB:=k8 hBl
 have HT:=k8 ht
 have HBW:=k8 (hB0.trans (hBl.mono hB0.size))
 have HV:=k8 (hv.below hBl)
 have HMS:=k8 (j5.below hms hBl)
 have HMA:=k8 (j5.below hv.arrays hBl)
 have HV7:=k8 (jb hBl g7)
 have HV9:=k8 (jb hBl g9)
 have HTl:=k8 (ht.below hBl)
 by_cases h1:k=1
 ·subst h1
  have he:q7 (jt p) sec (resS p i) ⟨1,n,s,xs⟩=zf sec s:=by rw [q7];rfl
  rw [he]
  obtain ⟨B,hBd⟩:∃ B,zf sec s=B:=⟨_,rfl⟩
  rw [hBd]
  have HBd:=k8 hBd
  clear he hBd hB0 hv hms ht hc hx hsl hx2 hBl g7 g8 g9 g10 IH ih HMA HV7 HBW HV
  go_enter Tryz.func73,Tryz.ntmps73
  go_wp2_with fail
  refine je zi [.is (.pointer (some ⟨vb,0,none⟩)),.is (.pointer (some ⟨vb,0,none⟩)),.is (.pointer (some ⟨vb,9,none⟩)),.is (.map (some sb)),.is (.pointer (some ⟨w.heap.size,2,none⟩)),.is (.string s),.is (.bool B)] (by kernel_rfl) 7 (by decide) (by kernel_rfl) _ rfl ?_ ?_
  ·refine ⟨?_,?_,?_,?_,?_,?_,?_,trivial⟩
   ·refine jc rfl rfl rfl fun x y hB hF hD=>?_
    have e0:slot x 0=.pointer (some ⟨vb,0,none⟩):=hF.at 0 rfl
    clear hB hF
    simp only [execOp,ja,e0]
    first|rfl|(go_simp;try rfl)
   ·refine jc rfl rfl rfl fun x y hB hF hD=>?_
    obtain ⟨d0,-⟩:=hD
    have e9:slot x 9=.pointer (some ⟨vb,0,none⟩):=d0 rfl
    clear hB hF
    simp only [execOp,ja,e9]
    first|rfl|(go_simp;try rfl)
   ·refine jc rfl rfl rfl fun x y hB hF hD=>?_
    obtain ⟨d0,-⟩:=hD
    have e10:slot x 10=.pointer (some ⟨vb,0,none⟩):=d0 rfl
    clear hB hF
    simp only [execOp,ja,e10]
    first|rfl|(go_simp;try rfl)
   ·refine jc rfl rfl rfl fun x y hB hF hD=>?_
    obtain ⟨d0,-⟩:=hD
    have e11:slot x 11=.pointer (some ⟨vb,9,none⟩):=d0 rfl
    have hc:y.cell? ⟨vb,9,none⟩=some (.map (some sb)):=jb hB HV9.out
    clear hB hF
    simp only [execOp,ja,e11]
    first|rfl|(go_simp;try rfl)
   ·refine jc rfl rfl rfl fun x y hB hF hD=>?_
    have e3:slot x 3=.pointer (some ⟨w.heap.size,0,none⟩):=hF.at 3 rfl
    clear hB hF
    simp only [execOp,ja,e3]
    first|rfl|(go_simp;try rfl)
   ·refine jc rfl rfl rfl fun x y hB hF hD=>?_
    obtain ⟨d0,-⟩:=hD
    have e13:slot x 13=.pointer (some ⟨w.heap.size,2,none⟩):=d0 rfl
    have hc:y.cell? ⟨w.heap.size,2,none⟩=some (.string s):=jb hB HX2.out
    clear hB hF
    simp only [execOp,ja,e13]
    first|rfl|(go_simp;try rfl)
   ·refine jc rfl rfl rfl fun x y hB hF hD=>?_
    obtain ⟨d0,d1,-⟩:=hD
    have e1:slot x 12=.map (some sb):=d0 rfl
    have e2:slot x 14=.string s:=d1 rfl
    have hrun:=xr keyS (j5.below HMS.out hB) Tryz.underlying123 (zeroB y) s false
    rw [if_neg (by decide),bool_get,HBd.out] at hrun
    clear hB hF
    simp only [execOp,ja,e1,e2]
    simp [hrun,Result.andThen]
  ·intro x y hB hF hP
   obtain ⟨p0,p1,p2,p3,p4,p5,p6,-⟩:=hP
   have hx:=jj hF [(9,.pointer (some ⟨vb,0,none⟩)),(10,.pointer (some ⟨vb,0,none⟩)),(11,.pointer (some ⟨vb,9,none⟩)),(12,.map (some sb)),(13,.pointer (some ⟨w.heap.size,2,none⟩)),(14,.string s),(15,.bool B)] rfl ⟨p0,p1,p2,p3,p4,p5,p6,trivial⟩
   have HBy:=k8 (HB.out.trans (hB.mono (by simp)))
   clear hB hF p0 p1 p2 p3 p4 p5 p6
   subst hx
   simp only [puts,Act.put,we,wg,wi,wj,wk]
   go_wp2
   go_ret
   exact ⟨rfl,jd HBy.out,HT.out.below HBy.out⟩
 have t1:(k == 1)=false:=by simpa using h1
 by_cases h2:k=2
 ·subst h2
  have he:q7 (jt p) sec (resS p i) ⟨2,n,s,xs⟩=zf (jt p) s:=by rw [q7];rfl
  rw [he]
  obtain ⟨B,hBd⟩:∃ B,zf (jt p) s=B:=⟨_,rfl⟩
  rw [hBd]
  have HBd:=k8 hBd
  clear he hBd hB0 hv hms ht hc hx hsl hx2 hBl g7 g8 g9 g10 IH ih HMS HV9 HBW HV t1 h1
  go_enter Tryz.func73,Tryz.ntmps73
  go_wp2_with fail
  refine je zi [.is (.pointer (some ⟨vb,0,none⟩)),.is (.pointer (some ⟨vb,0,none⟩)),.is (.pointer (some ⟨vb,7,none⟩)),.is (.map (some ab)),.is (.pointer (some ⟨w.heap.size,2,none⟩)),.is (.string s),.is (.bool B)] (by kernel_rfl) 7 (by decide) (by kernel_rfl) _ rfl ?_ ?_
  ·refine ⟨?_,?_,?_,?_,?_,?_,?_,trivial⟩
   ·refine jc rfl rfl rfl fun x y hB hF hD=>?_
    have e0:slot x 0=.pointer (some ⟨vb,0,none⟩):=hF.at 0 rfl
    clear hB hF
    simp only [execOp,ja,e0]
    first|rfl|(go_simp;try rfl)
   ·refine jc rfl rfl rfl fun x y hB hF hD=>?_
    obtain ⟨d0,-⟩:=hD
    have e18:slot x 18=.pointer (some ⟨vb,0,none⟩):=d0 rfl
    clear hB hF
    simp only [execOp,ja,e18]
    first|rfl|(go_simp;try rfl)
   ·refine jc rfl rfl rfl fun x y hB hF hD=>?_
    obtain ⟨d0,-⟩:=hD
    have e19:slot x 19=.pointer (some ⟨vb,0,none⟩):=d0 rfl
    clear hB hF
    simp only [execOp,ja,e19]
    first|rfl|(go_simp;try rfl)
   ·refine jc rfl rfl rfl fun x y hB hF hD=>?_
    obtain ⟨d0,-⟩:=hD
    have e20:slot x 20=.pointer (some ⟨vb,7,none⟩):=d0 rfl
    have hc:y.cell? ⟨vb,7,none⟩=some (.map (some ab)):=jb hB HV7.out
    clear hB hF
    simp only [execOp,ja,e20]
    first|rfl|(go_simp;try rfl)
   ·refine jc rfl rfl rfl fun x y hB hF hD=>?_
    have e3:slot x 3=.pointer (some ⟨w.heap.size,0,none⟩):=hF.at 3 rfl
    clear hB hF
    simp only [execOp,ja,e3]
    first|rfl|(go_simp;try rfl)
   ·refine jc rfl rfl rfl fun x y hB hF hD=>?_
    obtain ⟨d0,-⟩:=hD
    have e22:slot x 22=.pointer (some ⟨w.heap.size,2,none⟩):=d0 rfl
    have hc:y.cell? ⟨w.heap.size,2,none⟩=some (.string s):=jb hB HX2.out
    clear hB hF
    simp only [execOp,ja,e22]
    first|rfl|(go_simp;try rfl)
   ·refine jc rfl rfl rfl fun x y hB hF hD=>?_
    obtain ⟨d0,d1,-⟩:=hD
    have e1:slot x 21=.map (some ab):=d0 rfl
    have e2:slot x 23=.string s:=d1 rfl
    have hrun:=xr keyS (j5.below HMA.out hB) Tryz.underlying123 (zeroB y) s false
    rw [if_neg (by decide),bool_get,HBd.out] at hrun
    clear hB hF
    simp only [execOp,ja,e1,e2]
    simp [hrun,Result.andThen]
  ·intro x y hB hF hP
   obtain ⟨p0,p1,p2,p3,p4,p5,p6,-⟩:=hP
   have hx:=jj hF [(18,.pointer (some ⟨vb,0,none⟩)),(19,.pointer (some ⟨vb,0,none⟩)),(20,.pointer (some ⟨vb,7,none⟩)),(21,.map (some ab)),(22,.pointer (some ⟨w.heap.size,2,none⟩)),(23,.string s),(24,.bool B)] rfl ⟨p0,p1,p2,p3,p4,p5,p6,trivial⟩
   have HBy:=k8 (HB.out.trans (hB.mono (by simp)))
   clear hB hF p0 p1 p2 p3 p4 p5 p6
   subst hx
   simp only [puts,Act.put,we,wg,wi,wj,wk]
   go_wp2
   go_ret
   exact ⟨rfl,jd HBy.out,HT.out.below HBy.out⟩
 have t2:(k == 2)=false:=by simpa using h2
 by_cases h5:k=5
 ·subst h5
  have he:q7 (jt p) sec (resS p i) ⟨5,n,s,xs⟩=resS p i s:=by rw [q7];rfl
  rw [he]
  obtain ⟨j,g,hj,hg,-⟩:=hc ⟨5,n,s,xs⟩ (by rw [qq];simp) rfl
  have hjI:calledI p i s=j∧j<i∧j<p.funcs.length:=by
   rcases xh p i s with ⟨h1,h2⟩|⟨j',h1,h2,h3,h4⟩
   ·simp only at hj;rw [hj] at h1;cases h1
   ·simp only at hj;rw [hj] at h1;cases h1;exact ⟨h2,h3,h4⟩
  rw [resS_of hj hjI.2.1]
  have HC:=k8 (called_any HBW.out HV.out s)
  rw [hjI.1] at HC
  have HR:=k8 (fun w1 h1 h2 h3=>IH j hjI.2.1 i f vb ab pb sb tb w1 h1 h2 h3 hjI.2.2)
  obtain ⟨B,hBd⟩:∃ B,res p j=B:=⟨_,rfl⟩
  rw [hBd] at HR ⊢
  clear he hBd hB0 hv hms ht hc hx hsl hx2 hBl g7 g8 g9 g10 IH ih HMS HV9 t1 h1 t2 h2 HX2 HMA HV7 hj hg hjI
  go_enter Tryz.func73,Tryz.ntmps73
  go_wp2_with fail
  refine HC.out.mono ?_
  rintro e w1 ⟨rfl,hB1⟩
  have HR1:=k8 (HR.out w1 (HBW.out.trans (hB1.mono HBW.out.size)) (HV.out.below hB1) (HTl.out.below hB1))
  have HB1:=k8 (HB.out.trans (hB1.mono HB.out.size))
  clear hB1
  go_wp2_with fail
  refine HR1.out.mono ?_
  rintro e w2 ⟨rfl,hK,hT⟩
  have HK:=k8 ((jd HB1.out).trans hK)
  have HT2:=k8 hT
  clear hK hT
  go_wp2
  go_ret
  exact ⟨rfl,HK.out,HT2.out⟩
 have t5:(k == 5)=false:=by simpa using h5
 by_cases h6:k=6
 ·subst h6
  have he:q7 (jt p) sec (resS p i) ⟨6,n,s,xs⟩=false:=by rw [q7];rfl
  rw [he]
  clear he hB0 hv hms ht hc hx hsl hx2 hBl g7 g8 g9 g10 IH ih HMS HV9 HBW HV t1 h1 t2 h2 t5 h5 HX2 HMA HV7 HTl
  go_enter Tryz.func73,Tryz.ntmps73
  go_wp2
  go_ret
  exact ⟨rfl,jd HB.out,HT.out.below HB.out⟩
 have t6:(k == 6)=false:=by simpa using h6
 have he:q7 (jt p) sec (resS p i) ⟨k,n,s,xs⟩=xs.any (q7 (jt p) sec (resS p i)):=by rw [q7,if_neg h1,if_neg h2,if_neg h5,if_neg h6,hiddenEs_any]
 rw [he]
 have hne:=hv.ne
 have hnv:=hv.nv
 have HCo:=k8 (contains_expr (fun w b o x=>zo w0 b o x∧Below w0.heap.size w0 w) (fun _ x val=>zl w0 x val)
  (fun w b o x h=>by
   obtain ⟨a,c,h0,h1,h2,h3,h4,_⟩:=yl h.1
   exact ⟨_,_,_,_,_,_,jb h.2 h0,jb h.2 h1,jb h.2 h2,jb h.2 h3,h4⟩)
  (fun w'=>Kept [tb] w w'∧Told p tb w') (.slice a xs.length c) xs 73 #[.pointer (some ⟨vb,0,none⟩)] #[] (q7 (jt p) sec (resS p i)) _ (fun _ _=>by kernel_rfl) ⟨jd hBl,ht.below hBl⟩
  (fun w' hw'=>hsl.imp (fun b o x _ hx=>⟨hx,hB0.trans (hw'.1.below (B:=w0.heap.size) hB0.size (fun b hb=>by simp only [wy] at hb;subst hb;exact hv.lo.2.2.2.2))⟩))
  (fun w' j x val hw' hx hV=>(ih x val w' (by have:=mem_wt (gg hx);omega) (hB0.trans (hw'.1.below (B:=w0.heap.size) hB0.size (fun b hb=>by simp only [wy] at hb;subst hb;exact hv.lo.2.2.2.2))) (hv.told hw'.1) (j5.keptM hms hw'.1 (by simpa using hne.2.2.2.2.2)) hw'.2
   (fun y hy=>hc y (by rw [qq];exact List.mem_cons_of_mem _ (jq.2 ⟨x,gg hx,hy⟩))) hV).mono (by
   rintro e w2 ⟨rfl,hK,hT⟩
   exact ⟨rfl,hw'.1.trans hK,hT⟩)))
 obtain ⟨B,hBd⟩:∃ B,xs.any (q7 (jt p) sec (resS p i))=B:=⟨_,rfl⟩
 rw [hBd] at HCo ⊢
 clear he hB0 hv hms ht hc hx hsl hx2 hBl g7 g8 g9 g10 IH ih HMS HV9 HBW HV h1 h2 h5 h6 HX2 HMA HV7 HTl hne hnv hBd HT
 go_enter Tryz.func73,Tryz.ntmps73
 go_wp2_with fail
 refine HCo.out.mono ?_
 rintro e w1 ⟨rfl,hK,hT⟩
 have HK:=k8 hK
 have HT2:=k8 hT
 clear hK hT
 go_wp2
 go_ret
 exact ⟨rfl,HK.out,HT2.out⟩
end
section
open Go.RowKit
structure SInv (w0:World) (p:Src) (i:Nat) (f:Fun) (vb ab pb sb tb cb:Nat) (sec:List (ByteArray×Bool)) (w:World):Prop where
 view:qj w0 p i f w vb ab pb sb tb
 var:w.cell? ⟨cb,0,none⟩=some (.pointer (some ⟨vb,0,none⟩))
 sec:MapB w sb sec
 told:Told p tb w
theorem SInv.below {w0:World} {p:Src} {i:Nat} {f:Fun} {vb ab pb sb tb cb:Nat} {sec:List (ByteArray×Bool)} {w w':World} (h:SInv w0 p i f vb ab pb sb tb cb sec w) (hb:Below w.heap.size w w'):SInv w0 p i f vb ab pb sb tb cb sec w':=⟨h.view.below hb,jb hb h.var,j5.below h.sec hb,h.told.below hb⟩
theorem SInv.told' {w0:World} {p:Src} {i:Nat} {f:Fun} {vb ab pb sb tb cb:Nat} {sec:List (ByteArray×Bool)} {w w':World} (h:SInv w0 p i f vb ab pb sb tb cb sec w) (hcb:cb≠tb) (hk:Kept [tb] w w') (ht:Told p tb w'):SInv w0 p i f vb ab pb sb tb cb sec w':=
 ⟨h.view.told hk,hk.cell h.var (by simpa using hcb),j5.keptM h.sec hk (by simpa using h.view.ne.2.2.2.2.2),ht⟩
theorem SInv.put {w0:World} {p:Src} {i:Nat} {f:Fun} {vb ab pb sb tb cb:Nat} {sec:List (ByteArray×Bool)} {w w':World} (h:SInv w0 p i f vb ab pb sb tb cb sec w) (hcb:cb≠sb) (k:ByteArray) (hm:j5 Value.string w' sb (aput (sec.map fun x=>(x.1,Value.bool x.2)) k (.bool true))) (hg:w.grownBy w' (some sb)):SInv w0 p i f vb ab pb sb tb cb (aput sec k true) w':=by
 have hk:Kept [sb] w w':=kept_grown hg (fun b hb=>by simp only [Option.some.injEq] at hb;simp [hb])
 have hne:=h.view.ne
 have hnv:=h.view.nv
 exact ⟨h.view.next hk (by simpa using hnv.2.2.1) (by simpa using hne.2.1) (by simpa using hne.2.2.2.1),hk.cell h.var (by simpa using hcb),by rw [kz] at hm;exact hm,h.told.kept hk (by simpa using Ne.symm hne.2.2.2.2.2)⟩
theorem spread1_any {w0:World} {p:Src} {i:Nat} {f:Fun} {vb ab pb sb tb cb:Nat} {sec:List (ByteArray×Bool)} {w:World} (IH:∀ j,j<i→ResAt w0 p j) (hB0:Below w0.heap.size w0 w) (h:SInv w0 p i f vb ab pb sb tb cb sec w) (hcs:cb≠sb) (hct:cb≠tb) (htw:tb<w.heap.size) (hsw:sb<w.heap.size) (x:Stmt) (v:Value) (hx:yn w0 x v) (hok:kh p i (.inl x)) :
  Calls Tryz.prog 72 #[v,.pointer (some ⟨cb,0,none⟩)] w (EvRet [sb,tb] 9 (SInv w0 p i f vb ab pb sb tb cb) (some (passEv (jt p) (resS p i) sec (.inl x))) w):=by
 obtain ⟨k,s,n,xs,t,e⟩:=x
 obtain ⟨a0,c0,a1,c1,a2,c2,rfl,hsl⟩:=stmtOpen2 hx
 simp only at hsl ⊢
 have hcb:=k9 w _ h.var
 have hBl:=(wu w.heap.size w).alloc (wo _) (.cells #[.int .i64 k,.string s,.int .i64 n,.slice a0 xs.length c0,.slice a1 t.length c1,.slice a2 e.length c2] 58)
 have hx0:(w.alloc (.cells #[.int .i64 k,.string s,.int .i64 n,.slice a0 xs.length c0,.slice a1 t.length c1,.slice a2 e.length c2] 58)).cell? ⟨w.heap.size,0,none⟩=some (.int .i64 k):=by simp
 have hx1:(w.alloc (.cells #[.int .i64 k,.string s,.int .i64 n,.slice a0 xs.length c0,.slice a1 t.length c1,.slice a2 e.length c2] 58)).cell? ⟨w.heap.size,1,none⟩=some (.string s):=by simp
 have hx3:(w.alloc (.cells #[.int .i64 k,.string s,.int .i64 n,.slice a0 xs.length c0,.slice a1 t.length c1,.slice a2 e.length c2] 58)).cell? ⟨w.heap.size,3,none⟩=some (.slice a0 xs.length c0):=by simp
 have HX0:=k8 hx0
 have HB:=k8 hBl
 have HI:=k8 (h.below hBl)
 have HXtb:=k8 (show w.heap.size≠tb by omega)
 have HXsb:=k8 (show w.heap.size≠sb by omega)
 have HCtb:=k8 hct
 have HCsb:=k8 hcs
 by_cases hk:k=0
 case neg=>
  have tk:(k == 0)=false:=by simpa using hk
  have hp:passEv (jt p) (resS p i) sec (.inl ⟨k,s,n,xs,t,e⟩)=sec:=by rw [passEv,if_neg hk]
  rw [hp]
  clear hp hk hok hx h hB0 IH hsl hBl hx0 hx1 hx3
  go_enter Tryz.func72,Tryz.ntmps72
  go_wp2_with fail
  refine zy zi (keptR [tb] (Told p tb) (fun x h=>h)) [.is (.pointer (some ⟨w.heap.size,0,none⟩)),.is (.int .i64 k),.is (.bool false),.is (.bool false),.is undef,.is undef,.is undef,.is undef,.is undef,.is undef] (by kernel_rfl) 10 (by decide) (by kernel_rfl) _ rfl ?_ ?_
  ·refine ⟨?_,?_,?_,?_,?_,?_,?_,?_,?_,?_,trivial⟩
   ·refine jp rfl rfl rfl fun x y hB hF hD=>?_
    obtain ⟨hK,hC⟩:=hB
    have e2:slot x 2=.pointer (some ⟨w.heap.size,0,none⟩):=hF.at 2 rfl
    clear hK hC hF
    simp only [execOp,ja,e2]
    first|rfl|(go_simp;try rfl)
   ·refine jp rfl rfl rfl fun x y hB hF hD=>?_
    obtain ⟨d0,-⟩:=hD
    obtain ⟨hK,hC⟩:=hB
    have e3:slot x 3=.pointer (some ⟨w.heap.size,0,none⟩):=d0 rfl
    have hc:y.cell? ⟨w.heap.size,0,none⟩=some (.int .i64 k):=hK.cell HX0.out (by simpa using HXtb.out)
    clear hK hC hF
    simp only [execOp,ja,e3]
    first|rfl|(go_simp;try rfl)
   ·refine jp rfl rfl rfl fun x y hB hF hD=>?_
    obtain ⟨d0,-⟩:=hD
    obtain ⟨hK,hC⟩:=hB
    have e4:slot x 4=.int .i64 k:=d0 rfl
    clear hK hC hF
    simp only [execOp,ja,e4]
    first|rfl|(go_simp;try rfl)
   ·refine jp rfl rfl rfl fun x y hB hF hD=>?_
    obtain ⟨d0,-⟩:=hD
    obtain ⟨hK,hC⟩:=hB
    have e5:slot x 5=.bool false:=d0 rfl
    clear hK hC hF
    simp only [execOp,ja,e5]
    first|rfl|(go_simp;try rfl)
   ·refine jf rfl rfl fun x y hB hF hD=>?_
    obtain ⟨d0,-⟩:=hD
    exact ⟨false,d0 rfl,by rw [if_neg (by decide)];first|rfl|exact trivial⟩
   ·refine jf rfl rfl fun x y hB hF hD=>?_
    obtain ⟨d0,-⟩:=hD
    exact ⟨false,d0 rfl,by rw [if_neg (by decide)];first|rfl|exact trivial⟩
   ·refine jf rfl rfl fun x y hB hF hD=>?_
    obtain ⟨d0,d1,-⟩:=hD
    exact ⟨false,d1 rfl,by rw [if_neg (by decide)];first|rfl|exact trivial⟩
   ·refine jf rfl rfl fun x y hB hF hD=>?_
    obtain ⟨d0,d1,-⟩:=hD
    exact ⟨false,d1 rfl,by rw [if_neg (by decide)];first|rfl|exact trivial⟩
   ·refine jf rfl rfl fun x y hB hF hD=>?_
    obtain ⟨d0,d1,-⟩:=hD
    exact ⟨false,d1 rfl,by rw [if_neg (by decide)];first|rfl|exact trivial⟩
   ·refine jf rfl rfl fun x y hB hF hD=>?_
    obtain ⟨d0,d1,d2,-⟩:=hD
    exact ⟨false,d2 rfl,by rw [if_neg (by decide)];first|rfl|exact trivial⟩
  ·intro x y hB hF hP
   obtain ⟨p0,p1,p2,p3,p4,p5,p6,p7,p8,p9,-⟩:=hP
   obtain ⟨hK,hC⟩:=hB
   have hx:=jj hF [(3,.pointer (some ⟨w.heap.size,0,none⟩)),(4,.int .i64 k),(5,.bool false),(6,.bool false),(7,undef),(8,undef),(9,undef),(10,undef),(11,undef),(12,undef)] rfl ⟨p0,p1,p2,p3,p4,p5,p6,p7,p8,p9,trivial⟩
   have HIy:=k8 (HI.out.told' HCtb.out hK (hC HI.out.told))
   have HKy:=k8 (((jd (M:=[tb]) HB.out).trans hK).mono (M':=[sb,tb]) (by simp))
   clear hK hC hF p0 p1 p2 p3 p4 p5 p6 p7 p8 p9
   subst hx
   simp only [puts,Act.put,we,wg,wi,wj,wk]
   go_wp2
   go_end0
   exact ⟨HKy.out,rfl,HIy.out⟩
 subst hk
 have hal:=hok.1.2.2.1
 simp only at hal
 rw [show (js 0).least=1 from rfl] at hal
 cases xs with
 | nil=>simp at hal
 | cons x0 xs=>
 obtain ⟨_,_,he,hlc,hll,hr⟩:=hsl
 simp only [Value.slice.injEq] at he
 obtain ⟨rfl,-,rfl⟩:=he
 obtain ⟨xb,xo,rfl,hro⟩:=hr (by simp)
 obtain ⟨xa,xc,h0,h1,h2,h3,hXI,-⟩:=yl (hro 0 x0 rfl)
 rw [Nat.zero_mul,Nat.add_zero] at h0 h1 h2 h3
 have hBW:=hB0.trans (hBl.mono hB0.size)
 have HE0:=k8 (jb hBW h0)
 have HE1:=k8 (jb hBW h1)
 have HE2:=k8 (jb hBW h2)
 have HE3:=k8 (jb hBW h3)
 have HEtb:=k8 (show xb≠tb by have:=k9 w0 _ h0;have:=h.view.lo.2.2.2.2;simp only at *;omega)
 have HX3:=k8 hx3
 have HX1:=k8 hx1
 have HH:=k8 (fun (y:World) (hK:Kept [tb] (w.alloc (.cells #[.int .i64 0,.string s,.int .i64 n,.slice (some ⟨xb,xo,none⟩) (x0::xs).length c0,.slice a1 t.length c1,.slice a2 e.length c2] 58)) y) (hT:Told p tb y)=>
  hidden_any IH x0.wt x0 _ y (wo _) (hBW.trans (hK.below (B:=w0.heap.size) hBW.size (fun b hb=>by simp only [wy] at hb;subst hb;exact h.view.lo.2.2.2.2))) (HI.out.view.told hK) (HI.out.told' hct hK hT).sec hT
   (fun z hz=>(hok.2 z (jq.2 ⟨x0,by simp,hz⟩)).2) hXI)
 have hp:passEv (jt p) (resS p i) sec (.inl ⟨0,s,n,x0::xs,t,e⟩)=if q7 (jt p) sec (resS p i) x0=true then aput sec s true else sec:=by rw [passEv,if_pos rfl];rfl
 rw [hp]
 clear hp hok hx hB0 IH hBl hx0 hx1 hx3 hr hro hXI h0 h1 h2 h3 hBW hal hll hlc h
 obtain ⟨ek,en,an,exs⟩:=x0
 simp only at HE0 HE1 HE2 HE3 HH
 obtain ⟨B,hBd⟩:∃ B,q7 (jt p) sec (resS p i) ⟨ek,en,an,exs⟩=B:=⟨_,rfl⟩
 rw [hBd] at HH ⊢
 obtain ⟨R,hRd⟩:∃ R,R=if B=true then aput sec s true else sec:=⟨_,rfl⟩
 rw [← hRd]
 have HRd:=k8 hRd
 clear hBd hRd
 simp only [List.length_cons] at *
 go_enter Tryz.func72,Tryz.ntmps72
 go_wp2_with fail
 refine zy zi (keptR [tb] (Told p tb) (fun x h=>h)) [.is (.pointer (some ⟨w.heap.size,0,none⟩)),.is (.int .i64 0),.is (.bool true),.is (.bool true),.is (.pointer (some ⟨vb,0,none⟩)),.is (.pointer (some ⟨w.heap.size,3,none⟩)),.is (.slice (some ⟨xb,xo,none⟩) (xs.length+1) c0),.is (.pointer (some ⟨xb,xo,none⟩)),.is (.agg #[.int .i64 ek,.int .u64 en,.string an,.slice xa exs.length xc]),.is (.bool B)] (by kernel_rfl) 10 (by decide) (by kernel_rfl) _ rfl ?_ ?_
 ·refine ⟨?_,?_,?_,?_,?_,?_,?_,?_,?_,?_,trivial⟩
  ·refine jp rfl rfl rfl fun x y hB hF hD=>?_
   obtain ⟨hK,hC⟩:=hB
   have e2:slot x 2=.pointer (some ⟨w.heap.size,0,none⟩):=hF.at 2 rfl
   clear hK hC hF
   simp only [execOp,ja,e2]
   first|rfl|(go_simp;try rfl)
  ·refine jp rfl rfl rfl fun x y hB hF hD=>?_
   obtain ⟨d0,-⟩:=hD
   obtain ⟨hK,hC⟩:=hB
   have e3:slot x 3=.pointer (some ⟨w.heap.size,0,none⟩):=d0 rfl
   have hc:y.cell? ⟨w.heap.size,0,none⟩=some (.int .i64 0):=hK.cell HX0.out (by simpa using HXtb.out)
   clear hK hC hF
   simp only [execOp,ja,e3]
   first|rfl|(go_simp;try rfl)
  ·refine jp rfl rfl rfl fun x y hB hF hD=>?_
   obtain ⟨d0,-⟩:=hD
   obtain ⟨hK,hC⟩:=hB
   have e4:slot x 4=.int .i64 0:=d0 rfl
   clear hK hC hF
   simp only [execOp,ja,e4]
   first|rfl|(go_simp;try rfl)
  ·refine jp rfl rfl rfl fun x y hB hF hD=>?_
   obtain ⟨d0,-⟩:=hD
   obtain ⟨hK,hC⟩:=hB
   have e5:slot x 5=.bool true:=d0 rfl
   clear hK hC hF
   simp only [execOp,ja,e5]
   first|rfl|(go_simp;try rfl)
  ·refine jf rfl rfl fun x y hB hF hD=>?_
   obtain ⟨d0,-⟩:=hD
   obtain ⟨hK,hC⟩:=hB
   refine ⟨true,d0 rfl,?_⟩
   rw [if_pos rfl]
   refine zr rfl ?_ rfl
   have e1:slot x 1=.pointer (some ⟨cb,0,none⟩):=hF.at 1 rfl
   have hc:y.cell? ⟨cb,0,none⟩=some (.pointer (some ⟨vb,0,none⟩)):=hK.cell HI.out.var (by simpa using HCtb.out)
   clear hK hC hF
   simp only [execOp,ja,e1]
   first|rfl|(go_simp;try rfl)
  ·refine jf rfl rfl fun x y hB hF hD=>?_
   obtain ⟨d0,-⟩:=hD
   obtain ⟨hK,hC⟩:=hB
   refine ⟨true,d0 rfl,?_⟩
   rw [if_pos rfl]
   refine zr rfl ?_ rfl
   have e2:slot x 2=.pointer (some ⟨w.heap.size,0,none⟩):=hF.at 2 rfl
   clear hK hC hF
   simp only [execOp,ja,e2]
   first|rfl|(go_simp;try rfl)
  ·refine jf rfl rfl fun x y hB hF hD=>?_
   obtain ⟨d0,d1,-⟩:=hD
   obtain ⟨hK,hC⟩:=hB
   refine ⟨true,d1 rfl,?_⟩
   rw [if_pos rfl]
   refine zr rfl ?_ rfl
   have e8:slot x 8=.pointer (some ⟨w.heap.size,3,none⟩):=d0 rfl
   have hc:y.cell? ⟨w.heap.size,3,none⟩=some (.slice (some ⟨xb,xo,none⟩) (xs.length+1) c0):=hK.cell HX3.out (by simpa using HXtb.out)
   clear hK hC hF
   simp only [execOp,ja,e8]
   first|rfl|(go_simp;try rfl)
  ·refine jf rfl rfl fun x y hB hF hD=>?_
   obtain ⟨d0,d1,-⟩:=hD
   obtain ⟨hK,hC⟩:=hB
   refine ⟨true,d1 rfl,?_⟩
   rw [if_pos rfl]
   refine zr rfl ?_ rfl
   have e9:slot x 9=.slice (some ⟨xb,xo,none⟩) (xs.length+1) c0:=d0 rfl
   clear hK hC hF
   simp only [execOp,ja,e9]
   first|rfl|(go_simp;try rfl)
  ·refine jf rfl rfl fun x y hB hF hD=>?_
   obtain ⟨d0,d1,-⟩:=hD
   obtain ⟨hK,hC⟩:=hB
   refine ⟨true,d1 rfl,?_⟩
   rw [if_pos rfl]
   refine zr rfl ?_ rfl
   have e10:slot x 10=.pointer (some ⟨xb,xo,none⟩):=d0 rfl
   have h0:y.cell? ⟨xb,xo,none⟩=some (.int .i64 ek):=hK.cell HE0.out (by simpa using HEtb.out)
   have h1:y.cell? ⟨xb,xo+1,none⟩=some (.int .u64 en):=hK.cell HE1.out (by simpa using HEtb.out)
   have h2:y.cell? ⟨xb,xo+2,none⟩=some (.string an):=hK.cell HE2.out (by simpa using HEtb.out)
   have h3:y.cell? ⟨xb,xo+3,none⟩=some (.slice xa exs.length xc):=hK.cell HE3.out (by simpa using HEtb.out)
   clear hK hC hF
   simp only [execOp,ja,e10]
   first|rfl|(go_simp;try rfl)
  ·refine jf rfl rfl fun x y hB hF hD=>?_
   obtain ⟨d0,d1,d2,-⟩:=hD
   obtain ⟨hK,hC⟩:=hB
   refine ⟨true,d2 rfl,?_⟩
   rw [if_pos rfl]
   refine wpT_call (f:=73) (args:=#[.pointer (some ⟨vb,0,none⟩),.agg #[.int .i64 ek,.int .u64 en,.string an,.slice xa exs.length xc]]) rfl ?_ ?_
   ·have e7:slot x 7=.pointer (some ⟨vb,0,none⟩):=d0 rfl
    have e11:slot x 11=.agg #[.int .i64 ek,.int .u64 en,.string an,.slice xa exs.length xc]:=d1 rfl
    have g7:=jh e7
    have g11:=jh e11
    clear hK hC hF e7 e11
    simp only [execOp]
    simp [go_sem,g7,g11]
   ·refine (HH.out y hK (hC HI.out.told)).mono ?_
    rintro e w' ⟨rfl,hk,ht⟩
    exact ⟨⟨hk,fun _=>ht⟩,.inl ⟨_,rfl,rfl⟩⟩
 ·intro x y hB hF hP
  obtain ⟨p0,p1,p2,p3,p4,p5,p6,p7,p8,p9,-⟩:=hP
  obtain ⟨hK,hC⟩:=hB
  have hx:=jj hF [(3,.pointer (some ⟨w.heap.size,0,none⟩)),(4,.int .i64 0),(5,.bool true),(6,.bool true),(7,.pointer (some ⟨vb,0,none⟩)),(8,.pointer (some ⟨w.heap.size,3,none⟩)),(9,.slice (some ⟨xb,xo,none⟩) (xs.length+1) c0),(10,.pointer (some ⟨xb,xo,none⟩)),(11,.agg #[.int .i64 ek,.int .u64 en,.string an,.slice xa exs.length xc]),(12,.bool B)] rfl ⟨p0,p1,p2,p3,p4,p5,p6,p7,p8,p9,trivial⟩
  have HIy:=k8 (HI.out.told' HCtb.out hK (hC HI.out.told))
  have HKy:=k8 ((jd (M:=[tb]) HB.out).trans hK)
  have HX1y:=k8 (hK.cell HX1.out (by simpa using HXtb.out))
  clear hK hC hF p0 p1 p2 p3 p4 p5 p6 p7 p8 p9
  subst hx
  simp only [puts,Act.put,we,wg,wi,wj,wk]
  cases B with
  | false=>
   go_wp2
   go_end0
   have hR:=HRd.out
   rw [if_neg (by decide)] at hR
   exact ⟨HKy.out.mono (by simp),rfl,by rw [hR];exact HIy.out⟩
  | true=>
   have HX1:=HX1y
   obtain ⟨_,_,_,_,_,_,_,_,-,-,-,-,-,-,-,-,-,g9,-,-,-⟩:=HIy.out.view.open
   have HV9:=k8 g9
   clear g9
   go_wp2_with fail
   refine je zi [.is (.pointer (some ⟨vb,0,none⟩)),.is (.pointer (some ⟨vb,0,none⟩)),.is (.pointer (some ⟨vb,9,none⟩)),.is (.map (some sb)),.is (.pointer (some ⟨w.heap.size,1,none⟩)),.is (.string s)] (by kernel_rfl) 6 (by decide) (by kernel_rfl) _ rfl ?_ ?_
   ·refine ⟨?_,?_,?_,?_,?_,?_,trivial⟩
    ·refine jc rfl rfl rfl fun x y1 hB hF hD=>?_
     have e1:slot x 1=.pointer (some ⟨cb,0,none⟩):=hF.at 1 rfl
     have hc:y1.cell? ⟨cb,0,none⟩=some (.pointer (some ⟨vb,0,none⟩)):=jb hB HIy.out.var
     clear hB hF
     simp only [execOp,ja,e1]
     first|rfl|(go_simp;try rfl)
    ·refine jc rfl rfl rfl fun x y1 hB hF hD=>?_
     obtain ⟨d0,-⟩:=hD
     have e14:slot x 14=.pointer (some ⟨vb,0,none⟩):=d0 rfl
     clear hB hF
     simp only [execOp,ja,e14]
     first|rfl|(go_simp;try rfl)
    ·refine jc rfl rfl rfl fun x y1 hB hF hD=>?_
     obtain ⟨d0,-⟩:=hD
     have e15:slot x 15=.pointer (some ⟨vb,0,none⟩):=d0 rfl
     clear hB hF
     simp only [execOp,ja,e15]
     first|rfl|(go_simp;try rfl)
    ·refine jc rfl rfl rfl fun x y1 hB hF hD=>?_
     obtain ⟨d0,-⟩:=hD
     have e16:slot x 16=.pointer (some ⟨vb,9,none⟩):=d0 rfl
     have hc:y1.cell? ⟨vb,9,none⟩=some (.map (some sb)):=jb hB HV9.out
     clear hB hF
     simp only [execOp,ja,e16]
     first|rfl|(go_simp;try rfl)
    ·refine jc rfl rfl rfl fun x y1 hB hF hD=>?_
     have e2:slot x 2=.pointer (some ⟨w.heap.size,0,none⟩):=hF.at 2 rfl
     clear hB hF
     simp only [execOp,ja,e2]
     first|rfl|(go_simp;try rfl)
    ·refine jc rfl rfl rfl fun x y1 hB hF hD=>?_
     obtain ⟨d0,-⟩:=hD
     have e18:slot x 18=.pointer (some ⟨w.heap.size,1,none⟩):=d0 rfl
     have hc:y1.cell? ⟨w.heap.size,1,none⟩=some (.string s):=jb hB HX1.out
     clear hB hF
     simp only [execOp,ja,e18]
     first|rfl|(go_simp;try rfl)
   ·intro x y1 hB hF hP
    obtain ⟨p0,p1,p2,p3,p4,p5,-⟩:=hP
    have hx:=jj hF [(14,.pointer (some ⟨vb,0,none⟩)),(15,.pointer (some ⟨vb,0,none⟩)),(16,.pointer (some ⟨vb,9,none⟩)),(17,.map (some sb)),(18,.pointer (some ⟨w.heap.size,1,none⟩)),(19,.string s)] rfl ⟨p0,p1,p2,p3,p4,p5,trivial⟩
    have HIz:=k8 (HIy.out.below hB)
    have HKz:=k8 (HKy.out.trans (jd hB))
    clear hB hF p0 p1 p2 p3 p4 p5
    subst hx
    simp only [puts,Act.put,we,wg,wi,wj,wk]
    go_wp2_with (at_mapUpdate;go_loud (refine vd rfl _ _ _ _ rfl keyS 4 Tryz.underlying123 rfl HIz.out.sec _ _ rfl rfl ?_))
    intro w1 hm1 hg1 _
    have HIe:=k8 (HIz.out.put HCsb.out _ hm1 hg1)
    have HKe:=k8 ((HKz.out.mono (M':=[sb,tb]) (by simp)).trans (kept_grown hg1 (fun b hb=>by simp only [Option.some.injEq] at hb;simp [hb])))
    clear hm1 hg1
    go_wp2
    go_end0
    have hR:=HRd.out
    simp only [if_true] at hR
    exact ⟨HKe.out,rfl,by rw [hR];exact HIe.out⟩
theorem spread2_any {w0:World} {p:Src} {i:Nat} {f:Fun} {vb ab pb sb tb cb:Nat} {sec:List (ByteArray×Bool)} {w:World} (h:SInv w0 p i f vb ab pb sb tb cb sec w) (x:Expr) (v:Value) (hx:zl w0 x v) :
  Calls Tryz.prog 74 #[v] w (EvRet [sb,tb] 9 (SInv w0 p i f vb ab pb sb tb cb) (some sec) w):=by
 obtain ⟨a,c,rfl,-⟩:=qu hx
 have hBl:=(wu w.heap.size w).alloc (wo _) (.cells #[.int .i64 x.kind,.int .u64 x.num,.string x.name,.slice a x.args.length c] 53)
 have HB:=k8 hBl
 have HI:=k8 (h.below hBl)
 clear h hBl hx
 go_enter Tryz.func74,Tryz.ntmps74
 go_wp2
 go_end0
 exact ⟨jd HB.out,rfl,HI.out⟩
end
section
open Go.RowKit
theorem wp_scope_back {P:Program} {rest:Code} {a:Act} {w:World} {Q:Exit→Act→World→Prop} (l:Nat) (J:Act→World→Prop) (μ:Act→World→Nat)
  (start:J a w) (pass:∀ a w,J a w→rest.wp P (Exit.jump l (fun a' w'=>J a' w'∧μ a' w'<μ a w) Q) a w) :
  (Code.scope (.seq (.label l) rest)).wp P Q a w:=by
 refine wp_scope_jumps (rest:=.seq .skip rest) l J μ (by simp [findLabel]) ?_ (fun a w h=>wp_seq (wp_skip (pass a w h)))
 refine wp_seq (wp_label ?_)
 refine wp_mono (pass a w start) ?_
 intro e a2 w2 h2
 cases e with
 | goto l'=>exact ⟨h2.1,h2.2.1⟩
 | normal=>exact h2
 | exit id=>exact h2
 | ret=>exact h2
 | panic ch=>exact h2
 | outgrown=>exact h2
def secLen (w:World) (sb:Nat):Nat:=match w.heap[sb]? with|some (.map es _)=>es.size|_=>0
theorem secLen_of {w:World} {sb:Nat} {sec:List (ByteArray×Bool)} (h:MapB w sb sec):secLen w sb=sec.length:=by
 obtain ⟨es,clock,hb,hl⟩:=h
 have:=congrArg List.length hl
 simp only [List.length_map,Array.length_toList] at this
 simp only [secLen,hb,this]
def SpRet (w0:World) (p:Src) (i:Nat) (f:Fun) (vb ab pb sb tb:Nat) (w:World) (e:Ending) (w':World):Prop:=
 e=.returned (.pointer (some ⟨vb,0,none⟩))∧Kept [sb,tb] w w'∧qj w0 p i f w' vb ab pb sb tb∧MapB w' sb (secS p i f)∧Told p tb w'
theorem spread_any {w0:World} {p:Src} {i:Nat} {f:Fun} {vb ab pb sb tb:Nat} {w:World} (IH:∀ j,j<i→ResAt w0 p j) (hB0:Below w0.heap.size w0 w) (hv:qj w0 p i f w vb ab pb sb tb) (hs:MapB w sb (qw f)) (ht:Told p tb w) (hok:∀ ev∈evSs f.body,kh p i ev) (hW:wtSs f.body≤100000) (hP:f.params.length≤6) :
  Calls Tryz.prog 43 #[.pointer (some ⟨vb,0,none⟩)] w (SpRet w0 p i f vb ab pb sb tb w):=by
 have hsb:=hs.lt
 have htb:tb<w.heap.size:=by obtain ⟨l,h,_⟩:=ht;exact h.lt
 have hvb:vb<w.heap.size:=by
  obtain ⟨_,_,_,_,_,_,_,_,g0,-⟩:=hv.open
  exact k9 w _ g0
 have hBl:=(wu w.heap.size w).alloc (wo _) (.cells #[.pointer (some ⟨vb,0,none⟩)] 102)
 have hI:SInv w0 p i f vb ab pb sb tb w.heap.size (qw f) (w.alloc (.cells #[.pointer (some ⟨vb,0,none⟩)] 102)):=⟨hv.below hBl,by simp,j5.below hs hBl,ht.below hBl⟩
 have hEv:=evSs_len f.body
 have HLen:=k8 (fun k=>(passes_allT (arr:=jt p) (r:=resS p i) (E:=evSs f.body) k _ (secretOf_allT f)))
 have HStep:=k8 (fun k=>(pass_step (arr:=jt p) (r:=resS p i) (E:=evSs f.body) (evSs f.body) _ (fun _ h=>h) (HLen.out k).1).2)
 have HEnd:=k8 (fun k=>(passes_is (arr:=jt p) (r:=resS p i) (E:=evSs f.body) (secretOf_allT f) (k:=k)))
 have hSec:secS p i f=q5 (jt p) (resS p i) (evSs f.body) (evSs f.body).length (qw f):=rfl
 have HSec:=k8 hSec
 have hON:=openN_le (evSs f.body) (qw f)
 have hSp:(qw f).length≤6:=by
  have:∀ (ps:List z8) (l:List (ByteArray×Bool)),(ps.foldl (fun l x=>if x.kind=1 then aput l x.name true else l) l).length≤l.length+ps.length:=by
   intro ps
   induction ps with
   | nil=>intro l;simp
   | cons q ps ih=>
    intro l
    rw [List.foldl_cons]
    refine wx (ih _) ?_
    rw [List.length_cons]
    split
    ·rw [aput_length];split<;>omega
    ·omega
  have h:=this f.params []
  simp only [List.length_nil,Nat.zero_add] at h
  exact wx h hP
 have hBig:∀ k,(q5 (jt p) (resS p i) (evSs f.body) k (qw f)).length≤6+(evSs f.body).length:=by
  intro k
  have:=(HLen.out k).2
  omega
 have HBig:=k8 hBig
 have hL:Looks w0 [sb,tb] 9 (SInv w0 p i f vb ab pb sb tb w.heap.size) (fun s ev=>some (passEv (jt p) (resS p i) s ev)) (fun ev=>kh p i ev) 72 74 #[.pointer (some ⟨w.heap.size,0,none⟩)] #[]:=
  {lo:=fun b hb=>by
    simp only [gh,List.not_mem_nil,or_false] at hb
    rcases hb with rfl|rfl
    ·exact hv.lo.2.2.2.1
    ·exact hv.lo.2.2.2.2
   inv:=fun s w w' h hb=>h.below hb
   e1:=fun _ _=>by kernel_rfl
   e2:=fun _ _=>by kernel_rfl
   stmt:=fun s x v w1 h hb hok hx=>spread1_any IH hb h (by omega) (by omega) (by obtain ⟨l,h,_⟩:=h.told;exact h.lt) h.sec.lt x v hx hok
   expr:=fun s x v w1 h hb hok hx=>spread2_any h x v hx }
 have HE:=k8 (fun (w1:World) (k:Nat) (hS:SInv w0 p i f vb ab pb sb tb w.heap.size (q5 (jt p) (resS p i) (evSs f.body) k (qw f)) w1) (hb:Below w0.heap.size w0 w1) (a3:Option Addr) (c3:Nat) (hsl:Sl 6 (j9 w0) (.slice a3 f.body.length c3) f.body)=>by
  have h:=each_any hL (wtSs f.body) f.body _ w1 _ (wo _) hsl hb (fun b hb=>by
   simp only [gh,List.not_mem_nil,or_false] at hb
   rcases hb with rfl|rfl
   ·exact hS.sec.lt
   ·obtain ⟨l,h,_⟩:=hS.told;exact h.lt) hS (fun ev hev=>hok ev hev)
  rw [foldO_some] at h
  exact h)
 have HI:=k8 hI
 have HB:=k8 hBl
 have HB0:=k8 hB0
 have hmf:∀ (fn:Fn) (first cap:Array Value) (w:World),(Instr.makeFunc fn first cap).run Tryz.prog w=.ok (.func fn first cap) w:=fun _ _ _ _=>rfl
 have hlo:=hv.lo
 clear hL hI hBl hB0 hok hs ht hv hSec hBig IH
 go_enter Tryz.func43,Tryz.ntmps43
 go_wp2
 refine wp_scope_back 0 (fun a' w'=>∃ (k:Nat) (u3 u4 u5 u6 u7 u8 u9 u10 u11 u12 u13 u14 u15 u16 u17 u18 u19 u20 u21 u22 u23:Value),a'={ tmps:=#[.pointer (some ⟨vb,0,none⟩),.pointer (some ⟨w.heap.size,0,none⟩),.pointer none,u3,u4,u5,u6,u7,u8,u9,u10,u11,u12,u13,u14,u15,u16,u17,u18,u19,u20,u21,u22,u23],defers:=[] }∧Kept [sb,tb] w w'∧SInv w0 p i f vb ab pb sb tb w.heap.size (q5 (jt p) (resS p i) (evSs f.body) k (qw f)) w')
  (fun _ w'=>(6+(evSs f.body).length) - secLen w' sb) ?_ ?_
 ·exact ⟨0,_,_,_,_,_,_,_,_,_,_,_,_,_,_,_,_,_,_,_,_,_,rfl,jd HB.out,HI.out⟩
 ·rintro a1 w1 ⟨k,u3,u4,u5,u6,u7,u8,u9,u10,u11,u12,u13,u14,u15,u16,u17,u18,u19,u20,u21,u22,u23,rfl,hK,hS⟩
  obtain ⟨a0,c0,a1,c1,a2,c2,a3,c3,-,-,-,-,-,-,g6,-,-,g9,-,-,hF⟩:=hS.view.open
  have hsl:Sl 6 (j9 w0) (.slice a3 f.body.length c3) f.body:=by
   obtain ⟨_,_,_,_,he,_,_,h⟩:=hF
   simp only [Value.agg.injEq,List.toArray_inj,Array.mk.injEq,List.cons.injEq,Value.slice.injEq,true_and,and_true] at he
   obtain ⟨-,rfl,rfl⟩:=he
   exact h
  have hvar:=hS.var
  have hB01:Below w0.heap.size w0 w1:=HB0.out.trans (hK.below (B:=w0.heap.size) HB0.out.size (fun b hb=>by
    simp only [gh,List.not_mem_nil,or_false] at hb
    rcases hb with rfl|rfl
    ·exact hlo.2.2.2.1
    ·exact hlo.2.2.2.2))
  have HE1:=k8 (HE.out w1 k hS hB01 a3 c3 hsl)
  have hlen:=fun ty=>run_maplen (P:=Tryz.prog) Tryz.underlying123 ty hS.sec
  have hl1:=secLen_of hS.sec
  have hN:=HBig.out k
  have HK:=k8 hK
  have HSt:=k8 (HStep.out k)
  have HEn:=k8 (HEnd.out k)
  have hnx:q5 (jt p) (resS p i) (evSs f.body) (k+1) (qw f)=pass (jt p) (resS p i) (evSs f.body) (q5 (jt p) (resS p i) (evSs f.body) k (qw f)):=by rw [passes_add];rfl
  have hN1:=HBig.out (k+1)
  have hpass:pass (jt p) (resS p i) (evSs f.body) (q5 (jt p) (resS p i) (evSs f.body) k (qw f))=(evSs f.body).foldl (passEv (jt p) (resS p i)) (q5 (jt p) (resS p i) (evSs f.body) k (qw f)):=rfl
  rw [← hpass,← hnx] at HE1
  rw [← hnx] at HSt
  have HNx:=k8 hnx
  have HBE:(evSs f.body).length≤100000:=by omega
  obtain ⟨S0,hS0⟩:∃ S0,S0=q5 (jt p) (resS p i) (evSs f.body) k (qw f):=⟨_,rfl⟩
  obtain ⟨S1,hS1⟩:∃ S1,S1=q5 (jt p) (resS p i) (evSs f.body) (k+1) (qw f):=⟨_,rfl⟩
  have HS0:=k8 hS0
  have HS1:=k8 hS1
  rw [← hS0] at hlen hl1 hN HSt
  rw [← hS1] at HE1 hN1 HSt
  simp only [List.length_map] at hlen
  clear hS hF hsl hK hB01 hnx hpass hS0 hS1
  go_wp2_with fail
  refine HE1.out.mono ?_
  rintro e w2 ⟨hK2,rfl,hS2⟩
  have hlen2:=fun ty=>run_maplen (P:=Tryz.prog) Tryz.underlying123 ty hS2.sec
  have hl2:=secLen_of hS2.sec
  have hvar2:=hS2.var
  obtain ⟨_,_,_,_,_,_,_,_,-,-,-,-,-,-,-,-,-,g92,-,-,-⟩:=hS2.view.open
  have HK2:=k8 (HK.out.trans hK2)
  have HI2:=k8 hS2
  simp only [List.length_map] at hlen2
  clear hS2 hK2 hlen
  rcases HSt.out with hsame|⟨d,hd,-⟩
  ·have hc:((S1.length:Int) > S0.length)=False:=by rw [hsame];simp
   have tc:decide ((S1.length:Int) > S0.length)=false:=by simp [hc]
   have tn:decide (S0.length<S1.length)=false:=by rw [hsame];simp
   have HS:=k8 hsame
   clear hsame hc
   go_wp2_with fail
   simp only [Exit.jump]
   go_ret
   refine ⟨rfl,HK2.out,HI2.out.view,?_,HI2.out.told⟩
   have h1:=HI2.out.sec
   have h2:q5 (jt p) (resS p i) (evSs f.body) (k+1) (qw f)=secS p i f:=by
    have h3:=HS.out
    rw [HS1.out,HS0.out] at h3
    rw [h3,HEn.out (by rw [← HNx.out];exact h3),← HSec.out]
   rw [HS1.out,h2] at h1
   exact h1
  ·have tc:decide ((S1.length:Int) > S0.length)=true:=by simp;omega
   have tn:decide (S0.length<S1.length)=true:=by simp;omega
   have HD:=k8 hd
   clear hd
   go_wp2_with fail
   go_step3
   refine ⟨rfl,⟨k+1,_,_,_,_,_,_,_,_,_,_,_,_,_,_,_,_,_,_,_,_,_,rfl,HK2.out,by rw [← HS1.out];exact HI2.out⟩,?_⟩
   have h1:=HD.out
   omega
end
section
open Go.RowKit
theorem keyI:KeyLaw Tryz.prog 3 (Value.int .i64):=keyLaw_int Tryz.underlying3
theorem bool_got {l:List (Int×Bool)} {j:Int} {b:Bool} (h:aget l j=some b):aget (l.map fun x=>(x.1,Value.bool x.2)) j=some (.bool b):=by rw [ka,h];rfl
theorem bool_none {l:List (Int×Bool)} {j:Int} (h:aget l j=none):aget (l.map fun x=>(x.1,Value.bool x.2)) j=none:=by rw [ka,h];rfl
theorem qj.setTold {w0:World} {p:Src} {i:Nat} {f:Fun} {w:World} {vb ab pb sb tb tb2:Nat} (h:qj w0 p i f w vb ab pb sb tb) (hlo:w0.heap.size≤tb2) (hne:ab≠tb2∧pb≠tb2∧sb≠tb2∧vb≠tb2):qj w0 p i f (w.setCell ⟨vb,10,none⟩ (.map (some tb2))) vb ab pb sb tb2:=by
 obtain ⟨a0,c0,a1,c1,a2,c2,a3,c3,hc,hs,hf⟩:=h.cells
 have hk:Kept [vb] w (w.setCell ⟨vb,10,none⟩ (.map (some tb2))):=(Kept.refl [vb] w).setCell (.inl (by simp)) _
 have hnv:=h.nv
 exact ⟨⟨a0,c0,a1,c1,a2,c2,a3,c3,by simp [World.setCell,Array.getElem?_modify,hc,viewCells],hs,hf⟩,h.fn,j5.keptM h.arrays hk (by simpa using Ne.symm hnv.1),j5.keptM h.pointers hk (by simpa using Ne.symm hnv.2.1),⟨h.lo.1,h.lo.2.1,h.lo.2.2.1,h.lo.2.2.2.1,hlo⟩,⟨h.ne.1,h.ne.2.1,hne.1,h.ne.2.2.2.1,hne.2.1,hne.2.2.1⟩,⟨hnv.1,hnv.2.1,hnv.2.2.1,hne.2.2.2⟩⟩
theorem qj.frozen {w0:World} {p:Src} {i:Nat} {f:Fun} {w:World} {vb ab pb sb tb:Nat} (h:qj w0 p i f w vb ab pb sb tb) (n:Nat):w.frozen? ⟨vb,n,none⟩=false:=by
 obtain ⟨a0,c0,a1,c1,a2,c2,a3,c3,hc,hs,hf⟩:=h.cells
 simp [World.frozen?,hc]
theorem qj.lt {w0:World} {p:Src} {i:Nat} {f:Fun} {w:World} {vb ab pb sb tb:Nat} (h:qj w0 p i f w vb ab pb sb tb):vb<w.heap.size:=by
 obtain ⟨_,_,_,_,_,_,_,_,g0,-⟩:=h.open
 exact k9 w _ g0
theorem wrap_nat (n:Nat) (h:n≤140737488351232):IntKind.i64.wrap (n:Int)=n:=by rw [IntKind.wrap_i64];omega
theorem Told.lt {p:Src} {tb:Nat} {w:World} (h:Told p tb w):tb<w.heap.size:=by obtain ⟨l,h,_⟩:=h;exact h.lt
theorem result_step {w0:World} {p:Src} {i:Nat} (hF:kg p) (hWt:wtFs p.funcs≤100000) (IH:∀ j,j<i→ResAt w0 p j):ResAt w0 p i:=by
 intro i0 f0 vb ab pb sb tb w hB0 hv ht hi
 obtain ⟨a0,c0,a1,c1,a2,c2,a3,c3,g0,g1,-,-,-,-,-,-,-,-,g10,hSrc,-⟩:=hv.open
 obtain ⟨l,hm,hl⟩:=ht
 have HM:=k8 hm
 have hvlo:=hv.lo
 have htb:=hm.lt
 have hvb:=hv.lt
 cases ho:aget l (i:Int) with
 | some b=>
  have hb:b=res p i:=by
   obtain ⟨n,h1,h2⟩:=hl _ _ ho
   have:i=n:=by omega
   rw [h2,this]
  subst hb
  have hh:=bool_got ho
  have HTd:Hid (Told p tb w):=⟨l,hm,hl⟩
  generalize res p i=B at *
  clear hl hm ho hSrc hv hB0 IH hF hWt g0 g1
  go_enter Tryz.func116,Tryz.ntmps116
  go_wp2_with (at_lookup;go_loud (refine yp rfl _ _ _ _ rfl keyI 4 Tryz.underlying125 _ (zeroB _) rfl HM.out _ rfl ?_))
  go_ret
  exact ⟨rfl,Kept.refl _ _,HTd.out⟩
 | none=>
  have hh:=bool_none ho
  have hft:∃ f,p.funcs[i]?=some f:=⟨_,List.getElem?_eq_getElem hi⟩
  obtain ⟨f,hf⟩:=hft
  have HLk:=k8 (look_any w0 p i f hf _ w hB0 hSrc)
  have HF:=k8 (hF.funs i f hf)
  have HWf:=k8 (show wtSs f.body≤100000 from wx (wtFs_mem _ f (gg hf)) hWt)
  have HIH:=k8 IH
  have HB0:=k8 hB0
  have HV:=k8 hv
  have HTd:Hid (Told p tb w):=⟨l,hm,hl⟩
  have HV10:=k8 g10
  have HG10:=k8 g10
  have HVtb:=k8 hv.nv.2.2.2
  have HRes:=k8 (fun x hx=>res_eq (p:=p) (x:=x) hf hx)
  clear hl hm ho hSrc hv hB0 IH hF hWt
  go_enter Tryz.func116,Tryz.ntmps116
  go_wp2_with (at_lookup;go_loud (refine yp rfl _ _ _ _ rfl keyI 4 Tryz.underlying125 _ (zeroB _) rfl HM.out _ rfl ?_))
  refine HLk.out.mono ?_
  rintro e w1 ⟨hB1,nb,na,np,ns,nt,rfl,hn0,hn1,hn2,hn3,hn4,hnv,hns,-⟩
  have hz0:=HB0.out.size
  have k10:=jb hB1 HG10.out
  have htl1:=HTd.out.below hB1
  have hfz:=hnv.frozen 10
  have hnb:=hnv.lt
  obtain ⟨_,_,_,_,_,_,_,_,-,-,-,-,-,-,-,-,-,-,gn10,-,-⟩:=hnv.open
  have hv2:=hnv.setTold (tb2:=tb) hvlo.2.2.2.2 ⟨by omega,by omega,by omega,by omega⟩
  have hB2:Below w.heap.size w (w1.setCell ⟨nb,10,none⟩ (.map (some tb))):=hB1.setCell hn0 _
  have hms2:MapB (w1.setCell ⟨nb,10,none⟩ (.map (some tb))) ns (qw f):=j5.keptM hns ((Kept.refl [nb] w1).setCell (.inl (by simp)) _) (by simpa using Ne.symm hnv.nv.2.2.1)
  have hB02:=HB0.out.trans (hB2.mono hz0)
  have ht2:Told p tb (w1.setCell ⟨nb,10,none⟩ (.map (some tb))):=HTd.out.below hB2
  have HSp:=k8 (spread_any HIH.out hB02 hv2 hms2 ht2 HF.out.evs HWf.out HF.out.params.1)
  have HB2:=k8 hB2
  have HB02:=k8 hB02
  have HNtb:=k8 (show nb≠tb by omega)
  clear hB1 hnv hns htl1 hv2 hB2 hms2 hB02 ht2 HLk
  go_wp2_with fail
  refine HSp.out.mono ?_
  rintro e w3 ⟨rfl,hK3,hv3,hs3,ht3⟩
  have hK:Kept [tb] w w3:=(jd (M:=[tb]) HB2.out).next hK3 (fun b hb=>by
   simp only [gh,List.not_mem_nil,or_false] at hb
   rcases hb with rfl|rfl
   ·exact .inr (by omega)
   ·exact .inl (by simp))
  have hB03:Below w0.heap.size w0 w3:=HB0.out.trans (hK.below (B:=w0.heap.size) hz0 (fun b hb=>by simp only [wy] at hb;subst hb;exact hvlo.2.2.2.2))
  have HV10:=k8 (hK.cell HV10.out (by simpa using HVtb.out))
  obtain ⟨x,hx,-⟩:=HF.out.last
  have hR:=HRes.out x hx
  have hlen:f.body≠[]:=by intro h;rw [h] at hx;cases hx
  obtain ⟨L,hL⟩:∃ L,f.body.length=L+1:=by
   cases hb:f.body with
   | nil=>exact absurd hb hlen
   | cons x l=>exact ⟨l.length,rfl⟩
  have hxl:f.body[L]?=some x:=by rw [List.getLast?_eq_getElem?,hL] at hx;simpa using hx
  obtain ⟨_,_,_,_,_,_,d3,e3,-,-,-,-,-,-,n6,-,-,-,-,-,hFn⟩:=hv3.open
  obtain ⟨_,_,_,_,he,_,_,hsl⟩:=hFn
  simp only [Value.agg.injEq,List.toArray_inj,Array.mk.injEq,List.cons.injEq,Value.slice.injEq,true_and,and_true] at he
  obtain ⟨-,rfl,rfl⟩:=he
  obtain ⟨_,_,he,_,hlz,hr⟩:=hsl
  simp only [Value.slice.injEq] at he
  obtain ⟨rfl,-,rfl⟩:=he
  obtain ⟨bb,bo,rfl,hro⟩:=hr hlen
  obtain ⟨q0,r0,q1,r1,q2,r2,-,-,-,s3,-,-,-,hsx,-,-⟩:=stmtIs_at (hro L x hxl)
  have hev:=HF.out.evs (.inl x) (yx.2 ⟨x,gg hxl,by rw [yz];simp⟩)
  have har:1≤x.args.length:=by
   have:=hev.1.2.2.1
   obtain ⟨x',hx',hk4⟩:=HF.out.last
   rw [hx] at hx'
   cases hx'
   rw [hk4] at this
   exact Int.ofNat_le.1 this
  obtain ⟨_,_,he,hr0,_,hrx⟩:=hsx
  simp only [Value.slice.injEq] at he
  obtain ⟨rfl,-,rfl⟩:=he
  have hane:x.args≠[]:=by intro h;rw [h] at har;simp at har
  obtain ⟨xb,xo,rfl,hrow⟩:=hrx hane
  obtain ⟨xl,hxlen⟩:∃ xl,x.args.length=xl+1:=⟨x.args.length - 1,by omega⟩
  have h00:x.args[0]?=some (arg0 x.args):=by
   unfold arg0
   cases hxa:x.args with
   | nil=>exact absurd hxa hane
   | cons y l=>rfl
  obtain ⟨xa,xc,h0,h1,h2,h3,hXI,-⟩:=yl (hrow 0 _ h00)
  rw [Nat.zero_mul,Nat.add_zero] at h0 h1 h2 h3
  rw [hL] at n6 hlz
  rw [hxlen] at s3
  have hbw:=k9 w0 _ s3
  have hxw:=k9 w0 _ h0
  have HN6:=k8 n6
  have HA3:=k8 (jb hB03 s3)
  have HE0:=k8 (jb hB03 h0)
  have HE1:=k8 (jb hB03 h1)
  have HE2:=k8 (jb hB03 h2)
  have HE3:=k8 (jb hB03 h3)
  have HBtb:=k8 (show bb≠tb by have:=hvlo.2.2.2.2;simp only at hbw;omega)
  have HEtb:=k8 (show xb≠tb by have:=hvlo.2.2.2.2;simp only at hxw;omega)
  have HLz:=k8 hlz
  have HH:=k8 (fun (y:World) (hK:Kept [tb] w3 y) (hT:Told p tb y)=>
   hidden_any HIH.out (arg0 x.args).wt (arg0 x.args) _ y (wo _) (hB03.trans (hK.below (B:=w0.heap.size) hB03.size (fun b hb=>by simp only [wy] at hb;subst hb;exact hvlo.2.2.2.2))) (hv3.told hK) (j5.keptM hs3 hK (by simpa using hv3.ne.2.2.2.2.2)) hT
    (fun z hz=>(hev.2 z (jq.2 ⟨arg0 x.args,gg h00,hz⟩)).2) hXI)
  have hRB:q7 (jt p) (secS p i f) (resS p i) (arg0 x.args)=res p i:=hR.symm
  rw [hRB] at HH
  have HK:=k8 hK
  have HT3:=k8 ht3
  obtain ⟨B,hBd⟩:∃ B,B=res p i:=⟨_,rfl⟩
  rw [← hBd] at HH
  have HBd:=k8 hBd
  generalize arg0 x.args=x0 at *
  obtain ⟨ek,en,an,exs⟩:=x0
  simp only at HE0 HE1 HE2 HE3 HH
  clear hx hxl hlen hL hr hro n6 s3 hrx hrow h00 h0 h1 h2 h3 hXI hev har hr0 hane hxlen hB03 hs3 ht3 hv3 hK3 hK hR hRB hBd HSp HWf HF HRes HM HIH g10 k10 gn10 hfz hh hlz
  go_wp2_with fail
  refine zy zi (keptR [tb] (Told p tb) (fun x h=>h)) [.is (.pointer (some ⟨vb,0,none⟩)),.is (.pointer (some ⟨vb,0,none⟩)),.is (.pointer (some ⟨vb,10,none⟩)),.is (.map (some tb)),.is (.int .i64 i),.is (.pointer (some ⟨nb,0,none⟩)),.is (.pointer (some ⟨nb,0,none⟩)),.is (.pointer (some ⟨nb,0,none⟩)),.is (.pointer (some ⟨nb,3,none⟩)),.is (.pointer (some ⟨nb,6,none⟩)),.is (.slice (some ⟨bb,bo,none⟩) (L+1) e3),.is (.pointer (some ⟨nb,0,none⟩)),.is (.pointer (some ⟨nb,0,none⟩)),.is (.pointer (some ⟨nb,3,none⟩)),.is (.pointer (some ⟨nb,6,none⟩)),.is (.slice (some ⟨bb,bo,none⟩) (L+1) e3),.is (.int .i64 (L+1:Nat)),.is (.int .i64 L),.is (.pointer (some ⟨bb,bo+L * 6,none⟩)),.is (.pointer (some ⟨bb,bo+L * 6+3,none⟩)),.is (.slice (some ⟨xb,xo,none⟩) (xl+1) r0),.is (.pointer (some ⟨xb,xo,none⟩)),.is (.agg #[.int .i64 ek,.int .u64 en,.string an,.slice xa exs.length xc]),.is (.bool B)] (by kernel_rfl) 24 (by decide) (by kernel_rfl) _ rfl ?_ ?_
  ·refine ⟨?_,?_,?_,?_,?_,?_,?_,?_,?_,?_,?_,?_,?_,?_,?_,?_,?_,?_,?_,?_,?_,?_,?_,?_,trivial⟩
   ·refine jp rfl rfl rfl fun x y hB hF hD=>?_
    obtain ⟨hK,hC⟩:=hB
    have e0:slot x 0=.pointer (some ⟨vb,0,none⟩):=hF.at 0 rfl
    clear hK hC hF
    simp only [execOp,ja,e0]
    first|rfl|(go_simp;try rfl)
   ·refine jp rfl rfl rfl fun x y hB hF hD=>?_
    obtain ⟨d0,-⟩:=hD
    obtain ⟨hK,hC⟩:=hB
    have e34:slot x 34=.pointer (some ⟨vb,0,none⟩):=d0 rfl
    clear hK hC hF
    simp only [execOp,ja,e34]
    first|rfl|(go_simp;try rfl)
   ·refine jp rfl rfl rfl fun x y hB hF hD=>?_
    obtain ⟨d0,-⟩:=hD
    obtain ⟨hK,hC⟩:=hB
    have e35:slot x 35=.pointer (some ⟨vb,0,none⟩):=d0 rfl
    clear hK hC hF
    simp only [execOp,ja,e35]
    first|rfl|(go_simp;try rfl)
   ·refine jp rfl rfl rfl fun x y hB hF hD=>?_
    obtain ⟨d0,-⟩:=hD
    obtain ⟨hK,hC⟩:=hB
    have e36:slot x 36=.pointer (some ⟨vb,10,none⟩):=d0 rfl
    have hc:y.cell? ⟨vb,10,none⟩=some (.map (some tb)):=hK.cell HV10.out (by simpa using HVtb.out)
    clear hK hC hF
    simp only [execOp,ja,e36]
    first|rfl|(go_simp;try rfl)
   ·refine jp rfl rfl rfl fun x y hB hF hD=>?_
    obtain ⟨hK,hC⟩:=hB
    have e1:slot x 1=.int .i64 i:=hF.at 1 rfl
    clear hK hC hF
    simp only [execOp,ja,e1]
    first|rfl|(go_simp;try rfl)
   ·refine jp rfl rfl rfl fun x y hB hF hD=>?_
    obtain ⟨hK,hC⟩:=hB
    have e7:slot x 7=.pointer (some ⟨nb,0,none⟩):=hF.at 7 rfl
    clear hK hC hF
    simp only [execOp,ja,e7]
    first|rfl|(go_simp;try rfl)
   ·refine jp rfl rfl rfl fun x y hB hF hD=>?_
    obtain ⟨hK,hC⟩:=hB
    have e7:slot x 7=.pointer (some ⟨nb,0,none⟩):=hF.at 7 rfl
    clear hK hC hF
    simp only [execOp,ja,e7]
    first|rfl|(go_simp;try rfl)
   ·refine jp rfl rfl rfl fun x y hB hF hD=>?_
    obtain ⟨d0,-⟩:=hD
    obtain ⟨hK,hC⟩:=hB
    have e40:slot x 40=.pointer (some ⟨nb,0,none⟩):=d0 rfl
    clear hK hC hF
    simp only [execOp,ja,e40]
    first|rfl|(go_simp;try rfl)
   ·refine jp rfl rfl rfl fun x y hB hF hD=>?_
    obtain ⟨d0,-⟩:=hD
    obtain ⟨hK,hC⟩:=hB
    have e41:slot x 41=.pointer (some ⟨nb,0,none⟩):=d0 rfl
    clear hK hC hF
    simp only [execOp,ja,e41]
    first|rfl|(go_simp;try rfl)
   ·refine jp rfl rfl rfl fun x y hB hF hD=>?_
    obtain ⟨d0,-⟩:=hD
    obtain ⟨hK,hC⟩:=hB
    have e42:slot x 42=.pointer (some ⟨nb,3,none⟩):=d0 rfl
    clear hK hC hF
    simp only [execOp,ja,e42]
    first|rfl|(go_simp;try rfl)
   ·refine jp rfl rfl rfl fun x y hB hF hD=>?_
    obtain ⟨d0,-⟩:=hD
    obtain ⟨hK,hC⟩:=hB
    have e43:slot x 43=.pointer (some ⟨nb,6,none⟩):=d0 rfl
    have hc:y.cell? ⟨nb,6,none⟩=some (.slice (some ⟨bb,bo,none⟩) (L+1) e3):=hK.cell HN6.out (by simpa using HNtb.out)
    clear hK hC hF
    simp only [execOp,ja,e43]
    first|rfl|(go_simp;try rfl)
   ·refine jp rfl rfl rfl fun x y hB hF hD=>?_
    obtain ⟨hK,hC⟩:=hB
    have e7:slot x 7=.pointer (some ⟨nb,0,none⟩):=hF.at 7 rfl
    clear hK hC hF
    simp only [execOp,ja,e7]
    first|rfl|(go_simp;try rfl)
   ·refine jp rfl rfl rfl fun x y hB hF hD=>?_
    obtain ⟨d0,-⟩:=hD
    obtain ⟨hK,hC⟩:=hB
    have e45:slot x 45=.pointer (some ⟨nb,0,none⟩):=d0 rfl
    clear hK hC hF
    simp only [execOp,ja,e45]
    first|rfl|(go_simp;try rfl)
   ·refine jp rfl rfl rfl fun x y hB hF hD=>?_
    obtain ⟨d0,-⟩:=hD
    obtain ⟨hK,hC⟩:=hB
    have e46:slot x 46=.pointer (some ⟨nb,0,none⟩):=d0 rfl
    clear hK hC hF
    simp only [execOp,ja,e46]
    first|rfl|(go_simp;try rfl)
   ·refine jp rfl rfl rfl fun x y hB hF hD=>?_
    obtain ⟨d0,-⟩:=hD
    obtain ⟨hK,hC⟩:=hB
    have e47:slot x 47=.pointer (some ⟨nb,3,none⟩):=d0 rfl
    clear hK hC hF
    simp only [execOp,ja,e47]
    first|rfl|(go_simp;try rfl)
   ·refine jp rfl rfl rfl fun x y hB hF hD=>?_
    obtain ⟨d0,-⟩:=hD
    obtain ⟨hK,hC⟩:=hB
    have e48:slot x 48=.pointer (some ⟨nb,6,none⟩):=d0 rfl
    have hc:y.cell? ⟨nb,6,none⟩=some (.slice (some ⟨bb,bo,none⟩) (L+1) e3):=hK.cell HN6.out (by simpa using HNtb.out)
    clear hK hC hF
    simp only [execOp,ja,e48]
    first|rfl|(go_simp;try rfl)
   ·refine jp rfl rfl rfl fun x y hB hF hD=>?_
    obtain ⟨d0,-⟩:=hD
    obtain ⟨hK,hC⟩:=hB
    have e49:slot x 49=.slice (some ⟨bb,bo,none⟩) (L+1) e3:=d0 rfl
    have hlz:L+1≤140737488351232:=HLz.out
    have g49:=jh e49
    clear hK hC hF e49
    simp only [execOp]
    simp [go_sem,g49]
   ·refine jp rfl rfl rfl fun x y hB hF hD=>?_
    obtain ⟨d0,-⟩:=hD
    obtain ⟨hK,hC⟩:=hB
    have e50:slot x 50=.int .i64 (L+1:Nat):=d0 rfl
    have hlz:L+1≤140737488351232:=HLz.out
    clear hK hC hF
    simp only [execOp,ja,e50]
    go_simp
    exact wrap_nat L (by omega)
   ·refine jp rfl rfl rfl fun x y hB hF hD=>?_
    obtain ⟨d0,d1,-⟩:=hD
    obtain ⟨hK,hC⟩:=hB
    have e44:slot x 44=.slice (some ⟨bb,bo,none⟩) (L+1) e3:=d0 rfl
    have e51:slot x 51=.int .i64 L:=d1 rfl
    have hlz:L+1≤140737488351232:=HLz.out
    clear hK hC hF
    simp only [execOp,ja,e44,e51]
    go_simp
    first|done|omega
   ·refine jp rfl rfl rfl fun x y hB hF hD=>?_
    obtain ⟨d0,-⟩:=hD
    obtain ⟨hK,hC⟩:=hB
    have e52:slot x 52=.pointer (some ⟨bb,bo+L * 6,none⟩):=d0 rfl
    clear hK hC hF
    simp only [execOp,ja,e52]
    first|rfl|(go_simp;try rfl)
   ·refine jp rfl rfl rfl fun x y hB hF hD=>?_
    obtain ⟨d0,-⟩:=hD
    obtain ⟨hK,hC⟩:=hB
    have e53:slot x 53=.pointer (some ⟨bb,bo+L * 6+3,none⟩):=d0 rfl
    have hc:y.cell? ⟨bb,bo+L * 6+3,none⟩=some (.slice (some ⟨xb,xo,none⟩) (xl+1) r0):=hK.cell HA3.out (by simpa using HBtb.out)
    clear hK hC hF
    simp only [execOp,ja,e53]
    first|rfl|(go_simp;try rfl)
   ·refine jp rfl rfl rfl fun x y hB hF hD=>?_
    obtain ⟨d0,-⟩:=hD
    obtain ⟨hK,hC⟩:=hB
    have e54:slot x 54=.slice (some ⟨xb,xo,none⟩) (xl+1) r0:=d0 rfl
    clear hK hC hF
    simp only [execOp,ja,e54]
    first|rfl|(go_simp;try rfl)
   ·refine jp rfl rfl rfl fun x y hB hF hD=>?_
    obtain ⟨d0,-⟩:=hD
    obtain ⟨hK,hC⟩:=hB
    have e55:slot x 55=.pointer (some ⟨xb,xo,none⟩):=d0 rfl
    have h0:y.cell? ⟨xb,xo,none⟩=some (.int .i64 ek):=hK.cell HE0.out (by simpa using HEtb.out)
    have h1:y.cell? ⟨xb,xo+1,none⟩=some (.int .u64 en):=hK.cell HE1.out (by simpa using HEtb.out)
    have h2:y.cell? ⟨xb,xo+2,none⟩=some (.string an):=hK.cell HE2.out (by simpa using HEtb.out)
    have h3:y.cell? ⟨xb,xo+3,none⟩=some (.slice xa exs.length xc):=hK.cell HE3.out (by simpa using HEtb.out)
    clear hK hC hF
    simp only [execOp,ja,e55]
    first|rfl|(go_simp;try rfl)
   ·refine stepT_plain rfl fun x y hB hF hD=>?_
    obtain ⟨d0,d1,-⟩:=hD
    obtain ⟨hK,hC⟩:=hB
    refine wpT_call (f:=73) (args:=#[.pointer (some ⟨nb,0,none⟩),.agg #[.int .i64 ek,.int .u64 en,.string an,.slice xa exs.length xc]]) rfl ?_ ?_
    ·have e39:slot x 39=.pointer (some ⟨nb,0,none⟩):=d0 rfl
     have e56:slot x 56=.agg #[.int .i64 ek,.int .u64 en,.string an,.slice xa exs.length xc]:=d1 rfl
     have g39:=jh e39
     have g56:=jh e56
     clear hK hC hF e39 e56
     simp only [execOp]
     simp [go_sem,g39,g56]
    ·refine (HH.out y hK (hC HT3.out)).mono ?_
     rintro e w' ⟨rfl,hk,ht⟩
     exact ⟨⟨hk,fun _=>ht⟩,.inl ⟨_,rfl,rfl⟩⟩
  ·intro x y hB hF hP
   obtain ⟨p0,p1,p2,p3,p4,p5,p6,p7,p8,p9,p10,p11,p12,p13,p14,p15,p16,p17,p18,p19,p20,p21,p22,p23,-⟩:=hP
   obtain ⟨hK,hC⟩:=hB
   have hx:=jj hF [(34,.pointer (some ⟨vb,0,none⟩)),(35,.pointer (some ⟨vb,0,none⟩)),(36,.pointer (some ⟨vb,10,none⟩)),(37,.map (some tb)),(38,.int .i64 i),(39,.pointer (some ⟨nb,0,none⟩)),(40,.pointer (some ⟨nb,0,none⟩)),(41,.pointer (some ⟨nb,0,none⟩)),(42,.pointer (some ⟨nb,3,none⟩)),(43,.pointer (some ⟨nb,6,none⟩)),(44,.slice (some ⟨bb,bo,none⟩) (L+1) e3),(45,.pointer (some ⟨nb,0,none⟩)),(46,.pointer (some ⟨nb,0,none⟩)),(47,.pointer (some ⟨nb,3,none⟩)),(48,.pointer (some ⟨nb,6,none⟩)),(49,.slice (some ⟨bb,bo,none⟩) (L+1) e3),(50,.int .i64 (L+1:Nat)),(51,.int .i64 L),(52,.pointer (some ⟨bb,bo+L * 6,none⟩)),(53,.pointer (some ⟨bb,bo+L * 6+3,none⟩)),(54,.slice (some ⟨xb,xo,none⟩) (xl+1) r0),(55,.pointer (some ⟨xb,xo,none⟩)),(56,.agg #[.int .i64 ek,.int .u64 en,.string an,.slice xa exs.length xc]),(57,.bool B)] rfl ⟨p0,p1,p2,p3,p4,p5,p6,p7,p8,p9,p10,p11,p12,p13,p14,p15,p16,p17,p18,p19,p20,p21,p22,p23,trivial⟩
   have HKy:=k8 (HK.out.trans hK)
   have htd:=hC HT3.out
   have HV10y:=k8 (hK.cell HV10.out (by simpa using HVtb.out))
   clear hK hC hF p0 p1 p2 p3 p4 p5 p6 p7 p8 p9 p10 p11 p12 p13 p14 p15 p16 p17 p18 p19 p20 p21 p22 p23
   subst hx
   obtain ⟨ly,hmy,hly⟩:=htd
   simp only [puts,Act.put,we,wg,wi,wj,wk]
   go_wp2_with (at_mapUpdate;go_loud (refine vd rfl _ _ _ _ rfl keyI 4 Tryz.underlying125 rfl hmy _ _ rfl rfl ?_))
   intro w4 hm4 hg4 _
   have hK4:Kept [tb] y w4:=kept_grown hg4 (fun b hb=>by simp only [Option.some.injEq] at hb;simp [hb])
   rw [kz] at hm4
   have hgot:aget (aput ly (i:Int) B) (i:Int)=some B:=by rw [k7];simp
   have hh:=bool_got hgot
   have k10:=hK4.cell HV10y.out (by simpa using HVtb.out)
   have HT4:Hid (Told p tb w4):=⟨_,hm4,fun j b hj=>by
    rw [k7] at hj
    split at hj
    ·rename_i hji
     have:=eq_of_beq hji
     cases hj
     exact ⟨i,this,HBd.out⟩
    ·exact hly j b hj⟩
   have HM4:=k8 hm4
   have HK4:=k8 (HKy.out.trans hK4)
   clear hK4 hm4 hg4 hmy hly hgot
   go_wp2_with (at_lookup;go_loud (refine yp rfl _ _ _ _ rfl keyI 4 Tryz.underlying125 _ (zeroB _) rfl HM4.out _ rfl ?_))
   go_ret
   exact ⟨by rw [← HBd.out];rfl,HK4.out,HT4.out⟩
theorem result_any {w0:World} {p:Src} (hF:kg p) (hWt:wtFs p.funcs≤100000):∀ i,ResAt w0 p i:=by
 intro i
 induction i using Nat.strongRecOn with
 | _ i ih=>exact result_step hF hWt ih
end
end Go.Proofs.YtdembmaldllmkaaGreatDoor
